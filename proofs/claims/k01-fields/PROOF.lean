import PyProof.Rows.All
import Wide.All
import OpenK.AllK
import Wide.FinOn
import KE.KStateDown
import Lean
import HandS.ForMost
import HandS.EndBits
import HandS.IsInst
import HandS.Style
import HandS.Deep
import HandS.WideBits
import HandS.Zip
import HandS.Defaults
import PyProof.ReprRoads
import PyProof.StrOps2
import HandS.Walk
import HandS.Head0
import HandS.Head1
import HandS.Head2
import HandS.HeadEnd
import HandS.HeadHook1
import HandS.HeadHook2
import PySem.Challenge.RW_lettersnake_k01_fields
set_option Elab.async false
set_option linter.all false
set_option maxRecDepth 100000
set_option maxHeartbeats 8000000
/-! A layer of my own over HandS: calls that know that no repr runs (guards), str of data, texts backwards. -/
namespace Sk
open PySem PySem.Spec PyProof.Rows L2

/-! ### a def's promise where no guard is on the stack -/
structure FnG (P : Program) (w : World) (K : PySem.W.Frag) (mg : Str → Option Value) (base : Heap) (CX : CXT) (k : Nat) (f : Addr) (fd : FuncData) (ps : List Str) (sp : Sp) : Prop where
  len : ∀ vs H Q E, sp vs H Q E → vs.length = ps.length
  run : ∀ (A : Around) (outer : List Env) (s : Shared) (H : Hp) (args : Args) (us : List Value) (vs : List V) (Q : VK) (E : XK), Room k A → A.guards = some [] →
    Env0 P w K mg base A outer s H → BindsTo s fd args (ps.zip us) → Vals vs us → sp vs H Q E → codeAny (model P w) A (.call (.ref f) args) (CR CX outer P w H s Q E) s
section
variable {P : Program} {w : World} {K : PySem.W.Frag} {mg : Str → Option Value} {base : Heap} {CX : CXT} {k : Nat} {f : Addr} {fd : FuncData} {ps : List Str} {sp : Sp}
theorem toG (F : FnOk P w K mg base CX k f fd ps sp) : FnG P w K mg base CX k f fd ps sp :=
  ⟨F.len, fun A outer s H args us vs Q E hr _ e hb hv hs => F.run A outer s H args us vs Q E hr e hb hv hs⟩
theorem FnG.mono {j : Nat} (F : FnG P w K mg base CX j f fd ps sp) (h : j ≤ k) : FnG P w K mg base CX k f fd ps sp :=
  ⟨F.len, fun A outer s H args us vs Q E hr g => F.run A outer s H args us vs Q E (hr.mono h) g⟩
/-- a def by its body, the guards known -/
theorem fnG_of {x qual : Str} {params : Arguments} {body : List Stmt} {scope : Scope} {dvs : List V} {kws : List (Str × V)} {N : List Str}
    (F : FunD K x qual params body scope dvs kws f fd) (S : FnScope N ps scope) (len : ∀ vs H Q E, sp vs H Q E → vs.length = ps.length)
    (hbody : ∀ (cdv : Value) (A : Around) (outer : List Env) (s : Shared) (H : Hp) (vs : List V) (Q : VK) (E : XK), Room k (A.deeper (envOfC qual scope s.heap.objs.size f cdv)) → A.guards = some [] → sp vs H Q E →
      ∃ t, PSs (cxOf CX P w K mg base N qual scope f cdv A outer s H E) body t ∧ t { nx := fun _ H' => Q .non H', rt := Q } (start N vs) H) : FnG P w K mg base CX (k + 1) f fd ps sp := by
  obtain ⟨oc, od, dV, kV, doc, pm, an, cdv, ct, osl, rfl, lk, hcd, _, _⟩ := F.ex
  refine ⟨len, fun A outer s H args us vs Q E hr hgd e0 hb r hsp => ?_⟩
  have hl := len _ _ _ _ hsp
  have stays : ∀ b o, base.get? b = some o → s.heap.get? b = some o := fun b o e => (e0.bs b o e).1
  have KX := e0.mod.kin.keeps stays
  have lim := e0.mod.nolimit.keeps stays
  have hkind : ∀ y ∈ ps.zip us, scope.names.lookup y.1 = some .local ∨ (scope.names.lookup y.1 = some .cell ∧ ((cellsFrom (s.heap.objs.size + 1) scope.names []).lookup y.1).isSome = true) := by
    rintro ⟨n, v⟩ hy
    cases S.par n (List.of_mem_zip hy).1 with
    | inl q => exact Or.inl q
    | inr q => exact Or.inr ⟨q, PySem.W.cellsFrom_some _ _ _ (Or.inl q)⟩
  refine codeAny_call_function hr.depth (KX _ _ lk) rfl S.co S.gen rfl (PySem.W.codeRec_of KX hcd) (hb _ _ _ _ ?_)
  refine wpAny_newFunctionEnv_cells S.kind hkind fun env he s1 x => ?_
  subst he
  refine ⟨lim.keeps x.toInCall.keep, codeAny_func ?_⟩
  obtain ⟨t, ht, hq⟩ := hbody cdv A outer s H vs Q E (hr.deeper _) hgd hsp
  have I := inv_start (CX := CX) (qual := qual) (f := f) (cd := cdv) (E := E) S hr.hd e0 hl r x
  refine wpAny_mono (ht.run [] s1 (start N vs) H _ I hq) (fun fl s' hs => ?_) fun e s' hs => hs
  cases fl with
  | ret u =>
    obtain ⟨v, σ', H', J, rv, q⟩ := hs
    exact ⟨v, H', J.os, J.bare, J.base, J.hok, rv, q⟩
  | next =>
    obtain ⟨σ', H', J, q⟩ := hs
    exact ⟨V.non, H', J.os, J.bare, J.base, J.hok, rfl, q⟩
  | brk => obtain ⟨_, _, _, q⟩ := hs; exact q.elim
  | cont => obtain ⟨_, _, _, q⟩ := hs; exact q.elim
end

theorem _root_.L2.FunD.look {K : PySem.W.Frag} {x qual : Str} {params : Arguments} {body : List Stmt} {scope : Scope} {dvs : List V} {kws : List (Str × V)} {f : Addr} {fd : FuncData} (F : FunD K x qual params body scope dvs kws f fd) : ∃ oc od osl, K.lookup f = some ⟨oc, od, .func fd, osl⟩ := by
  obtain ⟨oc, od, _, _, _, _, _, _, _, osl, _, l, _⟩ := F.ex
  exact ⟨oc, od, osl, l⟩
/-! ### a def of the text by its global name -/
/-- the def st stands under the name x -/
def Dfn (K : PySem.W.Frag) (mg : Str → Option Value) (x : Str) (st : Stmt) : Prop :=
  ∃ f fd, FunD K x x (defArgs st) (defBody st) (defScope st) [] [] f fd ∧ mg x = some (.ref f)
/-- what a caller of the global name x needs -/
def Cal (P : Program) (w : World) (K : PySem.W.Frag) (mg : Str → Option Value) (base : Heap) (CX : CXT) (k : Nat) (x : Str) (ps : List Str) (sp : Sp) : Prop :=
  ∃ f fd, FnOk P w K mg base CX k f fd ps sp ∧ mg x = some (.ref f) ∧ PySem.W.keepIn K (.ref f) = true ∧ Binds K fd ps [] ∧ ∃ oc od osl, K.lookup f = some ⟨oc, od, .func fd, osl⟩
def CalG (P : Program) (w : World) (K : PySem.W.Frag) (mg : Str → Option Value) (base : Heap) (CX : CXT) (k : Nat) (x : Str) (ps : List Str) (sp : Sp) : Prop :=
  ∃ f fd, FnG P w K mg base CX k f fd ps sp ∧ mg x = some (.ref f) ∧ PySem.W.keepIn K (.ref f) = true ∧ Binds K fd ps [] ∧ ∃ oc od osl, K.lookup f = some ⟨oc, od, .func fd, osl⟩
/-- how its arguments bind -/
def Bnd (st : Stmt) (x : Str) (ps : List Str) : Prop :=
  ∀ (kV doc pm : Value) (an : Option Addr) (cdv ct : Value) (us : List Value), us.length = ps.length → bindArgs (PySem.W.fnOf x x (defArgs st) (defBody st) (defScope st) .none kV doc pm an cdv ct) ⟨us, []⟩ = pure (ps.zip us)
section
variable {P : Program} {w : World} {K : PySem.W.Frag} {mg : Str → Option Value} {base : Heap} {k : Nat} {x : Str} {ps N : List Str} {sp : Sp} {st : Stmt} {CX : CXT}
theorem Dfn.cal (D : Dfn K mg x st) (S : FnScope N ps (defScope st)) (hb : Bnd st x ps) (len : ∀ vs H Q E, sp vs H Q E → vs.length = ps.length)
    (hbody : ∀ (f : Addr) (cdv : Value) (A : Around) (outer : List Env) (s : Shared) (H : Hp) (vs : List V) (Q : VK) (E : XK), Room k (A.deeper (envOfC x (defScope st) s.heap.objs.size f cdv)) → sp vs H Q E →
      ∃ t, PSs (cxOf CX0 P w K mg base N x (defScope st) f cdv A outer s H E).nox (defBody st) t ∧ t { nx := fun _ H' => Q .non H', rt := Q } (start N vs) H) : Cal P w K mg base CX0 (k + 1) x ps sp := by
  obtain ⟨f, fd, F, g⟩ := D
  refine ⟨f, fd, F.ok S len fun cdv A outer s H vs Q E hr h => ?_, g, F.kp, F.bindsN hb, F.look⟩
  obtain ⟨t, ht, q⟩ := hbody f cdv A outer s H vs Q E hr h
  exact ⟨t, ht.nox, q⟩
theorem Dfn.calX (D : Dfn K mg x st) (S : FnScope N ps (defScope st)) (hb : Bnd st x ps) (len : ∀ vs H Q E, sp vs H Q E → vs.length = ps.length)
    (hbody : ∀ (f : Addr) (cdv : Value) (A : Around) (outer : List Env) (s : Shared) (H : Hp) (vs : List V) (Q : VK) (E : XK), Room k (A.deeper (envOfC x (defScope st) s.heap.objs.size f cdv)) → sp vs H Q E →
      ∃ t, PSs (cxOf CX P w K mg base N x (defScope st) f cdv A outer s H E) (defBody st) t ∧ t { nx := fun _ H' => Q .non H', rt := Q } (start N vs) H) : Cal P w K mg base CX (k + 1) x ps sp := by
  obtain ⟨f, fd, F, g⟩ := D
  exact ⟨f, fd, F.ok S len fun cdv A outer s H vs Q E hr h => hbody f cdv A outer s H vs Q E hr h, g, F.kp, F.bindsN hb, F.look⟩
theorem Dfn.calG (D : Dfn K mg x st) (S : FnScope N ps (defScope st)) (hb : Bnd st x ps) (len : ∀ vs H Q E, sp vs H Q E → vs.length = ps.length)
    (hbody : ∀ (f : Addr) (cdv : Value) (A : Around) (outer : List Env) (s : Shared) (H : Hp) (vs : List V) (Q : VK) (E : XK), Room k (A.deeper (envOfC x (defScope st) s.heap.objs.size f cdv)) → (A.deeper (envOfC x (defScope st) s.heap.objs.size f cdv)).guards = some [] → sp vs H Q E →
      ∃ t, PSs (cxOf CX0 P w K mg base N x (defScope st) f cdv A outer s H E).nox (defBody st) t ∧ t { nx := fun _ H' => Q .non H', rt := Q } (start N vs) H) : CalG P w K mg base CX0 (k + 1) x ps sp := by
  obtain ⟨f, fd, F, g⟩ := D
  refine ⟨f, fd, fnG_of F S len fun cdv A outer s H vs Q E hr hg h => ?_, g, F.kp, F.bindsN hb, F.look⟩
  obtain ⟨t, ht, q⟩ := hbody f cdv A outer s H vs Q E hr hg h
  exact ⟨t, ht.nox, q⟩
theorem Cal.toG (c : Cal P w K mg base CX k x ps sp) : CalG P w K mg base CX k x ps sp := by
  obtain ⟨f, fd, F, g, kp, b⟩ := c
  exact ⟨f, fd, Sk.toG F, g, kp, b⟩
/-- the law's own def, for the end -/
theorem law_end {x' : Str} (D : Dfn K mg x st) (hb : Bnd st x [x']) (h : ∀ base : Heap, K.In base → base.Ns mainGlobals mg → CalG P w K mg base CX0 k x [x'] sp) :
    ∃ fa fd, mg x = some (.ref fa) ∧ (∀ (s : Shared) (u : Value), BindsTo s fd ⟨[u], []⟩ [(x', u)]) ∧ ∀ base : Heap, K.In base → base.Ns mainGlobals mg → FnG P w K mg base CX0 k fa fd [x'] sp := by
  obtain ⟨f, fd, F, g⟩ := D
  have b := FunD.bindsA (ps := [x']) F hb
  refine ⟨f, fd, g, fun s u => b s [u] rfl, fun base h1 h2 => ?_⟩
  obtain ⟨f2, fd2, G, g2, _, _, oc, od, osl, l2⟩ := h base h1 h2
  obtain ⟨oc1, od1, osl1, l1⟩ := F.look
  have e : f2 = f := by
    have z := g2.symm.trans g
    cases z
    rfl
  subst e
  rw [l1] at l2
  cases l2
  exact G
end
/-! ### calls of such -/
def tCal (sp : Sp) (E : XK) (t : TA) : TE := fun σ H Q => t σ H fun vs H1 => sp vs H1 Q E
section
variable {X : Cx} {CX : CXT} {k : Nat} {ps : List Str} {sp : Sp} {E : XK} {x : Str} {p pos : Pos} {e : Expr} {es : List Expr} {t : TA}
theorem pcall (C : Cal X.prog X.w X.K X.mg X.base CX k x ps sp) (hr : Room k X.A) (hg : Gl X x) (hx : Passes CX X E) (ha : PA X (e :: es) t)
    (hdb : (x == ("__debug__" : Str)) = false := by decide) (he : starEach (e :: es) X.env = (false, eval e X.env) :: starEach es X.env := by rfl) (hpl : (backTo pos (starEach es X.env)).any (·.1) = false := by rfl) :
    PE X (.Call (.Name x p) (e :: es) [] pos) (tCal sp E t) := by
  obtain ⟨f, fd, F, g, kp, b, _⟩ := C
  have q := pe_call (p := p) (pos := pos) F hr hg g kp b .nil hx ha hdb he hpl
  refine ⟨fun pins s σ H Q I h => q.run pins s σ H Q I ?_⟩
  have h2 : t σ H fun vs H1 => sp vs H1 Q E := h
  show t σ H fun vs H1 => sp (vs ++ []) H1 Q E
  simpa only [List.append_nil] using h2
theorem pcall0 (C : Cal X.prog X.w X.K X.mg X.base CX k x ps sp) (hr : Room k X.A) (hg : Gl X x) (hx : Passes CX X E)
    (hdb : (x == ("__debug__" : Str)) = false := by decide) : PE X (.Call (.Name x p) [] [] pos) (tCal sp E tNil) := by
  obtain ⟨f, fd, F, g, kp, b, _⟩ := C
  exact pe_call0 (p := p) (pos := pos) F hr hg g kp b .nil hx hdb
theorem run_fnG {f : Addr} {fd : FuncData} {pins : List (Addr × Obj)} {σ : L2.St} {H : Hp} {s : Shared} {Q : VK} {us : List Value} {vs : List V} (F : FnG X.prog X.w X.K X.mg X.base CX k f fd ps sp) (hr : Room k X.A) (gd : X.A.guards = some []) (hb : Binds X.K fd ps []) (hx : Passes CX X E)
    (I : Inv X pins σ H s) (r : Vals vs us) (h : sp vs H Q E) : wpAny (model X.prog X.w) X.A (call (.ref f) us) (EP X pins σ Q) X.xe s := by
  have hl : us.length = ps.length := by rw [← r.length]; exact F.len _ _ _ _ h
  have hb1 := hb s us I.kIn (by simpa using hl)
  rw [List.append_nil] at hb1
  refine wpAny_call (codeAny_mono (F.run X.A X.stack s H ⟨us, []⟩ us vs Q E hr gd I.env0 hb1 r h) fun res s' hq => ?_)
  cases res with
  | error e => exact hx pins σ H s e s' I hq
  | ok fl =>
    cases fl with
    | ret u => exact I.after hq
    | next => exact hq.elim
    | brk => exact hq.elim
    | cont => exact hq.elim
theorem pcallG (C : CalG X.prog X.w X.K X.mg X.base CX k x ps sp) (hr : Room k X.A) (gd : X.A.guards = some []) (hg : Gl X x) (hx : Passes CX X E) (ha : PA X (e :: es) t)
    (hdb : (x == ("__debug__" : Str)) = false := by decide) (he : starEach (e :: es) X.env = (false, eval e X.env) :: starEach es X.env := by rfl) (hpl : (backTo pos (starEach es X.env)).any (·.1) = false := by rfl) :
    PE X (.Call (.Name x p) (e :: es) [] pos) (tCal sp E t) := by
  obtain ⟨f, fd, F, g, kp, b, _⟩ := C
  refine ⟨fun pins s σ H Q I h => ?_⟩
  refine wpAny_Call_Name_kw (ld_glob I hg g ?_ hdb)
  refine PySem.W.callWith_K (h₀ := X.base) I.ok.mod.kin kp (thn (ha.run pos pins s σ H _ I h) fun us s1 ⟨vs, H1, I1, r, q⟩ => ⟨I1.kIn, ?_⟩) he hpl
  exact run_fnG F hr gd b hx I1 r q
end
theorem hu65 {k : Nat} {A : Around} (hr : Room k A) : A.units + 65 < cLine := by have := hr.un; omega

/-! ### str of data -/
def rStrD (K : PySem.W.Frag) : List V → Hp → VK → Prop := fun xs H Q => ∃ (a : Addr) (d : PyData), xs = [V.ref a] ∧ Dp K H (.ref a) d ∧ d.showable = true ∧ d.hasDict = false ∧ d.depth ≤ 64 ∧ d.shown.length ≤ sizeLine ∧ Q (.str d.shown) H
theorem call_strD {X : Cx} {k : Nat} (gd : X.A.guards = some []) (hr : Room k X.A) : CallR X (.type "str") (rStrD X.K) := by
  intro pins s σ H xs us Q I r h
  obtain ⟨a, d, rfl, hd, h1, h2, h3, h4, q⟩ := h
  obtain ⟨u, rfl, ru⟩ := vals1 r
  cases (show u = Value.ref a from ru)
  obtain ⟨as, rd⟩ := Dp.reads I d (.ref a) (.ref a) hd rfl
  have hu := hr.un
  exact str_of_reads rd h1 (fun z => by rw [h2] at z; cases z) gd (by omega) (fun _ _ e => e) (fun h' t tk hk => ⟨.str d.shown, H, I.kept (t' := tk) hk, ⟨_, rfl⟩, q⟩) h4

/-! ### a text backwards; a text repeated -/
def revS (z : Str) : Str := ⟨z.cps.toList.reverse.toArray⟩
def tRevS (te : TE) : TE := fun σ H Q => te σ H fun x H1 => ∃ z, x = .str z ∧ z.length ≤ sizeLine ∧ Q (.str (revS z)) H1
theorem picked_back (z : Str) (tk : Tok) : (slicePicked z none none (some (-1, tk))).filterMap (z.cps[·]?) = z.cps.toList.reverse := by
  have e : slicePicked z none none (some (-1, tk)) = sliceRange ((z.cps.size : Int) - 1) (-1) (-1) := rfl
  rw [e, PySem.W.krv_sliceRange, PySem.W.krv_range, List.filterMap_reverse, PySem.W.krv_all]
theorem pe_revS {X : Cx} {e : Expr} {te : TE} {k : Nat} {p1 p2 p3 pos : Pos} (he : PE X e te) :
    PE X (.Subscript e (.Slice none none (some (.UnaryOp .USub (.Constant (.int 1) k p1) p2)) p3) pos) (tRevS te) := by
  refine ⟨fun pins s σ H Q I h => ?_⟩
  refine Subscript_ (thn (he.run pins s σ H _ I h) fun v s1 ⟨x, H1, I1, r1, q1⟩ => ?_)
  obtain ⟨z, rfl, hz, q⟩ := q1
  obtain ⟨tz, rfl⟩ := r1
  have hst : PE X (.UnaryOp .USub (.Constant (.int 1) k p1) p2) (tUn (rU fun i => .int (-i)) (tC (.int 1))) := pe_un un_neg pe_int
  refine wpAny_Slice ?_
  rw [evalPart_none]
  refine wpAny_pure (wpAny_pure ?_)
  refine thn (hst.run pins s1 σ H1 (fun y H2 => y = .int (-1) ∧ H2 = H1) I1 ⟨1, rfl, rfl, rfl⟩) fun vs s4 ⟨y, H4, I4, ry, ey, e4⟩ => ?_
  subst ey e4
  obtain ⟨tk, rfl⟩ := ry
  refine tail_any (T := "str") (typeIs_str _ z tz) F.slot_str_getitem.lookup ?_ (by with_unfolding_all rfl)
  refine wpAny_getItem_str_slice (l := none) (u := none) (st := some (-1, tk)) ⟨_, Heap.get?_push_size _ rfl, rfl, rfl⟩ rfl ?_
  unfold sliceMade
  rw [if_neg (by show ¬ ((-1 : Int) == 1 && _) = true; simp), picked_back]
  refine ⟨?_, .str (revS z), H4, ?_, ⟨_, rfl⟩, q⟩
  · show (z.cps.toList.reverse.toArray).size ≤ sizeLine
    rw [List.size_toArray, List.length_reverse, Array.length_toList]
    exact hz
  · exact (I4.kept (t' := s4.toks) (fun b o e => Heap.get?_push_of_some _ e)).tok _
/-- x * n, n small and positive -/
def repS (z : Str) (n : Nat) : Str := ⟨(List.replicate n z.cps.toList).flatten.toArray⟩
def rRepS : R2 := fun x y H Q => ∃ (z : Str) (n : Nat), x = .str z ∧ y = .int (n : Int) ∧ 2 ≤ n ∧ n ≤ 1000 ∧ 1 ≤ z.length ∧ z.length ≤ 1000 ∧ Q (.str (repS z n)) H
theorem fold_app (x : Array Nat) : ∀ (n : Nat) (acc : Array Nat), ((List.replicate n x).foldl (· ++ ·) acc).toList = acc.toList ++ (List.replicate n x.toList).flatten
  | 0, acc => by simp
  | n + 1, acc => by
    rw [List.replicate_succ, List.foldl_cons, fold_app x n, List.replicate_succ, List.flatten_cons]
    simp
theorem flat_len (x : List Nat) : ∀ n : Nat, (List.replicate n x).flatten.length = n * x.length
  | 0 => by simp
  | n + 1 => by rw [List.replicate_succ, List.flatten_cons, List.length_append, flat_len x n, Nat.succ_mul]; omega
theorem op_repS {X : Cx} : OpR X (binaryOp .Mult) rRepS := by
  intro pins s σ H x y v u Q I rx ry h
  obtain ⟨z, n, rfl, rfl, h2, h3, h4, h5, q⟩ := h
  obtain ⟨t, rfl⟩ := rx
  obtain ⟨t', rfl⟩ := ry
  have hm : z.length * n ≤ 1000000 := by
    calc z.length * n ≤ 1000 * n := Nat.mul_le_mul_right _ h5
      _ ≤ 1000 * 1000 := Nat.mul_le_mul_left _ h3
  have hs : 1000000 ≤ sizeLine := by rw [sizeLine_eq]; decide
  have e1 : (decide ((n : Int) < -(2 ^ 63 : Int)) || decide ((n : Int) ≥ 2 ^ 63)) = false := by
    rw [decide_eq_false (by omega), decide_eq_false (by omega)]; rfl
  have e2 : (((n : Int) == 1) || z.length == 0) = false := by
    have a : ((n : Int) == 1) = false := beq_eq_false_iff_ne.mpr (by omega)
    have b : (z.length == 0) = false := beq_eq_false_iff_ne.mpr (by omega)
    rw [a, b]; rfl
  refine P.mul_str e1 (fun _ _ => ?_) (fun _ _ => ?_) ?_
  · have : (1000 : Int) ≤ (2 ^ 63 - 1) / n := by
      rw [Int.le_ediv_iff_mul_le (by omega)]
      omega
    omega
  · rw [Int.toNat_natCast]
    unfold Builtin.Str.tooLong
    exact decide_eq_false (by omega)
  · rw [if_neg (by omega), if_neg (by rw [e2]; exact Bool.false_ne_true), Int.toNat_natCast]
    have e3 : ((List.replicate n z.cps).foldl (· ++ ·) #[] : Array Nat) = (List.replicate n z.cps.toList).flatten.toArray := by
      apply Array.toList_inj.mp
      rw [fold_app]
      simp
    rw [e3]
    refine ⟨?_, .str (repS z n), H, I.tok _, ⟨_, rfl⟩, q⟩
    show ((List.replicate n z.cps.toList).flatten.toArray).size ≤ sizeLine
    rw [List.size_toArray, flat_len, Array.length_toList]
    have e4 : n * z.cps.size = z.length * n := Nat.mul_comm _ _
    omega

/-! ### the law's call, the guards told -/
theorem law_callG {P : Program} {w : World} {K : PySem.W.Frag} {mg mb : Str → Option Value} {k : Nat} {fa a : Addr} {fd : FuncData} {x : Str} {sp : Sp} {s₁ : Shared} {vs : List Value} {ns : List Int}
    (KX : K.In s₁.heap) (hns : s₁.heap.Ns mainGlobals mg) (hb : s₁.heap.Ns builtinsNs mb) (hbb : ∀ x : Str, x ≠ "__name__" → mb x = bootBuiltins x) (hlim : s₁.heap.NoLimit) (hg : s₁.gens = #[])
    (ha : s₁.heap.get? a = some { cls := .type "list", data := .seq vs.toArray }) (hi : IntsAre vs ns) (hl : ns.length ≤ sizeLine) (hr : Room k callerA)
    (F : ∀ base : Heap, K.In base → base.Ns mainGlobals mg → FnG P w K mg base CX0 k fa fd [x] sp) (hbind : ∀ (s : Shared) (u : Value), BindsTo s fd ⟨[u], []⟩ [(x, u)])
    (hsp : ∀ H : Hp, Only H → SqL K H a (ns.map V.int) → sp [.ref a] H (fun v _ => v = .bl true) fun _ _ _ => False) :
    codeAny (model P w) callerA (.call (.ref fa) ⟨[.ref a], []⟩) (fun r s' => r = .ok (.ret (.bool true)) ∧ OldK s₁.heap s'.heap ∧ s'.os = s₁.os ∧ AllBare s'.gens) s₁ := by
  have rv := vals_ints hi
  have lenV := hi.length
  have core : ∀ H : Hp, Only H → SqL K H a (ns.map V.int) → HOk P w H s₁.heap → (∀ b, H b ≠ none → b = a) → (H a ≠ none → K.lookup a = none) →
      codeAny (model P w) callerA (.call (.ref fa) ⟨[.ref a], []⟩) (fun r s' => r = .ok (.ret (.bool true)) ∧ OldK s₁.heap s'.heap ∧ s'.os = s₁.os ∧ AllBare s'.gens) s₁ := by
    intro H hO hS hok hA hK
    have isA : ∀ {b : Addr} {u : HO}, H b = some u → b = a := fun {b u} q => hA b (by rw [q]; exact fun z => nomatch z)
    have noA : ∀ {b : Addr} {o : Obj} {es : Array DictEntry} {ep : Nat}, s₁.heap.get? b = some o → o.data = .dict es ep → H b = none := by
      intro b o es ep e d
      cases q : H b with
      | none => rfl
      | some u =>
        cases isA q
        rw [ha] at e
        cases e
        exact nomatch (show Data.seq vs.toArray _ = Data.dict es ep from d)
    have nsK : ∀ {b : Addr} {m : Str → Option Value}, s₁.heap.Ns b m → (hidT s₁.heap H).Ns b m := by
      rintro b m ⟨o, es, ep, e, d, r⟩
      exact ⟨o, es, ep, hidT_get e (noA e d), d, r⟩
    have hKb : K.In (hidT s₁.heap H) := by
      intro b o e
      refine hidT_get (KX b o e) ?_
      cases q : H b with
      | none => rfl
      | some u =>
        cases isA q
        rw [hK (by rw [q]; exact fun z => nomatch z)] at e
        cases e
    have hM : Mod K mg (hidT s₁.heap H) := by
      obtain ⟨mc, h1, h2⟩ := hlim
      exact ⟨hKb, nsK hns, ⟨mb, nsK hb, hbb⟩, ⟨mc, nsK h1, h2⟩⟩
    have e0 : Env0 P w K mg (hidT s₁.heap H) callerA [] s₁ H :=
      ⟨rfl, hM, fun b o e => of_hidT e, Nat.le_of_eq (hidT_size _ _), trivial, fun b hb => (nomatch (show b ∈ ([] : List Addr) from hb)), hok, .of_eq hg⟩
    refine codeAny_mono ((F _ hKb (nsK hns)).run callerA [] s₁ H ⟨[.ref a], []⟩ [.ref a] [.ref a] _ _ hr rfl e0 (hbind s₁ (.ref a)) (.cons rfl .nil) (hsp H hO hS)) fun r s' h => ?_
    cases r with
    | error e => exact False.elim h
    | ok fl =>
      cases fl with
      | next => exact h.elim
      | brk => exact h.elim
      | cont => exact h.elim
      | ret u =>
        obtain ⟨v, H', os, bare, un, hok', r', q⟩ := h
        cases (show v = .bl true from q)
        cases (show u = Value.bool true from r')
        refine ⟨rfl, OldK.of_keep fun b o e => ?_, os, bare⟩
        cases q : H b with
        | none => exact un.keep b o e q (fun z => (nomatch (show b ∈ ([] : List Addr) from z))) (fun z => (nomatch z))
        | some u =>
          cases hO b with
          | inl z => rw [q] at z; cases z
          | inr z =>
            obtain ⟨ob, xs, z⟩ := z
            obtain ⟨e1, _⟩ := hok b _ z
            obtain ⟨e2, _⟩ := hok' b _ (un.frzs b ob _ z)
            rw [e] at e1
            cases e1
            exact e2
  cases hk : K.lookup a with
  | some o =>
    have e := KX a o hk
    rw [ha] at e
    cases e
    refine core (fun _ => none) (fun _ => .inl rfl) (.inr ⟨_, vs.toArray, _, hk, rfl, rfl, rfl, ?_, by simpa using rv⟩) (fun b u z => (nomatch (show (none : Option HO) = some u from z))) (fun b z => absurd rfl z) fun z => absurd rfl z
    rw [List.size_toArray, lenV]
    exact hl
  | none =>
    refine core (fun b => if b = a then some (.frz { cls := .type "list", data := .seq vs.toArray } (.lst (ns.map V.int))) else none) (fun b => ?_) (.inl (.inr ⟨_, if_pos rfl⟩)) (fun b u z => ?_) (fun b z => ?_) fun _ => hk
    · by_cases hb : b = a
      · exact .inr ⟨_, _, if_pos hb⟩
      · exact .inl (if_neg hb)
    · by_cases hb : b = a
      · cases (if_pos hb).symm.trans z
        subst hb
        exact ⟨ha, by rw [List.length_map]; exact hl, vs, _, rv, ha⟩
      · cases (if_neg hb).symm.trans z
    · by_cases hb : b = a
      · exact hb
      · exact absurd (if_neg hb) z
/-- the law's end over a head by facts, the script's bits and the guards told -/
theorem walk_G {l : PySem.W.OpenLaw} {n k : Nat} {q : Program} {loose : List Str} {XP : (Str → Option Value) → Heap → Prop} {YP : World → Heap → Prop} {d : DefRec} {x : Str}
    (hn : l.most = some n) (hn2 : n ≤ sizeLine) (hdf : d.params.defaults = []) (hr : Room k callerA)
    (F : ∀ (w : World) (mg : Str → Option Value) (fa : Addr) (h : Heap), YP w h → h.Ns mainGlobals mg → mg d.name = some (.ref fa) →
      ∃ (K : PySem.W.Frag) (fd : FuncData) (sp : Sp), K.In h ∧ (∀ (s : Shared) (u : Value), BindsTo s fd ⟨[u], []⟩ [(x, u)]) ∧
        (∀ (H : Hp) (a : Addr) (ns : List Int), ns.length ≤ n → (∀ z ∈ ns, Builtin.Int.intBits z ≤ 1048576) → Only H → SqL K H a (ns.map V.int) → sp [.ref a] H (fun v _ => v = .bl true) fun _ _ _ => False) ∧
        ∀ base : Heap, K.In base → base.Ns mainGlobals mg → FnG l.prog w K mg base CX0 k fa fd [x] sp) :
    PySem.W.WalkO q loose XP YP l.row.toRowW d [] (fun f vs => PySem.call f vs) := by
  refine Att.attach_callB hn hdf fun w s₀ s₁ mg mb fa o pm cd doc a vs ns G Y ho hd hcd hmg hobj hints hlen hbits hg => ?_
  obtain ⟨K, fd, sp, KX, hb, hsp, hF⟩ := F w mg fa _ Y G.T.g hmg
  exact law_callG KX G.T.g G.T.b G.T.builtins G.T.nolimit hg hobj hints (Nat.le_trans hlen hn2) hr hF hb fun H hO hS => hsp H a ns hlen hbits hO hS

/-! ### rules with the written part named: for use inside comprehensions -/
section
variable {X : Cx} {e o : Expr} {te to : TE} {pos : Pos} {tg : Expr}
theorem ixL (K : PySem.W.Frag) (h : X.K = K := by rfl) : IxR X (rIxL K) := by subst h; exact ix_list
theorem ixT (K : PySem.W.Frag) (h : X.K = K := by rfl) : IxR X (rIxT K) := by subst h; exact ix_tup
def rLenSq (K : PySem.W.Frag) : List V → Hp → VK → Prop := fun xs H Q => ∃ p ys, xs = [.ref p] ∧ (SqL K H p ys ∨ SqT K H p ys) ∧ Q (.int ys.length) H
theorem lenSq (K : PySem.W.Frag) (h : X.K = K := by rfl) : CallR X (.builtin "len") (rLenSq K) := by subst h; exact call_len_seq
theorem isiK (K : PySem.W.Frag) (h : X.K = K := by rfl) : CallR X (.builtin "isinstance") (rIsi K) := by subst h; exact call_isi
theorem eqDK (K : PySem.W.Frag) (hu : X.A.units + 64 < cLine) (h : X.K = K := by rfl) : OpR X (compareOp .Eq) (rEqD K) := by subst h; exact op_eqD hu
theorem neDK (K : PySem.W.Frag) (hu : X.A.units + 64 < cLine) (h : X.K = K := by rfl) : OpR X (compareOp .NotEq) (rNeD K) := by subst h; exact op_neD hu
theorem inDK (K : PySem.W.Frag) (hu : X.A.units + 65 < cLine) (h : X.K = K := by rfl) : OpR X (compareOp .In) (rInD K) := by subst h; exact op_inD hu
theorem notInDK (K : PySem.W.Frag) (hu : X.A.units + 65 < cLine) (h : X.K = K := by rfl) : OpR X (compareOp .NotIn) (rNotInD K) := by subst h; exact op_notInD hu
theorem allK (K : PySem.W.Frag) (hc : X.calm = true) (h : X.K = K := by rfl) : CallR X (.builtin "all") (rAll K) := by subst h; exact cr_all hc
theorem anyK (K : PySem.W.Frag) (hc : X.calm = true) (h : X.K = K := by rfl) : CallR X (.builtin "any") (rAny K) := by subst h; exact cr_any hc
def rListOf (K : PySem.W.Frag) : List V → Hp → VK → Prop := fun xs H Q => ∃ p ys, xs = [.ref p] ∧ (SqL K H p ys ∨ SqT K H p ys) ∧ ∀ l, H l = none → Q (.ref l) (upd H l (.lst ys))
theorem listOf (K : PySem.W.Frag) (h : X.K = K := by rfl) : CallR X (.type "list") (rListOf K) := by subst h; exact call_list_of
theorem slL (K : PySem.W.Frag) (h : X.K = K := by rfl) : SlR X (rSlL K) := by subst h; exact sl_list
theorem piL (K : PySem.W.Frag) (hl : PE X e te) (h : X.K = K := by rfl) : PI X tg e (iList K te) := by subst h; exact pi_list hl
theorem piT (K : PySem.W.Frag) (hl : PE X e te) (h : X.K = K := by rfl) : PI X tg e (iTup K te) := by subst h; exact pi_tup hl
theorem revL (K : PySem.W.Frag) {k : Nat} {p1 p2 p3 : Pos} (he : PE X e te) (h : X.K = K := by rfl) : PE X (.Subscript e (.Slice none none (some (.UnaryOp .USub (.Constant (.int 1) k p1) p2)) p3) pos) (tRevL K te) := by subst h; exact pe_revL he
def tJoin (K : PySem.W.Frag) (to te : TE) : TE := tM1 (fun x xs H Q => ∃ a p, ∃ ys : List Str, x = .str a ∧ xs = [.ref p] ∧ (SqL K H p (ys.map V.str) ∨ SqT K H p (ys.map V.str)) ∧ (ys.map (·.length)).sum + ys.length * a.length ≤ 16777216 ∧ Q (.str (Txt.join a ys)) H) to te
theorem joinK (K : PySem.W.Frag) {apos : Pos} (ho : PE X o to) (he : PE X e te) (h : X.K = K := by rfl) (hs : starEach [e] X.env = [(false, eval e X.env)] := by rfl) (hbase : attributeBase o "join" X.env (eval o X.env) = eval o X.env := by rfl) (hline : (apos.endLine == pos.line) = true := by rfl) :
    PE X (.Call (.Attribute o "join" apos) [e] [] pos) (tJoin K to te) := by subst h; exact pe_join ho he hs hbase hline
end
end Sk
/-! The mathematics of fields, cells and snakes: plain Lean, no program. -/
namespace Sn
/-- a row: its letters' codes; a field: its rows -/
abbrev Row := List Nat
abbrev Cel := Int × Int
def letter (c : Nat) : Prop := 97 ≤ c ∧ c ≤ 122
structure FieldOk (F : List Row) (h w : Nat) : Prop where
  high : F.length = h
  h1 : 1 ≤ h
  h5 : h ≤ 5
  w1 : 1 ≤ w
  w5 : w ≤ 5
  wide : ∀ r ∈ F, r.length = w
  let_ : ∀ r ∈ F, ∀ c ∈ r, letter c
/-- lo, lo + 1, .. : n of them -/
def rng (lo : Int) (n : Nat) : List Int := (List.range n).map fun (i : Nat) => lo + (i : Int)
theorem rng_length (lo : Int) (n : Nat) : (rng lo n).length = n := by simp [rng]
theorem rng_succ (lo : Int) (n : Nat) : rng lo (n + 1) = rng lo n ++ [lo + (n : Int)] := by
  unfold rng; rw [List.range_succ, List.map_append]; rfl
theorem mem_rng {lo x : Int} {n : Nat} : x ∈ rng lo n ↔ lo ≤ x ∧ x < lo + n := by
  unfold rng
  rw [List.mem_map]
  constructor
  · rintro ⟨i, hi, rfl⟩
    have := List.mem_range.mp hi
    omega
  · rintro ⟨h1, h2⟩
    exact ⟨(x - lo).toNat, List.mem_range.mpr (by omega), by omega⟩
def iabs (x : Int) : Int := if x < 0 then -x else x
def beside (a b : Cel) : Bool := (!decide (a = b)) && decide (iabs (a.1 - b.1) < 2) && decide (iabs (a.2 - b.2) < 2)
def cellsL (h w : Nat) : List Cel := (rng 0 h).flatMap fun r => (rng 0 w).map fun p => (r, p)
theorem mem_cellsL {h w : Nat} {c : Cel} : c ∈ cellsL h w ↔ (0 ≤ c.1 ∧ c.1 < h) ∧ (0 ≤ c.2 ∧ c.2 < w) := by
  unfold cellsL
  rw [List.mem_flatMap]
  constructor
  · rintro ⟨r, hr, hc⟩
    obtain ⟨p, hp, rfl⟩ := List.mem_map.mp hc
    have h1 := mem_rng.mp hr
    have h2 := mem_rng.mp hp
    exact ⟨by simpa using h1, by simpa using h2⟩
  · rintro ⟨h1, h2⟩
    refine ⟨c.1, mem_rng.mpr (by simpa using h1), List.mem_map.mpr ⟨c.2, mem_rng.mpr (by simpa using h2), rfl⟩⟩
/-- what near_of goes through: rows from max(0, r - 1) to min(h, r + 2), places alike -/
def loN (x : Int) : Int := if x - 1 > 0 then x - 1 else 0
def hiN (n : Nat) (x : Int) : Int := if x + 2 < (n : Int) then x + 2 else (n : Int)
def nearRow (w : Nat) (c : Cel) (row : Int) : List Cel := ((rng (loN c.2) (hiN w c.2 - loN c.2).toNat).filter fun p => !decide ((row, p) = c)).map fun p => (row, p)
def nearL (h w : Nat) (c : Cel) : List Cel := (rng (loN c.1) (hiN h c.1 - loN c.1).toNat).flatMap fun row => nearRow w c row
def nearChk (h w r p : Nat) : Bool := decide (nearL h w ((r : Int), (p : Int)) = (cellsL h w).filter (beside ((r : Int), (p : Int))))
set_option maxRecDepth 100000 in
theorem nearChk_all : ((List.range 6).all fun h => (List.range 6).all fun w => (List.range h).all fun r => (List.range w).all fun p => nearChk h w r p) = true := by decide +kernel
theorem near_eq {h w : Nat} (h5 : h ≤ 5) (w5 : w ≤ 5) {c : Cel} (hc : c ∈ cellsL h w) : nearL h w c = (cellsL h w).filter (beside c) := by
  obtain ⟨⟨a1, a2⟩, a3, a4⟩ := mem_cellsL.mp hc
  have k := nearChk_all
  rw [List.all_eq_true] at k
  have k1 := k h (List.mem_range.mpr (by omega))
  rw [List.all_eq_true] at k1
  have k2 := k1 w (List.mem_range.mpr (by omega))
  rw [List.all_eq_true] at k2
  have k3 := k2 c.1.toNat (List.mem_range.mpr (by omega))
  rw [List.all_eq_true] at k3
  have k4 := k3 c.2.toNat (List.mem_range.mpr (by omega))
  have k5 : nearL h w ((c.1.toNat : Int), (c.2.toNat : Int)) = (cellsL h w).filter (beside ((c.1.toNat : Int), (c.2.toNat : Int))) := of_decide_eq_true k4
  have e : (((c.1.toNat : Int), (c.2.toNat : Int)) : Cel) = c := by
    apply Prod.ext
    · show ((c.1.toNat : Int)) = c.1; omega
    · show ((c.2.toNat : Int)) = c.2; omega
  rw [e] at k5
  exact k5
theorem near_mem {h w : Nat} (h5 : h ≤ 5) (w5 : w ≤ 5) {c d : Cel} (hc : c ∈ cellsL h w) : d ∈ nearL h w c ↔ d ∈ cellsL h w ∧ beside c d = true := by
  rw [near_eq h5 w5 hc, List.mem_filter]
theorem getD_of {α : Type} {l : List α} {i : Nat} {x d : α} (h : l[i]? = some x) : l.getD i d = x := by
  rw [List.getD_eq_getElem?_getD, h]; rfl
/-- the field's letter at a cell -/
def at_ (F : List Row) (c : Cel) : Nat := (F.getD c.1.toNat []).getD c.2.toNat 0
/-! ### turned, mirrored -/
def col (F : List Row) (p : Nat) : Row := F.reverse.map fun r => r.getD p 0
def turnedL (F : List Row) (w : Nat) : List Row := (List.range w).map fun p => col F p
def mirroredL (F : List Row) : List Row := F.map List.reverse
theorem FieldOk.turned {F : List Row} {h w : Nat} (o : FieldOk F h w) : FieldOk (turnedL F w) w h := by
  refine ⟨by simp [turnedL], o.w1, o.w5, o.h1, o.h5, fun r hr => ?_, fun r hr c hc => ?_⟩
  · obtain ⟨p, _, rfl⟩ := List.mem_map.mp hr
    simp [col, o.high]
  · obtain ⟨p, hp, rfl⟩ := List.mem_map.mp hr
    obtain ⟨q, hq, rfl⟩ := List.mem_map.mp hc
    have hq' : q ∈ F := List.mem_reverse.mp hq
    have hl : p < q.length := by rw [o.wide q hq']; exact List.mem_range.mp hp
    rw [List.getD_eq_getElem?_getD, List.getElem?_eq_getElem hl]
    exact o.let_ q hq' _ (List.getElem_mem hl)
theorem FieldOk.mirrored {F : List Row} {h w : Nat} (o : FieldOk F h w) : FieldOk (mirroredL F) h w := by
  refine ⟨by simp [mirroredL, o.high], o.h1, o.h5, o.w1, o.w5, fun r hr => ?_, fun r hr c hc => ?_⟩
  · obtain ⟨p, hp, rfl⟩ := List.mem_map.mp hr
    rw [List.length_reverse]; exact o.wide p hp
  · obtain ⟨p, hp, rfl⟩ := List.mem_map.mp hr
    exact o.let_ p hp c (List.mem_reverse.mp hc)
theorem mirrored_twice (F : List Row) : mirroredL (mirroredL F) = F := by
  unfold mirroredL
  rw [List.map_map]
  conv => rhs; rw [← List.map_id F]
  apply List.map_congr_left
  intro r _
  simp
theorem turned_get {F : List Row} {w : Nat} {p : Nat} (hp : p < w) : (turnedL F w)[p]? = some (col F p) := by
  unfold turnedL
  rw [List.getElem?_map, List.getElem?_range hp]; rfl
theorem col_get {F : List Row} {h w : Nat} (o : FieldOk F h w) {p r : Nat} (hr : r < h) : (col F p)[h - 1 - r]? = some ((F.getD r []).getD p 0) := by
  unfold col
  rw [List.getElem?_map, List.getElem?_reverse (by rw [o.high]; omega)]
  have e : F.length - 1 - (h - 1 - r) = r := by rw [o.high]; omega
  have hl : r < F.length := by rw [o.high]; exact hr
  rw [e, List.getElem?_eq_getElem hl]
  simp [List.getD_eq_getElem?_getD, List.getElem?_eq_getElem hl]
theorem row_len {F : List Row} {h w : Nat} (o : FieldOk F h w) {r : Nat} (hr : r < h) : (F.getD r []).length = w := by
  have hl : r < F.length := by rw [o.high]; exact hr
  rw [List.getD_eq_getElem?_getD, List.getElem?_eq_getElem hl]
  exact o.wide _ (List.getElem_mem hl)
theorem turned_at {F : List Row} {h w : Nat} (o : FieldOk F h w) {i j : Nat} (hi : i < w) (hj : j < h) : ((turnedL F w).getD i []).getD j 0 = (F.getD (h - 1 - j) []).getD i 0 := by
  have h1 := turned_get (F := F) hi
  have h2 := col_get o (p := i) (r := h - 1 - j) (by omega)
  have e : h - 1 - (h - 1 - j) = j := by omega
  rw [e] at h2
  rw [getD_of h1, getD_of h2]
/-- two fields are the same if all their letters are -/
theorem field_ext {F G : List Row} {h w : Nat} (o : FieldOk F h w) (q : FieldOk G h w) (e : ∀ i j, i < h → j < w → (F.getD i []).getD j 0 = (G.getD i []).getD j 0) : F = G := by
  apply List.ext_getElem (by rw [o.high, q.high])
  intro i h1 h2
  have hi : i < h := by rw [← o.high]; exact h1
  apply List.ext_getElem
  · rw [o.wide _ (List.getElem_mem h1), q.wide _ (List.getElem_mem h2)]
  intro j k1 k2
  have hj : j < w := by rw [← o.wide _ (List.getElem_mem h1)]; exact k1
  have z := e i j hi hj
  rw [getD_of (List.getElem?_eq_getElem h1), getD_of (List.getElem?_eq_getElem h2), getD_of (List.getElem?_eq_getElem k1), getD_of (List.getElem?_eq_getElem k2)] at z
  exact z
theorem turned_four {F : List Row} {h w : Nat} (o : FieldOk F h w) : turnedL (turnedL (turnedL (turnedL F w) h) w) h = F := by
  have o1 := o.turned
  have o2 := o1.turned
  have o3 := o2.turned
  have o4 := o3.turned
  refine field_ext o4 o fun i j hi hj => ?_
  rw [turned_at o3 hi hj, turned_at o2 (by omega) hi, turned_at o1 (by omega) (by omega), turned_at o (by omega) (by omega)]
  have e1 : h - 1 - (h - 1 - i) = i := by omega
  have e2 : w - 1 - (w - 1 - j) = j := by omega
  rw [e1, e2]
end Sn
/-! How fields, cells and snakes stand in the heap; comprehensions by one lemma. -/
namespace Sk
open PySem PySem.Spec PyProof.Rows L2 Sn

/-! ### heaps -/
theorem same_new {H : Hp} {p : Addr} {o : HO} (h : H p = none) : Same H (upd H p o) := fun b x e => by
  rw [upd_ne (ne_of_none e h)]; exact e
theorem same_upd {H0 H : Hp} {p : Addr} {o : HO} (s : Same H0 H) (h : H0 p = none) : Same H0 (upd H p o) := fun b x e => by
  rw [upd_ne (ne_of_none e h)]; exact s b x e
/-- all but D stays -/
def Kb (D : Addr) (H H' : Hp) : Prop := ∀ b o, b ≠ D → H b = some o → H' b = some o
theorem Kb.of {D : Addr} {H H' : Hp} (s : Same H H') : Kb D H H' := fun b o _ e => s b o e
theorem Kb.upd {D : Addr} {H H' : Hp} {o : HO} (s : Kb D H H') : Kb D H (upd H' D o) := fun b x n e => by
  rw [upd_ne n]; exact s b x n e
theorem Kb.trans {D : Addr} {H H1 H2 : Hp} (a : Kb D H H1) (b : Kb D H1 H2) : Kb D H H2 := fun c o n e => b c o n (a c o n e)
/-- tuples stay -/
def TupLe (H H' : Hp) : Prop := ∀ a xs, Rd H a (.tup xs) → Rd H' a (.tup xs)
theorem TupLe.refl (H : Hp) : TupLe H H := fun _ _ h => h
theorem TupLe.trans {H H1 H2 : Hp} (a : TupLe H H1) (b : TupLe H1 H2) : TupLe H H2 := fun c xs h => b c xs (a c xs h)
theorem TupLe.of {H H' : Hp} (s : Same H H') : TupLe H H' := fun a xs h => by
  rcases h with h | ⟨o, h⟩
  · exact .inl (s _ _ h)
  · exact .inr ⟨o, s _ _ h⟩
theorem TupLe.kb {D : Addr} {H H' : Hp} {ys : List V} (hD : H D = some (.lst ys)) (s : Kb D H H') : TupLe H H' := fun a xs h => by
  rcases h with h | ⟨o, h⟩
  · exact .inl (s _ _ (ne_of h hD (fun z => by cases z)) h)
  · exact .inr ⟨o, s _ _ (ne_of h hD (fun z => by cases z)) h⟩
theorem TupLe.upd {H H' : Hp} {D : Addr} {ys : List V} {o : HO} (hD : H' D = some (.lst ys)) (s : TupLe H H') : TupLe H (upd H' D o) := fun a xs h => by
  rcases s a xs h with h | ⟨o, h⟩
  · exact .inl (by rw [upd_ne (ne_of h hD (fun z => by cases z))]; exact h)
  · exact .inr ⟨o, by rw [upd_ne (ne_of h hD (fun z => by cases z))]; exact h⟩
theorem TupLe.sqt {K : PySem.W.Frag} {H H' : Hp} {a : Addr} {xs : List V} (s : TupLe H H') (h : SqT K H a xs) : SqT K H' a xs := by
  rcases h with h | h
  · exact .inl (s _ _ h)
  · exact .inr h
theorem Same.sqt {K : PySem.W.Frag} {H H' : Hp} {a : Addr} {xs : List V} (s : Same H H') (h : SqT K H a xs) : SqT K H' a xs := (TupLe.of s).sqt h

/-! ### texts -/
/-- a text by its codes -/
def tx (r : List Nat) : Str := ⟨r.toArray⟩
abbrev tv (r : List Nat) : V := .str (tx r)
theorem tx_len (r : List Nat) : (tx r).length = r.length := by show r.toArray.size = _; simp
theorem tx_cps (r : List Nat) : (tx r).cps.toList = r := by show r.toArray.toList = r; simp
theorem tx_inj {a b : List Nat} (h : tx a = tx b) : a = b := by
  have := congrArg (fun z : Str => z.cps.toList) h
  simpa only [tx_cps] using this
theorem tx_eq (a b : List Nat) : decide (tx a = tx b) = decide (a = b) := by
  by_cases h : a = b
  · subst h; simp
  · rw [decide_eq_false h, decide_eq_false (fun z => h (tx_inj z))]
theorem str_tx (z : Str) : ∃ r, z = tx r := ⟨z.cps.toList, by cases z; simp [tx]⟩
theorem revS_tx (r : List Nat) : revS (tx r) = tx r.reverse := by unfold revS; rw [tx_cps]; rfl
theorem tx_app (a b : List Nat) : tx a ++ tx b = tx (a ++ b) := by
  show (⟨a.toArray ++ b.toArray⟩ : Str) = ⟨(a ++ b).toArray⟩
  simp
/-! ### cells -/
def CellV (K : PySem.W.Frag) (H : Hp) (v : V) (c : Cel) : Prop := ∃ t, v = .ref t ∧ SqT K H t [.int c.1, .int c.2]
abbrev Cells (K : PySem.W.Frag) (H : Hp) (xs : List V) (cs : List Cel) : Prop := Paired (CellV K H) xs cs
theorem CellV.le {K : PySem.W.Frag} {H H' : Hp} {v : V} {c : Cel} (h : CellV K H v c) (s : TupLe H H') : CellV K H' v c := by
  obtain ⟨t, e, q⟩ := h
  exact ⟨t, e, s.sqt q⟩
theorem Cells.le {K : PySem.W.Frag} {H H' : Hp} {xs : List V} {cs : List Cel} (h : Cells K H xs cs) (s : TupLe H H') : Cells K H' xs cs := Paired.mapP h fun _ _ q => q.le s
theorem Paired.get {α β : Type} {F : α → β → Prop} : ∀ {l₁ : List α} {l₂ : List β} {i : Nat} {a : α}, Paired F l₁ l₂ → l₁[i]? = some a → ∃ b, l₂[i]? = some b ∧ F a b
  | _, _, _, _, .nil, e => by simp at e
  | _, _, 0, _, .cons r _, e => by simp at e; subst e; exact ⟨_, rfl, r⟩
  | _, _, i + 1, a, .cons _ t, e => by
    obtain ⟨u, h1, h2⟩ := Paired.get (i := i) (a := a) t (by simpa using e)
    exact ⟨u, by simpa using h1, h2⟩
theorem Paired.get' {α β : Type} {F : α → β → Prop} : ∀ {l₁ : List α} {l₂ : List β} {i : Nat} {b : β}, Paired F l₁ l₂ → l₂[i]? = some b → ∃ a, l₁[i]? = some a ∧ F a b
  | _, _, _, _, .nil, e => by simp at e
  | _, _, 0, _, .cons r _, e => by simp at e; subst e; exact ⟨_, rfl, r⟩
  | _, _, i + 1, b, .cons _ t, e => by
    obtain ⟨u, h1, h2⟩ := Paired.get' (i := i) (b := b) t (by simpa using e)
    exact ⟨u, by simpa using h1, h2⟩
theorem Paired.app {α β : Type} {F : α → β → Prop} : ∀ {a b : List α} {c d : List β}, Paired F a c → Paired F b d → Paired F (a ++ b) (c ++ d)
  | _, _, _, _, .nil, h => h
  | _, _, _, _, .cons r t, h => .cons r (Paired.app t h)
theorem Paired.mapR {α β γ : Type} {F : α → β → Prop} {G : α → γ → Prop} (f : β → γ) : ∀ {a : List α} {b : List β}, Paired F a b → (∀ x y, F x y → G x (f y)) → Paired G a (b.map f)
  | _, _, .nil, _ => .nil
  | _, _, .cons r t, h => .cons (h _ _ r) (Paired.mapR f t h)
theorem Paired.eqs {α β : Type} {f : β → α} : ∀ {a : List α} {b : List β}, Paired (fun x y => x = f y) a b → a = b.map f
  | _, _, .nil => rfl
  | _, _, .cons r t => by rw [List.map_cons, r, Paired.eqs t]
theorem Paired.drop {α β : Type} {F : α → β → Prop} : ∀ {a : List α} {b : List β} (n : Nat), Paired F a b → Paired F (a.drop n) (b.drop n)
  | _, _, 0, h => h
  | _, _, _ + 1, .nil => .nil
  | _, _, n + 1, .cons _ t => Paired.drop n t
theorem Paired.take {α β : Type} {F : α → β → Prop} : ∀ {a : List α} {b : List β} (n : Nat), Paired F a b → Paired F (a.take n) (b.take n)
  | _, _, 0, _ => .nil
  | _, _, _ + 1, .nil => .nil
  | _, _, n + 1, .cons r t => .cons r (Paired.take n t)
theorem Paired.rev {α β : Type} {F : α → β → Prop} : ∀ {a : List α} {b : List β}, Paired F a b → Paired F a.reverse b.reverse
  | _, _, .nil => .nil
  | _, _, .cons r t => by rw [List.reverse_cons, List.reverse_cons]; exact Paired.snoc (Paired.rev t) r
/-! ### data -/
def cellD (c : Cel) : PyData := .tuple [.int c.1, .int c.2]
def cellsD (cs : List Cel) : PyData := .list (cs.map cellD)
def snakesD (ss : List (List Cel)) : PyData := .list (ss.map cellsD)
def textD (r : List Nat) : PyData := .str (tx r)
def textsD (F : List (List Nat)) : PyData := .list (F.map textD)
section
variable {K : PySem.W.Frag} {H H' : Hp}
theorem CellV.dp {v : V} {c : Cel} (h : CellV K H v c) : Dp K H v (cellD c) := by
  obtain ⟨t, rfl, q⟩ := h
  exact .tup q (.cons (.int _) (.cons (.int _) .nil))
theorem Cells.dp {xs : List V} {cs : List Cel} (h : Cells K H xs cs) : DpAll K H xs (cs.map cellD) := by
  induction h with
  | nil => exact .nil
  | cons r _ ih => exact .cons r.dp ih
theorem cells_dp {a : Addr} {xs : List V} {cs : List Cel} (hs : SqL K H a xs) (h : Cells K H xs cs) : Dp K H (.ref a) (cellsD cs) := .lst hs h.dp
theorem texts_all (F : List (List Nat)) : DpAll K H (F.map tv) (F.map textD) := by
  induction F with
  | nil => exact .nil
  | cons r _ ih => exact .cons (.str _) ih
theorem texts_dp {a : Addr} {F : List (List Nat)} (hs : SqL K H a (F.map tv)) : Dp K H (.ref a) (textsD F) := .lst hs (texts_all F)
mutual
theorem Dp.same (s : Same H H') : ∀ (d : PyData) (v : V), Dp K H v d → Dp K H' v d
  | .none, _, h => by cases h; exact .non
  | .bool b, _, h => by cases h; exact .bl b
  | .int i, _, h => by cases h; exact .int i
  | .str x, _, h => by cases h; exact .str x
  | .list ds, _, h => by
    cases h with
    | lst q r => exact .lst (s.seq q) (DpAll.same s ds _ r)
  | .tuple ds, _, h => by
    cases h with
    | tup q r => exact .tup (Same.sqt s q) (DpAll.same s ds _ r)
  | .dict _, _, h => nomatch h
theorem DpAll.same (s : Same H H') : ∀ (ds : List PyData) (vs : List V), DpAll K H vs ds → DpAll K H' vs ds
  | [], _, h => by cases h; exact .nil
  | d :: ds, _, h => by
    cases h with
    | cons a b => exact .cons (Dp.same s d _ a) (DpAll.same s ds _ b)
end
end

/-! ### equality of data -/
theorem eqv_cell (a b : Cel) : PyData.eqv (cellD a) (cellD b) = decide (a = b) := by
  obtain ⟨a1, a2⟩ := a
  obtain ⟨b1, b2⟩ := b
  have e : PyData.eqv (cellD (a1, a2)) (cellD (b1, b2)) = ((a1 == b1) && ((a2 == b2) && true)) := by simp only [cellD, PyData.eqv, PyData.eqvAll]
  rw [e, Bool.and_true]
  by_cases h1 : a1 = b1
  · by_cases h2 : a2 = b2
    · subst h1 h2; simp
    · rw [decide_eq_false (fun z => h2 (congrArg Prod.snd z)), beq_eq_false_iff_ne.mpr h2, Bool.and_false]
  · rw [decide_eq_false (fun z => h1 (congrArg Prod.fst z)), beq_eq_false_iff_ne.mpr h1, Bool.false_and]
theorem eqv_text (a b : List Nat) : PyData.eqv (textD a) (textD b) = decide (a = b) := by
  have e : PyData.eqv (textD a) (textD b) = (tx a == tx b) := by simp only [textD, PyData.eqv]
  rw [e, ← tx_eq]
  by_cases h : tx a = tx b
  · rw [h]; simp
  · rw [decide_eq_false h, beq_eq_false_iff_ne.mpr h]
theorem eqv_maps {α : Type} [DecidableEq α] {f : α → PyData} (hf : ∀ a b, PyData.eqv (f a) (f b) = decide (a = b)) : ∀ xs ys : List α, PyData.eqvAll (xs.map f) (ys.map f) = decide (xs = ys)
  | [], [] => by simp only [List.map_nil, PyData.eqvAll]; rfl
  | [], y :: ys => by simp only [List.map_nil, List.map_cons, PyData.eqvAll]; rfl
  | x :: xs, [] => by simp only [List.map_nil, List.map_cons, PyData.eqvAll]; rfl
  | x :: xs, y :: ys => by
    simp only [List.map_cons, PyData.eqvAll]
    rw [hf, eqv_maps hf xs ys]
    by_cases h1 : x = y
    · by_cases h2 : xs = ys
      · subst h1 h2; simp
      · rw [decide_eq_false h2, decide_eq_false (fun z => h2 (List.cons.inj z).2), Bool.and_false]
    · rw [decide_eq_false h1, decide_eq_false (fun z => h1 (List.cons.inj z).1), Bool.false_and]
theorem eqv_lists {α : Type} [DecidableEq α] {f : α → PyData} (hf : ∀ a b, PyData.eqv (f a) (f b) = decide (a = b)) (xs ys : List α) : PyData.eqv (.list (xs.map f)) (.list (ys.map f)) = decide (xs = ys) := by
  simp only [PyData.eqv]
  exact eqv_maps hf xs ys
theorem eqv_cells (a b : List Cel) : PyData.eqv (cellsD a) (cellsD b) = decide (a = b) := eqv_lists eqv_cell a b
theorem eqv_snakes (a b : List (List Cel)) : PyData.eqv (snakesD a) (snakesD b) = decide (a = b) := eqv_lists eqv_cells a b
theorem eqv_texts (a b : List (List Nat)) : PyData.eqv (textsD a) (textsD b) = decide (a = b) := eqv_lists eqv_text a b
/-! ### shapes -/
def Shp (n : Nat) (d : PyData) : Prop := d.canLay0 = true ∧ d.depth ≤ n
theorem Shp.ok {n : Nat} {d : PyData} (h : Shp n d) (hn : n ≤ 64 := by decide) : SeqAt.shaped d = true := by
  unfold SeqAt.shaped
  rw [h.1, decide_eq_true (Nat.le_trans h.2 hn)]; rfl
theorem shp_all {n : Nat} : ∀ ds : List PyData, (∀ d ∈ ds, Shp n d) → PyData.canLayAll0 ds = true ∧ PyData.depthAll ds ≤ n
  | [], _ => by simp [PyData.canLayAll0, PyData.depthAll]
  | d :: ds, h => by
    obtain ⟨h1, h2⟩ := shp_all ds fun e he => h e (List.mem_cons_of_mem _ he)
    obtain ⟨h3, h4⟩ := h d List.mem_cons_self
    simp only [PyData.canLayAll0, PyData.depthAll]
    exact ⟨by rw [h3, h1]; rfl, by omega⟩
theorem shp_list {n : Nat} {ds : List PyData} (h : ∀ d ∈ ds, Shp n d) : Shp (n + 1) (.list ds) := by
  obtain ⟨h1, h2⟩ := shp_all ds h
  exact ⟨by simp only [PyData.canLay0]; exact h1, by simp only [PyData.depth]; omega⟩
theorem shp_map {α : Type} {n : Nat} {f : α → PyData} (h : ∀ a, Shp n (f a)) (xs : List α) : Shp (n + 1) (.list (xs.map f)) :=
  shp_list fun d hd => by obtain ⟨a, _, rfl⟩ := List.mem_map.mp hd; exact h a
theorem shp_cell (c : Cel) : Shp 1 (cellD c) := ⟨by simp [cellD, PyData.canLay0, PyData.canLayAll0], by simp [cellD, PyData.depth, PyData.depthAll]⟩
/-- codes that a text may have -/
def Cod (r : List Nat) : Prop := ∀ c ∈ r, c < 0x110000
theorem shp_text {r : List Nat} (h : Cod r) : Shp 1 (textD r) := by
  refine ⟨?_, by simp [textD, PyData.depth]⟩
  simp only [textD, PyData.canLay0]
  unfold PyData.strOk
  rw [Array.all_eq_true']
  intro c hc
  have hc' : c ∈ r := by simpa [tx] using hc
  exact decide_eq_true (h c hc')
theorem shp_cells (cs : List Cel) : Shp 2 (cellsD cs) := shp_map shp_cell cs
theorem shp_texts {F : List (List Nat)} (h : ∀ r ∈ F, Cod r) : Shp 2 (textsD F) := shp_list fun d hd => by
  obtain ⟨r, hr, rfl⟩ := List.mem_map.mp hd
  exact shp_text (h r hr)
theorem letter_cod {r : List Nat} (h : ∀ c ∈ r, letter c) : Cod r := fun c hc => by
  have := h c hc
  unfold letter at this
  omega
theorem shp_field {F : List (List Nat)} {h w : Nat} (o : FieldOk F h w) : Shp 2 (textsD F) := shp_texts fun r hr => letter_cod (o.let_ r hr)
theorem shp_snakes (ss : List (List Cel)) : Shp 3 (snakesD ss) := shp_map shp_cells ss
/-! ### what is shown of few cells of small numbers -/
theorem textFrom_le : ∀ (ts : List Str) (k : Nat) (acc : Str) (m : Nat), (∀ t ∈ ts, t.length ≤ m) → (textFrom k acc ts).length ≤ acc.length + ts.length * (m + 2)
  | [], k, acc, m, _ => by show acc.length ≤ _; simp
  | t :: r, k, acc, m, h => by
    have ih := textFrom_le r (k + 1) (acc ++ (if k > 0 then ", " else "" : String) ++ t) m fun u hu => h u (List.mem_cons_of_mem _ hu)
    have ht := h t List.mem_cons_self
    show (textFrom (k + 1) _ r).length ≤ _
    have e : (acc ++ (if k > 0 then ", " else "" : String) ++ t).length ≤ acc.length + 2 + t.length := by
      rw [strLen_append, strLen_append]
      have : ((if k > 0 then ", " else "" : String) : Str).length ≤ 2 := by split <;> decide +kernel
      omega
    rw [List.length_cons, Nat.succ_mul]
    omega
theorem listText_le {ts : List Str} {m : Nat} (h : ∀ t ∈ ts, t.length ≤ m) : (listText ts).length ≤ 2 + ts.length * (m + 2) := by
  unfold listText
  rw [strLen_append]
  have h1 := textFrom_le ts 0 "[" m h
  have e1 : (("[" : String) : Str).length = 1 := by decide +kernel
  have e2 : (("]" : String) : Str).length = 1 := by decide +kernel
  omega
theorem shownAll_map : ∀ ds : List PyData, PyData.shownAll ds = ds.map PyData.shown
  | [] => by simp only [PyData.shownAll, List.map_nil]
  | d :: ds => by simp only [PyData.shownAll, List.map_cons, shownAll_map ds]
/-- a datum that str may show: few signs -/
def Shw (m : Nat) (d : PyData) : Prop := d.showable = true ∧ d.hasDict = false ∧ d.shown.length ≤ m
theorem shw_all : ∀ ds : List PyData, (∀ d ∈ ds, d.showable = true ∧ d.hasDict = false) → PyData.showableAll ds = true ∧ PyData.hasDictAll ds = false
  | [], _ => by simp only [PyData.showableAll, PyData.hasDictAll, and_self]
  | d :: ds, h => by
    obtain ⟨h1, h2⟩ := shw_all ds fun e he => h e (List.mem_cons_of_mem _ he)
    obtain ⟨h3, h4⟩ := h d List.mem_cons_self
    simp only [PyData.showableAll, PyData.hasDictAll]
    rw [h1, h2, h3, h4]
    exact ⟨rfl, rfl⟩
theorem shw_list {m n : Nat} {ds : List PyData} (h : ∀ d ∈ ds, Shw m d) (hn : ds.length ≤ n) : Shw (2 + n * (m + 2)) (.list ds) := by
  obtain ⟨h1, h2⟩ := shw_all ds fun d hd => ⟨(h d hd).1, (h d hd).2.1⟩
  refine ⟨by simp only [PyData.showable]; exact h1, by simp only [PyData.hasDict]; exact h2, ?_⟩
  simp only [PyData.shown]
  rw [shownAll_map]
  refine Nat.le_trans (listText_le (m := m) fun t ht => ?_) ?_
  · obtain ⟨d, hd, rfl⟩ := List.mem_map.mp ht
    exact (h d hd).2.2
  · rw [List.length_map]
    exact Nat.add_le_add_left (Nat.mul_le_mul_right _ hn) _
def celChk (r p : Nat) : Bool := (cellD ((r : Int), (p : Int))).showable && decide ((cellD ((r : Int), (p : Int))).shown.length ≤ 6)
set_option maxRecDepth 100000 in
theorem celChk_all : ((List.range 10).all fun r => (List.range 10).all fun p => celChk r p) = true := by decide +kernel
theorem shw_cell {c : Cel} (h1 : 0 ≤ c.1 ∧ c.1 < 10) (h2 : 0 ≤ c.2 ∧ c.2 < 10) : Shw 6 (cellD c) := by
  have k := celChk_all
  rw [List.all_eq_true] at k
  have k1 := k c.1.toNat (List.mem_range.mpr (by omega))
  rw [List.all_eq_true] at k1
  have k2 := k1 c.2.toNat (List.mem_range.mpr (by omega))
  have e : (((c.1.toNat : Int), (c.2.toNat : Int)) : Cel) = c := by
    apply Prod.ext
    · show ((c.1.toNat : Int)) = c.1; omega
    · show ((c.2.toNat : Int)) = c.2; omega
  unfold celChk at k2
  rw [e, Bool.and_eq_true] at k2
  exact ⟨k2.1, by simp only [cellD, PyData.hasDict, PyData.hasDictAll]; rfl, of_decide_eq_true k2.2⟩
theorem shw_cells {cs : List Cel} (h : ∀ c ∈ cs, (0 ≤ c.1 ∧ c.1 < 10) ∧ (0 ≤ c.2 ∧ c.2 < 10)) (hn : cs.length ≤ 100) : Shw (2 + 100 * (6 + 2)) (cellsD cs) :=
  shw_list (fun d hd => by
    obtain ⟨c, hc, rfl⟩ := List.mem_map.mp hd
    exact shw_cell (h c hc).1 (h c hc).2) (by rw [List.length_map]; exact hn)
/-- what call_strD asks -/
theorem str_asks {d : PyData} {m n : Nat} (hw : Shw m d) (hs : Shp n d) (hm : m ≤ sizeLine := by first | decide | (rw [sizeLine_eq]; decide)) (hn : n ≤ 64 := by decide) : d.showable = true ∧ d.hasDict = false ∧ d.depth ≤ 64 ∧ d.shown.length ≤ sizeLine :=
  ⟨hw.1, hw.2.1, Nat.le_trans hs.2 hn, Nat.le_trans hw.2.2 hm⟩
/-! ### a comprehension by one lemma -/
section
variable {J : It} {n : Nat} {G : Hp → Prop} {Y : Nat → Hp → V → Hp → Prop}
theorem lc_gen (w : Walk J n G Y) {g : TG} {tt : TT} {te : TE} {vs : List Nat} {σ : L2.St} {H1 : Hp} {Q : Addr → Hp → Prop} (hn : n ≤ sizeLine) (keep : Nat → Bool)
    (R : Addr → Nat → V → Hp → Prop) (hR : ∀ D i v H H' ys, H1 D = none → H D = some (.lst ys) → Kb D H H' → R D i v H → R D i v H')
    (hG : ∀ H, Same H1 H → G H)
    (he : ∀ D i x H H' (Qe : VK) (Qn : Hp → Prop), H1 D = none → i < n → Same H1 H → (∃ ys, H D = some (.lst ys)) → Y i H x H' →
      (∀ y H4, keep i = true → Same H H4 → R D i y H4 → Qe y H4) → (∀ H3, keep i = false → Same H H3 → Qn H3) →
      g x (wipe σ vs) H' fun σ2 H2 => wipe σ2 vs = wipe σ vs ∧ tt σ2 H2 fun b H3 => if b = true then te σ2 H3 Qe else Qn H3)
    (hd : ∀ D ys H, H1 D = none → Same H1 H → H D = some (.lst ys) → Paired (fun v i => R D i v H) ys ((List.range n).filter keep) → Q D H) :
    ∀ D, H1 D = none → ∃ W : Nat → Nat → Hp → Prop, (∃ m, W 0 m (upd H1 D (.lst []))) ∧ ∀ i m H, W i m H →
      (J.stop i H ∧ Q D H) ∨ (J.go i H ∧ ∃ Nx : Hp → Prop, (∀ H', Nx H' → ∃ m', m' < m ∧ W (i + 1) m' H') ∧ ∀ x H', J.yld i H x H' → g x (wipe σ vs) H' fun σ2 H2 => wipe σ2 vs = wipe σ vs ∧ tt σ2 H2 fun b H3 =>
        if b = true then te σ2 H3 fun y H4 => ∃ acc, H4 D = some (.lst acc) ∧ acc.length < sizeLine ∧ Nx (upd H4 D (.lst (acc ++ [y]))) else Nx H3) := by
  intro D nD
  refine lc_it w (fun i H => Same H1 H ∧ ∃ ys, H D = some (.lst ys) ∧ Paired (fun v i => R D i v H) ys ((List.range i).filter keep)) ⟨same_new nD, [], upd_same, .nil⟩ (fun i H _ p => hG H p.1) (fun i x H H' hi p y => ?_) fun H p => ?_
  · obtain ⟨sm, ys, hD, hp⟩ := p
    refine he D i x H H' _ _ nD hi sm ⟨ys, hD⟩ y (fun z H4 hk s4 r4 => ?_) fun H3 hk s3 => ?_
    · have hD4 : H4 D = some (.lst ys) := s4 _ _ hD
      refine ⟨ys, hD4, ?_, same_upd (sm.trans s4) nD, ys ++ [z], upd_same, ?_⟩
      · have e1 := hp.length
        have e2 := List.length_filter_le keep (List.range i)
        rw [List.length_range] at e2
        omega
      · rw [List.range_succ, List.filter_append, List.filter_cons, hk, if_pos rfl, List.filter_nil]
        refine Paired.snoc (Paired.mapP hp fun v j q => ?_) ?_
        · exact hR D j v H _ ys nD hD (Kb.upd (Kb.of s4)) q
        · exact hR D i z H4 _ ys nD hD4 (Kb.upd (Kb.of (Same.refl _))) r4
    · refine ⟨sm.trans s3, ys, s3 _ _ hD, ?_⟩
      rw [List.range_succ, List.filter_append, List.filter_cons, hk, if_neg Bool.false_ne_true, List.filter_nil, List.append_nil]
      exact Paired.mapP hp fun v j q => hR D j v H _ ys nD hD (Kb.of s3) q
  · obtain ⟨sm, ys, hD, hp⟩ := p
    exact hd D ys H nD sm hD hp
/-- no test, the values told by the turn -/
theorem lc_val (w : Walk J n G Y) {g : TG} {te : TE} {vs : List Nat} {σ : L2.St} {H1 : Hp} {Q : Addr → Hp → Prop} (hn : n ≤ sizeLine) (f : Nat → V)
    (hG : ∀ H, Same H1 H → G H)
    (he : ∀ D i x H H' (Qe : VK), H1 D = none → i < n → Same H1 H → (∃ ys, H D = some (.lst ys)) → Y i H x H' → (∀ H4, Same H H4 → Qe (f i) H4) →
      g x (wipe σ vs) H' fun σ2 H2 => wipe σ2 vs = wipe σ vs ∧ te σ2 H2 Qe)
    (hd : ∀ D H, H1 D = none → Same H1 H → H D = some (.lst ((List.range n).map f)) → Q D H) :
    ∀ D, H1 D = none → ∃ W : Nat → Nat → Hp → Prop, (∃ m, W 0 m (upd H1 D (.lst []))) ∧ ∀ i m H, W i m H →
      (J.stop i H ∧ Q D H) ∨ (J.go i H ∧ ∃ Nx : Hp → Prop, (∀ H', Nx H' → ∃ m', m' < m ∧ W (i + 1) m' H') ∧ ∀ x H', J.yld i H x H' → g x (wipe σ vs) H' fun σ2 H2 => wipe σ2 vs = wipe σ vs ∧ tYes σ2 H2 fun b H3 =>
        if b = true then te σ2 H3 fun y H4 => ∃ acc, H4 D = some (.lst acc) ∧ acc.length < sizeLine ∧ Nx (upd H4 D (.lst (acc ++ [y]))) else Nx H3) := by
  refine lc_gen w hn (fun _ => true) (fun _ i v _ => v = f i) (fun _ _ _ _ _ _ _ _ _ q => q) hG (fun D i x H H' Qe Qn nD hi sm hy y qe _ => ?_) fun D ys H nD sm hD hp => ?_
  · exact he D i x H H' _ nD hi sm hy y fun H4 s4 => qe _ H4 rfl s4 rfl
  · rw [Paired.eqs hp, List.filter_eq_self.mpr (fun _ _ => rfl)] at hD
    exact hd D H nD sm hD
/-- cells, with a test -/
theorem lc_cel {K : PySem.W.Frag} (w : Walk J n G Y) {g : TG} {tt : TT} {te : TE} {vs : List Nat} {σ : L2.St} {H1 : Hp} {Q : Addr → Hp → Prop} (hn : n ≤ sizeLine) (keep : Nat → Bool) (c : Nat → Cel)
    (hG : ∀ H, Same H1 H → G H)
    (he : ∀ D i x H H' (Qe : VK) (Qn : Hp → Prop), H1 D = none → i < n → Same H1 H → (∃ ys, H D = some (.lst ys)) → Y i H x H' →
      (∀ y H4, keep i = true → Same H H4 → CellV K H4 y (c i) → Qe y H4) → (∀ H3, keep i = false → Same H H3 → Qn H3) →
      g x (wipe σ vs) H' fun σ2 H2 => wipe σ2 vs = wipe σ vs ∧ tt σ2 H2 fun b H3 => if b = true then te σ2 H3 Qe else Qn H3)
    (hd : ∀ D ys H, H1 D = none → Same H1 H → H D = some (.lst ys) → Cells K H ys (((List.range n).filter keep).map c) → Q D H) :
    ∀ D, H1 D = none → ∃ W : Nat → Nat → Hp → Prop, (∃ m, W 0 m (upd H1 D (.lst []))) ∧ ∀ i m H, W i m H →
      (J.stop i H ∧ Q D H) ∨ (J.go i H ∧ ∃ Nx : Hp → Prop, (∀ H', Nx H' → ∃ m', m' < m ∧ W (i + 1) m' H') ∧ ∀ x H', J.yld i H x H' → g x (wipe σ vs) H' fun σ2 H2 => wipe σ2 vs = wipe σ vs ∧ tt σ2 H2 fun b H3 =>
        if b = true then te σ2 H3 fun y H4 => ∃ acc, H4 D = some (.lst acc) ∧ acc.length < sizeLine ∧ Nx (upd H4 D (.lst (acc ++ [y]))) else Nx H3) :=
  lc_gen w hn keep (fun _ i v H => CellV K H v (c i)) (fun D i v H H' ys _ hD k q => q.le (TupLe.kb hD k)) hG he fun D ys H nD sm hD hp => hd D ys H nD sm hD (Paired.mapR c hp fun _ _ q => q)
end
end Sk
/-! What the defs of fields.py promise. -/
namespace Sk
open PySem PySem.Spec PyProof.Rows L2 Sn
section
variable {X : Cx}
theorem pglobI {x : Str} {i : Int} {pos : Pos} (hg : Gl X x) (h : ∃ t, X.mg x = some (.int i t)) (hd : (x == ("__debug__" : Str)) = false := by decide) : PE X (.Name x pos) (tC (.int i)) := by
  obtain ⟨t, h⟩ := h
  exact pe_glob hg h ⟨t, rfl⟩ hd
theorem pglobS {x z : Str} {pos : Pos} (hg : Gl X x) (h : ∃ t, X.mg x = some (.str z t)) (hd : (x == ("__debug__" : Str)) = false := by decide) : PE X (.Name x pos) (tC (.str z)) := by
  obtain ⟨t, h⟩ := h
  exact pe_glob hg h ⟨t, rfl⟩ hd
end
def lettersS : Str := "abcdefghijklmnopqrstuvwxyz"
theorem mem_letters (c : Nat) : decide (c ∈ lettersS.cps.toList) = decide (97 ≤ c ∧ c ≤ 122) := by
  have e : lettersS.cps.toList = (List.range 26).map (· + 97) := by decide +kernel
  rw [e]
  congr 1
  apply propext
  rw [List.mem_map]
  constructor
  · rintro ⟨i, hi, rfl⟩
    have := List.mem_range.mp hi
    omega
  · rintro ⟨h1, h2⟩
    exact ⟨c - 97, List.mem_range.mpr (by omega), by omega⟩
def letB (c : Nat) : Bool := decide (97 ≤ c ∧ c ≤ 122)
def isTextB (r : List Nat) (n : Int) : Bool := decide (1 ≤ (r.length : Int)) && (decide ((r.length : Int) ≤ n) && r.all letB)
theorem letB_letter {c : Nat} : letB c = true ↔ letter c := by unfold letB letter; exact decide_eq_true_iff
theorem range_map_get {α β : Type} (f : α → β) (l : List α) (g : Nat → β) (h : ∀ i x, l[i]? = some x → g i = f x) : (List.range l.length).map g = l.map f := by
  apply List.ext_getElem
  · simp
  · intro i h1 h2
    have hi : i < l.length := by simpa using h1
    simp only [List.getElem_map, List.getElem_range]
    exact h i _ (List.getElem?_eq_getElem hi)
/-! promises -/
abbrev tyInt : Value := .type "int"
abbrev tyBool : Value := .type "bool"
def spIsWhole (K : PySem.W.Frag) : Sp := fun vs H Q _ => ∃ (x : V) (t : Value) (b c : Bool), vs = [x] ∧ TyX K H x t ∧ PySem.W.kitOne K t tyInt = some b ∧ PySem.W.kitOne K t tyBool = some c ∧ Q (.bl (b && !c)) H
theorem isWhole_int {K : PySem.W.Frag} {H : Hp} {Q : VK} {E : XK} (i : Int) (q : Q (.bl true) H) : spIsWhole K [.int i] H Q E :=
  ⟨.int i, .type "int", true, false, rfl, .base (.int i), kit_ty (by decide +kernel), kit_ty (by decide +kernel), q⟩
def spIsText (K : PySem.W.Frag) : Sp := fun vs H Q _ =>
  (∃ (r : List Nat) (n : Int), vs = [tv r, .int n] ∧ r.length ≤ sizeLine ∧ ∀ H', Same H H' → Q (.bl (isTextB r n)) H') ∨
  ∃ (x : V) (t : Value) (n : Int), vs = [x, .int n] ∧ TyX K H x t ∧ PySem.W.kitOne K t (.type "str") = some false ∧ Q (.bl false) H
/-- a valid field stands at a -/
def FieldAt (K : PySem.W.Frag) (H : Hp) (a : Addr) (F : List (List Nat)) (h w : Nat) : Prop := SqL K H a (F.map tv) ∧ FieldOk F h w
theorem FieldAt.same {K : PySem.W.Frag} {H H' : Hp} {a : Addr} {F : List (List Nat)} {h w : Nat} (o : FieldAt K H a F h w) (s : Same H H') : FieldAt K H' a F h w := ⟨s.seq o.1, o.2⟩
theorem FieldAt.row {K : PySem.W.Frag} {H : Hp} {a : Addr} {F : List (List Nat)} {h w : Nat} (o : FieldAt K H a F h w) {i : Nat} (hi : i < h) : (F.map tv)[i]? = some (tv (F.getD i [])) ∧ (F.getD i []).length = w := by
  have hl : i < F.length := by rw [o.2.high]; exact hi
  refine ⟨?_, row_len o.2 hi⟩
  rw [List.getElem?_map, List.getElem?_eq_getElem hl]
  rw [getD_of (List.getElem?_eq_getElem hl)]
  rfl
def spCheckField (K : PySem.W.Frag) : Sp := fun vs H Q _ => ∃ a F h w, vs = [.ref a] ∧ FieldAt K H a F h w ∧ ∀ H', Same H H' → Q .non H'
def inB (h w : Nat) (c : Cel) : Bool := (decide (0 ≤ c.1) && decide (c.1 < (h : Int))) && (decide (0 ≤ c.2) && decide (c.2 < (w : Int)))
theorem inB_mem {h w : Nat} {c : Cel} : inB h w c = true ↔ c ∈ cellsL h w := by
  unfold inB
  rw [mem_cellsL]
  simp only [Bool.and_eq_true, decide_eq_true_eq]
def spIsCell (K : PySem.W.Frag) : Sp := fun vs H Q _ => ∃ a F h w v c, vs = [.ref a, v] ∧ FieldAt K H a F h w ∧ CellV K H v c ∧ ∀ H', Same H H' → Q (.bl (inB h w c)) H'
def spNear (K : PySem.W.Frag) : Sp := fun vs H Q _ => ∃ a F h w v c, vs = [.ref a, v] ∧ FieldAt K H a F h w ∧ CellV K H v c ∧ c ∈ cellsL h w ∧
  ∀ H' p ys, Same H H' → H p = none → H' p = some (.lst ys) → Cells K H' ys (nearL h w c) → Q (.ref p) H'
def spTurned (K : PySem.W.Frag) : Sp := fun vs H Q _ => ∃ a F h w, vs = [.ref a] ∧ FieldAt K H a F h w ∧ ∀ H' p, Same H H' → H p = none → H' p = some (.lst ((turnedL F w).map tv)) → Q (.ref p) H'
def spMirrored (K : PySem.W.Frag) : Sp := fun vs H Q _ => ∃ a F h w, vs = [.ref a] ∧ FieldAt K H a F h w ∧ ∀ H' p, Same H H' → H p = none → H' p = some (.lst ((mirroredL F).map tv)) → Q (.ref p) H'
theorem small_line {n : Nat} (h : n ≤ 1000000) : n ≤ sizeLine := Nat.le_trans h (by rw [sizeLine_eq]; decide)
theorem atN_of {xs : List Nat} {z : Int} {j : Nat} {v : Nat} (e : z = (j : Int)) (h : xs[j]? = some v) : atI xs z = some v := by
  rw [e]; exact atI_nat h
theorem sum_ones : ∀ r : List Nat, (r.map ((fun z : Str => z.length) ∘ fun c => (⟨#[c]⟩ : Str))).sum = r.length
  | [] => rfl
  | c :: r => by rw [List.map_cons, List.sum_cons, sum_ones r, List.length_cons]; show 1 + r.length = _; omega
theorem join_signs (r : List Nat) : Txt.join (tx []) (r.map fun c => (⟨#[c]⟩ : Str)) = tx r := by
  unfold Txt.join
  rw [StrLaws.glued_eq_join]
  induction r with
  | nil => rfl
  | cons c r ih =>
    cases r with
    | nil => rfl
    | cons d r =>
      show (tx [c]) ++ (tx []) ++ Str.join (tx []) (((d :: r).map fun c => (⟨#[c]⟩ : Str))) = _
      rw [ih, tx_app, tx_app]
      rfl
end Sk
/-! The text of the law: its defs by place, their names. -/
namespace Sk
open PySem PySem.Spec PyProof.Rows L2 Sn
def topS (i : Nat) : Stmt := PySem.Challenge.pw_lettersnake_k01_fields.main.body.getD i (.Pass ⟨0, 0, 0, 0⟩)
abbrev s_is_whole : Stmt := topS 7
theorem sc_is_whole : FnScope ["thing"] ["thing"] (defScope s_is_whole) := ⟨rfl, rfl, rfl, by decide +kernel, rfl, by decide +kernel, by decide +kernel⟩
theorem bn_is_whole : Bnd s_is_whole "is_whole" ["thing"] := fun _ _ _ _ _ _ us hl => match us, hl with | [_], _ => rfl
abbrev s_is_text : Stmt := topS 8
theorem sc_is_text : FnScope ["thing", "most", "one"] ["thing", "most"] (defScope s_is_text) := ⟨rfl, rfl, rfl, by decide +kernel, rfl, by decide +kernel, by decide +kernel⟩
theorem bn_is_text : Bnd s_is_text "is_text" ["thing", "most"] := fun _ _ _ _ _ _ us hl => match us, hl with | [_, _], _ => rfl
abbrev s_check_field : Stmt := topS 9
theorem sc_check_field : FnScope ["field", "row"] ["field"] (defScope s_check_field) := ⟨rfl, rfl, rfl, by decide +kernel, rfl, by decide +kernel, by decide +kernel⟩
theorem bn_check_field : Bnd s_check_field "check_field" ["field"] := fun _ _ _ _ _ _ us hl => match us, hl with | [_], _ => rfl
abbrev s_is_cell : Stmt := topS 10
theorem sc_is_cell : FnScope ["field", "thing", "one"] ["field", "thing"] (defScope s_is_cell) := ⟨rfl, rfl, rfl, by decide +kernel, rfl, by decide +kernel, by decide +kernel⟩
theorem bn_is_cell : Bnd s_is_cell "is_cell" ["field", "thing"] := fun _ _ _ _ _ _ us hl => match us, hl with | [_, _], _ => rfl
abbrev s_near_of : Stmt := topS 11
theorem sc_near_of : FnScope ["field", "cell", "found", "row", "place"] ["field", "cell"] (defScope s_near_of) := ⟨rfl, rfl, rfl, by decide +kernel, rfl, by decide +kernel, by decide +kernel⟩
theorem bn_near_of : Bnd s_near_of "near_of" ["field", "cell"] := fun _ _ _ _ _ _ us hl => match us, hl with | [_, _], _ => rfl
abbrev s_near : Stmt := topS 12
theorem sc_near : FnScope ["field", "cell"] ["field", "cell"] (defScope s_near) := ⟨rfl, rfl, rfl, by decide +kernel, rfl, by decide +kernel, by decide +kernel⟩
theorem bn_near : Bnd s_near "near" ["field", "cell"] := fun _ _ _ _ _ _ us hl => match us, hl with | [_, _], _ => rfl
abbrev s_turned : Stmt := topS 13
theorem sc_turned : FnScope ["field", "row", "place"] ["field"] (defScope s_turned) := ⟨rfl, rfl, rfl, by decide +kernel, rfl, by decide +kernel, by decide +kernel⟩
theorem bn_turned : Bnd s_turned "turned" ["field"] := fun _ _ _ _ _ _ us hl => match us, hl with | [_], _ => rfl
abbrev s_mirrored : Stmt := topS 14
theorem sc_mirrored : FnScope ["field", "row"] ["field"] (defScope s_mirrored) := ⟨rfl, rfl, rfl, by decide +kernel, rfl, by decide +kernel, by decide +kernel⟩
theorem bn_mirrored : Bnd s_mirrored "mirrored" ["field"] := fun _ _ _ _ _ _ us hl => match us, hl with | [_], _ => rfl
abbrev s__law_cell_at : Stmt := topS 16
theorem sc__law_cell_at : FnScope ["_law_script", "_law_k"] ["_law_script", "_law_k"] (defScope s__law_cell_at) := ⟨rfl, rfl, rfl, by decide +kernel, rfl, by decide +kernel, by decide +kernel⟩
theorem bn__law_cell_at : Bnd s__law_cell_at "_law_cell_at" ["_law_script", "_law_k"] := fun _ _ _ _ _ _ us hl => match us, hl with | [_, _], _ => rfl
abbrev s__law_draw : Stmt := topS 17
theorem sc__law_draw : FnScope ["_law_cell", "_law_k", "_law_most", "_law_primes"] ["_law_cell", "_law_k", "_law_most"] (defScope s__law_draw) := ⟨rfl, rfl, rfl, by decide +kernel, rfl, by decide +kernel, by decide +kernel⟩
theorem bn__law_draw : Bnd s__law_draw "_law_draw" ["_law_cell", "_law_k", "_law_most"] := fun _ _ _ _ _ _ us hl => match us, hl with | [_, _, _], _ => rfl
abbrev s__law_number : Stmt := topS 18
theorem sc__law_number : FnScope ["_law_cell", "_law_k", "_law_limit"] ["_law_cell", "_law_k", "_law_limit"] (defScope s__law_number) := ⟨rfl, rfl, rfl, by decide +kernel, rfl, by decide +kernel, by decide +kernel⟩
theorem bn__law_number : Bnd s__law_number "_law_number" ["_law_cell", "_law_k", "_law_limit"] := fun _ _ _ _ _ _ us hl => match us, hl with | [_, _, _], _ => rfl
abbrev s__law_field : Stmt := topS 19
theorem sc__law_field : FnScope ["_law_script", "_law_by", "_law_most", "_law_cell", "_law_high", "_law_wide", "_law_letters", "_law_found", "_law_row", "_law_text", "_law_place", "_law_spot"] ["_law_script", "_law_by", "_law_most"] (defScope s__law_field) := ⟨rfl, rfl, rfl, by decide +kernel, rfl, by decide +kernel, by decide +kernel⟩
theorem bn__law_field : Bnd s__law_field "_law_field" ["_law_script", "_law_by", "_law_most"] := fun _ _ _ _ _ _ us hl => match us, hl with | [_, _, _], _ => rfl
abbrev s__law_beside : Stmt := topS 20
theorem sc__law_beside : FnScope ["_law_one", "_law_other"] ["_law_one", "_law_other"] (defScope s__law_beside) := ⟨rfl, rfl, rfl, by decide +kernel, rfl, by decide +kernel, by decide +kernel⟩
theorem bn__law_beside : Bnd s__law_beside "_law_beside" ["_law_one", "_law_other"] := fun _ _ _ _ _ _ us hl => match us, hl with | [_, _], _ => rfl
abbrev s__law_cells : Stmt := topS 21
theorem sc__law_cells : FnScope ["_law_field_here", "_law_found", "_law_row", "_law_place"] ["_law_field_here"] (defScope s__law_cells) := ⟨rfl, rfl, rfl, by decide +kernel, rfl, by decide +kernel, by decide +kernel⟩
theorem bn__law_cells : Bnd s__law_cells "_law_cells" ["_law_field_here"] := fun _ _ _ _ _ _ us hl => match us, hl with | [_], _ => rfl
abbrev s_law : Stmt := topS 22
theorem sc_law : FnScope ["_law_script", "_law_by", "_law_field_here", "_law_handed", "_law_every", "_law_cell", "_law_again", "_law_found", "_law_due", "_law_one", "_law_there", "_law_back", "_law_row", "_law_place", "_law_told"] ["_law_script"] (defScope s_law) := ⟨rfl, rfl, rfl, by decide +kernel, rfl, by decide +kernel, by decide +kernel⟩
theorem bn_law : Bnd s_law "law" ["_law_script"] := fun _ _ _ _ _ _ us hl => match us, hl with | [_], _ => rfl
/-- the names that the top leaves alone, its constants -/
structure Bi (mg : Str → Option Value) : Prop where
  abs : mg "abs" = none
  all : mg "all" = none
  any : mg "any" = none
  bool : mg "bool" = none
  int : mg "int" = none
  isinstance : mg "isinstance" = none
  len : mg "len" = none
  list : mg "list" = none
  max : mg "max" = none
  min : mg "min" = none
  range : mg "range" = none
  str : mg "str" = none
  tuple : mg "tuple" = none
  g_WIDEST : ∃ t, mg "WIDEST" = some (.int 5 t)
  g_LETTERS : ∃ t, mg "LETTERS" = some (.str "abcdefghijklmnopqrstuvwxyz" t)
end Sk
namespace Sk
open PySem PySem.Spec PyProof.Rows L2 Sn
section
variable {P : Program} {w : World} {K : PySem.W.Frag} {mg : Str → Option Value} {base : Heap}
theorem ok_is_whole (D : Dfn K mg "is_whole" s_is_whole) (B : Bi mg) : Cal P w K mg base CX0 1 "is_whole" ["thing"] (spIsWhole K) := by
  refine D.cal sc_is_whole bn_is_whole (fun vs H Q E h => ?_) (fun f cdv A outer s H vs Q E hr h => ?_)
  · obtain ⟨x, t, b, c, rfl, _⟩ := h
    rfl
  · obtain ⟨x, t, b, c, rfl, ty, k1, k2, q⟩ := h
    refine ⟨_, (pss_one (ps_ret (pe_and (pe_callB (isiK K) (by rfl) B.isinstance (by decide +kernel) (pa_cons (pv 0) (pa_cons (pe_bltn (v := .ty "int") (by rfl) B.int (by decide +kernel) rfl) pa_nil))) (pe_one (pe_not (pe_callB (isiK K) (by rfl) B.isinstance (by decide +kernel) (pa_cons (pv 0) (pa_cons (pe_bltn (v := .ty "bool") (by rfl) B.bool (by decide +kernel) rfl) pa_nil)))))))), ?_⟩
    refine ⟨x, rfl, x, .ty "int", t, _, b, rfl, .ty "int", ty, k1, b, rfl, ?_⟩
    cases b with
    | false => exact iteF q
    | true => exact iteT ⟨x, rfl, x, .ty "bool", t, _, c, rfl, .ty "bool", ty, k2, c, rfl, q⟩
theorem ok_is_text (D : Dfn K mg "is_text" s_is_text) (B : Bi mg) : Cal P w K mg base CX0 1 "is_text" ["thing", "most"] (spIsText K) := by
  refine D.cal sc_is_text bn_is_text (fun vs H Q E h => ?_) (fun f cdv A outer s H vs Q E hr h => ?_)
  · rcases h with ⟨r, n, rfl, _⟩ | ⟨x, t, n, rfl, _⟩ <;> rfl
  · refine ⟨_, (pss_one (ps_ret (pe_and (pe_callB (isiK K) (by rfl) B.isinstance (by decide +kernel) (pa_cons (pv 0) (pa_cons (pe_bltn (v := .ty "str") (by rfl) B.str (by decide +kernel) rfl) pa_nil))) (pe_and (pe_chain op_le op_le pe_int (pe_callB call_len_str (by rfl) B.len PySem.boot_len (pa_cons (pv 0) pa_nil)) (pv 1)) (pe_one (pe_callB (allK K rfl) (by rfl) B.all (by decide +kernel) (pa_cons (pe_lc (own := [("one", 2)]) (g := gName 2) (tt := tYes) (by rfl) sc_is_text.nd (pi_str (pv 0)) (blkOk_by (own := [("one", 2)]) (N := ["thing", "most", "one"]) (sc := defScope s_is_text) (by decide +kernel)) (fun _ _ _ _ _ => (pg_name (i := 2) sc_is_text.nd rfl (Or.inl rfl))) (fun _ _ _ _ _ => pts_nil) (fun _ _ _ _ _ => (pe_cmpR op_in_sign (pv 2) (pglobS (by rfl) B.g_LETTERS) (by rfl)))) pa_nil))))))), ?_⟩
    rcases h with ⟨r, n, rfl, hl, q⟩ | ⟨x, t, n, rfl, ty, k, q⟩
    · refine ⟨tv r, rfl, tv r, .ty "str", .type "str", _, true, rfl, .ty "str", .base (.str _), kit_ty (by decide +kernel), true, rfl, iteT ?_⟩
      refine ⟨tv r, rfl, tx r, rfl, by rw [tx_len]; exact hl, 1, _, rfl, rfl, _, rfl, ?_⟩
      rw [tx_len]
      by_cases h1 : (1 : Int) ≤ (r.length : Int)
      · rw [decide_eq_true h1]
        refine iteT ⟨.int n, rfl, _, n, rfl, rfl, _, rfl, ?_⟩
        by_cases h2 : (r.length : Int) ≤ n
        · rw [decide_eq_true h2]
          refine iteT ⟨tv r, rfl, tx r, rfl, lc_val walk_str (by show (tx r).length ≤ _; rw [tx_len]; exact hl) (fun i => .bl (letB (r.getD i 0))) (fun _ _ => trivial) (fun D' i x H1 H2 Qe nD hi sm hy y qe => ?_) fun D' H1 nD sm hD => ?_⟩
          · obtain ⟨rfl, c, hc, rfl⟩ := y
            refine ⟨rfl, .str ⟨#[c]⟩, rfl, c, lettersS, rfl, rfl, ?_⟩
            have e : r.getD i 0 = c := getD_of (by rw [← hc]; show r[i]? = r.toArray[i]?; simp)
            have q2 := qe H2 (Same.refl _)
            rw [e] at q2
            rw [mem_letters]
            exact q2
          · refine ⟨D', r.map letB, rfl, .inl (.inl ?_), ?_⟩
            · rw [hD]
              congr 2
              rw [List.map_map]
              have e2 : (tx r).cps.size = r.length := tx_len r
              rw [e2]
              exact range_map_get (V.bl ∘ letB) r _ fun i x hx => by rw [getD_of hx]; rfl
            · have q2 := q H1 sm
              unfold isTextB at q2
              rw [decide_eq_true h1, decide_eq_true h2, Bool.true_and, Bool.true_and] at q2
              have e3 : (r.map letB).all id = r.all letB := by rw [List.all_map]; rfl
              rw [e3]
              exact q2
        · rw [decide_eq_false h2]
          refine iteF ?_
          have q2 := q H (Same.refl _)
          unfold isTextB at q2
          rw [decide_eq_true h1, decide_eq_false h2] at q2
          exact q2
      · rw [decide_eq_false h1]
        refine iteF ⟨_, rfl, iteF ?_⟩
        have q2 := q H (Same.refl _)
        unfold isTextB at q2
        rw [decide_eq_false h1] at q2
        exact q2
    · exact ⟨x, rfl, x, .ty "str", t, _, false, rfl, .ty "str", ty, k, false, rfl, iteF q⟩
end
end Sk
namespace Sk
open PySem PySem.Spec PyProof.Rows L2 Sn
/-- what is read first of a field: its first row -/
theorem FieldAt.row0 {K : PySem.W.Frag} {H : Hp} {a : Addr} {F : List (List Nat)} {h w : Nat} (o : FieldAt K H a F h w) : atI (F.map tv) 0 = some (tv (F.getD 0 [])) := atI_nat (j := 0) (o.row (by have := o.2.h1; omega)).1
theorem FieldAt.len0 {K : PySem.W.Frag} {H : Hp} {a : Addr} {F : List (List Nat)} {h w : Nat} (o : FieldAt K H a F h w) : (tx (F.getD 0 [])).length = w := by rw [tx_len]; exact (o.row (by have := o.2.h1; omega)).2
theorem FieldAt.w_line {K : PySem.W.Frag} {H : Hp} {a : Addr} {F : List (List Nat)} {h w : Nat} (o : FieldAt K H a F h w) : w ≤ sizeLine := small_line (by have := o.2.w5; omega)
theorem FieldAt.len_map {K : PySem.W.Frag} {H : Hp} {a : Addr} {F : List (List Nat)} {h w : Nat} (o : FieldAt K H a F h w) : (F.map tv).length = h := by rw [List.length_map]; exact o.2.high
theorem FieldAt.line {K : PySem.W.Frag} {H : Hp} {a : Addr} {F : List (List Nat)} {h w : Nat} (o : FieldAt K H a F h w) : (F.map tv).length ≤ sizeLine := by rw [o.len_map]; exact small_line (by have := o.2.h5; omega)
theorem FieldAt.item {K : PySem.W.Frag} {H : Hp} {a : Addr} {F : List (List Nat)} {h w : Nat} (o : FieldAt K H a F h w) {i : Nat} {x : V} (hx : (F.map tv)[i]? = some x) : ∃ r ∈ F, x = tv r := by
  rw [List.getElem?_map] at hx
  cases e : F[i]? with
  | none => rw [e] at hx; cases hx
  | some r => rw [e] at hx; exact ⟨r, List.mem_of_getElem? e, (Option.some.inj hx).symm⟩
theorem tyx_list {K : PySem.W.Frag} {H : Hp} {a : Addr} {xs : List V} (h : SqL K H a xs) : TyX K H (.ref a) (.type "list") := by
  rcases h with (h | ⟨o, h⟩) | ⟨o, _, _, hk, hc, _⟩
  · exact .base (.lst h)
  · exact .base (.frz h)
  · exact .kList hk hc
theorem tyx_tup {K : PySem.W.Frag} {H : Hp} {a : Addr} {xs : List V} (h : SqT K H a xs) : TyX K H (.ref a) (.type "tuple") := by
  rcases h with (h | ⟨o, h⟩) | ⟨o, _, _, hk, hc, _⟩
  · exact .base (.tup h)
  · exact .fTuple h
  · exact .kTuple hk hc
theorem all_const : ∀ n : Nat, (((List.range n).map fun _ => true).all id) = true := fun n => by rw [List.all_eq_true]; intro b hb; obtain ⟨_, _, rfl⟩ := List.mem_map.mp hb; rfl
theorem any_const : ∀ n : Nat, (((List.range n).map fun _ => false).any id) = false := fun n => by rw [List.any_eq_false]; intro b hb; obtain ⟨_, _, rfl⟩ := List.mem_map.mp hb; decide
section
variable {P : Program} {w : World} {K : PySem.W.Frag} {mg : Str → Option Value} {base : Heap}
theorem ok_check_field (D : Dfn K mg "check_field" s_check_field) (B : Bi mg) (c_is_text : Cal P w K mg base CX0 1 "is_text" ["thing", "most"] (spIsText K)) : Cal P w K mg base CX0 2 "check_field" ["field"] (spCheckField K) := by
  refine D.cal sc_check_field bn_check_field (fun vs H Q E h => ?_) (fun f cdv A outer s H vs Q E hr h => ?_)
  · obtain ⟨a, F, h, w, rfl, _⟩ := h
    rfl
  · obtain ⟨a, F, h, w, rfl, o, q⟩ := h
    refine ⟨_, (pss_cons (ps_if (PW.pt (pw_or (pt_not (pt_val (pe_callB (isiK K) (by rfl) B.isinstance (by decide +kernel) (pa_cons (pv 0) (pa_cons (pe_bltn (v := .ty "list") (by rfl) B.list (by decide +kernel) rfl) pa_nil))))) (pw_or1 (pt_not (pt_chain op_le op_le pe_int (pe_callB (lenSq K) (by rfl) B.len PySem.boot_len (pa_cons (pv 0) pa_nil)) (pglobI (by rfl) B.g_WIDEST))))))
 (pss_one ps_never) pss_nil)
 (pss_one (ps_if (PW.pt (pw_or (pt_not (pt_val (pe_callB (allK K rfl) (by rfl) B.all (by decide +kernel) (pa_cons (pe_lc (own := [("row", 1)]) (g := gName 1) (tt := tYes) (by rfl) sc_check_field.nd (piL K (pv 0)) (blkOk_by (own := [("row", 1)]) (N := ["field", "row"]) (sc := defScope s_check_field) (by decide +kernel)) (fun _ _ _ _ _ => (pg_name (i := 1) sc_check_field.nd rfl (Or.inl rfl))) (fun _ _ _ _ _ => pts_nil) (fun _ _ _ _ _ => (pcall c_is_text (hr.mono (by decide)) (by rfl) pass0 (pa_cons (pv 1) (pa_cons (pglobI (by rfl) B.g_WIDEST) pa_nil))))) pa_nil)))) (pw_or1 (pt_val (pe_callB (anyK K rfl) (by rfl) B.any (by decide +kernel) (pa_cons (pe_lc (own := [("row", 1)]) (g := gName 1) (tt := tYes) (by rfl) sc_check_field.nd (piL K (pv 0)) (blkOk_by (own := [("row", 1)]) (N := ["field", "row"]) (sc := defScope s_check_field) (by decide +kernel)) (fun _ _ _ _ _ => (pg_name (i := 1) sc_check_field.nd rfl (Or.inl rfl))) (fun _ _ _ _ _ => pts_nil) (fun _ _ _ _ _ => (pe_cmpR op_ne (pe_callB call_len_str (by rfl) B.len PySem.boot_len (pa_cons (pv 1) pa_nil)) (pe_callB call_len_str (by rfl) B.len PySem.boot_len (pa_cons (pe_ix (ixL K) (pv 0) pe_int (fun _ _ => rfl)) pa_nil)) (nomark _)))) pa_nil))))))
 (pss_one ps_never) pss_nil))), ?_⟩
    have e1 := o.2.h1
    have e5 := o.2.h5
    refine ⟨.ref a, rfl, .ref a, .ty "list", .type "list", _, true, rfl, .ty "list", tyx_list o.1, kit_ty (by decide +kernel), true, rfl, iteF ?_⟩
    refine ⟨.ref a, rfl, a, _, rfl, .inl o.1, 1, _, rfl, rfl, true, ?_, iteT ⟨_, 5, rfl, rfl, true, ?_, iteF ?_⟩⟩
    · rw [o.len_map]; exact congrArg V.bl (decide_eq_true (by omega))
    · rw [o.len_map]; exact congrArg V.bl (decide_eq_true (by omega))
    refine ⟨.ref a, rfl, a, rfl, ⟨_, o.1⟩, lc_val (walk_list (xs := F.map tv)) o.line (fun _ => .bl true) (fun H1 s1 => s1.seq o.1) (fun D' i x H1 H2 Qe nD hi sm hy y qe => ?_) fun D' H1 nD sm hD => ?_⟩
    · obtain ⟨rfl, hx⟩ := y
      obtain ⟨r, hr, rfl⟩ := o.item hx
      have hw := o.2.wide r hr
      have w1 := o.2.w1
      have w5 := o.2.w5
      refine ⟨rfl, tv r, rfl, .inl ⟨r, 5, rfl, small_line (by omega), fun H' s' => ?_⟩⟩
      have e : isTextB r 5 = true := by
        unfold isTextB
        rw [decide_eq_true (by omega), decide_eq_true (by omega), List.all_eq_true.mpr fun c hc => letB_letter.mpr (o.2.let_ r hr c hc)]
        rfl
      rw [e]
      exact qe H' s'
    · refine ⟨D', (List.range (F.map tv).length).map fun _ => true, rfl, .inl (.inl ?_), true, ?_, iteF ?_⟩
      · rw [hD, List.map_map]; rfl
      · rw [all_const]
      have o1 := o.same sm
      refine ⟨.ref a, rfl, a, rfl, ⟨_, o1.1⟩, lc_val (walk_list (xs := F.map tv)) o1.line (fun _ => .bl false) (fun H1 s1 => s1.seq o1.1) (fun D2 i x H3 H2 Qe nD hi sm hy y qe => ?_) fun D2 H3 nD sm2 hD => ?_⟩
      · obtain ⟨rfl, hx⟩ := y
        obtain ⟨r, hr, rfl⟩ := o.item hx
        have hw := o.2.wide r hr
        have o2 := o1.same sm
        refine ⟨rfl, tv r, rfl, tx r, rfl, by rw [tx_len, hw]; exact o.w_line, .ref a, rfl, a, _, 0, _, rfl, rfl, o2.1, o.row0, tx (F.getD 0 []), rfl, by rw [o.len0]; exact o.w_line, rfl, ?_⟩
        rw [o.len0, tx_len, hw, decide_eq_true rfl]
        exact qe _ (Same.refl _)
      · refine ⟨D2, (List.range (F.map tv).length).map fun _ => false, rfl, .inl (.inl ?_), false, ?_, iteF ?_⟩
        · rw [hD, List.map_map]; rfl
        · rw [any_const]
        exact q H3 (sm.trans sm2)
theorem ok_is_cell (D : Dfn K mg "is_cell" s_is_cell) (B : Bi mg) (c_is_whole : Cal P w K mg base CX0 1 "is_whole" ["thing"] (spIsWhole K)) : Cal P w K mg base CX0 2 "is_cell" ["field", "thing"] (spIsCell K) := by
  refine D.cal sc_is_cell bn_is_cell (fun vs H Q E h => ?_) (fun f cdv A outer s H vs Q E hr h => ?_)
  · obtain ⟨a, F, h, w, v, c, rfl, _⟩ := h
    rfl
  · obtain ⟨a, F, h, w, v, c, rfl, o, ⟨t, rfl, ht⟩, q⟩ := h
    refine ⟨_, (pss_cons (ps_if (PW.pt (pw_or (pt_not (pt_val (pe_callB (isiK K) (by rfl) B.isinstance (by decide +kernel) (pa_cons (pv 1) (pa_cons (pe_bltn (v := .ty "tuple") (by rfl) B.tuple (by decide +kernel) rfl) pa_nil))))) (pw_or (pt_cmpR op_ne (pe_callB (lenSq K) (by rfl) B.len PySem.boot_len (pa_cons (pv 1) pa_nil)) pe_int (nomark _)) (pw_or1 (pt_not (pt_val (pe_callB (allK K rfl) (by rfl) B.all (by decide +kernel) (pa_cons (pe_lc (own := [("one", 2)]) (g := gName 2) (tt := tYes) (by rfl) sc_is_cell.nd (piT K (pv 1)) (blkOk_by (own := [("one", 2)]) (N := ["field", "thing", "one"]) (sc := defScope s_is_cell) (by decide +kernel)) (fun _ _ _ _ _ => (pg_name (i := 2) sc_is_cell.nd rfl (Or.inl rfl))) (fun _ _ _ _ _ => pts_nil) (fun _ _ _ _ _ => (pcall c_is_whole (hr.mono (by decide)) (by rfl) pass0 (pa_cons (pv 2) pa_nil)))) pa_nil))))))))
 (pss_one (ps_ret pe_bl)) pss_nil)
 (pss_one (ps_ret (pe_and (pe_chain op_le op_lt pe_int (pe_ix (ixT K) (pv 1) pe_int (fun _ _ => rfl)) (pe_callB (lenSq K) (by rfl) B.len PySem.boot_len (pa_cons (pv 0) pa_nil))) (pe_one (pe_chain op_le op_lt pe_int (pe_ix (ixT K) (pv 1) pe_int (fun _ _ => rfl)) (pe_callB call_len_str (by rfl) B.len PySem.boot_len (pa_cons (pe_ix (ixL K) (pv 0) pe_int (fun _ _ => rfl)) pa_nil)))))))), ?_⟩
    refine ⟨.ref t, rfl, .ref t, .ty "tuple", .type "tuple", _, true, rfl, .ty "tuple", tyx_tup ht, kit_ty (by decide +kernel), true, rfl, iteF ?_⟩
    refine ⟨.ref t, rfl, t, _, rfl, .inr ht, rfl, false, rfl, iteF ?_⟩
    refine ⟨.ref t, rfl, t, rfl, ⟨_, ht⟩, lc_val (walk_tup (xs := [.int c.1, .int c.2])) (small_line (by show 2 ≤ 1000000; decide)) (fun _ => .bl true) (fun H1 s1 => Same.sqt s1 ht) (fun D' i x H1 H2 Qe nD hi sm hy y qe => ?_) fun D' H1 nD sm hD => ?_⟩
    · obtain ⟨rfl, hx⟩ := y
      have hx2 : ∃ n : Int, x = .int n := by
        match i, hi with
        | 0, _ => exact ⟨c.1, (Option.some.inj hx).symm⟩
        | 1, _ => exact ⟨c.2, (Option.some.inj hx).symm⟩
      obtain ⟨n, rfl⟩ := hx2
      exact ⟨rfl, .int n, rfl, isWhole_int (E := E0) n (qe _ (Same.refl _))⟩
    · refine ⟨D', [true, true], rfl, .inl (.inl hD), true, rfl, iteF ?_⟩
      have o1 := o.same sm
      have ht1 := Same.sqt sm ht
      have q1 := q H1 sm
      unfold inB at q1
      refine ⟨.ref t, rfl, t, _, 0, .int c.1, rfl, rfl, ht1, atI_nat (j := 0) rfl, 0, c.1, rfl, rfl, _, rfl, ?_⟩
      by_cases h1 : (0 : Int) ≤ c.1
      · rw [decide_eq_true h1] at q1 ⊢
        refine iteT ⟨.ref a, rfl, a, _, rfl, .inl o1.1, _, _, rfl, rfl, _, rfl, ?_⟩
        rw [o.len_map]
        by_cases h2 : c.1 < (h : Int)
        · rw [decide_eq_true h2] at q1 ⊢
          refine iteT ⟨.ref t, rfl, t, _, 1, .int c.2, rfl, rfl, ht1, atI_nat (j := 1) rfl, 0, c.2, rfl, rfl, _, rfl, ?_⟩
          by_cases h3 : (0 : Int) ≤ c.2
          · rw [decide_eq_true h3] at q1 ⊢
            refine iteT ⟨.ref a, rfl, a, _, 0, _, rfl, rfl, o1.1, o.row0, tx (F.getD 0 []), rfl, by rw [o.len0]; exact o.w_line, _, _, rfl, rfl, ?_⟩
            rw [o.len0]
            exact q1
          · rw [decide_eq_false h3] at q1 ⊢
            exact iteF q1
        · rw [decide_eq_false h2] at q1 ⊢
          exact iteF q1
      · rw [decide_eq_false h1] at q1 ⊢
        exact iteF ⟨_, rfl, iteF q1⟩
end
end Sk
namespace Sk
open PySem PySem.Spec PyProof.Rows L2 Sn
theorem loN_bd {h : Nat} {x : Int} (h0 : 0 ≤ x) (h1 : x < h) (h5 : h ≤ 5) : 0 ≤ loN x ∧ loN x ≤ 5 ∧ 0 ≤ hiN h x ∧ hiN h x ≤ 5 := by
  unfold loN hiN
  refine ⟨?_, ?_, ?_, ?_⟩ <;> split <;> omega
theorem nearRow_upto (w : Nat) (c : Cel) (row : Int) : nearRow w c row = ((rng (loN c.2) (hiN w c.2 - loN c.2).toNat).filter fun p => !decide ((row, p) = c)).map fun p => (row, p) := rfl
theorem flat_len_le {α β : Type} (f : α → List β) (m : Nat) (h : ∀ a, (f a).length ≤ m) : ∀ l : List α, (l.flatMap f).length ≤ l.length * m
  | [] => by simp
  | a :: l => by
    rw [List.flatMap_cons, List.length_append, List.length_cons, Nat.succ_mul]
    have := flat_len_le f m h l
    have := h a
    omega
section
variable {P : Program} {w : World} {K : PySem.W.Frag} {mg : Str → Option Value} {base : Heap}
theorem ok_near_of (D : Dfn K mg "near_of" s_near_of) (B : Bi mg) : Cal P w K mg base CX0 1 "near_of" ["field", "cell"] (spNear K) := by
  refine D.cal sc_near_of bn_near_of (fun vs H Q E h => ?_) (fun f cdv A outer s H vs Q E hr h => ?_)
  · obtain ⟨a, F, h, w, v, c, rfl, _⟩ := h
    rfl
  · obtain ⟨a, F, h, w, v, c, rfl, o, ⟨t, rfl, ht⟩, hc, q⟩ := h
    refine ⟨_, (pss_cons (ps_set (i := 2) sc_near_of.nd rfl (.inl rfl) (pe_lst pa_nil))
 (pss_cons (ps_for PassesOwn.never rfl (pi_range2 (by rfl) B.range (pa_cons (pe_callB (call_max2 rfl) (by rfl) B.max (by decide +kernel) (pa_cons pe_int (pa_cons (pe_op op_sub (pe_ix (ixT K) (pv 1) pe_int (fun _ _ => rfl)) pe_int) pa_nil))) (pa_cons (pe_callB (call_min2 rfl) (by rfl) B.min (by decide +kernel) (pa_cons (pe_callB (lenSq K) (by rfl) B.len PySem.boot_len (pa_cons (pv 0) pa_nil)) (pa_cons (pe_op op_add (pe_ix (ixT K) (pv 1) pe_int (fun _ _ => rfl)) pe_int) pa_nil))) pa_nil))) (pg_name (i := 3) sc_near_of.nd rfl (.inl rfl))
 (pss_one (ps_for PassesOwn.never rfl (pi_range2 (by rfl) B.range (pa_cons (pe_callB (call_max2 rfl) (by rfl) B.max (by decide +kernel) (pa_cons pe_int (pa_cons (pe_op op_sub (pe_ix (ixT K) (pv 1) pe_int (fun _ _ => rfl)) pe_int) pa_nil))) (pa_cons (pe_callB (call_min2 rfl) (by rfl) B.min (by decide +kernel) (pa_cons (pe_callB call_len_str (by rfl) B.len PySem.boot_len (pa_cons (pe_ix (ixL K) (pv 0) pe_int (fun _ _ => rfl)) pa_nil)) (pa_cons (pe_op op_add (pe_ix (ixT K) (pv 1) pe_int (fun _ _ => rfl)) pe_int) pa_nil))) pa_nil))) (pg_name (i := 4) sc_near_of.nd rfl (.inl rfl))
 (pss_one (ps_if (pt_cmpR (neDK K hr.units) (pe_tup (pa_cons (pv 3) (pa_cons (pv 4) pa_nil))) (pv 1) (nomark _))
 (pss_one (ps_expr (pe_bm PySem.F.plainAttrs_list PySem.F.slot_list_append PySem.F.type_list_append mt_append (pv 2) (pa_cons (pe_tup (pa_cons (pv 3) (pa_cons (pv 4) pa_nil))) pa_nil)))) pss_nil)))))
 (pss_one (ps_ret (pv 2))))), ?_⟩
    obtain ⟨⟨a1, a2⟩, a3, a4⟩ := mem_cellsL.mp hc
    obtain ⟨b1, b2, b3, b4⟩ := loN_bd a1 a2 o.2.h5
    obtain ⟨d1, d2, d3, d4⟩ := loN_bd a3 a4 o.2.w5
    refine ⟨Nat.zero_le _, fun p np => ?_⟩
    have s1 : Same H (upd H p (.lst [])) := same_new np
    have o1 := o.same s1
    have ht1 := Same.sqt s1 ht
    refine ⟨.ref t, rfl, t, _, 0, .int c.1, rfl, rfl, ht1, atI_nat (j := 0) rfl, _, 1, rfl, rfl, 0, _, rfl, .ref a, rfl, a, _, rfl, .inl o1.1, .ref t, rfl, t, _, 0, .int c.1, rfl, rfl, ht1, atI_nat (j := 0) rfl, _, 2, rfl, rfl, _, _, rfl, loN c.1, hiN h c.1, ?_, ⟨by omega, by omega, by omega, by omega⟩, ?_⟩
    · rw [o.len_map]; rfl
    refine for_it walk_range (fun i σ H' => ∃ y3 y4 ys, σ = [some (.ref a), some (.ref t), some (.ref p), y3, y4] ∧ Same H H' ∧ H' p = some (.lst ys) ∧ Cells K H' ys ((rng (loN c.1) i).flatMap (nearRow w c)))
      ⟨none, none, [], rfl, s1, upd_same, .nil⟩ (fun _ _ _ _ _ => trivial) (fun i x σ H1 H2 hi pv y => ?_) fun σ H1 pv => ?_
    · obtain ⟨rfl, rfl⟩ := y
      obtain ⟨y3, y4, ys, rfl, sm, hp, hy⟩ := pv
      have o2 := o.same sm
      have ht2 := Same.sqt sm ht
      refine ⟨.ref t, rfl, t, _, 1, .int c.2, rfl, rfl, ht2, atI_nat (j := 1) rfl, _, 1, rfl, rfl, 0, _, rfl, .ref a, rfl, a, _, 0, _, rfl, rfl, o2.1, o.row0, tx (F.getD 0 []), rfl, by rw [o.len0]; exact o.w_line, .ref t, rfl, t, _, 1, .int c.2, rfl, rfl, ht2, atI_nat (j := 1) rfl, _, 2, rfl, rfl, _, _, rfl, loN c.2, hiN w c.2, ?_, ⟨by omega, by omega, by omega, by omega⟩, ?_⟩
      · rw [o.len0]; rfl
      refine for_it walk_range (fun j σ H' => ∃ y4 zs, σ = [some (.ref a), some (.ref t), some (.ref p), some (.int (loN c.1 + i)), y4] ∧ Same H H' ∧ H' p = some (.lst zs) ∧ Cells K H' zs ((rng (loN c.1) i).flatMap (nearRow w c) ++ ((rng (loN c.2) j).filter fun p => !decide ((loN c.1 + (i : Int), p) = c)).map fun p => (loN c.1 + (i : Int), p)))
        ⟨y4, ys, rfl, sm, hp, by simpa [rng] using hy⟩ (fun _ _ _ _ _ => trivial) (fun j x σ H3 H4 hj pv y => ?_) fun σ H3 pv => ?_
      · obtain ⟨rfl, rfl⟩ := y
        obtain ⟨y4, zs, rfl, sm2, hp2, hz⟩ := pv
        have hlen : zs.length < sizeLine := by
          rw [hz.length, List.length_append, List.length_map]
          have e1 := flat_len_le (nearRow w c) 5 (fun r => by
            unfold nearRow
            rw [List.length_map]
            refine Nat.le_trans (List.length_filter_le _ _) ?_
            rw [rng_length]; omega) (rng (loN c.1) i)
          have e2 := List.length_filter_le (fun p => !decide ((loN c.1 + (i : Int), p) = c)) (rng (loN c.2) j)
          rw [rng_length] at e1 e2
          exact small1000 (by omega)
        -- (row, place) != cell
        refine ⟨.int (loN c.1 + i), rfl, .int (loN c.2 + j), rfl, by show 2 ≤ sizeLine; decide, fun T nT => ?_⟩
        have sT : Same H4 (upd H4 T (.tup [.int (loN c.1 + i), .int (loN c.2 + j)])) := same_new nT
        have vT : CellV K (upd H4 T (.tup [.int (loN c.1 + i), .int (loN c.2 + j)])) (.ref T) (loN c.1 + i, loN c.2 + j) := ⟨T, rfl, SqT.of upd_same⟩
        have vc : CellV K (upd H4 T (.tup [.int (loN c.1 + i), .int (loN c.2 + j)])) (.ref t) c := ⟨t, rfl, Same.sqt (sm2.trans sT) ht⟩
        refine ⟨.ref t, rfl, _, _, vT.dp, vc.dp, (shp_cell _).ok, (shp_cell _).ok, _, rfl, ?_⟩
        rw [eqv_cell]
        by_cases hne : ((loN c.1 + (i : Int), loN c.2 + (j : Int)) : Cel) = c
        · rw [decide_eq_true hne]
          refine iteF ⟨_, zs, rfl, sm2.trans sT, sT _ _ hp2, ?_⟩
          rw [rng_succ, List.filter_append, List.filter_cons, decide_eq_true hne]
          simp only [Bool.not_true, Bool.false_eq_true, if_false, List.filter_nil, List.append_nil]
          exact hz.le (TupLe.of sT)
        · rw [decide_eq_false hne]
          refine iteT ⟨.ref p, rfl, .inl ⟨rfl, _, SqL.of (sT _ _ hp2)⟩, .int (loN c.1 + i), rfl, .int (loN c.2 + j), rfl, by show 2 ≤ sizeLine; decide, fun U nU => ?_⟩
          have sU := same_new (o := .tup [.int (loN c.1 + i), .int (loN c.2 + j)]) nU
          have hpU := sU _ _ (sT _ _ hp2)
          refine ⟨p, zs, .ref U, rfl, rfl, hpU, hlen, _, _, rfl, same_upd (sm2.trans (sT.trans sU)) np, upd_same, ?_⟩
          rw [rng_succ, List.filter_append, List.filter_cons, decide_eq_false hne]
          simp only [Bool.not_false, if_true, List.filter_nil, List.map_append, List.map_cons, List.map_nil]
          rw [← List.append_assoc]
          refine Paired.snoc ((hz.le (TupLe.of (sT.trans sU))).le (TupLe.upd hpU (TupLe.refl _))) ⟨U, rfl, (TupLe.upd hpU (TupLe.refl _)).sqt (SqT.of upd_same)⟩
      · obtain ⟨y4, zs, rfl, sm2, hp2, hz⟩ := pv
        refine ⟨_, y4, zs, rfl, sm2, hp2, ?_⟩
        rw [rng_succ, List.flatMap_append, List.flatMap_cons, List.flatMap_nil, List.append_nil]
        exact hz
    · obtain ⟨y3, y4, ys, rfl, sm, hp, hy⟩ := pv
      exact ⟨.ref p, rfl, q H1 p ys sm np hp hy⟩
theorem ok_near (D : Dfn K mg "near" s_near) (B : Bi mg) (c_check_field : Cal P w K mg base CX0 2 "check_field" ["field"] (spCheckField K)) (c_is_cell : Cal P w K mg base CX0 2 "is_cell" ["field", "thing"] (spIsCell K)) (c_near_of : Cal P w K mg base CX0 1 "near_of" ["field", "cell"] (spNear K)) :
    Cal P w K mg base CX0 3 "near" ["field", "cell"] (spNear K) := by
  refine D.cal sc_near bn_near (fun vs H Q E h => ?_) (fun f cdv A outer s H vs Q E hr h => ?_)
  · obtain ⟨a, F, h, w, v, c, rfl, _⟩ := h
    rfl
  · obtain ⟨a, F, h, w, v, c, rfl, o, hv, hc, q⟩ := h
    refine ⟨_, (pss_cons (ps_expr (pcall c_check_field (hr.mono (by decide)) (by rfl) pass0 (pa_cons (pv 0) pa_nil)))
 (pss_cons (ps_if (pt_not (pt_val (pcall c_is_cell (hr.mono (by decide)) (by rfl) pass0 (pa_cons (pv 0) (pa_cons (pv 1) pa_nil)))))
 (pss_one ps_never) pss_nil)
 (pss_one (ps_ret (pcall c_near_of (hr.mono (by decide)) (by rfl) pass0 (pa_cons (pv 0) (pa_cons (pv 1) pa_nil))))))), ?_⟩
    refine ⟨.ref a, rfl, a, F, h, w, rfl, o, fun H1 s1 => ?_⟩
    refine ⟨.ref a, rfl, v, rfl, a, F, h, w, v, c, rfl, o.same s1, hv.le (TupLe.of s1), fun H2 s2 => ?_⟩
    refine ⟨true, by rw [inB_mem.mpr hc], iteF ?_⟩
    have s3 := s1.trans s2
    exact ⟨.ref a, rfl, v, rfl, a, F, h, w, v, c, rfl, o.same s3, hv.le (TupLe.of s3), hc, fun H' p ys s4 np hp hy => q H' p ys (s3.trans s4) (s3.free np) hp hy⟩
theorem ok_turned (D : Dfn K mg "turned" s_turned) (B : Bi mg) (c_check_field : Cal P w K mg base CX0 2 "check_field" ["field"] (spCheckField K)) : Cal P w K mg base CX0 3 "turned" ["field"] (spTurned K) := by
  refine D.cal sc_turned bn_turned (fun vs H Q E h => ?_) (fun f cdv A outer s H vs Q E hr h => ?_)
  · obtain ⟨a, F, h, w, rfl, _⟩ := h
    rfl
  · obtain ⟨a, F, h, w, rfl, o, q⟩ := h
    refine ⟨_, (pss_cons (ps_expr (pcall c_check_field (hr.mono (by decide)) (by rfl) pass0 (pa_cons (pv 0) pa_nil)))
 (pss_one (ps_ret (pe_lc (own := [("place", 2)]) (g := gName 2) (tt := tYes) (by rfl) sc_turned.nd (pi_range1 (by rfl) B.range (pa_cons (pe_callB call_len_str (by rfl) B.len PySem.boot_len (pa_cons (pe_ix (ixL K) (pv 0) pe_int (fun _ _ => rfl)) pa_nil)) pa_nil)) (blkOk_by (own := [("place", 2)]) (N := ["field", "row", "place"]) (sc := defScope s_turned) (by decide +kernel)) (fun _ _ _ _ _ => (pg_name (i := 2) sc_turned.nd rfl (Or.inr rfl))) (fun _ _ _ _ _ => pts_nil) (fun _ _ _ _ _ => (joinK K pe_str (pe_lc (own := [("row", 1)]) (g := gName 1) (tt := tYes) (by rfl) sc_turned.nd (piL K (revL K (pv 0))) (blkOk_by (own := [("row", 1)]) (N := ["field", "row", "place"]) (sc := relS _ (defScope s_turned)) (by decide +kernel)) (fun _ _ _ _ _ => (pg_name (i := 1) sc_turned.nd rfl (Or.inl rfl))) (fun _ _ _ _ _ => pts_nil) (fun _ _ _ _ _ => (pe_ix ix_str (pv 1) (pv 2) (fun _ _ => rfl)))))))))), ?_⟩
    refine ⟨.ref a, rfl, a, F, h, w, rfl, o, fun H1 s1 => ?_⟩
    have o1 := o.same s1
    have w5 := o.2.w5
    refine ⟨.ref a, rfl, a, _, 0, _, rfl, rfl, o1.1, o.row0, tx (F.getD 0 []), rfl, by rw [o.len0]; exact o.w_line, w, by rw [o.len0], by omega, by omega, ?_⟩
    rw [Int.toNat_natCast]
    refine lc_val walk_range o.w_line (fun p => tv (col F p)) (fun _ _ => trivial) (fun D' i x H2 H3 Qe nD hi sm hy y qe => ?_) fun D' H2 nD sm hD => ?_
    · obtain ⟨rfl, rfl⟩ := y
      have o2 := o1.same sm
      refine ⟨rfl, ⟨_, rfl⟩, .ref a, rfl, a, _, rfl, o2.1, fun R nR => ⟨R, rfl, ⟨_, SqL.of upd_same⟩, ?_⟩⟩
      have sR := same_new (o := .lst (F.map tv).reverse) nR
      refine lc_val (walk_list (xs := (F.map tv).reverse)) (by rw [List.length_reverse]; exact o.line) (fun j => tv [(F.reverse.getD j []).getD i 0]) (fun H5 s5 => s5.seq (SqL.of upd_same)) (fun D2 j x H5 H6 Qf nD2 hj sm5 hy5 y qf => ?_) fun D2 H5 nD2 sm5 hD2 => ?_
      · obtain ⟨rfl, hx⟩ := y
        rw [← List.map_reverse, List.getElem?_map] at hx
        have hj2 : j < F.reverse.length := by rw [List.length_reverse]; simpa using hj
        rw [List.getElem?_eq_getElem hj2] at hx
        have ex : x = tv F.reverse[j] := (Option.some.inj hx).symm
        subst ex
        have hm : F.reverse[j] ∈ F := List.mem_reverse.mp (List.getElem_mem hj2)
        have hl : i < F.reverse[j].length := by rw [o.2.wide _ hm]; exact hi
        refine ⟨rfl, tv F.reverse[j], rfl, .int (0 + i), rfl, tx F.reverse[j], _, F.reverse[j][i], rfl, rfl, by rw [tx_len, o.2.wide _ hm]; exact o.w_line, ?_, ?_⟩
        · rw [tx_cps]
          exact atN_of (by omega) (List.getElem?_eq_getElem hl)
        · have z := qf H6 (Same.refl _)
          rw [getD_of (List.getElem?_eq_getElem hj2), getD_of (List.getElem?_eq_getElem hl)] at z
          exact z
      · refine ⟨tx [], D2, (col F i).map fun c => ⟨#[c]⟩, rfl, rfl, .inl (.inl (.inl ?_)), ?_, ?_⟩
        · rw [hD2, List.map_map]
          unfold col
          rw [List.map_map]
          have e : (F.map tv).reverse.length = F.reverse.length := by simp
          rw [e]
          congr 2
          exact range_map_get _ F.reverse _ fun j r hr => by rw [getD_of hr]; rfl
        · rw [List.map_map, sum_ones, List.length_map]; have h5 := o.2.h5; have e5 : (col F i).length = h := by simp [col, o.2.high]
          rw [e5]; show h + h * 0 ≤ _; omega
        · rw [join_signs]
          exact qe H5 ((sR.trans sm5))
    · exact q H2 D' (s1.trans sm) (s1.free nD) (by rw [hD]; congr 2; unfold turnedL; rw [List.map_map]; rfl)
theorem ok_mirrored (D : Dfn K mg "mirrored" s_mirrored) (B : Bi mg) (c_check_field : Cal P w K mg base CX0 2 "check_field" ["field"] (spCheckField K)) : Cal P w K mg base CX0 3 "mirrored" ["field"] (spMirrored K) := by
  refine D.cal sc_mirrored bn_mirrored (fun vs H Q E h => ?_) (fun f cdv A outer s H vs Q E hr h => ?_)
  · obtain ⟨a, F, h, w, rfl, _⟩ := h
    rfl
  · obtain ⟨a, F, h, w, rfl, o, q⟩ := h
    refine ⟨_, (pss_cons (ps_expr (pcall c_check_field (hr.mono (by decide)) (by rfl) pass0 (pa_cons (pv 0) pa_nil)))
 (pss_one (ps_ret (pe_lc (own := [("row", 1)]) (g := gName 1) (tt := tYes) (by rfl) sc_mirrored.nd (piL K (pv 0)) (blkOk_by (own := [("row", 1)]) (N := ["field", "row"]) (sc := defScope s_mirrored) (by decide +kernel)) (fun _ _ _ _ _ => (pg_name (i := 1) sc_mirrored.nd rfl (Or.inl rfl))) (fun _ _ _ _ _ => pts_nil) (fun _ _ _ _ _ => (pe_revS (pv 1))))))), ?_⟩
    refine ⟨.ref a, rfl, a, F, h, w, rfl, o, fun H1 s1 => ?_⟩
    have o1 := o.same s1
    refine ⟨.ref a, rfl, a, rfl, ⟨_, o1.1⟩, lc_val (walk_list (xs := F.map tv)) o.line (fun i => tv (F.getD i []).reverse) (fun H2 s2 => s2.seq o1.1) (fun D' i x H2 H3 Qe nD hi sm hy y qe => ?_) fun D' H2 nD sm hD => ?_⟩
    · obtain ⟨rfl, hx⟩ := y
      rw [List.getElem?_map] at hx
      have hi2 : i < F.length := by simpa using hi
      rw [List.getElem?_eq_getElem hi2] at hx
      have ex : x = tv F[i] := (Option.some.inj hx).symm
      subst ex
      refine ⟨rfl, tv F[i], rfl, tx F[i], rfl, by rw [tx_len, o.2.wide _ (List.getElem_mem hi2)]; exact o.w_line, ?_⟩
      rw [revS_tx]
      have z := qe H3 (Same.refl _)
      rw [getD_of (List.getElem?_eq_getElem hi2)] at z
      exact z
    · refine q H2 D' (s1.trans sm) (s1.free nD) ?_
      rw [hD]
      congr 2
      unfold mirroredL
      rw [List.map_map]
      have e : (F.map tv).length = F.length := by simp
      rw [e]
      exact range_map_get _ F _ fun j r hr => by rw [getD_of hr]; rfl
end
end Sk
/-! What the laws' own helpers promise: some number below the limit, some field. -/
namespace Sk
open PySem PySem.Spec PyProof.Rows L2 Sn
/-- the script's numbers have at most n bits -/
def Bits (n : Nat) (ns : List Int) : Prop := ∀ z ∈ ns, z.natAbs < 2 ^ n
theorem bits_of {ns : List Int} {n : Nat} (h : ∀ z ∈ ns, Builtin.Int.intBits z ≤ n) : Bits n ns := fun z hz => by
  have h1 := h z hz
  unfold Builtin.Int.intBits at h1
  by_cases h0 : z = 0
  · subst h0; exact Nat.two_pow_pos n
  · rw [if_neg (by simpa using h0)] at h1
    have hp : z.natAbs ≠ 0 := by omega
    have : z.natAbs < 2 ^ (z.natAbs.log2 + 1) := Nat.lt_log2_self
    exact Nat.lt_of_lt_of_le this (Nat.pow_le_pow_right (by decide) h1)
theorem big_add {x y : Int} {n : Nat} (hx : x.natAbs < 2 ^ n) (hy : y.natAbs < 1000000) : (x + y).natAbs < 2 ^ (n + 21) := by
  have h1 : (2 : Nat) ^ n * 2 ^ 20 ≥ 2 ^ n := Nat.le_mul_of_pos_right _ (by decide)
  have h2 : (2 : Nat) ^ n * 2 ^ 20 ≥ 2 ^ 20 := Nat.le_mul_of_pos_left _ (Nat.two_pow_pos n)
  have h3 : (2 : Nat) ^ (n + 21) = 2 ^ n * 2 ^ 20 + 2 ^ n * 2 ^ 20 := by
    rw [Nat.pow_add, show (2 : Nat) ^ 21 = 2 ^ 20 + 2 ^ 20 by decide, Nat.mul_add]
  have h4 : (2 : Nat) ^ 20 = 1048576 := by decide
  have := Int.natAbs_add_le x y
  omega
theorem small_mul {i j : Int} (hi : i.natAbs < 2 ^ 30) (hj : j.natAbs < 2 ^ 30) : CMulX i j := mulx_ok hi hj (by decide)
theorem lt30 {i : Int} (h1 : -1000000 < i) (h2 : i < 1000000) : i.natAbs < 2 ^ 30 := by
  have : (2 : Nat) ^ 30 = 1073741824 := by decide
  omega
def primesL : List Int := [1000003, 1000033, 1000037, 1000039, 1000081, 1000099, 1000117, 1000121, 1000133, 1000151, 1000159, 1000171, 1000183, 1000187, 1000193, 1000199]
theorem primes_at {k : Int} (h : 0 ≤ k) : ∃ p : Int, atI (primesL.map V.int) (k % 16) = some (.int p) ∧ 0 < p := by
  have h1 : 0 ≤ k % 16 := Int.emod_nonneg _ (by decide)
  have h2 : k % 16 < 16 := Int.emod_lt_of_pos _ (by decide)
  have hj : (k % 16).toNat < 16 := by omega
  have all : (List.range 16).all (fun j => match primesL[j]? with | some p => decide (0 < p) | none => false) = true := by decide
  have q := List.all_eq_true.mp all _ (List.mem_range.mpr hj)
  cases e : primesL[(k % 16).toNat]? with
  | none => rw [e] at q; cases q
  | some p =>
    rw [e] at q
    exact ⟨p, at_of (j := (k % 16).toNat) (by omega) (by rw [List.getElem?_map, e]; rfl), of_decide_eq_true q⟩
def sevensL : List Int := [1, 7, 49, 343, 2401]
theorem sevens_at {k : Int} (h : 0 ≤ k) : ∃ p : Int, atI (sevensL.map V.int) (k % 5) = some (.int p) ∧ 0 < p ∧ p < 1073741824 := by
  have h1 : 0 ≤ k % 5 := Int.emod_nonneg _ (by decide)
  have h2 : k % 5 < 5 := Int.emod_lt_of_pos _ (by decide)
  have hj : (k % 5).toNat < 5 := by omega
  have all : (List.range 5).all (fun j => match sevensL[j]? with | some p => decide (0 < p ∧ p < 1073741824) | none => false) = true := by decide
  have q := List.all_eq_true.mp all _ (List.mem_range.mpr hj)
  cases e : sevensL[(k % 5).toNat]? with
  | none => rw [e] at q; cases q
  | some p =>
    rw [e] at q
    exact ⟨p, at_of (j := (k % 5).toNat) (by omega) (by rw [List.getElem?_map, e]; rfl), of_decide_eq_true q⟩
/-! promises -/
def spCellAt (K : PySem.W.Frag) : Sp := fun vs H Q _ => ∃ a ns k n, vs = [.ref a, .int k] ∧ SqL K H a (ns.map V.int) ∧ 0 ≤ k ∧ Bits n ns ∧ ∀ z : Int, z.natAbs < 2 ^ n → Q (.int z) H
def spDraw : Sp := fun vs H Q _ => ∃ (c k m : Int) (n : Nat), vs = [.int c, .int k, .int m] ∧ c.natAbs < 2 ^ n ∧ n ≤ 100000000 ∧ 0 ≤ k ∧ k < 1000 ∧ 0 < m ∧ ∀ z H', 0 ≤ z → z < m → Same H H' → Q (.int z) H'
def spNumber : Sp := fun vs H Q _ => ∃ (c k m : Int) (n : Nat), vs = [.int c, .int k, .int m] ∧ c.natAbs < 2 ^ n ∧ n ≤ 2000000 ∧ 0 ≤ k ∧ k < 1000 ∧ 0 < m ∧ ∀ z H', 0 ≤ z → z < m → Same H H' → Q (.int z) H'
def spField (K : PySem.W.Frag) : Sp := fun vs H Q _ => ∃ a ns k m n, vs = [.ref a, .int k, .int m] ∧ SqL K H a (ns.map V.int) ∧ Bits n ns ∧ n ≤ 1900000 ∧ 0 ≤ k ∧ k ≤ 100 ∧ 1 ≤ m ∧ m ≤ 5 ∧
  ∀ H' p F h w, Same H H' → H p = none → H' p = some (.lst (F.map tv)) → FieldOk F h w → (h : Int) ≤ m → (w : Int) ≤ m → Q (.ref p) H'
def spBeside (K : PySem.W.Frag) : Sp := fun vs H Q _ => ∃ u v a b, vs = [u, v] ∧ CellV K H u a ∧ CellV K H v b ∧ Q (.bl (beside a b)) H
def spCells (K : PySem.W.Frag) : Sp := fun vs H Q _ => ∃ a F h w, vs = [.ref a] ∧ FieldAt K H a F h w ∧ ∀ H' p ys, Same H H' → H p = none → H' p = some (.lst ys) → Cells K H' ys (cellsL h w) → Q (.ref p) H'
theorem range_map_rng (lo : Int) (n : Nat) {β : Type} (f : Int → β) : (List.range n).map (fun i : Nat => f (lo + (i : Int))) = (rng lo n).map f := by
  unfold rng; rw [List.map_map]; rfl
theorem cellsL_succ (h w : Nat) : cellsL (h + 1) w = cellsL h w ++ (rng 0 w).map fun p => ((h : Int), p) := by
  unfold cellsL
  rw [rng_succ, List.flatMap_append, List.flatMap_cons, List.flatMap_nil, List.append_nil, Int.zero_add]
theorem cellsL_len (h w : Nat) : (cellsL h w).length = h * w := by
  induction h with
  | zero => simp [cellsL, rng]
  | succ h ih => rw [cellsL_succ, List.length_append, ih, List.length_map, rng_length, Nat.succ_mul]
/-- four texts of letters -/
def lettL : List (List Nat) := ["ab".toList.map Char.toNat, "abc".toList.map Char.toNat, "aeinrst".toList.map Char.toNat, "abcdefghijklmnopqrstuvwxyz".toList.map Char.toNat]
theorem lett_at {z : Int} (h0 : 0 ≤ z) (h1 : z < 4) : ∃ r, atI (lettL.map tv) z = some (tv r) ∧ 1 ≤ r.length ∧ r.length ≤ 26 ∧ ∀ c ∈ r, letter c := by
  have hj : z.toNat < 4 := by omega
  have all : (List.range 4).all (fun j => match lettL[j]? with | some r => decide (1 ≤ r.length) && decide (r.length ≤ 26) && r.all letB | none => false) = true := by decide +kernel
  have q := List.all_eq_true.mp all _ (List.mem_range.mpr hj)
  cases e : lettL[z.toNat]? with
  | none => rw [e] at q; cases q
  | some r =>
    rw [e] at q
    simp only [Bool.and_eq_true, decide_eq_true_eq] at q
    exact ⟨r, at_of (j := z.toNat) (by omega) (by rw [List.getElem?_map, e]; rfl), q.1.1, q.1.2, fun c hc => letB_letter.mp (List.all_eq_true.mp q.2 c hc)⟩
end Sk
namespace Sk
open PySem PySem.Spec PyProof.Rows L2 Sn
section
variable {P : Program} {w : World} {K : PySem.W.Frag} {mg : Str → Option Value} {base : Heap}
theorem ok_law_cell_at (D : Dfn K mg "_law_cell_at" s__law_cell_at) (B : Bi mg) : Cal P w K mg base CX0 1 "_law_cell_at" ["_law_script", "_law_k"] (spCellAt K) := by
  refine D.cal sc__law_cell_at bn__law_cell_at (fun vs H Q E h => ?_) (fun f cdv A outer s H vs Q E hr h => ?_)
  · obtain ⟨a, ns, k, n, rfl, _⟩ := h
    rfl
  · obtain ⟨a, ns, k, n, rfl, hs, hk, hb, q⟩ := h
    refine ⟨_, (pss_cons (ps_if (pt_cmpR op_lt (pv 1) (pe_callB (lenSq K) (by rfl) B.len PySem.boot_len (pa_cons (pv 0) pa_nil)) (nomark _))
 (pss_one (ps_ret (pe_ix (ixL K) (pv 0) (pv 1) (fun _ _ => rfl)))) pss_nil)
 (pss_one (ps_ret pe_int))), ?_⟩
    refine ⟨.int k, rfl, .ref a, rfl, a, _, rfl, .inl hs, _, _, rfl, rfl, _, rfl, ite2 (fun e => ?_) (fun e => ?_)⟩
    · have e1 : k < ((ns.map V.int).length : Int) := of_decide_eq_true e
      rw [List.length_map] at e1
      have hj : k.toNat < ns.length := by omega
      refine ⟨.ref a, rfl, .int k, rfl, a, _, k, .int ns[k.toNat], rfl, rfl, hs, at_of (j := k.toNat) (by omega) ?_, q _ (hb _ (List.getElem_mem hj))⟩
      rw [List.getElem?_map, List.getElem?_eq_getElem hj]; rfl
    · exact q 0 (Nat.two_pow_pos n)
theorem ok_law_draw (D : Dfn K mg "_law_draw" s__law_draw) (B : Bi mg) : Cal P w K mg base CX0 1 "_law_draw" ["_law_cell", "_law_k", "_law_most"] spDraw := by
  refine D.cal sc__law_draw bn__law_draw (fun vs H Q E h => ?_) (fun f cdv A outer s H vs Q E hr h => ?_)
  · obtain ⟨c, k, m, n, rfl, _⟩ := h
    rfl
  · obtain ⟨c, k, m, n, rfl, hc, hn, hk, hk2, hm, q⟩ := h
    refine ⟨_, (pss_cons (ps_set (i := 3) sc__law_draw.nd rfl (.inl rfl) (pe_tup (pa_cons pe_int (pa_cons pe_int (pa_cons pe_int (pa_cons pe_int (pa_cons pe_int (pa_cons pe_int (pa_cons pe_int (pa_cons pe_int (pa_cons pe_int (pa_cons pe_int (pa_cons pe_int (pa_cons pe_int (pa_cons pe_int (pa_cons pe_int (pa_cons pe_int (pa_cons pe_int pa_nil))))))))))))))))))
 (pss_one (ps_ret (pe_op op_mod (pe_op op_mod (pe_op op_add (pe_op op_mulX (pv 0) pe_int) (pe_op op_mulX (pv 1) pe_int)) (pe_ix (ixT K) (pv 3) (pe_op op_mod (pv 1) pe_int) (fun _ _ => rfl))) (pv 2))))), ?_⟩
    refine ⟨by show 16 ≤ sizeLine; decide, fun p np => ?_⟩
    obtain ⟨r, hr1, hr2⟩ := primes_at hk
    refine ⟨.int c, rfl, c, 48271, rfl, rfl, mulx_ok hc (lt30 (by decide) (by decide)) (by omega), .int k, rfl, k, 69621, rfl, rfl, small_mul (lt30 (by omega) (by omega)) (lt30 (by decide) (by decide)), _, _, rfl, rfl, .ref p, rfl, .int k, rfl, k, 16, rfl, rfl, (show (0 : Int) < 16 by decide), p, _, _, _, rfl, rfl, SqT.of upd_same, hr1, _, r, rfl, rfl, hr2, .int m, rfl, _, m, rfl, rfl, hm, ?_⟩
    exact q _ _ (Int.emod_nonneg _ (by omega)) (Int.emod_lt_of_pos _ hm) (same_new np)
theorem ok_law_number (D : Dfn K mg "_law_number" s__law_number) (B : Bi mg) (c_law_draw : Cal P w K mg base CX0 1 "_law_draw" ["_law_cell", "_law_k", "_law_most"] spDraw) : Cal P w K mg base CX0 2 "_law_number" ["_law_cell", "_law_k", "_law_limit"] spNumber := by
  refine D.cal sc__law_number bn__law_number (fun vs H Q E h => ?_) (fun f cdv A outer s H vs Q E hr h => ?_)
  · obtain ⟨c, k, m, n, rfl, _⟩ := h
    rfl
  · obtain ⟨c, k, m, n, rfl, hc, hn, hk, hk2, hm, q⟩ := h
    refine ⟨_, (pss_cons (ps_if (pt_cmpR op_ge (pv 0) (pe_op op_pow pe_int pe_int) (nomark _))
 (pss_one (ps_ret (pe_op op_mod (pe_op op_fdiv (pe_op op_sub (pv 0) (pe_op op_pow pe_int pe_int)) (pe_ix (ixT K) (pe_tup (pa_cons pe_int (pa_cons pe_int (pa_cons pe_int (pa_cons pe_int (pa_cons pe_int pa_nil)))))) (pe_op op_mod (pv 1) pe_int) (fun _ _ => rfl))) (pv 2)))) pss_nil)
 (pss_one (ps_ret (pe_op op_mod (pcall c_law_draw (hr.mono (by decide)) (by rfl) pass0 (pa_cons (pe_op op_mulX (pe_op op_add (pv 0) (pe_op op_mulX pe_int (pv 1))) (pe_op op_add (pe_op op_add (pv 0) (pe_op op_mulX pe_int (pv 1))) pe_int)) (pa_cons (pe_op op_add (pe_op op_mod (pv 1) pe_int) pe_int) (pa_cons pe_int pa_nil)))) (pv 2))))), ?_⟩
    refine ⟨.int c, rfl, 10, 18, rfl, rfl, ⟨by decide, by decide, by decide⟩, _, _, rfl, rfl, _, rfl, ite2 (fun e => ?_) (fun e => ?_)⟩
    · obtain ⟨r, hr1, hr2, hr3⟩ := sevens_at hk
      refine ⟨.int c, rfl, 10, 18, rfl, rfl, ⟨by decide, by decide, by decide⟩, _, _, rfl, rfl, by show 5 ≤ sizeLine; decide, fun p np => ?_⟩
      refine ⟨.int k, rfl, k, 5, rfl, rfl, (show (0 : Int) < 5 by decide), p, _, _, _, rfl, rfl, SqT.of upd_same, hr1, _, r, rfl, rfl, ⟨hr2, hr3⟩, .int m, rfl, _, m, rfl, rfl, hm, ?_⟩
      exact q _ _ (Int.emod_nonneg _ (by omega)) (Int.emod_lt_of_pos _ hm) (same_new np)
    · have k9 : 0 ≤ k % 9 := Int.emod_nonneg _ (by decide)
      have k99 : k % 9 < 9 := Int.emod_lt_of_pos _ (by decide)
      have b1 : (c + 977 * k).natAbs < 2 ^ (n + 21) := big_add hc (by omega)
      have b2 : (c + 31 * k + 5).natAbs < 2 ^ (n + 21 + 21) := big_add (big_add hc (by omega)) (by omega)
      refine ⟨.int c, rfl, .int k, rfl, 977, k, rfl, rfl, small_mul (lt30 (by decide) (by decide)) (lt30 (by omega) (by omega)), _, _, rfl, rfl, .int c, rfl, .int k, rfl, 31, k, rfl, rfl, small_mul (lt30 (by decide) (by decide)) (lt30 (by omega) (by omega)), _, _, rfl, rfl, _, 5, rfl, rfl, _, _, rfl, rfl, mulx_ok b1 b2 (by omega),
        .int k, rfl, k, 9, rfl, rfl, (show (0 : Int) < 9 by decide), _, 1, rfl, rfl, ?_⟩
      refine ⟨_, _, _, n + 21 + (n + 21 + 21), rfl, wide_lt b1 b2, by omega, by omega, by omega, by decide, fun z H1 z0 z1 s1 => ?_⟩
      exact ⟨.int m, rfl, z, m, rfl, rfl, hm, q _ _ (Int.emod_nonneg _ (by omega)) (Int.emod_lt_of_pos _ hm) s1⟩
theorem ok_law_beside (D : Dfn K mg "_law_beside" s__law_beside) (B : Bi mg) : Cal P w K mg base CX0 1 "_law_beside" ["_law_one", "_law_other"] (spBeside K) := by
  refine D.cal sc__law_beside bn__law_beside (fun vs H Q E h => ?_) (fun f cdv A outer s H vs Q E hr h => ?_)
  · obtain ⟨u, v, a, b, rfl, _⟩ := h
    rfl
  · obtain ⟨u, v, a, b, rfl, hu, hv, q⟩ := h
    refine ⟨_, (pss_one (ps_ret (pe_and (pe_cmpR (neDK K hr.units) (pv 0) (pv 1) (nomark _)) (pe_and (pe_cmpR op_lt (pe_callB call_abs (by rfl) B.abs (by decide +kernel) (pa_cons (pe_op op_sub (pe_ix (ixT K) (pv 0) pe_int (fun _ _ => rfl)) (pe_ix (ixT K) (pv 1) pe_int (fun _ _ => rfl))) pa_nil)) pe_int (nomark _)) (pe_one (pe_cmpR op_lt (pe_callB call_abs (by rfl) B.abs (by decide +kernel) (pa_cons (pe_op op_sub (pe_ix (ixT K) (pv 0) pe_int (fun _ _ => rfl)) (pe_ix (ixT K) (pv 1) pe_int (fun _ _ => rfl))) pa_nil)) pe_int (nomark _))))))), ?_⟩
    refine ⟨u, rfl, v, rfl, _, _, hu.dp, hv.dp, (shp_cell _).ok, (shp_cell _).ok, _, rfl, ?_⟩
    obtain ⟨t, rfl, ht⟩ := hu
    obtain ⟨t2, rfl, ht2⟩ := hv
    rw [eqv_cell]
    unfold beside at q
    cases e : (!decide (a = b)) with
    | false =>
      rw [e] at q
      exact iteF q
    | true =>
      rw [e] at q
      refine iteT ⟨.ref t, rfl, t, _, 0, .int a.1, rfl, rfl, ht, atI_nat (j := 0) rfl, .ref t2, rfl, t2, _, 0, .int b.1, rfl, rfl, ht2, atI_nat (j := 0) rfl, _, _, rfl, rfl, _, rfl, _, 2, rfl, rfl, _, rfl, ?_⟩
      have q2 : Q (.bl (decide (iabs (a.1 - b.1) < 2) && decide (iabs (a.2 - b.2) < 2))) H := by simpa using q
      cases e2 : decide (iabs (a.1 - b.1) < 2) with
      | false =>
        rw [e2] at q2
        rw [show decide ((if a.1 - b.1 < 0 then -(a.1 - b.1) else a.1 - b.1) < 2) = false from e2]
        exact iteF q2
      | true =>
        rw [e2, Bool.true_and] at q2
        rw [show decide ((if a.1 - b.1 < 0 then -(a.1 - b.1) else a.1 - b.1) < 2) = true from e2]
        exact iteT ⟨.ref t, rfl, t, _, 1, .int a.2, rfl, rfl, ht, atI_nat (j := 1) rfl, .ref t2, rfl, t2, _, 1, .int b.2, rfl, rfl, ht2, atI_nat (j := 1) rfl, _, _, rfl, rfl, _, rfl, _, 2, rfl, rfl, q2⟩
theorem ok_law_cells (D : Dfn K mg "_law_cells" s__law_cells) (B : Bi mg) : Cal P w K mg base CX0 1 "_law_cells" ["_law_field_here"] (spCells K) := by
  refine D.cal sc__law_cells bn__law_cells (fun vs H Q E h => ?_) (fun f cdv A outer s H vs Q E hr h => ?_)
  · obtain ⟨a, F, h, w, rfl, _⟩ := h
    rfl
  · obtain ⟨a, F, h, w, rfl, o, q⟩ := h
    refine ⟨_, (pss_cons (ps_set (i := 1) sc__law_cells.nd rfl (.inl rfl) (pe_lst pa_nil))
 (pss_cons (ps_for PassesOwn.never rfl (pi_range1 (by rfl) B.range (pa_cons (pe_callB (lenSq K) (by rfl) B.len PySem.boot_len (pa_cons (pv 0) pa_nil)) pa_nil)) (pg_name (i := 2) sc__law_cells.nd rfl (.inr rfl))
 (pss_one (ps_expr (pe_bm PySem.F.plainAttrs_list PySem.F.slot_list_extend PySem.F.type_list_extend mt_extend (pv 1) (pa_cons (pe_lc (own := [("_law_place", 3)]) (g := gName 3) (tt := tYes) (by rfl) sc__law_cells.nd (pi_range1 (by rfl) B.range (pa_cons (pe_callB call_len_str (by rfl) B.len PySem.boot_len (pa_cons (pe_ix (ixL K) (pv 0) pe_int (fun _ _ => rfl)) pa_nil)) pa_nil)) (blkOk_by (own := [("_law_place", 3)]) (N := ["_law_field_here", "_law_found", "_law_row", "_law_place"]) (sc := defScope s__law_cells) (by decide +kernel)) (fun _ _ _ _ _ => (pg_name (i := 3) sc__law_cells.nd rfl (Or.inl rfl))) (fun _ _ _ _ _ => pts_nil) (fun _ _ _ _ _ => (pe_tup (pa_cons (pv 2) (pa_cons (pv 3) pa_nil))))) pa_nil)))))
 (pss_one (ps_ret (pv 1))))), ?_⟩
    have h5 := o.2.h5
    have w5 := o.2.w5
    refine ⟨Nat.zero_le _, fun p np => ?_⟩
    have s1 : Same H (upd H p (.lst [])) := same_new np
    have o1 := o.same s1
    refine ⟨.ref a, rfl, a, _, rfl, .inl o1.1, (h : Int), by rw [o.len_map], by omega, by omega, ?_⟩
    rw [Int.toNat_natCast]
    refine for_it walk_range (fun i σ H' => i ≤ h ∧ ∃ y2 ys, σ = [some (.ref a), some (.ref p), y2, none] ∧ Same H H' ∧ H' p = some (.lst ys) ∧ Cells K H' ys (cellsL i w))
      ⟨Nat.zero_le _, none, [], rfl, s1, upd_same, .nil⟩ (fun _ _ _ _ _ => trivial) (fun i x σ H1 H2 hi pv y => ?_) fun σ H1 pv => ?_
    · obtain ⟨rfl, rfl⟩ := y
      obtain ⟨_, y2, ys, rfl, sm, hp, hy⟩ := pv
      have o2 := o.same sm
      have lys : ys.length ≤ 1000 := by rw [hy.length, cellsL_len]; exact Nat.le_trans (Nat.mul_le_mul (by omega : i ≤ 5) w5) (by decide)
      refine ⟨.ref p, rfl, .inl ⟨rfl, _, SqL.of hp⟩, .ref a, rfl, a, _, 0, _, rfl, rfl, o2.1, o.row0, tx (F.getD 0 []), rfl, by rw [o.len0]; exact o.w_line, (w : Int), by rw [o.len0], by omega, by omega, ?_⟩
      rw [Int.toNat_natCast]
      refine lc_cel (K := K) walk_range o.w_line (fun _ => true) (fun j => ((i : Int), (j : Int))) (fun _ _ => trivial) (fun D' j x H3 H4 Qe Qn nD hj sm3 hy3 y qe _ => ?_) fun D' zs H3 nD sm3 hD hz => ?_
      · obtain ⟨rfl, rfl⟩ := y
        refine ⟨rfl, .int (0 + i), rfl, .int (0 + j), rfl, by show 2 ≤ sizeLine; decide, fun T nT => ?_⟩
        refine qe (.ref T) _ rfl (same_new nT) ⟨T, rfl, ?_⟩
        rw [Int.zero_add, Int.zero_add]
        exact SqT.of upd_same
      · have hp3 := sm3 _ _ hp
        have ez : zs.length ≤ 1000 := by
          rw [hz.length, List.length_map]
          refine Nat.le_trans (List.length_filter_le _ _) ?_
          rw [List.length_range]; omega
        refine ⟨p, D', ys, zs, rfl, rfl, hp3, hD, small_line (by omega), ?_⟩
        refine ⟨hi, _, _, rfl, same_upd (sm.trans sm3) np, upd_same, ?_⟩
        rw [cellsL_succ]
        have le1 : TupLe H3 (upd H3 p (.lst (ys ++ zs))) := TupLe.upd hp3 (TupLe.refl _)
        refine Paired.app ((hy.le (TupLe.of sm3)).le le1) ?_
        rw [List.filter_eq_self.mpr (fun _ _ => rfl)] at hz
        have e := range_map_rng 0 w (fun p : Int => ((i : Int), p))
        simp only [Int.zero_add] at e
        rw [e] at hz
        exact hz.le le1
    · obtain ⟨_, y2, ys, rfl, sm, hp, hy⟩ := pv
      exact ⟨.ref p, rfl, q H1 p ys sm np hp hy⟩
end
end Sk
namespace Sk
open PySem PySem.Spec PyProof.Rows L2 Sn
section
variable {P : Program} {w : World} {K : PySem.W.Frag} {mg : Str → Option Value} {base : Heap}
theorem ok_law_field (D : Dfn K mg "_law_field" s__law_field) (B : Bi mg) (c_law_cell_at : Cal P w K mg base CX0 1 "_law_cell_at" ["_law_script", "_law_k"] (spCellAt K))
    (c_law_number : Cal P w K mg base CX0 2 "_law_number" ["_law_cell", "_law_k", "_law_limit"] spNumber) : Cal P w K mg base CX0 3 "_law_field" ["_law_script", "_law_by", "_law_most"] (spField K) := by
  refine D.cal sc__law_field bn__law_field (fun vs H Q E h => ?_) (fun f cdv A outer s H vs Q E hr h => ?_)
  · obtain ⟨a, ns, k, m, n, rfl, _⟩ := h
    rfl
  · obtain ⟨a, ns, k, m, n, rfl, hs, hb, hn, hk, hk2, hm, hm5, q⟩ := h
    refine ⟨_, (pss_cons (ps_set (i := 3) sc__law_field.nd rfl (.inl rfl) (pcall c_law_cell_at (hr.mono (by decide)) (by rfl) pass0 (pa_cons (pv 0) (pa_cons (pv 1) pa_nil))))
 (pss_cons (ps_par (i := 4) (j := 5) (by rfl) sc__law_field.nd rfl rfl (by decide) rfl rfl (pa_cons (pe_op op_add pe_int (pcall c_law_number (hr.mono (by decide)) (by rfl) pass0 (pa_cons (pv 3) (pa_cons (pe_op op_add (pv 1) pe_int) (pa_cons (pv 2) pa_nil))))) (pa_cons (pe_op op_add pe_int (pcall c_law_number (hr.mono (by decide)) (by rfl) pass0 (pa_cons (pv 3) (pa_cons (pe_op op_add (pv 1) pe_int) (pa_cons (pv 2) pa_nil))))) pa_nil)) (by rfl))
 (pss_cons (ps_set (i := 6) sc__law_field.nd rfl (.inl rfl) (pe_ix (ixT K) (pe_tup (pa_cons pe_str (pa_cons pe_str (pa_cons pe_str (pa_cons pe_str pa_nil))))) (pcall c_law_number (hr.mono (by decide)) (by rfl) pass0 (pa_cons (pv 3) (pa_cons (pe_op op_add (pv 1) pe_int) (pa_cons pe_int pa_nil)))) (fun _ _ => rfl)))
 (pss_cons (ps_set (i := 7) sc__law_field.nd rfl (.inl rfl) (pe_lst pa_nil))
 (pss_cons (ps_for PassesOwn.never rfl (pi_range1 (by rfl) B.range (pa_cons (pv 4) pa_nil)) (pg_name (i := 8) sc__law_field.nd rfl (.inl rfl))
 (pss_cons (ps_set (i := 9) sc__law_field.nd rfl (.inl rfl) pe_str)
 (pss_cons (ps_for PassesOwn.never rfl (pi_range1 (by rfl) B.range (pa_cons (pv 5) pa_nil)) (pg_name (i := 10) sc__law_field.nd rfl (.inl rfl))
 (pss_cons (ps_set (i := 11) sc__law_field.nd rfl (.inl rfl) (pe_op op_add (pe_op op_mulX (pv 8) (pv 5)) (pv 10)))
 (pss_one (ps_set (i := 9) sc__law_field.nd rfl (.inl rfl) (pe_op op_add_str (pv 9) (pe_ix ix_str (pv 6) (pcall c_law_number (hr.mono (by decide)) (by rfl) pass0 (pa_cons (pe_op op_add (pcall c_law_cell_at (hr.mono (by decide)) (by rfl) pass0 (pa_cons (pv 0) (pa_cons (pe_op op_add (pv 1) (pv 11)) pa_nil))) (pe_op op_mulX pe_int (pv 11))) (pa_cons (pe_op op_add (pv 11) (pv 1)) (pa_cons (pe_callB call_len_str (by rfl) B.len PySem.boot_len (pa_cons (pv 6) pa_nil)) pa_nil)))) (fun _ _ => rfl)))))))
 (pss_one (ps_expr (pe_bm PySem.F.plainAttrs_list PySem.F.slot_list_append PySem.F.type_list_append mt_append (pv 7) (pa_cons (pv 9) pa_nil)))))))
 (pss_one (ps_ret (pv 7)))))))), ?_⟩
    refine ⟨.ref a, rfl, .int k, rfl, a, ns, k, n, rfl, hs, hk, hb, fun z hz => ?_⟩
    -- high, wide
    refine ⟨.int z, rfl, .int k, rfl, k, 1, rfl, rfl, .int m, rfl, z, k + 1, m, n, rfl, hz, by omega, by omega, by omega, by omega, fun z1 H1 a1 b1 s1 => ?_⟩
    refine ⟨1, z1, rfl, rfl, .int z, rfl, .int k, rfl, k, 2, rfl, rfl, .int m, rfl, z, k + 2, m, n, rfl, hz, by omega, by omega, by omega, by omega, fun z2 H2 a2 b2 s2 => ?_⟩
    refine ⟨1, z2, rfl, rfl, _, _, rfl, ?_⟩
    -- letters
    refine ⟨by show 4 ≤ sizeLine; decide, fun T nT => ?_⟩
    refine ⟨.int z, rfl, .int k, rfl, k, 3, rfl, rfl, z, k + 3, 4, n, rfl, hz, by omega, by omega, by omega, by decide, fun z3 H3 a3 b3 s3 => ?_⟩
    obtain ⟨lr, hl1, hl2, hl3, hl4⟩ := lett_at a3 b3
    refine ⟨T, lettL.map tv, z3, tv lr, rfl, rfl, Same.sqt s3 (SqT.of upd_same), hl1, ?_⟩
    have sH3 : Same H H3 := (s1.trans s2).trans ((same_new nT).trans s3)
    -- found = []
    refine ⟨Nat.zero_le _, fun p np => ?_⟩
    have npH : H p = none := sH3.free np
    obtain ⟨h, eh⟩ : ∃ h : Nat, 1 + z1 = (h : Int) := ⟨(1 + z1).toNat, by omega⟩
    obtain ⟨w, ew⟩ : ∃ w : Nat, 1 + z2 = (w : Int) := ⟨(1 + z2).toNat, by omega⟩
    refine ⟨.int (1 + z1), rfl, 1 + z1, rfl, by omega, by omega, ?_⟩
    rw [show (1 + z1).toNat = h by omega]
    refine for_it walk_range (fun i σ H' => i ≤ h ∧ ∃ y8 y9 y10 y11 F, σ = [some (.ref a), some (.int k), some (.int m), some (.int z), some (.int (1 + z1)), some (.int (1 + z2)), some (tv lr), some (.ref p), y8, y9, y10, y11] ∧ Same H H' ∧ H' p = some (.lst (F.map tv)) ∧ F.length = i ∧ ∀ r ∈ F, r.length = w ∧ ∀ c ∈ r, letter c)
      ⟨Nat.zero_le _, none, none, none, none, [], rfl, same_upd sH3 npH, upd_same, rfl, fun _ h => nomatch h⟩ (fun _ _ _ _ _ => trivial) (fun i x σ H4 H5 hi pv y => ?_) fun σ H4 pv => ?_
    · obtain ⟨rfl, rfl⟩ := y
      obtain ⟨hih, y8, y9, y10, y11, F, rfl, sm, hp, hF, hF2⟩ := pv
      refine ⟨.int (1 + z2), rfl, 1 + z2, rfl, by omega, by omega, ?_⟩
      rw [show (1 + z2).toNat = w by omega]
      refine for_it walk_range (fun j σ H' => j ≤ w ∧ ∃ y10 y11 r, σ = [some (.ref a), some (.int k), some (.int m), some (.int z), some (.int (1 + z1)), some (.int (1 + z2)), some (tv lr), some (.ref p), some (.int (0 + i)), some (tv r), y10, y11] ∧ Same H H' ∧ H' p = some (.lst (F.map tv)) ∧ r.length = j ∧ ∀ c ∈ r, letter c)
        ⟨Nat.zero_le _, y10, y11, [], rfl, sm, hp, rfl, fun _ h => nomatch h⟩ (fun _ _ _ _ _ => trivial) (fun j x σ H6 H7 hj pv y => ?_) fun σ H6 pv => ?_
      · obtain ⟨rfl, rfl⟩ := y
        obtain ⟨hjw, y10, y11, r, rfl, sm6, hp6, hr1, hr2⟩ := pv
        have hiw : (0 + (i : Int)) * (1 + z2) ≤ 5 * 5 := Int.mul_le_mul (by omega) (by omega) (by omega) (by omega)
        have hiw0 : 0 ≤ (0 + (i : Int)) * (1 + z2) := Int.mul_nonneg (by omega) (by omega)
        refine ⟨.int (0 + i), rfl, .int (1 + z2), rfl, _, _, rfl, rfl, small_mul (lt30 (by omega) (by omega)) (lt30 (by omega) (by omega)), .int (0 + j), rfl, _, _, rfl, rfl, ?_⟩
        refine ⟨tv r, rfl, tv lr, rfl, .ref a, rfl, .int k, rfl, .int ((0 + (i : Int)) * (1 + z2) + (0 + (j : Int))), rfl, k, ((0 + (i : Int)) * (1 + z2) + (0 + (j : Int))), rfl, rfl, a, ns, k + ((0 + (i : Int)) * (1 + z2) + (0 + (j : Int))), n, rfl, sm6.seq hs, by omega, hb, fun zc hzc => ?_⟩
        refine ⟨.int ((0 + (i : Int)) * (1 + z2) + (0 + (j : Int))), rfl, 31, ((0 + (i : Int)) * (1 + z2) + (0 + (j : Int))), rfl, rfl, small_mul (lt30 (by decide) (by decide)) (lt30 (by omega) (by omega)), zc, 31 * ((0 + (i : Int)) * (1 + z2) + (0 + (j : Int))), rfl, rfl, .int ((0 + (i : Int)) * (1 + z2) + (0 + (j : Int))), rfl, .int k, rfl, ((0 + (i : Int)) * (1 + z2) + (0 + (j : Int))), k, rfl, rfl, tv lr, rfl, tx lr, rfl, by rw [tx_len]; exact small_line (by omega), ?_⟩
        refine ⟨zc + 31 * ((0 + (i : Int)) * (1 + z2) + (0 + (j : Int))), ((0 + (i : Int)) * (1 + z2) + (0 + (j : Int))) + k, _, n + 21, rfl, big_add hzc (by omega), by omega, by omega, by omega, by rw [tx_len]; omega, fun z4 H8 a4 b4 s8 => ?_⟩
        rw [tx_len] at b4
        have hz4 : z4.toNat < lr.length := by omega
        refine ⟨tx lr, z4, lr[z4.toNat], rfl, rfl, by rw [tx_len]; exact small_line (by omega), by rw [tx_cps]; exact atN_of (j := z4.toNat) (by omega) (List.getElem?_eq_getElem hz4), tx r, tx [lr[z4.toNat]], rfl, rfl, ?_, ?_⟩
        · rw [tx_len, tx_len]; exact small_line (by show r.length + 1 ≤ _; omega)
        · refine ⟨hj, some (.int (0 + j)), some (.int ((0 + (i : Int)) * (1 + z2) + (0 + (j : Int)))), r ++ [lr[z4.toNat]], by rw [tx_app]; rfl, sm6.trans s8, s8 _ _ hp6, by rw [List.length_append, hr1]; rfl, fun c hc => ?_⟩
          rcases List.mem_append.mp hc with hc | hc
          · exact hr2 c hc
          · rw [List.mem_singleton.mp hc]; exact hl4 _ (List.getElem_mem hz4)
      · obtain ⟨_, y10, y11, r, rfl, sm6, hp6, hr1, hr2⟩ := pv
        refine ⟨.ref p, rfl, .inl ⟨rfl, _, SqL.of hp6⟩, tv r, rfl, p, _, tv r, rfl, rfl, hp6, ?_, ?_⟩
        · rw [List.length_map, hF]; exact small1000 (by omega)
        · refine ⟨hi, _, _, _, _, F ++ [r], rfl, same_upd sm6 npH, ?_, by rw [List.length_append, hF]; rfl, fun r2 hr => ?_⟩
          · rw [upd_same, List.map_append]; rfl
          · rcases List.mem_append.mp hr with hr | hr
            · exact hF2 r2 hr
            · rw [List.mem_singleton.mp hr]; exact ⟨hr1, hr2⟩
    · obtain ⟨_, y8, y9, y10, y11, F, rfl, sm, hp, hF, hF2⟩ := pv
      exact ⟨.ref p, rfl, q H4 p F h w sm npH hp ⟨hF, by omega, by omega, by omega, by omega, fun r hr => (hF2 r hr).1, fun r hr => (hF2 r hr).2⟩ (by omega) (by omega)⟩
end
end Sk
/-! Readings of written lists; the laws' outer loop. -/
namespace Sk
open PySem PySem.Spec PyProof.Rows L2 Sn
/-! ### written data -/
def tLit (K : PySem.W.Frag) (d : PyData) : TE := fun _ H Q => ∀ v H', Same H H' → Dp K H' v d → Q v H'
def tLits (K : PySem.W.Frag) (ds : List PyData) : TA := fun _ H Q => ∀ vs H', Same H H' → DpAll K H' vs ds → Q vs H'
theorem DpAll.len {K : PySem.W.Frag} {H : Hp} : ∀ {vs : List V} {ds : List PyData}, DpAll K H vs ds → vs.length = ds.length
  | _, _, .nil => rfl
  | _, _, .cons _ t => by rw [List.length_cons, List.length_cons, DpAll.len t]
section
variable {X : Cx} {e : Expr} {es : List Expr} {pos : Pos} {d : PyData} {ds : List PyData}
theorem PE.weak {t t' : TE} (h : PE X e t) (hw : ∀ σ H Q, t' σ H Q → t σ H Q) : PE X e t' := ⟨fun pins s σ H Q I q => h.run pins s σ H Q I (hw σ H Q q)⟩
theorem PA.weak {t t' : TA} (h : PA X es t) (hw : ∀ σ H Q, t' σ H Q → t σ H Q) : PA X es t' := ⟨fun pos pins s σ H Q I q => h.run pos pins s σ H Q I (hw σ H Q q)⟩
theorem lit_int (K : PySem.W.Frag) {i : Int} {j} : PE X (.Constant (.int i) j pos) (tLit K (.int i)) := PE.weak pe_int fun _ H Q q => q _ _ (Same.refl _) (.int i)
theorem lit_neg (K : PySem.W.Frag) {i : Int} {j} {p : Pos} : PE X (.UnaryOp .USub (.Constant (.int i) j p) pos) (tLit K (.int (-i))) := PE.weak (pe_un un_neg pe_int) fun _ H Q q => ⟨i, rfl, q _ _ (Same.refl _) (.int _)⟩
theorem lit_str (K : PySem.W.Frag) {x : Str} {j} : PE X (.Constant (.str x) j pos) (tLit K (.str x)) := PE.weak pe_str fun _ H Q q => q _ _ (Same.refl _) (.str x)
theorem lit_bl (K : PySem.W.Frag) {b : Bool} {j} : PE X (.Constant (.bool b) j pos) (tLit K (.bool b)) := PE.weak pe_bl fun _ H Q q => q _ _ (Same.refl _) (.bl b)
theorem lit_non (K : PySem.W.Frag) {j} : PE X (.Constant .none j pos) (tLit K .none) := PE.weak pe_non fun _ H Q q => q _ _ (Same.refl _) .non
theorem lits_nil (K : PySem.W.Frag) : PA X [] (tLits K []) := PA.weak pa_nil fun _ H Q q => q _ _ (Same.refl _) .nil
theorem lits_cons (K : PySem.W.Frag) (h : PE X e (tLit K d)) (t : PA X es (tLits K ds)) (hs : starEach (e :: es) X.env = (false, eval e X.env) :: starEach es X.env := by rfl) : PA X (e :: es) (tLits K (d :: ds)) :=
  PA.weak (pa_cons h t hs) fun σ H Q q v H1 s1 d1 vs H2 s2 d2 => q (v :: vs) H2 (s1.trans s2) (.cons (Dp.same s2 d v d1) d2)
theorem lit_list (K : PySem.W.Frag) (h : PA X es (tLits K ds)) (hl : ds.length ≤ 1000 := by decide) : PE X (.List es pos) (tLit K (.list ds)) :=
  PE.weak (pe_lst h) fun σ H Q q vs H1 s1 d1 => ⟨by rw [DpAll.len d1]; exact small_line (by omega), fun p np => q _ _ (s1.trans (same_new np)) (.lst (SqL.of upd_same) (DpAll.same (same_new np) ds vs d1))⟩
theorem lit_tup (K : PySem.W.Frag) {c} (h : PA X es (tLits K ds)) (hl : ds.length ≤ 1000 := by decide) : PE X (.Tuple es c pos) (tLit K (.tuple ds)) :=
  PE.weak (pe_tup h) fun σ H Q q vs H1 s1 d1 => ⟨by rw [DpAll.len d1]; exact small_line (by omega), fun p np => q _ _ (s1.trans (same_new np)) (.tup (SqT.of upd_same) (DpAll.same (same_new np) ds vs d1))⟩
end
section
variable {K : PySem.W.Frag} {H : Hp}
theorem dp_cell {v : V} {r p : Int} (h : Dp K H v (.tuple [.int r, .int p])) : CellV K H v (r, p) := by
  cases h with
  | tup q t =>
    cases t with
    | cons a t =>
      cases t with
      | cons b t =>
        cases t
        cases a
        cases b
        exact ⟨_, rfl, q⟩
theorem dp_texts_all : ∀ {F : List (List Nat)} {vs : List V}, DpAll K H vs (F.map textD) → vs = F.map tv
  | [], _, h => by cases h; rfl
  | r :: F, _, h => by
    cases h with
    | cons a t =>
      cases a
      rw [dp_texts_all t]
      rfl
theorem dp_texts {v : V} {F : List (List Nat)} (h : Dp K H v (textsD F)) : ∃ a, v = .ref a ∧ SqL K H a (F.map tv) := by
  cases h with
  | lst q t => exact ⟨_, rfl, by rw [← dp_texts_all t]; exact q⟩
theorem dp_cells_all : ∀ {cs : List Cel} {vs : List V}, DpAll K H vs (cs.map cellD) → Cells K H vs cs
  | [], _, h => by cases h; exact .nil
  | c :: cs, _, h => by
    cases h with
    | cons a t => exact .cons (dp_cell a) (dp_cells_all t)
theorem dp_cells {v : V} {cs : List Cel} (h : Dp K H v (cellsD cs)) : ∃ a xs, v = .ref a ∧ SqL K H a xs ∧ Cells K H xs cs := by
  cases h with
  | lst q t => exact ⟨_, _, rfl, q, dp_cells_all t⟩
end
def fieldB (F : List (List Nat)) (h w : Nat) : Bool := decide (F.length = h) && decide (1 ≤ h) && decide (h ≤ 5) && decide (1 ≤ w) && decide (w ≤ 5) && F.all fun r => decide (r.length = w) && r.all letB
theorem fieldB_ok {F : List (List Nat)} {h w : Nat} (e : fieldB F h w = true) : FieldOk F h w := by
  unfold fieldB at e
  simp only [Bool.and_eq_true, decide_eq_true_eq, List.all_eq_true] at e
  obtain ⟨⟨⟨⟨⟨e1, e2⟩, e3⟩, e4⟩, e5⟩, e6⟩ := e
  exact ⟨e1, e2, e3, e4, e5, fun r hr => (e6 r hr).1, fun r hr c hc => letB_letter.mp ((e6 r hr).2 c hc)⟩
/-- range(0, max(1, min(8, n)), 4) -/
theorem range4 {j : Int} (h1 : 1 ≤ j) (h8 : j ≤ 8) : ∃ n : Nat, n ≤ 2 ∧ RgC 0 j 4 n := by
  have : j = 1 ∨ j = 2 ∨ j = 3 ∨ j = 4 ∨ j = 5 ∨ j = 6 ∨ j = 7 ∨ j = 8 := by omega
  rcases this with rfl | rfl | rfl | rfl | rfl | rfl | rfl | rfl
  · exact ⟨1, by decide, by decide, by decide, by decide, by decide⟩
  · exact ⟨1, by decide, by decide, by decide, by decide, by decide⟩
  · exact ⟨1, by decide, by decide, by decide, by decide, by decide⟩
  · exact ⟨1, by decide, by decide, by decide, by decide, by decide⟩
  · exact ⟨2, by decide, by decide, by decide, by decide, by decide⟩
  · exact ⟨2, by decide, by decide, by decide, by decide, by decide⟩
  · exact ⟨2, by decide, by decide, by decide, by decide, by decide⟩
  · exact ⟨2, by decide, by decide, by decide, by decide, by decide⟩
def top8 (n : Nat) : Int := if (if (n : Int) < 8 then (n : Int) else 8) > 1 then (if (n : Int) < 8 then (n : Int) else 8) else 1
theorem top8_bd (n : Nat) : 1 ≤ top8 n ∧ top8 n ≤ 8 := by
  unfold top8
  constructor <;> split <;> split <;> omega
/-- xs[:-1] of a list with one more -/
theorem cut_last (xs : List V) (x : V) : cutV (xs ++ [x]) none (some (-1)) = xs := by
  have e : HT.sIx (xs ++ [x]).length (xs ++ [x]).length (some (-1)) = xs.length := by
    rw [List.length_append]
    unfold HT.sIx
    simp only [List.length_cons, List.length_nil]
    split <;> omega
  unfold cutV
  rw [e, HT.sIx_none, List.drop_zero, Nat.sub_zero, List.take_left']
  rfl
/-- the i-th of n cells -/
theorem range_filter_get {α : Type} (l : List α) (d : α) (p : α → Bool) : ((List.range l.length).filter fun i => p (l.getD i d)).map (fun i => l.getD i d) = l.filter p := by
  have e : l = (List.range l.length).map fun i => l.getD i d := by
    have := range_map_get id l (fun i => l.getD i d) (fun i x hx => getD_of hx)
    rw [this, List.map_id]
  conv => rhs; rw [e]
  rw [List.filter_map]
  rfl
end Sk
namespace Sk
open PySem PySem.Spec PyProof.Rows L2 Sn
def spLaw (K : PySem.W.Frag) : Sp := fun vs H Q _ => ∃ a ns n, vs = [.ref a] ∧ SqL K H a (ns.map V.int) ∧ Bits n ns ∧ n ≤ 1900000 ∧ ns.length ≤ 63 ∧ ∀ H', Q (.bl true) H'
theorem cell_small {h w : Nat} (h5 : h ≤ 5) (w5 : w ≤ 5) {c : Cel} (hc : c ∈ cellsL h w) : (0 ≤ c.1 ∧ c.1 < 10) ∧ (0 ≤ c.2 ∧ c.2 < 10) := by
  have := mem_cellsL.mp hc
  omega
theorem canLay_mix : (PyData.list [cellsD [(0, 0), (0, 1), (1, 0)], textsD [[101, 97], [102, 98]], textsD [[98, 97], [102, 101]]]).canLay0 = true := by decide +kernel
theorem get_getD {r : List Nat} {j : Nat} (hj : j < r.length) : r[j]? = some (r.getD j 0) := by
  rw [getD_of (List.getElem?_eq_getElem hj)]; exact List.getElem?_eq_getElem hj
/-- a text's place from its end -/
theorem at_back {r : List Nat} {j : Nat} {c : Nat} (hj : j < r.length) (h : r[j]? = some c) : atI r.reverse (-1 - (j : Int)) = some c := by
  unfold atI ixN
  rw [if_neg (by omega), if_pos (by rw [List.length_reverse]; omega)]
  show r.reverse[(-1 - (j : Int) + (r.reverse.length : Int)).toNat]? = some c
  have e : (-1 - (j : Int) + (r.reverse.length : Int)).toNat = r.length - 1 - j := by rw [List.length_reverse]; omega
  rw [e, List.getElem?_reverse (by omega)]
  have e2 : r.length - 1 - (r.length - 1 - j) = j := by omega
  rw [e2]
  exact h
section
variable {P : Program} {w : World} {K : PySem.W.Frag} {mg : Str → Option Value} {base : Heap}
theorem ok_law (D : Dfn K mg "law" s_law) (B : Bi mg)
    (c_law_field : Cal P w K mg base CX0 3 "_law_field" ["_law_script", "_law_by", "_law_most"] (spField K))
    (c_law_cells : Cal P w K mg base CX0 1 "_law_cells" ["_law_field_here"] (spCells K))
    (c_law_beside : Cal P w K mg base CX0 1 "_law_beside" ["_law_one", "_law_other"] (spBeside K))
    (c_near : Cal P w K mg base CX0 3 "near" ["field", "cell"] (spNear K))
    (c_turned : Cal P w K mg base CX0 3 "turned" ["field"] (spTurned K))
    (c_mirrored : Cal P w K mg base CX0 3 "mirrored" ["field"] (spMirrored K)) : CalG P w K mg base CX0 4 "law" ["_law_script"] (spLaw K) := by
  refine D.calG sc_law bn_law (fun vs H Q E h => ?_) (fun f cdv A outer s H vs Q E hr gd h => ?_)
  · obtain ⟨a, ns, n, rfl, _⟩ := h
    rfl
  · obtain ⟨a, ns, n, rfl, hs, hb, hn, hlen, q⟩ := h
    refine ⟨_, (pss_cons (ps_for PassesOwn.never rfl (pi_range3 (by rfl) B.range (pa_cons pe_int (pa_cons (pe_callB (call_max2 rfl) (by rfl) B.max (by decide +kernel) (pa_cons pe_int (pa_cons (pe_callB (call_min2 rfl) (by rfl) B.min (by decide +kernel) (pa_cons pe_int (pa_cons (pe_callB (lenSq K) (by rfl) B.len PySem.boot_len (pa_cons (pv 0) pa_nil)) pa_nil))) pa_nil))) (pa_cons pe_int pa_nil)))) (pg_name (i := 1) sc_law.nd rfl (.inl rfl))
 (pss_cons (ps_set (i := 2) sc_law.nd rfl (.inr rfl) (pcall c_law_field (hr.mono (by decide)) (by rfl) pass0 (pa_cons (pv 0) (pa_cons (pv 1) (pa_cons pe_int pa_nil)))))
 (pss_cons (ps_par (i := 3) (j := 4) (by rfl) sc_law.nd rfl rfl (by decide) rfl rfl (pa_cons (pe_callTy (listOf K) (by rfl) B.list (by decide +kernel) (pa_cons (pv 2) pa_nil)) (pa_cons (pcall c_law_cells (hr.mono (by decide)) (by rfl) pass0 (pa_cons (pv 2) pa_nil)) pa_nil)) (by rfl))
 (pss_cons (ps_for PassesOwn.never rfl (piL K (pv 4)) (pg_name (i := 5) sc_law.nd rfl (.inr rfl))
 (pss_one (ps_for PassesOwn.never rfl (pi_range1 (by rfl) B.range (pa_cons pe_int pa_nil)) (pg_name (i := 6) sc_law.nd rfl (.inl rfl))
 (pss_cons (ps_set (i := 7) sc_law.nd rfl (.inl rfl) (pcall c_near (hr.mono (by decide)) (by rfl) pass0 (pa_cons (pv 3) (pa_cons (pv 5) pa_nil))))
 (pss_cons (ps_setLc (i := 8) (own := [("_law_one", 9)]) (g := gName 9) (by rfl) sc_law.nd rfl rfl (sw_true rfl rfl rfl (by decide +kernel)) (piL K (pv 4)) (blkOk_by (own := [("_law_one", 9)]) (N := ["_law_script", "_law_by", "_law_field_here", "_law_handed", "_law_every", "_law_cell", "_law_again", "_law_found", "_law_due", "_law_one", "_law_there", "_law_back", "_law_row", "_law_place", "_law_told"]) (sc := defScope s_law) (by decide +kernel)) (fun _ _ _ _ _ => (pg_name (i := 9) sc_law.nd rfl (Or.inl rfl))) (fun _ _ _ _ _ => (pts_one (pt_val (pcall c_law_beside (hr.mono (by decide)) (by rfl) pass0 (pa_cons (pv 5) (pa_cons (pv 9) pa_nil)))))) (fun _ _ _ _ _ => (pv 9)))
 (pss_cons (ps_if (PW.pt (pw_or (pt_not (pt_val (pe_callB (isiK K) (by rfl) B.isinstance (by decide +kernel) (pa_cons (pv 7) (pa_cons (pe_bltn (v := .ty "list") (by rfl) B.list (by decide +kernel) rfl) pa_nil))))) (pw_or1 (pt_cmpR op_ne (pe_callTy (call_strD gd hr) (by rfl) B.str (by decide +kernel) (pa_cons (pv 7) pa_nil)) (pe_callTy (call_strD gd hr) (by rfl) B.str (by decide +kernel) (pa_cons (pv 8) pa_nil)) (nomark _)))))
 (pss_one (ps_ret pe_bl)) pss_nil)
 (pss_one (ps_expr (pe_bm PySem.F.plainAttrs_list PySem.F.slot_list_append PySem.F.type_list_append mt_append (pv 7) (pa_cons (lit_tup K (lits_cons K (lit_int K) (lits_cons K (lit_int K) (lits_nil K)))) pa_nil))))))))))
 (pss_cons (ps_par (i := 10) (j := 11) (by rfl) sc_law.nd rfl rfl (by decide) rfl rfl (pa_cons (pcall c_turned (hr.mono (by decide)) (by rfl) pass0 (pa_cons (pv 3) pa_nil)) (pa_cons (pcall c_mirrored (hr.mono (by decide)) (by rfl) pass0 (pa_cons (pv 3) pa_nil)) pa_nil)) (by rfl))
 (pss_cons (ps_if (PW.pt (pw_or (pt_not (pt_val (pe_callB (isiK K) (by rfl) B.isinstance (by decide +kernel) (pa_cons (pv 10) (pa_cons (pe_bltn (v := .ty "list") (by rfl) B.list (by decide +kernel) rfl) pa_nil))))) (pw_or (pt_not (pt_val (pe_callB (isiK K) (by rfl) B.isinstance (by decide +kernel) (pa_cons (pv 11) (pa_cons (pe_bltn (v := .ty "list") (by rfl) B.list (by decide +kernel) rfl) pa_nil))))) (pw_or1 (pt_cmpR (neDK K hr.units) (pv 3) (pv 2) (nomark _))))))
 (pss_one (ps_ret pe_bl)) pss_nil)
 (pss_cons (ps_if (PW.pt (pw_or (pt_cmpR op_ne (pe_callB (lenSq K) (by rfl) B.len PySem.boot_len (pa_cons (pv 10) pa_nil)) (pe_callB call_len_str (by rfl) B.len PySem.boot_len (pa_cons (pe_ix (ixL K) (pv 2) pe_int (fun _ _ => rfl)) pa_nil)) (nomark _)) (pw_or1 (pt_val (pe_callB (anyK K rfl) (by rfl) B.any (by decide +kernel) (pa_cons (pe_lc (own := [("_law_row", 12)]) (g := gName 12) (tt := tYes) (by rfl) sc_law.nd (piL K (pv 10)) (blkOk_by (own := [("_law_row", 12)]) (N := ["_law_script", "_law_by", "_law_field_here", "_law_handed", "_law_every", "_law_cell", "_law_again", "_law_found", "_law_due", "_law_one", "_law_there", "_law_back", "_law_row", "_law_place", "_law_told"]) (sc := defScope s_law) (by decide +kernel)) (fun _ _ _ _ _ => (pg_name (i := 12) sc_law.nd rfl (Or.inl rfl))) (fun _ _ _ _ _ => pts_nil) (fun _ _ _ _ _ => (pe_cmpR op_ne (pe_callB call_len_str (by rfl) B.len PySem.boot_len (pa_cons (pv 12) pa_nil)) (pe_callB (lenSq K) (by rfl) B.len PySem.boot_len (pa_cons (pv 2) pa_nil)) (nomark _)))) pa_nil))))))
 (pss_one (ps_ret pe_bl)) pss_nil)
 (pss_cons (ps_for PassesOwn.never rfl (piL K (pv 4)) (pg_tup rfl (pgs_cons (pg_name (i := 12) sc_law.nd rfl (.inl rfl)) (pgs_cons (pg_name (i := 13) sc_law.nd rfl (.inl rfl)) pgs_nil)))
 (pss_one (ps_if (PW.pt (pw_or (pt_cmpR op_ne (pe_ix ix_str (pe_ix (ixL K) (pv 10) (pv 13) (fun _ _ => rfl)) (pe_op op_sub (pe_op op_sub (pe_callB (lenSq K) (by rfl) B.len PySem.boot_len (pa_cons (pv 2) pa_nil)) pe_int) (pv 12)) (fun _ _ => rfl)) (pe_ix ix_str (pe_ix (ixL K) (pv 2) (pv 12) (fun _ _ => rfl)) (pv 13) (fun _ _ => rfl)) (nomark _)) (pw_or1 (pt_cmpR op_ne (pe_ix ix_str (pe_ix (ixL K) (pv 11) (pv 12) (fun _ _ => rfl)) (pe_op op_sub (pe_un un_neg pe_int) (pv 13)) (fun _ _ => rfl)) (pe_ix ix_str (pe_ix (ixL K) (pv 2) (pv 12) (fun _ _ => rfl)) (pv 13) (fun _ _ => rfl)) (nomark _)))))
 (pss_one (ps_ret pe_bl)) pss_nil)))
 (pss_cons (ps_if (PW.pt (pw_or (pt_cmpR (neDK K hr.units) (pcall c_turned (hr.mono (by decide)) (by rfl) pass0 (pa_cons (pcall c_turned (hr.mono (by decide)) (by rfl) pass0 (pa_cons (pcall c_turned (hr.mono (by decide)) (by rfl) pass0 (pa_cons (pv 10) pa_nil)) pa_nil)) pa_nil)) (pv 2) (nomark _)) (pw_or1 (pt_cmpR (neDK K hr.units) (pcall c_mirrored (hr.mono (by decide)) (by rfl) pass0 (pa_cons (pv 11) pa_nil)) (pv 2) (nomark _)))))
 (pss_one (ps_ret pe_bl)) pss_nil)
 (pss_cons (ps_expr (pe_bm PySem.F.plainAttrs_list PySem.F.slot_list_append PySem.F.type_list_append mt_append (pv 10) (pa_cons pe_str pa_nil)))
 (pss_cons (ps_expr (pe_bm PySem.F.plainAttrs_list PySem.F.slot_list_append PySem.F.type_list_append mt_append (pv 11) (pa_cons pe_str pa_nil)))
 (pss_one (ps_if (PW.pt (pw_or (pt_cmpR (neDK K hr.units) (pcall c_turned (hr.mono (by decide)) (by rfl) pass0 (pa_cons (pv 3) pa_nil)) (pe_slice (slL K) (pv 10) po_none (po_some (pe_un un_neg pe_int))) (nomark _)) (pw_or1 (pt_cmpR (neDK K hr.units) (pcall c_mirrored (hr.mono (by decide)) (by rfl) pass0 (pa_cons (pv 3) pa_nil)) (pe_slice (slL K) (pv 11) po_none (po_some (pe_un un_neg pe_int))) (nomark _)))))
 (pss_one (ps_ret pe_bl)) pss_nil)))))))))))))
 (pss_cons (ps_set (i := 2) sc_law.nd rfl (.inr rfl) (pe_lst (pa_cons pe_str (pa_cons pe_str pa_nil))))
 (pss_cons (ps_set (i := 14) sc_law.nd rfl (.inl rfl) (pe_lst (pa_cons (pcall c_near (hr.mono (by decide)) (by rfl) pass0 (pa_cons (pv 2) (pa_cons (lit_tup K (lits_cons K (lit_int K) (lits_cons K (lit_int K) (lits_nil K)))) pa_nil))) (pa_cons (pcall c_turned (hr.mono (by decide)) (by rfl) pass0 (pa_cons (pv 2) pa_nil)) (pa_cons (pcall c_mirrored (hr.mono (by decide)) (by rfl) pass0 (pa_cons (pv 2) pa_nil)) pa_nil)))))
 (pss_cons (ps_asg pe_str (pg_sub (pv 2) pe_int set_list))
 (pss_cons (ps_if (pt_cmpR (neDK K hr.units) (pe_lst (pa_cons (pcall c_near (hr.mono (by decide)) (by rfl) pass0 (pa_cons (pv 2) (pa_cons (lit_tup K (lits_cons K (lit_int K) (lits_cons K (lit_int K) (lits_nil K)))) pa_nil))) (pa_cons (pcall c_turned (hr.mono (by decide)) (by rfl) pass0 (pa_cons (pv 2) pa_nil)) (pa_cons (pcall c_mirrored (hr.mono (by decide)) (by rfl) pass0 (pa_cons (pv 2) pa_nil)) pa_nil)))) (lit_list K (lits_cons K (lit_list K (lits_cons K (lit_tup K (lits_cons K (lit_int K) (lits_cons K (lit_int K) (lits_nil K)))) (lits_cons K (lit_tup K (lits_cons K (lit_int K) (lits_cons K (lit_int K) (lits_nil K)))) (lits_cons K (lit_tup K (lits_cons K (lit_int K) (lits_cons K (lit_int K) (lits_nil K)))) (lits_nil K))))) (lits_cons K (lit_list K (lits_cons K (lit_str K) (lits_cons K (lit_str K) (lits_nil K)))) (lits_cons K (lit_list K (lits_cons K (lit_str K) (lits_cons K (lit_str K) (lits_nil K)))) (lits_nil K))))) (nomark _))
 (pss_one (ps_ret pe_bl)) pss_nil)
 (pss_cons (ps_if (pt_cmpR (neDK K hr.units) (pv 14) (lit_list K (lits_cons K (lit_list K (lits_cons K (lit_tup K (lits_cons K (lit_int K) (lits_cons K (lit_int K) (lits_nil K)))) (lits_cons K (lit_tup K (lits_cons K (lit_int K) (lits_cons K (lit_int K) (lits_nil K)))) (lits_cons K (lit_tup K (lits_cons K (lit_int K) (lits_cons K (lit_int K) (lits_nil K)))) (lits_nil K))))) (lits_cons K (lit_list K (lits_cons K (lit_str K) (lits_cons K (lit_str K) (lits_nil K)))) (lits_cons K (lit_list K (lits_cons K (lit_str K) (lits_cons K (lit_str K) (lits_nil K)))) (lits_nil K))))) (nomark _))
 (pss_one (ps_ret pe_bl)) pss_nil)
 (pss_one (ps_ret (pe_and (pe_cmpR (eqDK K hr.units) (pcall c_turned (hr.mono (by decide)) (by rfl) pass0 (pa_cons (lit_list K (lits_cons K (lit_str K) (lits_cons K (lit_str K) (lits_cons K (lit_str K) (lits_nil K))))) pa_nil)) (lit_list K (lits_cons K (lit_str K) (lits_cons K (lit_str K) (lits_nil K)))) (nomark _)) (pe_one (pe_cmpR (eqDK K hr.units) (pcall c_near (hr.mono (by decide)) (by rfl) pass0 (pa_cons (lit_list K (lits_cons K (lit_str K) (lits_cons K (lit_str K) (lits_nil K)))) (pa_cons (lit_tup K (lits_cons K (lit_int K) (lits_cons K (lit_int K) (lits_nil K)))) pa_nil))) (lit_list K (lits_cons K (lit_tup K (lits_cons K (lit_int K) (lits_cons K (lit_int K) (lits_nil K)))) (lits_cons K (lit_tup K (lits_cons K (lit_int K) (lits_cons K (lit_int K) (lits_nil K)))) (lits_cons K (lit_tup K (lits_cons K (lit_int K) (lits_cons K (lit_int K) (lits_nil K)))) (lits_nil K))))) (nomark _)))))))))))), ?_⟩
    refine ⟨.ref a, rfl, a, _, rfl, .inl hs, 8, _, rfl, 1, _, rfl, ?_⟩
    rw [List.length_map]
    obtain ⟨t1, t8⟩ := top8_bd ns.length
    obtain ⟨m, hm, hrg⟩ := range4 t1 t8
    refine ⟨0, top8 ns.length, 4, m, rfl, hrg, ?_⟩
    refine for_it walk_rangeC (fun i σ H' => Same H H' ∧ ∃ y1 y2 y3 y4 y5 y6 y7 y8 y10 y11 y12 y13, σ = [some (.ref a), y1, y2, y3, y4, y5, y6, y7, y8, none, y10, y11, y12, y13, none])
      ⟨Same.refl _, none, none, none, none, none, none, none, none, none, none, none, none, rfl⟩ (fun _ _ _ _ _ => trivial) (fun i x σ H1 H1' hi pv y => ?_) fun σ H1 pv => ?_
    · obtain ⟨rfl, rfl⟩ := y
      obtain ⟨sm, y1, y2, y3, y4, y5, y6, y7, y8, y10, y11, y12, y13, rfl⟩ := pv
      -- field_here
      refine ⟨.ref a, rfl, .int (0 + (i : Nat) * 4), rfl, a, ns, _, 5, n, rfl, sm.seq hs, hb, hn, by omega, by omega, by decide, by decide, fun H2 p F h w s2 np hp oF _ _ => ?_⟩
      have h5 := oF.h5
      have w5 := oF.w5
      -- handed, every
      refine ⟨.ref p, rfl, p, _, rfl, .inl (SqL.of hp), fun l nl => ?_⟩
      have sl := same_new (o := .lst (F.map tv)) nl
      refine ⟨.ref p, rfl, p, F, h, w, rfl, ⟨SqL.of (sl _ _ hp), oF⟩, fun Hb e ys sb ne he hy => ?_⟩
      refine ⟨_, _, rfl, ?_⟩
      have hpb : Hb p = some (.lst (F.map tv)) := sb _ _ (sl _ _ hp)
      have hlb : Hb l = some (.lst (F.map tv)) := sb _ _ upd_same
      have sHb : Same H Hb := (sm.trans s2).trans (sl.trans sb)
      have op : FieldAt K Hb p F h w := ⟨SqL.of hpb, oF⟩
      have ol : FieldAt K Hb l F h w := ⟨SqL.of hlb, oF⟩
      have hylen : ys.length ≤ 25 := by rw [hy.length, cellsL_len]; exact Nat.mul_le_mul h5 w5
      -- for cell in every
      refine ⟨.ref e, rfl, e, rfl, ⟨_, SqL.of he⟩, for_it (walk_list (xs := ys)) (fun j σ H' => Same Hb H' ∧ ∃ y5 y6 y7 y8, σ = [some (.ref a), some (.int (0 + (i : Nat) * 4)), some (.ref p), some (.ref l), some (.ref e), y5, y6, y7, y8, none, y10, y11, y12, y13, none])
        ⟨Same.refl _, y5, y6, y7, y8, rfl⟩ (fun j σ H' _ pv => pv.1.seq (SqL.of he)) (fun j x σ H3 H3' hj pv y => ?_) fun σ H3 pv => ?_⟩
      · obtain ⟨rfl, hx⟩ := y
        obtain ⟨s3, z5, z6, z7, z8, rfl⟩ := pv
        obtain ⟨c, hc, vc⟩ := Paired.get hy hx
        have hcm : c ∈ cellsL h w := List.mem_of_getElem? hc
        refine ⟨2, rfl, by decide, by decide, for_it walk_range (fun u σ H' => Same Hb H' ∧ ∃ y6 y7 y8, σ = [some (.ref a), some (.int (0 + (i : Nat) * 4)), some (.ref p), some (.ref l), some (.ref e), some x, y6, y7, y8, none, y10, y11, y12, y13, none])
          ⟨s3, z6, z7, z8, rfl⟩ (fun _ _ _ _ _ => trivial) (fun u x2 σ H4 H4' hu pv y => ?_) fun σ H4 pv => ?_⟩
        · obtain ⟨rfl, rfl⟩ := y
          obtain ⟨s4, z6, z7, z8, rfl⟩ := pv
          -- found = near(handed, cell)
          refine ⟨.ref l, rfl, x, rfl, l, F, h, w, x, c, rfl, ol.same s4, vc.le (TupLe.of s4), hcm, fun H5 q7 zs s5 n7 h7 hz => ?_⟩
          have s45 := s4.trans s5
          -- due
          refine ⟨.ref e, rfl, e, rfl, ⟨_, s45.seq (SqL.of he)⟩, lc_cel (K := K) (walk_list (xs := ys)) (small_line (by omega)) (fun k => beside c ((cellsL h w).getD k (0, 0))) (fun k => (cellsL h w).getD k (0, 0)) (fun H' s' => s'.seq (s45.seq (SqL.of he))) (fun D' k x9 H6 H6' Qe Qn nD hk s6 _ y qe qn => ?_) fun D' ds H6 nD s6 hD hd => ?_⟩
          · obtain ⟨rfl, hx9⟩ := y
            obtain ⟨c9, hc9, vc9⟩ := Paired.get hy hx9
            have e9 : (cellsL h w).getD k (0, 0) = c9 := getD_of hc9
            rw [e9] at qe qn
            have s46 := s45.trans s6
            refine ⟨rfl, x, rfl, x9, rfl, x, x9, c, c9, rfl, vc.le (TupLe.of s46), vc9.le (TupLe.of s46), beside c c9, rfl, ite2 (fun b => ?_) (fun b => ?_)⟩
            · exact ⟨x9, rfl, qe x9 _ b (Same.refl _) (vc9.le (TupLe.of s46))⟩
            · exact qn _ (by simpa using b) (Same.refl _)
          · rw [hy.length, range_filter_get (cellsL h w) (0, 0) (beside c), ← near_eq h5 w5 hcm] at hd
            have h7' := s6 _ _ h7
            have hz' := hz.le (TupLe.of s6)
            have hnl : (nearL h w c).length ≤ 100 := by
              rw [near_eq h5 w5 hcm]
              refine Nat.le_trans (List.length_filter_le _ _) ?_
              rw [cellsL_len]
              exact Nat.le_trans (Nat.mul_le_mul h5 w5) (by decide)
            have shw := shw_cells (cs := nearL h w c) (fun d hd => cell_small h5 w5 ((near_mem h5 w5 hcm).mp hd).1) hnl
            refine ⟨.ref q7, rfl, .ref q7, .ty "list", .type "list", _, true, rfl, .ty "list", tyx_list (SqL.of h7'), kit_ty (by decide +kernel), true, rfl, iteF ?_⟩
            obtain ⟨k1, k2, k3, k4⟩ := str_asks shw (shp_cells _)
            refine ⟨.ref q7, rfl, q7, _, rfl, cells_dp (SqL.of h7') hz', k1, k2, k3, k4, .ref D', rfl, D', _, rfl, cells_dp (SqL.of hD) hd, k1, k2, k3, k4, rfl, _, rfl, ?_⟩
            rw [decide_eq_true rfl]
            refine iteF ?_
            -- found.append((0, 0))
            refine ⟨.ref q7, rfl, .inl ⟨rfl, _, SqL.of h7'⟩, fun T HT sT _ => ?_⟩
            refine ⟨q7, zs, T, rfl, rfl, sT _ _ h7', by rw [hz.length]; exact small1000 (by omega), ?_⟩
            exact ⟨same_upd (s45.trans (s6.trans sT)) (s4.free n7), _, _, _, rfl⟩
        · obtain ⟨s4, z6, z7, z8, rfl⟩ := pv
          exact ⟨s4, _, _, _, _, rfl⟩
      · obtain ⟨s3, z5, z6, z7, z8, rfl⟩ := pv
        -- there, back
        refine ⟨.ref l, rfl, l, F, h, w, rfl, ol.same s3, fun H4 th s4 nth hth => ?_⟩
        refine ⟨.ref l, rfl, l, F, h, w, rfl, ol.same (s3.trans s4), fun H5 bk s5 nbk hbk => ?_⟩
        refine ⟨_, _, rfl, ?_⟩
        have hth5 := s5 _ _ hth
        have sb5 : Same Hb H5 := (s3.trans s4).trans s5
        have oT := oF.turned
        have oM := oF.mirrored
        have op5 := op.same sb5
        have ol5 := ol.same sb5
        have he5 := sb5 _ _ he
        have hy5 := hy.le (TupLe.of sb5)
        refine ⟨.ref th, rfl, .ref th, .ty "list", .type "list", _, true, rfl, .ty "list", tyx_list (SqL.of hth5), kit_ty (by decide +kernel), true, rfl, iteF ?_⟩
        refine ⟨.ref bk, rfl, .ref bk, .ty "list", .type "list", _, true, rfl, .ty "list", tyx_list (SqL.of hbk), kit_ty (by decide +kernel), true, rfl, iteF ?_⟩
        refine ⟨.ref l, rfl, .ref p, rfl, _, _, texts_dp ol5.1, texts_dp op5.1, (shp_field oF).ok, (shp_field oF).ok, _, rfl, ?_⟩
        rw [eqv_texts, decide_eq_true rfl]
        refine iteF ?_
        -- lengths
        refine ⟨.ref th, rfl, th, _, rfl, .inl (SqL.of hth5), .ref p, rfl, p, _, 0, _, rfl, rfl, op5.1, op.row0, tx (F.getD 0 []), rfl, by rw [op.len0]; exact op.w_line, rfl, _, rfl, ?_⟩
        rw [op.len0, List.length_map, oT.high, decide_eq_true rfl]
        refine iteF ?_
        refine ⟨.ref th, rfl, th, rfl, ⟨_, SqL.of hth5⟩, lc_val (walk_list (xs := (turnedL F w).map tv)) (by rw [List.length_map, oT.high]; exact op.w_line) (fun _ => .bl false) (fun H' s' => s'.seq (SqL.of hth5)) (fun D' k x H6 H6' Qe nD hk s6 _ y qe => ?_) fun D' H6 nD s6 hD => ?_⟩
        · obtain ⟨rfl, hx⟩ := y
          obtain ⟨r, hr, rfl⟩ := FieldAt.item (K := K) (H := H5) (a := th) (h := w) (w := h) ⟨SqL.of hth5, oT⟩ hx
          have hw := oT.wide r hr
          refine ⟨rfl, tv r, rfl, tx r, rfl, by rw [tx_len, hw]; exact small_line (by omega), .ref p, rfl, p, _, rfl, .inl (s6.seq op5.1), rfl, ?_⟩
          rw [tx_len, hw, op.len_map, decide_eq_true rfl]
          exact qe _ (Same.refl _)
        · refine ⟨D', (List.range ((turnedL F w).map tv).length).map fun _ => false, rfl, .inl (.inl ?_), false, by rw [any_const], iteF ?_⟩
          · rw [hD, List.map_map]; rfl
          have op6 := op5.same s6
          have hth6 := s6 _ _ hth5
          have hbk6 := s6 _ _ hbk
          have he6 := s6 _ _ he5
          have hy6 := hy5.le (TupLe.of s6)
          -- for row, place in every
          refine ⟨.ref e, rfl, e, rfl, ⟨_, SqL.of he6⟩, for_it (walk_list (xs := ys)) (fun j σ H' => H' = H6 ∧ ∃ y12 y13, σ = [some (.ref a), some (.int (0 + (i : Nat) * 4)), some (.ref p), some (.ref l), some (.ref e), z5, z6, z7, z8, none, some (.ref th), some (.ref bk), y12, y13, none])
            ⟨rfl, y12, y13, rfl⟩ (fun j σ H' _ pv => by rw [pv.1]; exact SqL.of he6) (fun j x σ H7 H7' hj pv y => ?_) fun σ H7 pv => ?_⟩
          · obtain ⟨rfl, hx⟩ := y
            obtain ⟨rfl, y12, y13, rfl⟩ := pv
            obtain ⟨c, hc, ⟨t, rfl, ht⟩⟩ := Paired.get hy6 hx
            have hcm : c ∈ cellsL h w := List.mem_of_getElem? hc
            obtain ⟨⟨a1, a2⟩, a3, a4⟩ := mem_cellsL.mp hcm
            obtain ⟨r, hr⟩ : ∃ r : Nat, c.1 = (r : Int) := ⟨c.1.toNat, by omega⟩
            obtain ⟨pl, hpl⟩ : ∃ r : Nat, c.2 = (r : Int) := ⟨c.2.toNat, by omega⟩
            rw [hr, hpl] at ht
            have r1 : r < h := by omega
            have p1 : pl < w := by omega
            obtain ⟨g1, g2⟩ := op.row r1
            have g3 : (F.getD r [])[pl]? = some ((F.getD r []).getD pl 0) := get_getD (by rw [g2]; exact p1)
            have k1 : ((turnedL F w).map tv)[pl]? = some (tv (col F pl)) := by rw [List.getElem?_map, turned_get p1]; rfl
            have k2 : (col F pl).length = h := by simp [col, oF.high]
            have k3 := col_get oF (p := pl) r1
            have m1 : ((mirroredL F).map tv)[r]? = some (tv (F.getD r []).reverse) := by
              have hl : r < F.length := by rw [oF.high]; exact r1
              unfold mirroredL
              rw [List.getElem?_map, List.getElem?_map, List.getElem?_eq_getElem hl, getD_of (List.getElem?_eq_getElem hl)]
              rfl
            refine ⟨t, _, rfl, ht, rfl, _, _, rfl, _, _, rfl, rfl, ?_⟩
            refine ⟨.ref th, rfl, .int pl, rfl, th, _, pl, _, rfl, rfl, SqL.of hth6, atI_nat k1, .ref p, rfl, p, _, rfl, .inl op6.1, _, 1, rfl, rfl, .int r, rfl, _, _, rfl, rfl, tx (col F pl), _, (F.getD r []).getD pl 0, rfl, rfl, by rw [tx_len, k2]; exact small_line (by omega), ?_, ?_⟩
            · rw [tx_cps]
              exact atN_of (j := h - 1 - r) (by rw [op.len_map]; omega) k3
            refine ⟨.ref p, rfl, .int r, rfl, p, _, r, _, rfl, rfl, op6.1, atI_nat g1, .int pl, rfl, tx (F.getD r []), pl, (F.getD r []).getD pl 0, rfl, rfl, by rw [tx_len, g2]; exact op.w_line, by rw [tx_cps]; exact atI_nat g3, rfl, _, rfl, ?_⟩
            rw [decide_eq_true rfl]
            refine iteF ?_
            refine ⟨.ref bk, rfl, .int r, rfl, bk, _, r, _, rfl, rfl, SqL.of hbk6, atI_nat m1, 1, rfl, .int pl, rfl, _, _, rfl, rfl, tx (F.getD r []).reverse, _, (F.getD r []).getD pl 0, rfl, rfl, by rw [tx_len, List.length_reverse, g2]; exact op.w_line, ?_, ?_⟩
            · rw [tx_cps]
              exact at_back (by rw [g2]; exact p1) g3
            refine ⟨.ref p, rfl, .int r, rfl, p, _, r, _, rfl, rfl, op6.1, atI_nat g1, .int pl, rfl, tx (F.getD r []), pl, (F.getD r []).getD pl 0, rfl, rfl, by rw [tx_len, g2]; exact op.w_line, by rw [tx_cps]; exact atI_nat g3, rfl, _, rfl, ?_⟩
            rw [decide_eq_true rfl]
            exact iteF ⟨rfl, _, _, rfl⟩
          · obtain ⟨rfl, y12, y13, rfl⟩ := pv
            -- turned three times more, mirrored once more
            refine ⟨.ref th, rfl, th, turnedL F w, w, h, rfl, ⟨SqL.of hth6, oT⟩, fun H8 t2 s8 nt2 ht2 => ?_⟩
            have oT2 := oT.turned
            refine ⟨t2, turnedL (turnedL F w) h, h, w, rfl, ⟨SqL.of ht2, oT2⟩, fun H9 t3 s9 nt3 ht3 => ?_⟩
            have oT3 := oT2.turned
            refine ⟨t3, _, w, h, rfl, ⟨SqL.of ht3, oT3⟩, fun H10 t4 s10 nt4 ht4 => ?_⟩
            have s810 := (s8.trans s9).trans s10
            rw [turned_four oF] at ht4
            refine ⟨.ref p, rfl, _, _, texts_dp (SqL.of ht4), texts_dp (op6.same s810).1, (shp_field oF).ok, (shp_field oF).ok, _, rfl, ?_⟩
            rw [eqv_texts, decide_eq_true rfl]
            refine iteF ?_
            have hbk10 := s810 _ _ hbk6
            refine ⟨.ref bk, rfl, bk, mirroredL F, h, w, rfl, ⟨SqL.of hbk10, oM⟩, fun H11 t5 s11 nt5 ht5 => ?_⟩
            rw [mirrored_twice] at ht5
            have s811 := s810.trans s11
            refine ⟨.ref p, rfl, _, _, texts_dp (SqL.of ht5), texts_dp (op6.same s811).1, (shp_field oF).ok, (shp_field oF).ok, _, rfl, ?_⟩
            rw [eqv_texts, decide_eq_true rfl]
            refine iteF ?_
            -- appended to
            have hth11 := s811 _ _ hth6
            have hbk11 := s811 _ _ hbk6
            have sb11 : Same Hb H11 := sb5.trans (s6.trans s811)
            have ntH : Hb th = none := s3.free nth
            have nbH : Hb bk = none := (s3.trans s4).free nbk
            have nbt : bk ≠ th := fun z => by rw [z, hth] at nbk; cases nbk
            refine ⟨.ref th, rfl, .inl ⟨rfl, _, SqL.of hth11⟩, th, _, _, rfl, rfl, hth11, by rw [List.length_map, oT.high]; exact small1000 (by omega), ?_⟩
            have hbk12 : upd H11 th (.lst ((turnedL F w).map tv ++ [tv []])) bk = some (.lst ((mirroredL F).map tv)) := by rw [upd_ne nbt]; exact hbk11
            refine ⟨.ref bk, rfl, .inl ⟨rfl, _, SqL.of hbk12⟩, bk, _, _, rfl, rfl, hbk12, by rw [List.length_map, oM.high]; exact small1000 (by omega), ?_⟩
            have sb13 : Same Hb (upd (upd H11 th (.lst ((turnedL F w).map tv ++ [tv []]))) bk (.lst ((mirroredL F).map tv ++ [tv []]))) := same_upd (same_upd sb11 ntH) nbH
            have hth13 : (upd (upd H11 th (.lst ((turnedL F w).map tv ++ [tv []]))) bk (.lst ((mirroredL F).map tv ++ [tv []]))) th = some (.lst ((turnedL F w).map tv ++ [tv []])) := by rw [upd_ne (Ne.symm nbt), upd_same]
            have hbk13 : (upd (upd H11 th (.lst ((turnedL F w).map tv ++ [tv []]))) bk (.lst ((mirroredL F).map tv ++ [tv []]))) bk = some (.lst ((mirroredL F).map tv ++ [tv []])) := upd_same
            refine ⟨.ref l, rfl, l, F, h, w, rfl, ol.same sb13, fun H14 t6 s14 nt6 ht6 => ?_⟩
            refine ⟨.ref th, rfl, 1, rfl, -1, rfl, th, _, rfl, SqL.of (s14 _ _ hth13), fun c1 nc1 => ?_⟩
            rw [cut_last]
            have sc1 := same_new (o := .lst ((turnedL F w).map tv)) nc1
            refine ⟨_, _, texts_dp (SqL.of (sc1 _ _ ht6)), texts_dp (SqL.of upd_same), (shp_field oT).ok, (shp_field oT).ok, _, rfl, ?_⟩
            rw [eqv_texts, decide_eq_true rfl]
            refine iteF ?_
            refine ⟨.ref l, rfl, l, F, h, w, rfl, ol.same (sb13.trans (s14.trans sc1)), fun H15 t7 s15 nt7 ht7 => ?_⟩
            refine ⟨.ref bk, rfl, 1, rfl, -1, rfl, bk, _, rfl, SqL.of (s15 _ _ (sc1 _ _ (s14 _ _ hbk13))), fun c2 nc2 => ?_⟩
            rw [cut_last]
            have sc2 := same_new (o := .lst ((mirroredL F).map tv)) nc2
            refine ⟨_, _, texts_dp (SqL.of (sc2 _ _ ht7)), texts_dp (SqL.of upd_same), (shp_field oM).ok, (shp_field oM).ok, _, rfl, ?_⟩
            rw [eqv_texts, decide_eq_true rfl]
            exact iteF ⟨sHb.trans (sb13.trans (s14.trans (sc1.trans (s15.trans sc2)))), _, _, _, _, _, _, _, _, _, _, _, _, rfl⟩
    · obtain ⟨sm, y1, y2, y3, y4, y5, y6, y7, y8, y10, y11, y12, y13, rfl⟩ := pv
      have o1 : FieldOk [[97, 98], [99, 100]] 2 2 := fieldB_ok (by decide +kernel)
      have o2 : FieldOk [[97, 98], [101, 102]] 2 2 := fieldB_ok (by decide +kernel)
      have o3 : FieldOk [[97, 98], [99, 100], [101, 102]] 3 2 := fieldB_ok (by decide +kernel)
      refine ⟨by show 2 ≤ sizeLine; decide, fun p np => ?_⟩
      have hp : (upd H1 p (.lst ([[97, 98], [99, 100]].map tv))) p = some (.lst ([[97, 98], [99, 100]].map tv)) := upd_same
      -- told
      refine ⟨.ref p, rfl, fun v2 H2 s2 d2 => ?_⟩
      refine ⟨p, [[97, 98], [99, 100]], 2, 2, v2, (0, 0), rfl, ⟨SqL.of (s2 _ _ hp), o1⟩, dp_cell d2, by decide +kernel, fun H3 q1 zs s3 nq1 hq1 hz => ?_⟩
      have hp3 := s3 _ _ (s2 _ _ hp)
      refine ⟨.ref p, rfl, p, _, 2, 2, rfl, ⟨SqL.of hp3, o1⟩, fun H4 q2 s4 nq2 hq2 => ?_⟩
      have hp4 := s4 _ _ hp3
      refine ⟨.ref p, rfl, p, _, 2, 2, rfl, ⟨SqL.of hp4, o1⟩, fun H5 q3 s5 nq3 hq3 => ?_⟩
      have hp5 := s5 _ _ hp4
      refine ⟨by show 3 ≤ sizeLine; decide, fun tl ntl => ?_⟩
      have stl := same_new (o := .lst [.ref q1, .ref q2, .ref q3]) ntl
      have hp6 := stl _ _ hp5
      -- field_here[1] = "ef"
      refine ⟨.ref p, rfl, p, _, 1, 1, rfl, rfl, hp6, rfl, ?_⟩
      have ntp : tl ≠ p := fun z => by rw [z, hp5] at ntl; cases ntl
      have np2 : ∀ {q : Addr} {o : HO}, upd H5 tl (.lst [.ref q1, .ref q2, .ref q3]) q = some o → q ≠ p → upd (upd H5 tl (.lst [.ref q1, .ref q2, .ref q3])) p (.lst (([[97, 98], [99, 100]].map tv).set 1 (.str "ef"))) q = some o := fun h hn => by rw [upd_ne hn]; exact h
      have q1p : q1 ≠ p := fun z => by rw [z, s2 _ _ hp] at nq1; cases nq1
      have q2p : q2 ≠ p := fun z => by rw [z, hp3] at nq2; cases nq2
      have q3p : q3 ≠ p := fun z => by rw [z, hp4] at nq3; cases nq3
      have g1 := np2 (stl _ _ (s5 _ _ (s4 _ _ hq1))) q1p
      have g2 := np2 (stl _ _ (s5 _ _ hq2)) q2p
      have g3 := np2 (stl _ _ hq3) q3p
      have g4 := np2 upd_same ntp
      have gz := ((hz.le (TupLe.of (s4.trans (s5.trans stl))))).le (TupLe.upd (o := .lst (([[97, 98], [99, 100]].map tv).set 1 (.str "ef"))) hp6 (TupLe.refl _))
      have gp : upd (upd H5 tl (.lst [.ref q1, .ref q2, .ref q3])) p (.lst (([[97, 98], [99, 100]].map tv).set 1 (.str "ef"))) p = some (.lst ([[97, 98], [101, 102]].map tv)) := upd_same
      -- the first comparison
      refine ⟨.ref p, rfl, fun v7 H7 s7 d7 => ?_⟩
      refine ⟨p, [[97, 98], [101, 102]], 2, 2, v7, (1, 1), rfl, ⟨SqL.of (s7 _ _ gp), o2⟩, dp_cell d7, by decide +kernel, fun H8 r1 ws s8 nr1 hr1 hw => ?_⟩
      have gp8 := s8 _ _ (s7 _ _ gp)
      refine ⟨.ref p, rfl, p, _, 2, 2, rfl, ⟨SqL.of gp8, o2⟩, fun H9 r2 s9 nr2 hr2 => ?_⟩
      have gp9 := s9 _ _ gp8
      refine ⟨.ref p, rfl, p, _, 2, 2, rfl, ⟨SqL.of gp9, o2⟩, fun H10 r3 s10 nr3 hr3 => ?_⟩
      refine ⟨by show 3 ≤ sizeLine; decide, fun ul nul => ?_⟩
      have sul := same_new (o := .lst [.ref r1, .ref r2, .ref r3]) nul
      refine fun v11 H11 s11 d11 => ?_
      have sA := s10.trans (sul.trans s11)
      have dA : Dp K H11 (.ref ul) (.list [cellsD (nearL 2 2 (1, 1)), textsD (turnedL [[97, 98], [101, 102]] 2), textsD (mirroredL [[97, 98], [101, 102]])]) :=
        .lst (SqL.of (s11 _ _ upd_same)) (.cons (cells_dp (SqL.of (sA _ _ (s9 _ _ hr1))) (hw.le (TupLe.of (s9.trans sA)))) (.cons (texts_dp (SqL.of (sA _ _ hr2))) (.cons (texts_dp (SqL.of ((sul.trans s11) _ _ hr3))) .nil)))
      have eA : (PyData.list [cellsD (nearL 2 2 (1, 1)), textsD (turnedL [[97, 98], [101, 102]] 2), textsD (mirroredL [[97, 98], [101, 102]])]) = PyData.list [cellsD [(0, 0), (0, 1), (1, 0)], textsD [[101, 97], [102, 98]], textsD [[98, 97], [102, 101]]] := by
        have e1 : nearL 2 2 (1, 1) = [(0, 0), (0, 1), (1, 0)] := by decide +kernel
        have e2 : turnedL [[97, 98], [101, 102]] 2 = [[101, 97], [102, 98]] := by decide +kernel
        have e3 : mirroredL [[97, 98], [101, 102]] = [[98, 97], [102, 101]] := by decide +kernel
        rw [e1, e2, e3]
      rw [eA] at dA
      refine ⟨_, _, dA, d11, by decide +kernel, by decide +kernel, false, by decide +kernel, iteF ?_⟩
      -- told is as it was
      have sB := s7.trans (s8.trans (s9.trans sA))
      refine ⟨.ref tl, rfl, fun v12 H12 s12 d12 => ?_⟩
      have sC := sB.trans s12
      have dB : Dp K H12 (.ref tl) (.list [cellsD (nearL 2 2 (0, 0)), textsD (turnedL [[97, 98], [99, 100]] 2), textsD (mirroredL [[97, 98], [99, 100]])]) :=
        .lst (SqL.of (sC _ _ g4)) (.cons (cells_dp (SqL.of (sC _ _ g1)) (gz.le (TupLe.of sC))) (.cons (texts_dp (SqL.of (sC _ _ g2))) (.cons (texts_dp (SqL.of (sC _ _ g3))) .nil)))
      have eB : (PyData.list [cellsD (nearL 2 2 (0, 0)), textsD (turnedL [[97, 98], [99, 100]] 2), textsD (mirroredL [[97, 98], [99, 100]])]) = PyData.list [cellsD [(0, 1), (1, 0), (1, 1)], textsD [[99, 97], [100, 98]], textsD [[98, 97], [100, 99]]] := by
        have e1 : nearL 2 2 (0, 0) = [(0, 1), (1, 0), (1, 1)] := by decide +kernel
        have e2 : turnedL [[97, 98], [99, 100]] 2 = [[99, 97], [100, 98]] := by decide +kernel
        have e3 : mirroredL [[97, 98], [99, 100]] = [[98, 97], [100, 99]] := by decide +kernel
        rw [e1, e2, e3]
      rw [eB] at dB
      refine ⟨_, _, dB, d12, by decide +kernel, by decide +kernel, false, by decide +kernel, iteF ?_⟩
      -- the last row
      refine fun v13 H13 s13 d13 => ?_
      obtain ⟨a13, rfl, q13⟩ := dp_texts (F := [[97, 98], [99, 100], [101, 102]]) d13
      refine ⟨a13, _, 3, 2, rfl, ⟨q13, o3⟩, fun H14 r5 s14 nr5 hr5 => ?_⟩
      refine fun v15 H15 s15 d15 => ?_
      have e5 : turnedL [[97, 98], [99, 100], [101, 102]] 2 = [[101, 99, 97], [102, 100, 98]] := by decide +kernel
      rw [e5] at hr5
      refine ⟨_, _, texts_dp (SqL.of (s15 _ _ hr5)), d15, by decide +kernel, by decide +kernel, true, by decide +kernel, iteT ?_⟩
      refine fun v16 H16 s16 d16 v17 H17 s17 d17 => ?_
      obtain ⟨a16, rfl, q16⟩ := dp_texts (F := [[97, 98], [99, 100]]) d16
      refine ⟨a16, _, 2, 2, v17, (0, 0), rfl, ⟨s17.seq q16, o1⟩, dp_cell d17, by decide +kernel, fun H18 r6 xs s18 nr6 hr6 hx => ?_⟩
      refine fun v19 H19 s19 d19 => ?_
      have e6 : nearL 2 2 (0, 0) = [(0, 1), (1, 0), (1, 1)] := by decide +kernel
      rw [e6] at hx
      refine ⟨_, _, cells_dp (SqL.of (s19 _ _ hr6)) (hx.le (TupLe.of s19)), d19, by decide +kernel, by decide +kernel, ?_⟩
      have e7 : PyData.eqv (cellsD [(0, 1), (1, 0), (1, 1)]) (.list [.tuple [.int 0, .int 1], .tuple [.int 1, .int 0], .tuple [.int 1, .int 1]]) = true := by decide +kernel
      rw [e7]
      exact q _
end
end Sk
namespace Sk
open PySem PySem.Spec PyProof.Rows L2 Sn
def hd_fn : List He.DefD := [⟨("is_whole", none), "is_whole", "is_whole", defArgs s_is_whole, defBody s_is_whole, defScope s_is_whole, [], []⟩, ⟨("is_text", none), "is_text", "is_text", defArgs s_is_text, defBody s_is_text, defScope s_is_text, [], []⟩, ⟨("check_field", none), "check_field", "check_field", defArgs s_check_field, defBody s_check_field, defScope s_check_field, [], []⟩, ⟨("is_cell", none), "is_cell", "is_cell", defArgs s_is_cell, defBody s_is_cell, defScope s_is_cell, [], []⟩, ⟨("near_of", none), "near_of", "near_of", defArgs s_near_of, defBody s_near_of, defScope s_near_of, [], []⟩, ⟨("near", none), "near", "near", defArgs s_near, defBody s_near, defScope s_near, [], []⟩, ⟨("turned", none), "turned", "turned", defArgs s_turned, defBody s_turned, defScope s_turned, [], []⟩, ⟨("mirrored", none), "mirrored", "mirrored", defArgs s_mirrored, defBody s_mirrored, defScope s_mirrored, [], []⟩, ⟨("_law_cell_at", none), "_law_cell_at", "_law_cell_at", defArgs s__law_cell_at, defBody s__law_cell_at, defScope s__law_cell_at, [], []⟩, ⟨("_law_draw", none), "_law_draw", "_law_draw", defArgs s__law_draw, defBody s__law_draw, defScope s__law_draw, [], []⟩, ⟨("_law_number", none), "_law_number", "_law_number", defArgs s__law_number, defBody s__law_number, defScope s__law_number, [], []⟩, ⟨("_law_field", none), "_law_field", "_law_field", defArgs s__law_field, defBody s__law_field, defScope s__law_field, [], []⟩, ⟨("_law_beside", none), "_law_beside", "_law_beside", defArgs s__law_beside, defBody s__law_beside, defScope s__law_beside, [], []⟩, ⟨("_law_cells", none), "_law_cells", "_law_cells", defArgs s__law_cells, defBody s__law_cells, defScope s__law_cells, [], []⟩, ⟨("law", none), "law", "law", defArgs s_law, defBody s_law, defScope s_law, [], []⟩]
def hd_fa : List He.Fa := [.glo "is_whole", .glo "is_text", .glo "check_field", .glo "is_cell", .glo "near_of", .glo "near", .glo "turned", .glo "mirrored", .glo "_law_cell_at", .glo "_law_draw", .glo "_law_number", .glo "_law_field", .glo "_law_beside", .glo "_law_cells", .glo "law", .free "abs", .free "all", .free "any", .free "bool", .free "int", .free "isinstance", .free "len", .free "list", .free "max", .free "min", .free "range", .free "str", .free "tuple", .int "WIDEST" 5, .str "LETTERS" "abcdefghijklmnopqrstuvwxyz"]
def hd_names : List PySem.Str := (["SnakeError", "BadField", "BadCell", "WIDEST", "LETTERS", "is_whole", "is_text", "check_field", "is_cell", "near_of", "near", "turned", "mirrored", "_law_cell_at", "_law_draw", "_law_number", "_law_field", "_law_beside", "_law_cells"] : List PySem.Str)
abbrev hd_R : PySem.W.OpenRow := PySem.W.OpenLaw.row PySem.Challenge.rw_lettersnake_k01_fields
abbrev hd_hk : PySem.W.Hook := He.hookD 5 hd_fa hd_fn
def hd_ob (s : PySem.W.SharedT) : He.AlD := He.obsDG 5 hd_fa hd_fn (HandSHeadRun.getT s)
theorem hd_obeq (s : PySem.W.SharedT) : hd_ob s = hd_hk.obs s.abs := He.obsDG_eq (HandSHeadRun.getT_eq s)
theorem hd_run (w : World) : HandSHeadRun.RunEq hd_R (PySem.W.view hd_R.prog [22]) hd_hk hd_ob 4000 hd_names w := by
  intro os
  kernel_rfl
section
variable {K : PySem.W.Frag} {h : Heap} {mg : Str → Option Value}
theorem hd_is_whole (X : K.In h) (G : h.Ns mainGlobals mg) (c : He.SaysD hd_fa hd_fn K) : Dfn K mg "is_whole" s_is_whole := by
  obtain ⟨fd, F⟩ := c.def_ 0 (d := ⟨("is_whole", none), "is_whole", "is_whole", defArgs s_is_whole, defBody s_is_whole, defScope s_is_whole, [], []⟩) rfl
  exact ⟨_, fd, F, He.glo_ok X G (c.fact 0 (f := .glo "is_whole") rfl)⟩
theorem hd_is_text (X : K.In h) (G : h.Ns mainGlobals mg) (c : He.SaysD hd_fa hd_fn K) : Dfn K mg "is_text" s_is_text := by
  obtain ⟨fd, F⟩ := c.def_ 1 (d := ⟨("is_text", none), "is_text", "is_text", defArgs s_is_text, defBody s_is_text, defScope s_is_text, [], []⟩) rfl
  exact ⟨_, fd, F, He.glo_ok X G (c.fact 1 (f := .glo "is_text") rfl)⟩
theorem hd_check_field (X : K.In h) (G : h.Ns mainGlobals mg) (c : He.SaysD hd_fa hd_fn K) : Dfn K mg "check_field" s_check_field := by
  obtain ⟨fd, F⟩ := c.def_ 2 (d := ⟨("check_field", none), "check_field", "check_field", defArgs s_check_field, defBody s_check_field, defScope s_check_field, [], []⟩) rfl
  exact ⟨_, fd, F, He.glo_ok X G (c.fact 2 (f := .glo "check_field") rfl)⟩
theorem hd_is_cell (X : K.In h) (G : h.Ns mainGlobals mg) (c : He.SaysD hd_fa hd_fn K) : Dfn K mg "is_cell" s_is_cell := by
  obtain ⟨fd, F⟩ := c.def_ 3 (d := ⟨("is_cell", none), "is_cell", "is_cell", defArgs s_is_cell, defBody s_is_cell, defScope s_is_cell, [], []⟩) rfl
  exact ⟨_, fd, F, He.glo_ok X G (c.fact 3 (f := .glo "is_cell") rfl)⟩
theorem hd_near_of (X : K.In h) (G : h.Ns mainGlobals mg) (c : He.SaysD hd_fa hd_fn K) : Dfn K mg "near_of" s_near_of := by
  obtain ⟨fd, F⟩ := c.def_ 4 (d := ⟨("near_of", none), "near_of", "near_of", defArgs s_near_of, defBody s_near_of, defScope s_near_of, [], []⟩) rfl
  exact ⟨_, fd, F, He.glo_ok X G (c.fact 4 (f := .glo "near_of") rfl)⟩
theorem hd_near (X : K.In h) (G : h.Ns mainGlobals mg) (c : He.SaysD hd_fa hd_fn K) : Dfn K mg "near" s_near := by
  obtain ⟨fd, F⟩ := c.def_ 5 (d := ⟨("near", none), "near", "near", defArgs s_near, defBody s_near, defScope s_near, [], []⟩) rfl
  exact ⟨_, fd, F, He.glo_ok X G (c.fact 5 (f := .glo "near") rfl)⟩
theorem hd_turned (X : K.In h) (G : h.Ns mainGlobals mg) (c : He.SaysD hd_fa hd_fn K) : Dfn K mg "turned" s_turned := by
  obtain ⟨fd, F⟩ := c.def_ 6 (d := ⟨("turned", none), "turned", "turned", defArgs s_turned, defBody s_turned, defScope s_turned, [], []⟩) rfl
  exact ⟨_, fd, F, He.glo_ok X G (c.fact 6 (f := .glo "turned") rfl)⟩
theorem hd_mirrored (X : K.In h) (G : h.Ns mainGlobals mg) (c : He.SaysD hd_fa hd_fn K) : Dfn K mg "mirrored" s_mirrored := by
  obtain ⟨fd, F⟩ := c.def_ 7 (d := ⟨("mirrored", none), "mirrored", "mirrored", defArgs s_mirrored, defBody s_mirrored, defScope s_mirrored, [], []⟩) rfl
  exact ⟨_, fd, F, He.glo_ok X G (c.fact 7 (f := .glo "mirrored") rfl)⟩
theorem hd__law_cell_at (X : K.In h) (G : h.Ns mainGlobals mg) (c : He.SaysD hd_fa hd_fn K) : Dfn K mg "_law_cell_at" s__law_cell_at := by
  obtain ⟨fd, F⟩ := c.def_ 8 (d := ⟨("_law_cell_at", none), "_law_cell_at", "_law_cell_at", defArgs s__law_cell_at, defBody s__law_cell_at, defScope s__law_cell_at, [], []⟩) rfl
  exact ⟨_, fd, F, He.glo_ok X G (c.fact 8 (f := .glo "_law_cell_at") rfl)⟩
theorem hd__law_draw (X : K.In h) (G : h.Ns mainGlobals mg) (c : He.SaysD hd_fa hd_fn K) : Dfn K mg "_law_draw" s__law_draw := by
  obtain ⟨fd, F⟩ := c.def_ 9 (d := ⟨("_law_draw", none), "_law_draw", "_law_draw", defArgs s__law_draw, defBody s__law_draw, defScope s__law_draw, [], []⟩) rfl
  exact ⟨_, fd, F, He.glo_ok X G (c.fact 9 (f := .glo "_law_draw") rfl)⟩
theorem hd__law_number (X : K.In h) (G : h.Ns mainGlobals mg) (c : He.SaysD hd_fa hd_fn K) : Dfn K mg "_law_number" s__law_number := by
  obtain ⟨fd, F⟩ := c.def_ 10 (d := ⟨("_law_number", none), "_law_number", "_law_number", defArgs s__law_number, defBody s__law_number, defScope s__law_number, [], []⟩) rfl
  exact ⟨_, fd, F, He.glo_ok X G (c.fact 10 (f := .glo "_law_number") rfl)⟩
theorem hd__law_field (X : K.In h) (G : h.Ns mainGlobals mg) (c : He.SaysD hd_fa hd_fn K) : Dfn K mg "_law_field" s__law_field := by
  obtain ⟨fd, F⟩ := c.def_ 11 (d := ⟨("_law_field", none), "_law_field", "_law_field", defArgs s__law_field, defBody s__law_field, defScope s__law_field, [], []⟩) rfl
  exact ⟨_, fd, F, He.glo_ok X G (c.fact 11 (f := .glo "_law_field") rfl)⟩
theorem hd__law_beside (X : K.In h) (G : h.Ns mainGlobals mg) (c : He.SaysD hd_fa hd_fn K) : Dfn K mg "_law_beside" s__law_beside := by
  obtain ⟨fd, F⟩ := c.def_ 12 (d := ⟨("_law_beside", none), "_law_beside", "_law_beside", defArgs s__law_beside, defBody s__law_beside, defScope s__law_beside, [], []⟩) rfl
  exact ⟨_, fd, F, He.glo_ok X G (c.fact 12 (f := .glo "_law_beside") rfl)⟩
theorem hd__law_cells (X : K.In h) (G : h.Ns mainGlobals mg) (c : He.SaysD hd_fa hd_fn K) : Dfn K mg "_law_cells" s__law_cells := by
  obtain ⟨fd, F⟩ := c.def_ 13 (d := ⟨("_law_cells", none), "_law_cells", "_law_cells", defArgs s__law_cells, defBody s__law_cells, defScope s__law_cells, [], []⟩) rfl
  exact ⟨_, fd, F, He.glo_ok X G (c.fact 13 (f := .glo "_law_cells") rfl)⟩
theorem hd_law (X : K.In h) (G : h.Ns mainGlobals mg) (c : He.SaysD hd_fa hd_fn K) : Dfn K mg "law" s_law := by
  obtain ⟨fd, F⟩ := c.def_ 14 (d := ⟨("law", none), "law", "law", defArgs s_law, defBody s_law, defScope s_law, [], []⟩) rfl
  exact ⟨_, fd, F, He.glo_ok X G (c.fact 14 (f := .glo "law") rfl)⟩
theorem hd_bi (X : K.In h) (G : h.Ns mainGlobals mg) (c : He.SaysD hd_fa hd_fn K) : Bi mg where
  abs := He.free_ok X G (c.fact 15 (f := .free "abs") rfl)
  all := He.free_ok X G (c.fact 16 (f := .free "all") rfl)
  any := He.free_ok X G (c.fact 17 (f := .free "any") rfl)
  bool := He.free_ok X G (c.fact 18 (f := .free "bool") rfl)
  int := He.free_ok X G (c.fact 19 (f := .free "int") rfl)
  isinstance := He.free_ok X G (c.fact 20 (f := .free "isinstance") rfl)
  len := He.free_ok X G (c.fact 21 (f := .free "len") rfl)
  list := He.free_ok X G (c.fact 22 (f := .free "list") rfl)
  max := He.free_ok X G (c.fact 23 (f := .free "max") rfl)
  min := He.free_ok X G (c.fact 24 (f := .free "min") rfl)
  range := He.free_ok X G (c.fact 25 (f := .free "range") rfl)
  str := He.free_ok X G (c.fact 26 (f := .free "str") rfl)
  tuple := He.free_ok X G (c.fact 27 (f := .free "tuple") rfl)
  g_WIDEST := He.int_ok X G (c.fact 28 (f := .int "WIDEST" 5) rfl)
  g_LETTERS := He.str_ok X G (c.fact 29 (f := .str "LETTERS" "abcdefghijklmnopqrstuvwxyz") rfl)
end
theorem law_all {P : Program} {w : World} {K : PySem.W.Frag} {h : Heap} {mg : Str → Option Value} (X : K.In h) (G : h.Ns mainGlobals mg) (c : He.SaysD hd_fa hd_fn K) (base : Heap) : CalG P w K mg base CX0 4 "law" ["_law_script"] (spLaw K) := by
  have B := hd_bi X G c
  have c_is_whole := ok_is_whole (P := P) (w := w) (base := base) (hd_is_whole X G c) B
  have c_is_text := ok_is_text (P := P) (w := w) (base := base) (hd_is_text X G c) B
  have c_check_field := ok_check_field (hd_check_field X G c) B c_is_text
  have c_is_cell := ok_is_cell (hd_is_cell X G c) B c_is_whole
  have c_near_of := ok_near_of (P := P) (w := w) (base := base) (hd_near_of X G c) B
  have c_near := ok_near (hd_near X G c) B c_check_field c_is_cell c_near_of
  have c_turned := ok_turned (hd_turned X G c) B c_check_field
  have c_mirrored := ok_mirrored (hd_mirrored X G c) B c_check_field
  have c_law_cell_at := ok_law_cell_at (P := P) (w := w) (base := base) (hd__law_cell_at X G c) B
  have c_law_draw := ok_law_draw (P := P) (w := w) (base := base) (hd__law_draw X G c) B
  have c_law_number := ok_law_number (hd__law_number X G c) B c_law_draw
  have c_law_field := ok_law_field (hd__law_field X G c) B c_law_cell_at c_law_number
  have c_law_beside := ok_law_beside (P := P) (w := w) (base := base) (hd__law_beside X G c) B
  have c_law_cells := ok_law_cells (P := P) (w := w) (base := base) (hd__law_cells X G c) B
  exact ok_law (hd_law X G c) B c_law_field c_law_cells c_law_beside c_near c_turned c_mirrored
end Sk
open PySem PySem.W PySem.Calls PyProof.Rows
set_option maxHeartbeats 0 in
theorem PySem.Challenge.cw_lettersnake_k01_fields_holds : PySem.Challenge.rw_lettersnake_k01_fields.Holds := by
  w_on; o_law
  refine HandSHeadRun.head_any (r := OpenLaw.row PySem.Challenge.rw_lettersnake_k01_fields) (q := view (OpenLaw.row PySem.Challenge.rw_lettersnake_k01_fields).prog [22]) (H := Sk.hd_hk) (ob := Sk.hd_ob) (loose := Sk.hd_names) (d := HandSHeadRun.topDef (OpenLaw.row PySem.Challenge.rw_lettersnake_k01_fields).prog 22) (kwd := []) Sk.hd_obeq
    (by kernel_rfl) (fun s => by kernel_rfl) Sk.hd_run (by kernel_rfl) (by kernel_rfl) (by kernel_rfl) (by rfl) (by first | assumption | decide +kernel) (by decide +kernel) ⟨rfl, rfl, rfl, rfl, rfl, by decide +kernel⟩ ?hw ?hc
  case hw => w_witness2
  case hc =>
    refine Sk.walk_G (l := PySem.Challenge.rw_lettersnake_k01_fields) (n := 63) (k := 4) (x := "_law_script") rfl (by decide) (by kernel_rfl) ⟨rfl, by decide, by decide⟩ ?F
    intro w mg fa h Y G hmg0
    obtain ⟨K, KX, c⟩ := Y
    have hmg : mg ("law" : PySem.Str) = some (.ref fa) := by
      have e : (HandSHeadRun.topDef (OpenLaw.row PySem.Challenge.rw_lettersnake_k01_fields).prog 22).name = ("law" : PySem.Str) := by kernel_rfl
      rw [← e]
      exact hmg0
    obtain ⟨fa2, fd, g, hb, hF⟩ := Sk.law_end (P := (PySem.Challenge.rw_lettersnake_k01_fields).prog) (w := w) (Sk.hd_law KX G c) Sk.bn_law fun base h1 h2 => Sk.law_all (P := (PySem.Challenge.rw_lettersnake_k01_fields).prog) (w := w) KX G c base
    have e := hmg.symm.trans g
    cases e
    exact ⟨K, fd, Sk.spLaw K, KX, hb, fun H a ns hl hbits hO hS => ⟨a, ns, 1048576, rfl, hS, Sk.bits_of hbits, by decide, hl, fun _ => rfl⟩, hF⟩
