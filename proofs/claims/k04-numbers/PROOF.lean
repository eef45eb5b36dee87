import PyProof.Rows.All
import Wide.All
import OpenK.AllK
import Wide.FinOn
import KE.KStateDown
import Lean
import HandS.ForMost
import HandS.EndBits
import HandS.IsInst
import HandS.Style
import HandS.Deep
import HandS.WideBits
import HandS.Zip
import HandS.Defaults
import PyProof.ReprRoads
import PyProof.StrOps2
import HandS.TupSets
import HandS.HeadHook1
import HandS.HeadHook2
import HandS.WordsExc
import HandS.ExcIs
import HandS.Walk
import HandS.Head0
import HandS.Head1
import HandS.Head2
import HandS.HeadEnd
import PySem.Challenge.RW_lettersnake_k04_whole_numbers
set_option Elab.async false
set_option linter.all false
set_option maxRecDepth 100000
set_option maxHeartbeats 8000000
/-! A layer of my own over HandS: calls that know that no repr runs (guards), str of data, texts backwards. -/
namespace Sk
open PySem PySem.Spec PyProof.Rows L2

/-! ### a def's promise where no guard is on the stack -/
structure FnG (P : Program) (w : World) (K : PySem.W.Frag) (mg : Str → Option Value) (base : Heap) (CX : CXT) (k : Nat) (f : Addr) (fd : FuncData) (ps : List Str) (sp : Sp) : Prop where
  len : ∀ vs H Q E, sp vs H Q E → vs.length = ps.length
  run : ∀ (A : Around) (outer : List Env) (s : Shared) (H : Hp) (args : Args) (us : List Value) (vs : List V) (Q : VK) (E : XK), Room k A → A.guards = some [] →
    Env0 P w K mg base A outer s H → BindsTo s fd args (ps.zip us) → Vals vs us → sp vs H Q E → codeAny (model P w) A (.call (.ref f) args) (CR CX outer P w H s Q E) s
section
variable {P : Program} {w : World} {K : PySem.W.Frag} {mg : Str → Option Value} {base : Heap} {CX : CXT} {k : Nat} {f : Addr} {fd : FuncData} {ps : List Str} {sp : Sp}
theorem toG (F : FnOk P w K mg base CX k f fd ps sp) : FnG P w K mg base CX k f fd ps sp :=
  ⟨F.len, fun A outer s H args us vs Q E hr _ e hb hv hs => F.run A outer s H args us vs Q E hr e hb hv hs⟩
theorem FnG.mono {j : Nat} (F : FnG P w K mg base CX j f fd ps sp) (h : j ≤ k) : FnG P w K mg base CX k f fd ps sp :=
  ⟨F.len, fun A outer s H args us vs Q E hr g => F.run A outer s H args us vs Q E (hr.mono h) g⟩
/-- a def by its body, the guards known -/
theorem fnG_of {x qual : Str} {params : Arguments} {body : List Stmt} {scope : Scope} {dvs : List V} {kws : List (Str × V)} {N : List Str}
    (F : FunD K x qual params body scope dvs kws f fd) (S : FnScope N ps scope) (len : ∀ vs H Q E, sp vs H Q E → vs.length = ps.length)
    (hbody : ∀ (cdv : Value) (A : Around) (outer : List Env) (s : Shared) (H : Hp) (vs : List V) (Q : VK) (E : XK), Room k (A.deeper (envOfC qual scope s.heap.objs.size f cdv)) → A.guards = some [] → sp vs H Q E →
      ∃ t, PSs (cxOf CX P w K mg base N qual scope f cdv A outer s H E) body t ∧ t { nx := fun _ H' => Q .non H', rt := Q } (start N vs) H) : FnG P w K mg base CX (k + 1) f fd ps sp := by
  obtain ⟨oc, od, dV, kV, doc, pm, an, cdv, ct, osl, rfl, lk, hcd, _, _⟩ := F.ex
  refine ⟨len, fun A outer s H args us vs Q E hr hgd e0 hb r hsp => ?_⟩
  have hl := len _ _ _ _ hsp
  have stays : ∀ b o, base.get? b = some o → s.heap.get? b = some o := fun b o e => (e0.bs b o e).1
  have KX := e0.mod.kin.keeps stays
  have lim := e0.mod.nolimit.keeps stays
  have hkind : ∀ y ∈ ps.zip us, scope.names.lookup y.1 = some .local ∨ (scope.names.lookup y.1 = some .cell ∧ ((cellsFrom (s.heap.objs.size + 1) scope.names []).lookup y.1).isSome = true) := by
    rintro ⟨n, v⟩ hy
    cases S.par n (List.of_mem_zip hy).1 with
    | inl q => exact Or.inl q
    | inr q => exact Or.inr ⟨q, PySem.W.cellsFrom_some _ _ _ (Or.inl q)⟩
  refine codeAny_call_function hr.depth (KX _ _ lk) rfl S.co S.gen rfl (PySem.W.codeRec_of KX hcd) (hb _ _ _ _ ?_)
  refine wpAny_newFunctionEnv_cells S.kind hkind fun env he s1 x => ?_
  subst he
  refine ⟨lim.keeps x.toInCall.keep, codeAny_func ?_⟩
  obtain ⟨t, ht, hq⟩ := hbody cdv A outer s H vs Q E (hr.deeper _) hgd hsp
  have I := inv_start (CX := CX) (qual := qual) (f := f) (cd := cdv) (E := E) S hr.hd e0 hl r x
  refine wpAny_mono (ht.run [] s1 (start N vs) H _ I hq) (fun fl s' hs => ?_) fun e s' hs => hs
  cases fl with
  | ret u =>
    obtain ⟨v, σ', H', J, rv, q⟩ := hs
    exact ⟨v, H', J.os, J.bare, J.base, J.hok, rv, q⟩
  | next =>
    obtain ⟨σ', H', J, q⟩ := hs
    exact ⟨V.non, H', J.os, J.bare, J.base, J.hok, rfl, q⟩
  | brk => obtain ⟨_, _, _, q⟩ := hs; exact q.elim
  | cont => obtain ⟨_, _, _, q⟩ := hs; exact q.elim
end

theorem _root_.L2.FunD.look {K : PySem.W.Frag} {x qual : Str} {params : Arguments} {body : List Stmt} {scope : Scope} {dvs : List V} {kws : List (Str × V)} {f : Addr} {fd : FuncData} (F : FunD K x qual params body scope dvs kws f fd) : ∃ oc od osl, K.lookup f = some ⟨oc, od, .func fd, osl⟩ := by
  obtain ⟨oc, od, _, _, _, _, _, _, _, osl, _, l, _⟩ := F.ex
  exact ⟨oc, od, osl, l⟩
/-! ### a def of the text by its global name -/
/-- the def st stands under the name x -/
def Dfn (K : PySem.W.Frag) (mg : Str → Option Value) (x : Str) (st : Stmt) : Prop :=
  ∃ f fd, FunD K x x (defArgs st) (defBody st) (defScope st) [] [] f fd ∧ mg x = some (.ref f)
/-- what a caller of the global name x needs -/
def Cal (P : Program) (w : World) (K : PySem.W.Frag) (mg : Str → Option Value) (base : Heap) (CX : CXT) (k : Nat) (x : Str) (ps : List Str) (sp : Sp) : Prop :=
  ∃ f fd, FnOk P w K mg base CX k f fd ps sp ∧ mg x = some (.ref f) ∧ PySem.W.keepIn K (.ref f) = true ∧ Binds K fd ps [] ∧ ∃ oc od osl, K.lookup f = some ⟨oc, od, .func fd, osl⟩
def CalG (P : Program) (w : World) (K : PySem.W.Frag) (mg : Str → Option Value) (base : Heap) (CX : CXT) (k : Nat) (x : Str) (ps : List Str) (sp : Sp) : Prop :=
  ∃ f fd, FnG P w K mg base CX k f fd ps sp ∧ mg x = some (.ref f) ∧ PySem.W.keepIn K (.ref f) = true ∧ Binds K fd ps [] ∧ ∃ oc od osl, K.lookup f = some ⟨oc, od, .func fd, osl⟩
/-- how its arguments bind -/
def Bnd (st : Stmt) (x : Str) (ps : List Str) : Prop :=
  ∀ (kV doc pm : Value) (an : Option Addr) (cdv ct : Value) (us : List Value), us.length = ps.length → bindArgs (PySem.W.fnOf x x (defArgs st) (defBody st) (defScope st) .none kV doc pm an cdv ct) ⟨us, []⟩ = pure (ps.zip us)
section
variable {P : Program} {w : World} {K : PySem.W.Frag} {mg : Str → Option Value} {base : Heap} {k : Nat} {x : Str} {ps N : List Str} {sp : Sp} {st : Stmt} {CX : CXT}
theorem Dfn.cal (D : Dfn K mg x st) (S : FnScope N ps (defScope st)) (hb : Bnd st x ps) (len : ∀ vs H Q E, sp vs H Q E → vs.length = ps.length)
    (hbody : ∀ (f : Addr) (cdv : Value) (A : Around) (outer : List Env) (s : Shared) (H : Hp) (vs : List V) (Q : VK) (E : XK), Room k (A.deeper (envOfC x (defScope st) s.heap.objs.size f cdv)) → sp vs H Q E →
      ∃ t, PSs (cxOf CX0 P w K mg base N x (defScope st) f cdv A outer s H E).nox (defBody st) t ∧ t { nx := fun _ H' => Q .non H', rt := Q } (start N vs) H) : Cal P w K mg base CX0 (k + 1) x ps sp := by
  obtain ⟨f, fd, F, g⟩ := D
  refine ⟨f, fd, F.ok S len fun cdv A outer s H vs Q E hr h => ?_, g, F.kp, F.bindsN hb, F.look⟩
  obtain ⟨t, ht, q⟩ := hbody f cdv A outer s H vs Q E hr h
  exact ⟨t, ht.nox, q⟩
theorem Dfn.calX (D : Dfn K mg x st) (S : FnScope N ps (defScope st)) (hb : Bnd st x ps) (len : ∀ vs H Q E, sp vs H Q E → vs.length = ps.length)
    (hbody : ∀ (f : Addr) (cdv : Value) (A : Around) (outer : List Env) (s : Shared) (H : Hp) (vs : List V) (Q : VK) (E : XK), Room k (A.deeper (envOfC x (defScope st) s.heap.objs.size f cdv)) → sp vs H Q E →
      ∃ t, PSs (cxOf CX P w K mg base N x (defScope st) f cdv A outer s H E) (defBody st) t ∧ t { nx := fun _ H' => Q .non H', rt := Q } (start N vs) H) : Cal P w K mg base CX (k + 1) x ps sp := by
  obtain ⟨f, fd, F, g⟩ := D
  exact ⟨f, fd, F.ok S len fun cdv A outer s H vs Q E hr h => hbody f cdv A outer s H vs Q E hr h, g, F.kp, F.bindsN hb, F.look⟩
theorem Dfn.calG (D : Dfn K mg x st) (S : FnScope N ps (defScope st)) (hb : Bnd st x ps) (len : ∀ vs H Q E, sp vs H Q E → vs.length = ps.length)
    (hbody : ∀ (f : Addr) (cdv : Value) (A : Around) (outer : List Env) (s : Shared) (H : Hp) (vs : List V) (Q : VK) (E : XK), Room k (A.deeper (envOfC x (defScope st) s.heap.objs.size f cdv)) → (A.deeper (envOfC x (defScope st) s.heap.objs.size f cdv)).guards = some [] → sp vs H Q E →
      ∃ t, PSs (cxOf CX0 P w K mg base N x (defScope st) f cdv A outer s H E).nox (defBody st) t ∧ t { nx := fun _ H' => Q .non H', rt := Q } (start N vs) H) : CalG P w K mg base CX0 (k + 1) x ps sp := by
  obtain ⟨f, fd, F, g⟩ := D
  refine ⟨f, fd, fnG_of F S len fun cdv A outer s H vs Q E hr hg h => ?_, g, F.kp, F.bindsN hb, F.look⟩
  obtain ⟨t, ht, q⟩ := hbody f cdv A outer s H vs Q E hr hg h
  exact ⟨t, ht.nox, q⟩
theorem Cal.toG (c : Cal P w K mg base CX k x ps sp) : CalG P w K mg base CX k x ps sp := by
  obtain ⟨f, fd, F, g, kp, b⟩ := c
  exact ⟨f, fd, Sk.toG F, g, kp, b⟩
/-- the law's own def, for the end -/
theorem law_end {x' : Str} (D : Dfn K mg x st) (hb : Bnd st x [x']) (h : ∀ base : Heap, K.In base → base.Ns mainGlobals mg → CalG P w K mg base CX0 k x [x'] sp) :
    ∃ fa fd, mg x = some (.ref fa) ∧ (∀ (s : Shared) (u : Value), BindsTo s fd ⟨[u], []⟩ [(x', u)]) ∧ ∀ base : Heap, K.In base → base.Ns mainGlobals mg → FnG P w K mg base CX0 k fa fd [x'] sp := by
  obtain ⟨f, fd, F, g⟩ := D
  have b := FunD.bindsA (ps := [x']) F hb
  refine ⟨f, fd, g, fun s u => b s [u] rfl, fun base h1 h2 => ?_⟩
  obtain ⟨f2, fd2, G, g2, _, _, oc, od, osl, l2⟩ := h base h1 h2
  obtain ⟨oc1, od1, osl1, l1⟩ := F.look
  have e : f2 = f := by
    have z := g2.symm.trans g
    cases z
    rfl
  subst e
  rw [l1] at l2
  cases l2
  exact G
end
/-! ### calls of such -/
def tCal (sp : Sp) (E : XK) (t : TA) : TE := fun σ H Q => t σ H fun vs H1 => sp vs H1 Q E
section
variable {X : Cx} {CX : CXT} {k : Nat} {ps : List Str} {sp : Sp} {E : XK} {x : Str} {p pos : Pos} {e : Expr} {es : List Expr} {t : TA}
theorem pcall (C : Cal X.prog X.w X.K X.mg X.base CX k x ps sp) (hr : Room k X.A) (hg : Gl X x) (hx : Passes CX X E) (ha : PA X (e :: es) t)
    (hdb : (x == ("__debug__" : Str)) = false := by decide) (he : starEach (e :: es) X.env = (false, eval e X.env) :: starEach es X.env := by rfl) (hpl : (backTo pos (starEach es X.env)).any (·.1) = false := by rfl) :
    PE X (.Call (.Name x p) (e :: es) [] pos) (tCal sp E t) := by
  obtain ⟨f, fd, F, g, kp, b, _⟩ := C
  have q := pe_call (p := p) (pos := pos) F hr hg g kp b .nil hx ha hdb he hpl
  refine ⟨fun pins s σ H Q I h => q.run pins s σ H Q I ?_⟩
  have h2 : t σ H fun vs H1 => sp vs H1 Q E := h
  show t σ H fun vs H1 => sp (vs ++ []) H1 Q E
  simpa only [List.append_nil] using h2
theorem pcall0 (C : Cal X.prog X.w X.K X.mg X.base CX k x ps sp) (hr : Room k X.A) (hg : Gl X x) (hx : Passes CX X E)
    (hdb : (x == ("__debug__" : Str)) = false := by decide) : PE X (.Call (.Name x p) [] [] pos) (tCal sp E tNil) := by
  obtain ⟨f, fd, F, g, kp, b, _⟩ := C
  exact pe_call0 (p := p) (pos := pos) F hr hg g kp b .nil hx hdb
theorem run_fnG {f : Addr} {fd : FuncData} {pins : List (Addr × Obj)} {σ : L2.St} {H : Hp} {s : Shared} {Q : VK} {us : List Value} {vs : List V} (F : FnG X.prog X.w X.K X.mg X.base CX k f fd ps sp) (hr : Room k X.A) (gd : X.A.guards = some []) (hb : Binds X.K fd ps []) (hx : Passes CX X E)
    (I : Inv X pins σ H s) (r : Vals vs us) (h : sp vs H Q E) : wpAny (model X.prog X.w) X.A (call (.ref f) us) (EP X pins σ Q) X.xe s := by
  have hl : us.length = ps.length := by rw [← r.length]; exact F.len _ _ _ _ h
  have hb1 := hb s us I.kIn (by simpa using hl)
  rw [List.append_nil] at hb1
  refine wpAny_call (codeAny_mono (F.run X.A X.stack s H ⟨us, []⟩ us vs Q E hr gd I.env0 hb1 r h) fun res s' hq => ?_)
  cases res with
  | error e => exact hx pins σ H s e s' I hq
  | ok fl =>
    cases fl with
    | ret u => exact I.after hq
    | next => exact hq.elim
    | brk => exact hq.elim
    | cont => exact hq.elim
theorem pcallG (C : CalG X.prog X.w X.K X.mg X.base CX k x ps sp) (hr : Room k X.A) (gd : X.A.guards = some []) (hg : Gl X x) (hx : Passes CX X E) (ha : PA X (e :: es) t)
    (hdb : (x == ("__debug__" : Str)) = false := by decide) (he : starEach (e :: es) X.env = (false, eval e X.env) :: starEach es X.env := by rfl) (hpl : (backTo pos (starEach es X.env)).any (·.1) = false := by rfl) :
    PE X (.Call (.Name x p) (e :: es) [] pos) (tCal sp E t) := by
  obtain ⟨f, fd, F, g, kp, b, _⟩ := C
  refine ⟨fun pins s σ H Q I h => ?_⟩
  refine wpAny_Call_Name_kw (ld_glob I hg g ?_ hdb)
  refine PySem.W.callWith_K (h₀ := X.base) I.ok.mod.kin kp (thn (ha.run pos pins s σ H _ I h) fun us s1 ⟨vs, H1, I1, r, q⟩ => ⟨I1.kIn, ?_⟩) he hpl
  exact run_fnG F hr gd b hx I1 r q
end
theorem hu65 {k : Nat} {A : Around} (hr : Room k A) : A.units + 65 < cLine := by have := hr.un; omega

/-! ### str of data -/
def rStrD (K : PySem.W.Frag) : List V → Hp → VK → Prop := fun xs H Q => ∃ (a : Addr) (d : PyData), xs = [V.ref a] ∧ Dp K H (.ref a) d ∧ d.showable = true ∧ d.hasDict = false ∧ d.depth ≤ 64 ∧ d.shown.length ≤ sizeLine ∧ Q (.str d.shown) H
theorem call_strD {X : Cx} {k : Nat} (gd : X.A.guards = some []) (hr : Room k X.A) : CallR X (.type "str") (rStrD X.K) := by
  intro pins s σ H xs us Q I r h
  obtain ⟨a, d, rfl, hd, h1, h2, h3, h4, q⟩ := h
  obtain ⟨u, rfl, ru⟩ := vals1 r
  cases (show u = Value.ref a from ru)
  obtain ⟨as, rd⟩ := Dp.reads I d (.ref a) (.ref a) hd rfl
  have hu := hr.un
  exact str_of_reads rd h1 (fun z => by rw [h2] at z; cases z) gd (by omega) (fun _ _ e => e) (fun h' t tk hk => ⟨.str d.shown, H, I.kept (t' := tk) hk, ⟨_, rfl⟩, q⟩) h4

/-! ### a text backwards; a text repeated -/
def revS (z : Str) : Str := ⟨z.cps.toList.reverse.toArray⟩
def tRevS (te : TE) : TE := fun σ H Q => te σ H fun x H1 => ∃ z, x = .str z ∧ z.length ≤ sizeLine ∧ Q (.str (revS z)) H1
theorem picked_back (z : Str) (tk : Tok) : (slicePicked z none none (some (-1, tk))).filterMap (z.cps[·]?) = z.cps.toList.reverse := by
  have e : slicePicked z none none (some (-1, tk)) = sliceRange ((z.cps.size : Int) - 1) (-1) (-1) := rfl
  rw [e, PySem.W.krv_sliceRange, PySem.W.krv_range, List.filterMap_reverse, PySem.W.krv_all]
theorem pe_revS {X : Cx} {e : Expr} {te : TE} {k : Nat} {p1 p2 p3 pos : Pos} (he : PE X e te) :
    PE X (.Subscript e (.Slice none none (some (.UnaryOp .USub (.Constant (.int 1) k p1) p2)) p3) pos) (tRevS te) := by
  refine ⟨fun pins s σ H Q I h => ?_⟩
  refine Subscript_ (thn (he.run pins s σ H _ I h) fun v s1 ⟨x, H1, I1, r1, q1⟩ => ?_)
  obtain ⟨z, rfl, hz, q⟩ := q1
  obtain ⟨tz, rfl⟩ := r1
  have hst : PE X (.UnaryOp .USub (.Constant (.int 1) k p1) p2) (tUn (rU fun i => .int (-i)) (tC (.int 1))) := pe_un un_neg pe_int
  refine wpAny_Slice ?_
  rw [evalPart_none]
  refine wpAny_pure (wpAny_pure ?_)
  refine thn (hst.run pins s1 σ H1 (fun y H2 => y = .int (-1) ∧ H2 = H1) I1 ⟨1, rfl, rfl, rfl⟩) fun vs s4 ⟨y, H4, I4, ry, ey, e4⟩ => ?_
  subst ey e4
  obtain ⟨tk, rfl⟩ := ry
  refine tail_any (T := "str") (typeIs_str _ z tz) F.slot_str_getitem.lookup ?_ (by with_unfolding_all rfl)
  refine wpAny_getItem_str_slice (l := none) (u := none) (st := some (-1, tk)) ⟨_, Heap.get?_push_size _ rfl, rfl, rfl⟩ rfl ?_
  unfold sliceMade
  rw [if_neg (by show ¬ ((-1 : Int) == 1 && _) = true; simp), picked_back]
  refine ⟨?_, .str (revS z), H4, ?_, ⟨_, rfl⟩, q⟩
  · show (z.cps.toList.reverse.toArray).size ≤ sizeLine
    rw [List.size_toArray, List.length_reverse, Array.length_toList]
    exact hz
  · exact (I4.kept (t' := s4.toks) (fun b o e => Heap.get?_push_of_some _ e)).tok _
/-- x * n, n small and positive -/
def repS (z : Str) (n : Nat) : Str := ⟨(List.replicate n z.cps.toList).flatten.toArray⟩
def rRepS : R2 := fun x y H Q => ∃ (z : Str) (n : Nat), x = .str z ∧ y = .int (n : Int) ∧ 2 ≤ n ∧ n ≤ 1000 ∧ 1 ≤ z.length ∧ z.length ≤ 1000 ∧ Q (.str (repS z n)) H
theorem fold_app (x : Array Nat) : ∀ (n : Nat) (acc : Array Nat), ((List.replicate n x).foldl (· ++ ·) acc).toList = acc.toList ++ (List.replicate n x.toList).flatten
  | 0, acc => by simp
  | n + 1, acc => by
    rw [List.replicate_succ, List.foldl_cons, fold_app x n, List.replicate_succ, List.flatten_cons]
    simp
theorem flat_len (x : List Nat) : ∀ n : Nat, (List.replicate n x).flatten.length = n * x.length
  | 0 => by simp
  | n + 1 => by rw [List.replicate_succ, List.flatten_cons, List.length_append, flat_len x n, Nat.succ_mul]; omega
theorem op_repS {X : Cx} : OpR X (binaryOp .Mult) rRepS := by
  intro pins s σ H x y v u Q I rx ry h
  obtain ⟨z, n, rfl, rfl, h2, h3, h4, h5, q⟩ := h
  obtain ⟨t, rfl⟩ := rx
  obtain ⟨t', rfl⟩ := ry
  have hm : z.length * n ≤ 1000000 := by
    calc z.length * n ≤ 1000 * n := Nat.mul_le_mul_right _ h5
      _ ≤ 1000 * 1000 := Nat.mul_le_mul_left _ h3
  have hs : 1000000 ≤ sizeLine := by rw [sizeLine_eq]; decide
  have e1 : (decide ((n : Int) < -(2 ^ 63 : Int)) || decide ((n : Int) ≥ 2 ^ 63)) = false := by
    rw [decide_eq_false (by omega), decide_eq_false (by omega)]; rfl
  have e2 : (((n : Int) == 1) || z.length == 0) = false := by
    have a : ((n : Int) == 1) = false := beq_eq_false_iff_ne.mpr (by omega)
    have b : (z.length == 0) = false := beq_eq_false_iff_ne.mpr (by omega)
    rw [a, b]; rfl
  refine P.mul_str e1 (fun _ _ => ?_) (fun _ _ => ?_) ?_
  · have : (1000 : Int) ≤ (2 ^ 63 - 1) / n := by
      rw [Int.le_ediv_iff_mul_le (by omega)]
      omega
    omega
  · rw [Int.toNat_natCast]
    unfold Builtin.Str.tooLong
    exact decide_eq_false (by omega)
  · rw [if_neg (by omega), if_neg (by rw [e2]; exact Bool.false_ne_true), Int.toNat_natCast]
    have e3 : ((List.replicate n z.cps).foldl (· ++ ·) #[] : Array Nat) = (List.replicate n z.cps.toList).flatten.toArray := by
      apply Array.toList_inj.mp
      rw [fold_app]
      simp
    rw [e3]
    refine ⟨?_, .str (repS z n), H, I.tok _, ⟨_, rfl⟩, q⟩
    show ((List.replicate n z.cps.toList).flatten.toArray).size ≤ sizeLine
    rw [List.size_toArray, flat_len, Array.length_toList]
    have e4 : n * z.cps.size = z.length * n := Nat.mul_comm _ _
    omega

/-! ### the law's call, the guards told -/
theorem law_callG {P : Program} {w : World} {K : PySem.W.Frag} {mg mb : Str → Option Value} {k : Nat} {fa a : Addr} {fd : FuncData} {x : Str} {sp : Sp} {s₁ : Shared} {vs : List Value} {ns : List Int}
    (KX : K.In s₁.heap) (hns : s₁.heap.Ns mainGlobals mg) (hb : s₁.heap.Ns builtinsNs mb) (hbb : ∀ x : Str, x ≠ "__name__" → mb x = bootBuiltins x) (hlim : s₁.heap.NoLimit) (hg : s₁.gens = #[])
    (ha : s₁.heap.get? a = some { cls := .type "list", data := .seq vs.toArray }) (hi : IntsAre vs ns) (hl : ns.length ≤ sizeLine) (hr : Room k callerA)
    (F : ∀ base : Heap, K.In base → base.Ns mainGlobals mg → FnG P w K mg base CX0 k fa fd [x] sp) (hbind : ∀ (s : Shared) (u : Value), BindsTo s fd ⟨[u], []⟩ [(x, u)])
    (hsp : ∀ H : Hp, Only H → SqL K H a (ns.map V.int) → sp [.ref a] H (fun v _ => v = .bl true) fun _ _ _ => False) :
    codeAny (model P w) callerA (.call (.ref fa) ⟨[.ref a], []⟩) (fun r s' => r = .ok (.ret (.bool true)) ∧ OldK s₁.heap s'.heap ∧ s'.os = s₁.os ∧ AllBare s'.gens) s₁ := by
  have rv := vals_ints hi
  have lenV := hi.length
  have core : ∀ H : Hp, Only H → SqL K H a (ns.map V.int) → HOk P w H s₁.heap → (∀ b, H b ≠ none → b = a) → (H a ≠ none → K.lookup a = none) →
      codeAny (model P w) callerA (.call (.ref fa) ⟨[.ref a], []⟩) (fun r s' => r = .ok (.ret (.bool true)) ∧ OldK s₁.heap s'.heap ∧ s'.os = s₁.os ∧ AllBare s'.gens) s₁ := by
    intro H hO hS hok hA hK
    have isA : ∀ {b : Addr} {u : HO}, H b = some u → b = a := fun {b u} q => hA b (by rw [q]; exact fun z => nomatch z)
    have noA : ∀ {b : Addr} {o : Obj} {es : Array DictEntry} {ep : Nat}, s₁.heap.get? b = some o → o.data = .dict es ep → H b = none := by
      intro b o es ep e d
      cases q : H b with
      | none => rfl
      | some u =>
        cases isA q
        rw [ha] at e
        cases e
        exact nomatch (show Data.seq vs.toArray _ = Data.dict es ep from d)
    have nsK : ∀ {b : Addr} {m : Str → Option Value}, s₁.heap.Ns b m → (hidT s₁.heap H).Ns b m := by
      rintro b m ⟨o, es, ep, e, d, r⟩
      exact ⟨o, es, ep, hidT_get e (noA e d), d, r⟩
    have hKb : K.In (hidT s₁.heap H) := by
      intro b o e
      refine hidT_get (KX b o e) ?_
      cases q : H b with
      | none => rfl
      | some u =>
        cases isA q
        rw [hK (by rw [q]; exact fun z => nomatch z)] at e
        cases e
    have hM : Mod K mg (hidT s₁.heap H) := by
      obtain ⟨mc, h1, h2⟩ := hlim
      exact ⟨hKb, nsK hns, ⟨mb, nsK hb, hbb⟩, ⟨mc, nsK h1, h2⟩⟩
    have e0 : Env0 P w K mg (hidT s₁.heap H) callerA [] s₁ H :=
      ⟨rfl, hM, fun b o e => of_hidT e, Nat.le_of_eq (hidT_size _ _), trivial, fun b hb => (nomatch (show b ∈ ([] : List Addr) from hb)), hok, .of_eq hg⟩
    refine codeAny_mono ((F _ hKb (nsK hns)).run callerA [] s₁ H ⟨[.ref a], []⟩ [.ref a] [.ref a] _ _ hr rfl e0 (hbind s₁ (.ref a)) (.cons rfl .nil) (hsp H hO hS)) fun r s' h => ?_
    cases r with
    | error e => exact False.elim h
    | ok fl =>
      cases fl with
      | next => exact h.elim
      | brk => exact h.elim
      | cont => exact h.elim
      | ret u =>
        obtain ⟨v, H', os, bare, un, hok', r', q⟩ := h
        cases (show v = .bl true from q)
        cases (show u = Value.bool true from r')
        refine ⟨rfl, OldK.of_keep fun b o e => ?_, os, bare⟩
        cases q : H b with
        | none => exact un.keep b o e q (fun z => (nomatch (show b ∈ ([] : List Addr) from z))) (fun z => (nomatch z))
        | some u =>
          cases hO b with
          | inl z => rw [q] at z; cases z
          | inr z =>
            obtain ⟨ob, xs, z⟩ := z
            obtain ⟨e1, _⟩ := hok b _ z
            obtain ⟨e2, _⟩ := hok' b _ (un.frzs b ob _ z)
            rw [e] at e1
            cases e1
            exact e2
  cases hk : K.lookup a with
  | some o =>
    have e := KX a o hk
    rw [ha] at e
    cases e
    refine core (fun _ => none) (fun _ => .inl rfl) (.inr ⟨_, vs.toArray, _, hk, rfl, rfl, rfl, ?_, by simpa using rv⟩) (fun b u z => (nomatch (show (none : Option HO) = some u from z))) (fun b z => absurd rfl z) fun z => absurd rfl z
    rw [List.size_toArray, lenV]
    exact hl
  | none =>
    refine core (fun b => if b = a then some (.frz { cls := .type "list", data := .seq vs.toArray } (.lst (ns.map V.int))) else none) (fun b => ?_) (.inl (.inr ⟨_, if_pos rfl⟩)) (fun b u z => ?_) (fun b z => ?_) fun _ => hk
    · by_cases hb : b = a
      · exact .inr ⟨_, _, if_pos hb⟩
      · exact .inl (if_neg hb)
    · by_cases hb : b = a
      · cases (if_pos hb).symm.trans z
        subst hb
        exact ⟨ha, by rw [List.length_map]; exact hl, vs, _, rv, ha⟩
      · cases (if_neg hb).symm.trans z
    · by_cases hb : b = a
      · exact hb
      · exact absurd (if_neg hb) z
/-- the law's end over a head by facts, the script's bits and the guards told -/
theorem walk_G {l : PySem.W.OpenLaw} {n k : Nat} {q : Program} {loose : List Str} {XP : (Str → Option Value) → Heap → Prop} {YP : World → Heap → Prop} {d : DefRec} {x : Str}
    (hn : l.most = some n) (hn2 : n ≤ sizeLine) (hdf : d.params.defaults = []) (hr : Room k callerA)
    (F : ∀ (w : World) (mg : Str → Option Value) (fa : Addr) (h : Heap), YP w h → h.Ns mainGlobals mg → mg d.name = some (.ref fa) →
      ∃ (K : PySem.W.Frag) (fd : FuncData) (sp : Sp), K.In h ∧ (∀ (s : Shared) (u : Value), BindsTo s fd ⟨[u], []⟩ [(x, u)]) ∧
        (∀ (H : Hp) (a : Addr) (ns : List Int), ns.length ≤ n → (∀ z ∈ ns, Builtin.Int.intBits z ≤ 1048576) → Only H → SqL K H a (ns.map V.int) → sp [.ref a] H (fun v _ => v = .bl true) fun _ _ _ => False) ∧
        ∀ base : Heap, K.In base → base.Ns mainGlobals mg → FnG l.prog w K mg base CX0 k fa fd [x] sp) :
    PySem.W.WalkO q loose XP YP l.row.toRowW d [] (fun f vs => PySem.call f vs) := by
  refine Att.attach_callB hn hdf fun w s₀ s₁ mg mb fa o pm cd doc a vs ns G Y ho hd hcd hmg hobj hints hlen hbits hg => ?_
  obtain ⟨K, fd, sp, KX, hb, hsp, hF⟩ := F w mg fa _ Y G.T.g hmg
  exact law_callG KX G.T.g G.T.b G.T.builtins G.T.nolimit hg hobj hints (Nat.le_trans hlen hn2) hr hF hb fun H hO hS => hsp H a ns hlen hbits hO hS

/-! ### rules with the written part named: for use inside comprehensions -/
section
variable {X : Cx} {e o : Expr} {te to : TE} {pos : Pos} {tg : Expr}
theorem ixL (K : PySem.W.Frag) (h : X.K = K := by rfl) : IxR X (rIxL K) := by subst h; exact ix_list
theorem ixT (K : PySem.W.Frag) (h : X.K = K := by rfl) : IxR X (rIxT K) := by subst h; exact ix_tup
def rLenSq (K : PySem.W.Frag) : List V → Hp → VK → Prop := fun xs H Q => ∃ p ys, xs = [.ref p] ∧ (SqL K H p ys ∨ SqT K H p ys) ∧ Q (.int ys.length) H
theorem lenSq (K : PySem.W.Frag) (h : X.K = K := by rfl) : CallR X (.builtin "len") (rLenSq K) := by subst h; exact call_len_seq
theorem isiK (K : PySem.W.Frag) (h : X.K = K := by rfl) : CallR X (.builtin "isinstance") (rIsi K) := by subst h; exact call_isi
theorem eqDK (K : PySem.W.Frag) (hu : X.A.units + 64 < cLine) (h : X.K = K := by rfl) : OpR X (compareOp .Eq) (rEqD K) := by subst h; exact op_eqD hu
theorem neDK (K : PySem.W.Frag) (hu : X.A.units + 64 < cLine) (h : X.K = K := by rfl) : OpR X (compareOp .NotEq) (rNeD K) := by subst h; exact op_neD hu
theorem inDK (K : PySem.W.Frag) (hu : X.A.units + 65 < cLine) (h : X.K = K := by rfl) : OpR X (compareOp .In) (rInD K) := by subst h; exact op_inD hu
theorem notInDK (K : PySem.W.Frag) (hu : X.A.units + 65 < cLine) (h : X.K = K := by rfl) : OpR X (compareOp .NotIn) (rNotInD K) := by subst h; exact op_notInD hu
theorem allK (K : PySem.W.Frag) (hc : X.calm = true) (h : X.K = K := by rfl) : CallR X (.builtin "all") (rAll K) := by subst h; exact cr_all hc
theorem anyK (K : PySem.W.Frag) (hc : X.calm = true) (h : X.K = K := by rfl) : CallR X (.builtin "any") (rAny K) := by subst h; exact cr_any hc
def rListOf (K : PySem.W.Frag) : List V → Hp → VK → Prop := fun xs H Q => ∃ p ys, xs = [.ref p] ∧ (SqL K H p ys ∨ SqT K H p ys) ∧ ∀ l, H l = none → Q (.ref l) (upd H l (.lst ys))
theorem listOf (K : PySem.W.Frag) (h : X.K = K := by rfl) : CallR X (.type "list") (rListOf K) := by subst h; exact call_list_of
theorem slL (K : PySem.W.Frag) (h : X.K = K := by rfl) : SlR X (rSlL K) := by subst h; exact sl_list
theorem piL (K : PySem.W.Frag) (hl : PE X e te) (h : X.K = K := by rfl) : PI X tg e (iList K te) := by subst h; exact pi_list hl
theorem piT (K : PySem.W.Frag) (hl : PE X e te) (h : X.K = K := by rfl) : PI X tg e (iTup K te) := by subst h; exact pi_tup hl
theorem revL (K : PySem.W.Frag) {k : Nat} {p1 p2 p3 : Pos} (he : PE X e te) (h : X.K = K := by rfl) : PE X (.Subscript e (.Slice none none (some (.UnaryOp .USub (.Constant (.int 1) k p1) p2)) p3) pos) (tRevL K te) := by subst h; exact pe_revL he
def tJoin (K : PySem.W.Frag) (to te : TE) : TE := tM1 (fun x xs H Q => ∃ a p, ∃ ys : List Str, x = .str a ∧ xs = [.ref p] ∧ (SqL K H p (ys.map V.str) ∨ SqT K H p (ys.map V.str)) ∧ (ys.map (·.length)).sum + ys.length * a.length ≤ 16777216 ∧ Q (.str (Txt.join a ys)) H) to te
theorem joinK (K : PySem.W.Frag) {apos : Pos} (ho : PE X o to) (he : PE X e te) (h : X.K = K := by rfl) (hs : starEach [e] X.env = [(false, eval e X.env)] := by rfl) (hbase : attributeBase o "join" X.env (eval o X.env) = eval o X.env := by rfl) (hline : (apos.endLine == pos.line) = true := by rfl) :
    PE X (.Call (.Attribute o "join" apos) [e] [] pos) (tJoin K to te) := by subst h; exact pe_join ho he hs hbase hline
end
end Sk
/-! Own classes: methods and makers by their promises; a choice of two readings; len of a set of tuples. -/
namespace Sk
open PySem PySem.Spec PyProof.Rows L2
theorem PE.or {X : Cx} {e : Expr} {t u : TE} (a : PE X e t) (b : PE X e u) : PE X e (fun σ H Q => t σ H Q ∨ u σ H Q) :=
  ⟨fun pins s σ H Q I h => h.elim (fun q => a.run pins s σ H Q I q) fun q => b.run pins s σ H Q I q⟩
/-! ### methods -/
def DfnM (K : PySem.W.Frag) (C : Addr) (m qual : Str) (st : Stmt) : Prop := ∃ f fd, FunD K m qual (defArgs st) (defBody st) (defScope st) [] [] f fd ∧ Meth K C m f
def DfnI (K : PySem.W.Frag) (C : Addr) (qual : Str) (st : Stmt) : Prop := ∃ f fd, FunD K "__init__" qual (defArgs st) (defBody st) (defScope st) [] [] f fd ∧ Mk K C f
def CalM (P : Program) (w : World) (K : PySem.W.Frag) (mg : Str → Option Value) (base : Heap) (CX : CXT) (k : Nat) (C : Addr) (m : Str) (ps : List Str) (sp : Sp) : Prop :=
  ∃ f fd, FnOk P w K mg base CX k f fd ps sp ∧ Meth K C m f ∧ Binds K fd ps []
def CalI (P : Program) (w : World) (K : PySem.W.Frag) (mg : Str → Option Value) (base : Heap) (CX : CXT) (k : Nat) (C : Addr) (ps : List Str) (sp : Sp) : Prop :=
  ∃ f fd, FnOk P w K mg base CX k f fd ps sp ∧ Mk K C f ∧ Binds K fd ps []
def BndM (st : Stmt) (x qual : Str) (ps : List Str) : Prop :=
  ∀ (kV doc pm : Value) (an : Option Addr) (cdv ct : Value) (us : List Value), us.length = ps.length → bindArgs (PySem.W.fnOf x qual (defArgs st) (defBody st) (defScope st) .none kV doc pm an cdv ct) ⟨us, []⟩ = pure (ps.zip us)
section
variable {P : Program} {w : World} {K : PySem.W.Frag} {mg : Str → Option Value} {base : Heap} {k : Nat} {x qual : Str} {ps N : List Str} {sp : Sp} {st : Stmt} {C : Addr}
theorem DfnM.cal (D : DfnM K C x qual st) (S : FnScope N ps (defScope st)) (hb : BndM st x qual ps) (len : ∀ vs H Q E, sp vs H Q E → vs.length = ps.length)
    (hbody : ∀ (f : Addr) (cdv : Value) (A : Around) (outer : List Env) (s : Shared) (H : Hp) (vs : List V) (Q : VK) (E : XK), Room k (A.deeper (envOfC qual (defScope st) s.heap.objs.size f cdv)) → sp vs H Q E →
      ∃ t, PSs (cxOf CX0 P w K mg base N qual (defScope st) f cdv A outer s H E).nox (defBody st) t ∧ t { nx := fun _ H' => Q .non H', rt := Q } (start N vs) H) : CalM P w K mg base CX0 (k + 1) C x ps sp := by
  obtain ⟨f, fd, F, g⟩ := D
  refine ⟨f, fd, F.ok S len fun cdv A outer s H vs Q E hr h => ?_, g, F.bindsN hb⟩
  obtain ⟨t, ht, q⟩ := hbody f cdv A outer s H vs Q E hr h
  exact ⟨t, ht.nox, q⟩
theorem DfnI.cal (D : DfnI K C qual st) (S : FnScope N ps (defScope st)) (hb : BndM st "__init__" qual ps) (len : ∀ vs H Q E, sp vs H Q E → vs.length = ps.length)
    (hbody : ∀ (f : Addr) (cdv : Value) (A : Around) (outer : List Env) (s : Shared) (H : Hp) (vs : List V) (Q : VK) (E : XK), Room k (A.deeper (envOfC qual (defScope st) s.heap.objs.size f cdv)) → sp vs H Q E →
      ∃ t, PSs (cxOf CX0 P w K mg base N qual (defScope st) f cdv A outer s H E).nox (defBody st) t ∧ t { nx := fun _ H' => Q .non H', rt := Q } (start N vs) H) : CalI P w K mg base CX0 (k + 1) C ps sp := by
  obtain ⟨f, fd, F, g⟩ := D
  refine ⟨f, fd, F.ok S len fun cdv A outer s H vs Q E hr h => ?_, g, F.bindsN hb⟩
  obtain ⟨t, ht, q⟩ := hbody f cdv A outer s H vs Q E hr h
  exact ⟨t, ht.nox, q⟩
/-- a promise that is never asked, for the bottom of a recursion -/
theorem Dfn.cal0 {CX : CXT} (D : Dfn K mg x st) (hb : Bnd st x ps) : Cal P w K mg base CX k x ps (fun _ _ _ _ => False) := by
  obtain ⟨f, fd, F, g⟩ := D
  exact ⟨f, fd, ⟨fun _ _ _ _ h => h.elim, fun _ _ _ _ _ _ _ _ _ _ _ _ _ h => h.elim⟩, g, F.kp, F.bindsN hb, F.look⟩
end
def tMth (C : Addr) (m : Str) (sp : Sp) (E : XK) (ta : TE) (t : TA) : TE := fun σ H Q => ta σ H fun x H1 => ∃ a dx fs, x = .ref a ∧ H1 a = some (.ins C dx fs) ∧ fs.lookup m = none ∧ t σ H1 fun vs H2 => sp (x :: vs) H2 Q E
def tMk (C : Addr) (sp : Sp) (E : XK) (t : TA) : TE := fun σ H Q => t σ H fun vs H1 => ∀ x dx, H1 x = none → H1 dx = none → dx ≠ x → sp (.ref x :: vs) (upd (upd H1 dx (.own x)) x (.ins C dx [])) (fun v H2 => v = .non ∧ Q (.ref x) H2) E
section
variable {X : Cx} {CX : CXT} {k : Nat} {ps : List Str} {sp : Sp} {E : XK} {x m : Str} {p pos apos : Pos} {e o : Expr} {es : List Expr} {ta : TE} {t : TA} {C : Addr}
theorem pmeth {pl : Sem Bool} (c : CalM X.prog X.w X.K X.mg X.base CX k C m ps sp) (cl : Cls X.K C) (hr : Room k X.A) (hx : Passes CX X E) (he : PE X o ta) (ha : PA X (e :: es) t)
    (hst : starEach (e :: es) X.env = (false, eval e X.env) :: starEach es X.env := by rfl) (hpl : (backTo pos (starEach es X.env)).any (·.1) = false := by rfl)
    (ht : eval (.Call (.Attribute o m apos) (e :: es) [] pos) X.env = (do
      let ov ← eval o X.env
      standAt apos.atName
      let (f, first) ← holding [ov] (getMethod ov m pl)
      callWith pos f first (backTo pos (starEach (e :: es) X.env)) (backToKw pos (keywordEach [] X.env))) := by rfl) : PE X (.Call (.Attribute o m apos) (e :: es) [] pos) (tMth C m sp E ta t) := by
  obtain ⟨f, fd, F, g, b⟩ := c
  have q := pe_meth (pl := pl) he cl g F hr b .nil hx ha hst hpl ht
  refine ⟨fun pins s σ H Q I h => q.run pins s σ H Q I ?_⟩
  have h2 : ta σ H fun x H1 => ∃ a dx fs, x = .ref a ∧ H1 a = some (.ins C dx fs) ∧ fs.lookup m = none ∧ t σ H1 fun vs H2 => sp (x :: vs) H2 Q E := h
  show ta σ H fun x H1 => ∃ a dx fs, x = .ref a ∧ H1 a = some (.ins C dx fs) ∧ fs.lookup m = none ∧ t σ H1 fun vs H2 => sp (x :: (vs ++ [])) H2 Q E
  simpa only [List.append_nil] using h2
theorem pmake (c : CalI X.prog X.w X.K X.mg X.base CX k C ps sp) (hr : Room (k + 1) X.A) (hg : Gl X x) (hm : X.mg x = some (.ref C)) (hx : Passes CX X E) (ha : PA X (e :: es) t)
    (hdb : (x == ("__debug__" : Str)) = false := by decide) (he : starEach (e :: es) X.env = (false, eval e X.env) :: starEach es X.env := by rfl) (hpl : (backTo pos (starEach es X.env)).any (·.1) = false := by rfl) :
    PE X (.Call (.Name x p) (e :: es) [] pos) (tMk C sp E t) := by
  obtain ⟨f, fd, F, g, b⟩ := c
  have q := pe_make (p := p) (pos := pos) g F hr hg hm b .nil hx ha hdb he hpl
  refine ⟨fun pins s σ H Q I h => q.run pins s σ H Q I ?_⟩
  have h2 : t σ H fun vs H1 => ∀ x dx, H1 x = none → H1 dx = none → dx ≠ x → sp (.ref x :: vs) (upd (upd H1 dx (.own x)) x (.ins C dx [])) (fun v H2 => v = .non ∧ Q (.ref x) H2) E := h
  show t σ H fun vs H1 => ∀ x dx, H1 x = none → H1 dx = none → dx ≠ x → sp (.ref x :: (vs ++ [])) (upd (upd H1 dx (.own x)) x (.ins C dx [])) (fun v H2 => v = .non ∧ Q (.ref x) H2) E
  simpa only [List.append_nil] using h2
theorem fldK (K : PySem.W.Frag) {f : Str} (he : PE X e ta) (hb : attributeBase e f X.env (eval e X.env) = eval e X.env) (h : X.K = K := by rfl) : PE X (.Attribute e f pos) (tFld K ta f) := by subst h; exact pe_fld he hb
end
/-! ### a class of the text -/
structure Kls (K : PySem.W.Frag) (mg : Str → Option Value) (x : Str) (C : Addr) : Prop where
  g : mg x = some (.ref C)
  cl : Cls K C
  ha : PySem.W.findIn K (.ref C) "__class__" = some (some (.builtin "object.__class__"))
  hm : PySem.W.mroIn K C (.type "object") = some true
structure KlG (K : PySem.W.Frag) : Prop where
  hn : PySem.W.specialIn K (.builtin "object.__class__") "__get__" = some (some (.builtin "getset_descriptor.__get__"))
  htk : PySem.W.takesIn K (.builtin "object.__class__") = some true
theorem Kls.ty {K : PySem.W.Frag} {mg : Str → Option Value} {x : Str} {C : Addr} {H : Hp} {a dx : Addr} {fs : List (Str × V)} (k : Kls K mg x C) (G : KlG K) (e : H a = some (.ins C dx fs)) : TyX K H (.ref a) (.ref C) :=
  .base (.ins e k.cl k.ha G.hn G.htk k.hm)
/-! ### the head with one more Bool -/
def hookX (n : Nat) (fa : List He.Fa) (fn : List He.DefD) (ex : PySem.W.Frag → Bool) : PySem.W.Hook where
  α := Bool × He.AlD
  obs := fun s => (ex (He.frG s.heap.get? (He.asD s.heap.get? n)), He.obsDG n fa fn s.heap.get?)
  val := fun _ => (true, He.valD fn)
  says := fun _ h => ∃ K : PySem.W.Frag, K.In h ∧ He.SaysD fa fn K ∧ ex K = true
  of := fun _ _ e => ⟨_, He.frG_in, congrArg (fun z : Bool × He.AlD => z.2) e, congrArg (fun z : Bool × He.AlD => z.1) e⟩
  keeps := fun _ _ _ ⟨K, hK, c⟩ k => ⟨K, PySem.W.Frag.In.keeps hK k, c⟩
def obX (n : Nat) (fa : List He.Fa) (fn : List He.DefD) (ex : PySem.W.Frag → Bool) (g : Addr → Option Obj) : Bool × He.AlD := (ex (He.frG g (He.asD g n)), He.obsDG n fa fn g)
theorem obX_eq {n : Nat} {fa : List He.Fa} {fn : List He.DefD} {ex : PySem.W.Frag → Bool} {g : Addr → Option Obj} {s : Shared} (h : ∀ a, g a = s.heap.get? a) : obX n fa fn ex g = (hookX n fa fn ex).obs s := by
  have e : g = s.heap.get? := funext h
  rw [e] <;> rfl
def clsB (K : PySem.W.Frag) (x : Str) : Bool := He.eqO (PySem.W.findIn K (.ref (He.ga K x)) "__class__") (some (some (.builtin "object.__class__"))) && decide (PySem.W.mroIn K (He.ga K x) (.type "object") = some true)
def klgB (K : PySem.W.Frag) : Bool := He.eqO (PySem.W.specialIn K (.builtin "object.__class__") "__get__") (some (some (.builtin "getset_descriptor.__get__"))) && decide (PySem.W.takesIn K (.builtin "object.__class__") = some true)
def kitB2 (K : PySem.W.Frag) (x y : Str) (b : Bool) : Bool := decide (PySem.W.kitOne K (.ref (He.ga K x)) (.ref (He.ga K y)) = some b)
theorem klgB_ok {K : PySem.W.Frag} (h : klgB K = true) : KlG K := by
  obtain ⟨h1, h2⟩ := He.ba h
  exact ⟨He.eqO_ok h1, of_decide_eq_true h2⟩
theorem clsB_ok {K : PySem.W.Frag} {mg : Str → Option Value} {x : Str} (g : mg x = some (.ref (He.ga K x))) (cl : Cls K (He.ga K x)) (h : clsB K x = true) : Kls K mg x (He.ga K x) := by
  obtain ⟨h1, h2⟩ := He.ba h
  exact ⟨g, cl, He.eqO_ok h1, of_decide_eq_true h2⟩
/-! ### len(set(..)) of tuples of ints -/
theorem erase_sub {α : Type} [DecidableEq α] {l m : List α} {a : α} (hl : a ∉ l) (h : ∀ b ∈ l, b ∈ m) : ∀ b ∈ l, b ∈ m.erase a := fun b hb =>
  (List.mem_erase_of_ne (fun z : b = a => hl (z ▸ hb))).mpr (h b hb)
theorem nodup_sub_len {α : Type} [DecidableEq α] : ∀ {l m : List α}, l.Nodup → (∀ a ∈ l, a ∈ m) → l.length ≤ m.length
  | [], _, _, _ => Nat.zero_le _
  | a :: l, m, nd, h => by
    obtain ⟨h1, h2⟩ := List.nodup_cons.mp nd
    have hm := h a List.mem_cons_self
    have ih := nodup_sub_len (m := m.erase a) h2 (erase_sub h1 fun b hb => h b (List.mem_cons_of_mem _ hb))
    rw [List.length_erase_of_mem hm] at ih
    have : 0 < m.length := List.length_pos_of_mem hm
    rw [List.length_cons]
    omega
theorem twice_of {α : Type} [DecidableEq α] : ∀ {m : List α}, ¬ m.Nodup → ∃ a, a ∈ m ∧ a ∈ m.erase a
  | [], h => absurd List.nodup_nil h
  | x :: m, h => by
    by_cases hx : x ∈ m
    · exact ⟨x, List.mem_cons_self, by rw [List.erase_cons_head]; exact hx⟩
    · have h2 : ¬ m.Nodup := fun z => h (List.nodup_cons.mpr ⟨hx, z⟩)
      obtain ⟨a, ha, hb⟩ := twice_of h2
      have ne : a ≠ x := fun z => hx (z ▸ ha)
      refine ⟨a, List.mem_cons_of_mem _ ha, ?_⟩
      rw [List.erase_cons_tail (by simpa using fun z : x = a => ne z.symm)]
      exact List.mem_cons_of_mem _ hb
/-- a list without repeats of the same members is as long iff there is no repeat -/
theorem dedup_len {α : Type} [DecidableEq α] {l m : List α} (nd : l.Nodup) (h1 : ∀ a ∈ l, a ∈ m) (h2 : ∀ a ∈ m, a ∈ l) : decide (l.length = m.length) = decide m.Nodup := by
  by_cases hm : m.Nodup
  · have a := nodup_sub_len nd h1
    have b := nodup_sub_len hm h2
    rw [decide_eq_true hm, decide_eq_true (by omega)]
  · obtain ⟨a, ha, hb⟩ := twice_of hm
    have c := nodup_sub_len (l := l) (m := m.erase a) nd fun b hb' => by
      by_cases e : b = a
      · rw [e]; exact hb
      · exact (List.mem_erase_of_ne e).mpr (h1 b hb')
    rw [List.length_erase_of_mem ha] at c
    have : 0 < m.length := List.length_pos_of_mem ha
    rw [decide_eq_false hm, decide_eq_false (by omega)]
def rLenT (K : PySem.W.Frag) (P : Program) (w : World) : List V → Hp → VK → Prop := fun vs H Q => ∃ (a : Addr) (L : List (Addr × List Int)), vs = [V.ref a] ∧ H a = some (SetTO P w a L) ∧ (∀ p ∈ L, SqT K H p.1 (p.2.map V.int)) ∧ ((L.map (·.2)).Nodup → Q (.int L.length) H)
theorem call_lenT {X : Cx} : CallR X (.builtin "len") (rLenT X.K X.prog X.w) := by
  intro pins s σ H vs us Q I r h
  obtain ⟨a, L, rfl, ha, hk, q⟩ := h
  have R0 : SetT0 X.prog X.w s.heap a L := (I.hok a _ ha).1
  obtain ⟨es, ep, t, R⟩ := R0.full fun p hp => I.isT (hk p hp)
  rw [Vals.ref1 r]
  obtain ⟨o, ho, hex, hd⟩ := R.ob
  have hn := R.size
  have few := R.few
  refine call_len_set ho hex hd R.fits (by omega) ⟨.int L.length, H, I.tok _, ⟨_, by rw [hn]⟩, q R.nd⟩
end Sk
/-! Own errors: raised, caught, asked for their class. -/
namespace Sk
open PySem PySem.Spec PyProof.Rows L2
/-- an own class over ValueError -/
structure ExK (K : PySem.W.Frag) (mg : Str → Option Value) (x : Str) (C : Addr) : Prop where
  g : mg x = some (.ref C)
  xP : PySem.W.excIn K C He.veBase "ValueError.__new__" = true
  kP : PySem.W.keepIn K (.ref C) = true
  bP : PySem.W.subIn K (.ref C) (.type "BaseException") = some true
  tP : PySem.W.typeIn K (.ref C) = some (.type "type")
def excB (K : PySem.W.Frag) (x : Str) : Bool := He.eqO (PySem.W.findIn K (.ref (He.ga K x)) "__getattribute__") (some (some (.builtin "BaseException.__getattribute__"))) && (He.eqO (PySem.W.findIn K (.ref (He.ga K x)) "__getattr__") (some none) && (PySem.W.hasDictIn K (He.ga K x) && (He.eqO (PySem.W.findIn K (.ref (He.ga K x)) "__class__") (some (some (.builtin "object.__class__"))) && decide (PySem.W.mroIn K (He.ga K x) (.type "object") = some true))))
theorem excB_ok {K : PySem.W.Frag} {mg : Str → Option Value} {x : Str} (k : ExK K mg x (He.ga K x)) (G : KlG K) (h : excB K x = true) : ExcC K (He.ga K x) := by
  obtain ⟨h1, h⟩ := He.ba h
  obtain ⟨h2, h⟩ := He.ba h
  obtain ⟨h3, h⟩ := He.ba h
  obtain ⟨h4, h5⟩ := He.ba h
  exact ⟨He.eqO_ok h1, He.eqO_ok h2, k.bP, h3, He.eqO_ok h4, G.hn, G.htk, of_decide_eq_true h5⟩
section
variable {X : Cx} {k : Nat} {ps : List Str} {sp : Sp} {x : Str} {p pos : Pos} {e : Expr} {es : List Expr} {t : TA} {W : WX}
/-- the call of a def that may raise, in a try -/
theorem pcallX (C : Cal X.prog X.w X.K X.mg X.base (L2.CX X.prog X.w) k x ps sp) (hr : Room k X.A) (hg : Gl X x) (tk : Takes X W) (ha : PA X (e :: es) t)
    (hdb : (x == ("__debug__" : Str)) = false := by decide) (he : starEach (e :: es) X.env = (false, eval e X.env) :: starEach es X.env := by rfl) (hpl : (backTo pos (starEach es X.env)).any (·.1) = false := by rfl) :
    PE X (.Call (.Name x p) (e :: es) [] pos) (tCallS sp (WE W) t) := by
  obtain ⟨f, fd, F, g, kp, b, _⟩ := C
  exact pe_callS (p := p) (pos := pos) F hr hg g kp b (fun σ => passAt tk σ) ha hdb he hpl
end
/-- isinstance(error, c) in the suite: the error is of the own class D -/
def rIsX (K : PySem.W.Frag) (cls : Value) (d : Option Addr) (a : Addr) : List V → Hp → VK → Prop := fun xs H Q => ∃ (D C : Addr) (b : Bool), cls = .ref D ∧ d = none ∧ ExcC K D ∧ xs = [.ref a, .ref C] ∧ PySem.W.kitOne K (.ref D) (.ref C) = some b ∧ Q (.bl b) H
theorem isX {X : Cx} {a : Addr} {oe : Obj} {cls : Value} {d : Option Addr} {pn : List (Addr × Obj)} (K : PySem.W.Frag) (hz : Zc cls d oe) (hf : ∃ vs, oe.data = .fields vs) (h : X.K = K := by rfl) : CallR (X.suite a ((a, oe) :: pn)) (.builtin "isinstance") (rIsX K cls d a) := by
  subst h
  intro pins s σ H xs us Q I r h
  obtain ⟨D, C, b, rfl, rfl, hC, rfl, e, q⟩ := h
  exact call_isE hC hz hf pins s σ H _ us Q I r ⟨.ref C, .ref C, b, rfl, fun u ru => by cases ru; rfl, e, q⟩
/-- x * n, n positive -/
def rRepN : R2 := fun x y H Q => ∃ (z : Str) (n : Nat), x = .str z ∧ y = .int (n : Int) ∧ 1 ≤ n ∧ n ≤ 1000 ∧ 1 ≤ z.length ∧ z.length ≤ 1000 ∧ Q (.str (repS z n)) H
theorem repS_one (z : Str) : repS z 1 = z := by
  unfold repS
  cases z
  simp
theorem op_repN {X : Cx} : OpR X (binaryOp .Mult) rRepN := by
  intro pins s σ H x y v u Q I rx ry h
  obtain ⟨z, n, rfl, rfl, h2, h3, h4, h5, q⟩ := h
  by_cases h1 : n = 1
  · subst h1
    rw [repS_one] at q
    obtain ⟨t, rfl⟩ := rx
    obtain ⟨t', rfl⟩ := ry
    refine P.mul_str (by decide) (fun _ h => ?_) (fun _ h => ?_) ?_
    · cases h
    · cases h
    · rw [if_neg (by decide), if_pos (show (((1 : Nat) : Int) == 1 || z.length == 0) = true from rfl)]
      exact ⟨.str z, H, I, ⟨_, rfl⟩, q⟩
  · exact op_repS pins s σ H _ _ v u Q I rx ry ⟨z, n, rfl, rfl, by omega, h3, h4, h5, q⟩
end Sk
/-! The mathematics of fields, cells and snakes: plain Lean, no program. -/
namespace Sn
/-- a row: its letters' codes; a field: its rows -/
abbrev Row := List Nat
abbrev Cel := Int × Int
def letter (c : Nat) : Prop := 97 ≤ c ∧ c ≤ 122
structure FieldOk (F : List Row) (h w : Nat) : Prop where
  high : F.length = h
  h1 : 1 ≤ h
  h5 : h ≤ 5
  w1 : 1 ≤ w
  w5 : w ≤ 5
  wide : ∀ r ∈ F, r.length = w
  let_ : ∀ r ∈ F, ∀ c ∈ r, letter c
/-- lo, lo + 1, .. : n of them -/
def rng (lo : Int) (n : Nat) : List Int := (List.range n).map fun (i : Nat) => lo + (i : Int)
theorem rng_length (lo : Int) (n : Nat) : (rng lo n).length = n := by simp [rng]
theorem rng_succ (lo : Int) (n : Nat) : rng lo (n + 1) = rng lo n ++ [lo + (n : Int)] := by
  unfold rng; rw [List.range_succ, List.map_append]; rfl
theorem mem_rng {lo x : Int} {n : Nat} : x ∈ rng lo n ↔ lo ≤ x ∧ x < lo + n := by
  unfold rng
  rw [List.mem_map]
  constructor
  · rintro ⟨i, hi, rfl⟩
    have := List.mem_range.mp hi
    omega
  · rintro ⟨h1, h2⟩
    exact ⟨(x - lo).toNat, List.mem_range.mpr (by omega), by omega⟩
def iabs (x : Int) : Int := if x < 0 then -x else x
def beside (a b : Cel) : Bool := (!decide (a = b)) && decide (iabs (a.1 - b.1) < 2) && decide (iabs (a.2 - b.2) < 2)
def cellsL (h w : Nat) : List Cel := (rng 0 h).flatMap fun r => (rng 0 w).map fun p => (r, p)
theorem mem_cellsL {h w : Nat} {c : Cel} : c ∈ cellsL h w ↔ (0 ≤ c.1 ∧ c.1 < h) ∧ (0 ≤ c.2 ∧ c.2 < w) := by
  unfold cellsL
  rw [List.mem_flatMap]
  constructor
  · rintro ⟨r, hr, hc⟩
    obtain ⟨p, hp, rfl⟩ := List.mem_map.mp hc
    have h1 := mem_rng.mp hr
    have h2 := mem_rng.mp hp
    exact ⟨by simpa using h1, by simpa using h2⟩
  · rintro ⟨h1, h2⟩
    refine ⟨c.1, mem_rng.mpr (by simpa using h1), List.mem_map.mpr ⟨c.2, mem_rng.mpr (by simpa using h2), rfl⟩⟩
/-- what near_of goes through: rows from max(0, r - 1) to min(h, r + 2), places alike -/
def loN (x : Int) : Int := if x - 1 > 0 then x - 1 else 0
def hiN (n : Nat) (x : Int) : Int := if x + 2 < (n : Int) then x + 2 else (n : Int)
def nearRow (w : Nat) (c : Cel) (row : Int) : List Cel := ((rng (loN c.2) (hiN w c.2 - loN c.2).toNat).filter fun p => !decide ((row, p) = c)).map fun p => (row, p)
def nearL (h w : Nat) (c : Cel) : List Cel := (rng (loN c.1) (hiN h c.1 - loN c.1).toNat).flatMap fun row => nearRow w c row
def nearChk (h w r p : Nat) : Bool := decide (nearL h w ((r : Int), (p : Int)) = (cellsL h w).filter (beside ((r : Int), (p : Int))))
set_option maxRecDepth 100000 in
theorem nearChk_all : ((List.range 6).all fun h => (List.range 6).all fun w => (List.range h).all fun r => (List.range w).all fun p => nearChk h w r p) = true := by decide +kernel
theorem near_eq {h w : Nat} (h5 : h ≤ 5) (w5 : w ≤ 5) {c : Cel} (hc : c ∈ cellsL h w) : nearL h w c = (cellsL h w).filter (beside c) := by
  obtain ⟨⟨a1, a2⟩, a3, a4⟩ := mem_cellsL.mp hc
  have k := nearChk_all
  rw [List.all_eq_true] at k
  have k1 := k h (List.mem_range.mpr (by omega))
  rw [List.all_eq_true] at k1
  have k2 := k1 w (List.mem_range.mpr (by omega))
  rw [List.all_eq_true] at k2
  have k3 := k2 c.1.toNat (List.mem_range.mpr (by omega))
  rw [List.all_eq_true] at k3
  have k4 := k3 c.2.toNat (List.mem_range.mpr (by omega))
  have k5 : nearL h w ((c.1.toNat : Int), (c.2.toNat : Int)) = (cellsL h w).filter (beside ((c.1.toNat : Int), (c.2.toNat : Int))) := of_decide_eq_true k4
  have e : (((c.1.toNat : Int), (c.2.toNat : Int)) : Cel) = c := by
    apply Prod.ext
    · show ((c.1.toNat : Int)) = c.1; omega
    · show ((c.2.toNat : Int)) = c.2; omega
  rw [e] at k5
  exact k5
theorem near_mem {h w : Nat} (h5 : h ≤ 5) (w5 : w ≤ 5) {c d : Cel} (hc : c ∈ cellsL h w) : d ∈ nearL h w c ↔ d ∈ cellsL h w ∧ beside c d = true := by
  rw [near_eq h5 w5 hc, List.mem_filter]
theorem getD_of {α : Type} {l : List α} {i : Nat} {x d : α} (h : l[i]? = some x) : l.getD i d = x := by
  rw [List.getD_eq_getElem?_getD, h]; rfl
/-- the field's letter at a cell -/
def at_ (F : List Row) (c : Cel) : Nat := (F.getD c.1.toNat []).getD c.2.toNat 0
/-! ### turned, mirrored -/
def col (F : List Row) (p : Nat) : Row := F.reverse.map fun r => r.getD p 0
def turnedL (F : List Row) (w : Nat) : List Row := (List.range w).map fun p => col F p
def mirroredL (F : List Row) : List Row := F.map List.reverse
theorem FieldOk.turned {F : List Row} {h w : Nat} (o : FieldOk F h w) : FieldOk (turnedL F w) w h := by
  refine ⟨by simp [turnedL], o.w1, o.w5, o.h1, o.h5, fun r hr => ?_, fun r hr c hc => ?_⟩
  · obtain ⟨p, _, rfl⟩ := List.mem_map.mp hr
    simp [col, o.high]
  · obtain ⟨p, hp, rfl⟩ := List.mem_map.mp hr
    obtain ⟨q, hq, rfl⟩ := List.mem_map.mp hc
    have hq' : q ∈ F := List.mem_reverse.mp hq
    have hl : p < q.length := by rw [o.wide q hq']; exact List.mem_range.mp hp
    rw [List.getD_eq_getElem?_getD, List.getElem?_eq_getElem hl]
    exact o.let_ q hq' _ (List.getElem_mem hl)
theorem FieldOk.mirrored {F : List Row} {h w : Nat} (o : FieldOk F h w) : FieldOk (mirroredL F) h w := by
  refine ⟨by simp [mirroredL, o.high], o.h1, o.h5, o.w1, o.w5, fun r hr => ?_, fun r hr c hc => ?_⟩
  · obtain ⟨p, hp, rfl⟩ := List.mem_map.mp hr
    rw [List.length_reverse]; exact o.wide p hp
  · obtain ⟨p, hp, rfl⟩ := List.mem_map.mp hr
    exact o.let_ p hp c (List.mem_reverse.mp hc)
theorem mirrored_twice (F : List Row) : mirroredL (mirroredL F) = F := by
  unfold mirroredL
  rw [List.map_map]
  conv => rhs; rw [← List.map_id F]
  apply List.map_congr_left
  intro r _
  simp
theorem turned_get {F : List Row} {w : Nat} {p : Nat} (hp : p < w) : (turnedL F w)[p]? = some (col F p) := by
  unfold turnedL
  rw [List.getElem?_map, List.getElem?_range hp]; rfl
theorem col_get {F : List Row} {h w : Nat} (o : FieldOk F h w) {p r : Nat} (hr : r < h) : (col F p)[h - 1 - r]? = some ((F.getD r []).getD p 0) := by
  unfold col
  rw [List.getElem?_map, List.getElem?_reverse (by rw [o.high]; omega)]
  have e : F.length - 1 - (h - 1 - r) = r := by rw [o.high]; omega
  have hl : r < F.length := by rw [o.high]; exact hr
  rw [e, List.getElem?_eq_getElem hl]
  simp [List.getD_eq_getElem?_getD, List.getElem?_eq_getElem hl]
theorem row_len {F : List Row} {h w : Nat} (o : FieldOk F h w) {r : Nat} (hr : r < h) : (F.getD r []).length = w := by
  have hl : r < F.length := by rw [o.high]; exact hr
  rw [List.getD_eq_getElem?_getD, List.getElem?_eq_getElem hl]
  exact o.wide _ (List.getElem_mem hl)
theorem turned_at {F : List Row} {h w : Nat} (o : FieldOk F h w) {i j : Nat} (hi : i < w) (hj : j < h) : ((turnedL F w).getD i []).getD j 0 = (F.getD (h - 1 - j) []).getD i 0 := by
  have h1 := turned_get (F := F) hi
  have h2 := col_get o (p := i) (r := h - 1 - j) (by omega)
  have e : h - 1 - (h - 1 - j) = j := by omega
  rw [e] at h2
  rw [getD_of h1, getD_of h2]
/-- two fields are the same if all their letters are -/
theorem field_ext {F G : List Row} {h w : Nat} (o : FieldOk F h w) (q : FieldOk G h w) (e : ∀ i j, i < h → j < w → (F.getD i []).getD j 0 = (G.getD i []).getD j 0) : F = G := by
  apply List.ext_getElem (by rw [o.high, q.high])
  intro i h1 h2
  have hi : i < h := by rw [← o.high]; exact h1
  apply List.ext_getElem
  · rw [o.wide _ (List.getElem_mem h1), q.wide _ (List.getElem_mem h2)]
  intro j k1 k2
  have hj : j < w := by rw [← o.wide _ (List.getElem_mem h1)]; exact k1
  have z := e i j hi hj
  rw [getD_of (List.getElem?_eq_getElem h1), getD_of (List.getElem?_eq_getElem h2), getD_of (List.getElem?_eq_getElem k1), getD_of (List.getElem?_eq_getElem k2)] at z
  exact z
theorem turned_four {F : List Row} {h w : Nat} (o : FieldOk F h w) : turnedL (turnedL (turnedL (turnedL F w) h) w) h = F := by
  have o1 := o.turned
  have o2 := o1.turned
  have o3 := o2.turned
  have o4 := o3.turned
  refine field_ext o4 o fun i j hi hj => ?_
  rw [turned_at o3 hi hj, turned_at o2 (by omega) hi, turned_at o1 (by omega) (by omega), turned_at o (by omega) (by omega)]
  have e1 : h - 1 - (h - 1 - i) = i := by omega
  have e2 : w - 1 - (w - 1 - j) = j := by omega
  rw [e1, e2]
end Sn
/-! The mathematics of snakes: plain Lean, no program. -/
namespace Sn
/-- where a snake may go on -/
def nextL (h w : Nat) (cs : List Cel) : List Cel := match cs.getLast? with
  | none => cellsL h w
  | some c => (nearL h w c).filter fun d => !decide (d ∈ cs)
/-- all snakes that begin with cs and then spell the rest -/
def snakesOn (F : List (List Nat)) (h w : Nat) : List Nat → List Cel → List (List Cel)
  | [], cs => [cs]
  | l :: r, cs => (nextL h w cs).flatMap fun c => if at_ F c = l then snakesOn F h w r (cs ++ [c]) else []
def Vld (h w : Nat) (cs : List Cel) : Prop := ∀ c ∈ cs, c ∈ cellsL h w
theorem Vld.snoc {h w : Nat} {cs : List Cel} {c : Cel} (v : Vld h w cs) (hc : c ∈ cellsL h w) : Vld h w (cs ++ [c]) := fun d hd => by
  rcases List.mem_append.mp hd with hd | hd
  · exact v d hd
  · rw [List.mem_singleton.mp hd]; exact hc
theorem Vld.last {h w : Nat} {cs : List Cel} {c : Cel} (v : Vld h w cs) (e : cs.getLast? = some c) : c ∈ cellsL h w := v c (List.mem_of_getLast? e)
def nearLen (h w r p : Nat) : Bool := decide ((nearL h w ((r : Int), (p : Int))).length ≤ 8)
set_option maxRecDepth 100000 in
theorem nearLen_all : ((List.range 6).all fun h => (List.range 6).all fun w => (List.range h).all fun r => (List.range w).all fun p => nearLen h w r p) = true := by decide +kernel
theorem near_len {h w : Nat} (h5 : h ≤ 5) (w5 : w ≤ 5) {c : Cel} (hc : c ∈ cellsL h w) : (nearL h w c).length ≤ 8 := by
  obtain ⟨⟨a1, a2⟩, a3, a4⟩ := mem_cellsL.mp hc
  have k := nearLen_all
  rw [List.all_eq_true] at k
  have k1 := k h (List.mem_range.mpr (by omega))
  rw [List.all_eq_true] at k1
  have k2 := k1 w (List.mem_range.mpr (by omega))
  rw [List.all_eq_true] at k2
  have k3 := k2 c.1.toNat (List.mem_range.mpr (by omega))
  rw [List.all_eq_true] at k3
  have k4 := k3 c.2.toNat (List.mem_range.mpr (by omega))
  have e : (((c.1.toNat : Int), (c.2.toNat : Int)) : Cel) = c := by
    apply Prod.ext
    · show ((c.1.toNat : Int)) = c.1; omega
    · show ((c.2.toNat : Int)) = c.2; omega
  unfold nearLen at k4
  rw [e] at k4
  exact of_decide_eq_true k4
theorem next_mem {h w : Nat} (h5 : h ≤ 5) (w5 : w ≤ 5) {cs : List Cel} (v : Vld h w cs) {c : Cel} (hc : c ∈ nextL h w cs) : c ∈ cellsL h w := by
  unfold nextL at hc
  split at hc
  · exact hc
  · rename_i d e
    exact ((near_mem h5 w5 (v.last e)).mp (List.mem_filter.mp hc).1).1
theorem next_len {h w : Nat} (h5 : h ≤ 5) (w5 : w ≤ 5) {cs : List Cel} (v : Vld h w cs) : (nextL h w cs).length ≤ if cs = [] then 25 else 8 := by
  unfold nextL
  split
  · rename_i e
    rw [if_pos (List.getLast?_eq_none_iff.mp e)]
    have : (cellsL h w).length = h * w := by
      unfold cellsL
      clear e v
      induction h with
      | zero => simp [rng]
      | succ h ih => rw [rng_succ, List.flatMap_append, List.length_append, ih (by omega), List.flatMap_cons, List.flatMap_nil, List.append_nil, List.length_map, rng_length, Nat.succ_mul]
    rw [this]
    exact Nat.mul_le_mul h5 w5
  · rename_i d e
    have hne : cs ≠ [] := fun z => by rw [z] at e; cases e
    rw [if_neg hne]
    exact Nat.le_trans (List.length_filter_le _ _) (near_len h5 w5 (v.last e))
theorem flat_le {α β : Type} (f : α → List β) (m : Nat) : ∀ l : List α, (∀ a ∈ l, (f a).length ≤ m) → (l.flatMap f).length ≤ l.length * m
  | [], _ => by simp
  | a :: l, h => by
    rw [List.flatMap_cons, List.length_append, List.length_cons, Nat.succ_mul]
    have := flat_le f m l fun b hb => h b (List.mem_cons_of_mem _ hb)
    have := h a List.mem_cons_self
    omega
theorem snakes_len8 {F : List (List Nat)} {h w : Nat} (h5 : h ≤ 5) (w5 : w ≤ 5) : ∀ (r : List Nat) (cs : List Cel), cs ≠ [] → Vld h w cs → (snakesOn F h w r cs).length ≤ 8 ^ r.length
  | [], cs, _, _ => by simp [snakesOn]
  | l :: r, cs, hn, v => by
    show ((nextL h w cs).flatMap _).length ≤ _
    have h1 := next_len h5 w5 v
    rw [if_neg hn] at h1
    refine Nat.le_trans (flat_le _ (8 ^ r.length) _ fun c hc => ?_) ?_
    · show (if at_ F c = l then snakesOn F h w r (cs ++ [c]) else []).length ≤ _
      split
      · exact snakes_len8 h5 w5 r (cs ++ [c]) (by simp) (v.snoc (next_mem h5 w5 v hc))
      · exact Nat.zero_le _
    · rw [List.length_cons, Nat.pow_succ, Nat.mul_comm]
      exact Nat.mul_le_mul_left _ h1
theorem snakes_len {F : List (List Nat)} {h w : Nat} (h5 : h ≤ 5) (w5 : w ≤ 5) {r : List Nat} {cs : List Cel} (v : Vld h w cs) (hr : r.length ≤ 6) : (snakesOn F h w r cs).length ≤ 1000000 := by
  by_cases hn : cs = []
  · subst hn
    cases r with
    | nil => simp [snakesOn]
    | cons l r =>
      show ((nextL h w []).flatMap _).length ≤ _
      have h1 := next_len h5 w5 v
      rw [if_pos rfl] at h1
      refine Nat.le_trans (flat_le _ (8 ^ 5) _ fun c hc => ?_) (Nat.le_trans (Nat.mul_le_mul_right _ h1) (by decide))
      show (if at_ F c = l then snakesOn F h w r ([] ++ [c]) else []).length ≤ _
      split
      · exact Nat.le_trans (snakes_len8 h5 w5 r ([] ++ [c]) (by simp) (v.snoc (next_mem h5 w5 v hc))) (Nat.pow_le_pow_right (by decide) (by rw [List.length_cons] at hr; omega))
      · exact Nat.zero_le _
  · exact Nat.le_trans (snakes_len8 h5 w5 r cs hn v) (Nat.le_trans (Nat.pow_le_pow_right (by decide) hr) (by decide))
/-! ### letter by letter, all snakes at once -/
def stepB (F : List (List Nat)) (l : Nat) (cs : List Cel) (c : Cel) : Bool := (decide (at_ F c = l) && !decide (c ∈ cs)) && (decide (cs = []) || (match cs.getLast? with | none => false | some d => beside d c))
def stepL (F : List (List Nat)) (h w l : Nat) (cs : List Cel) : List (List Cel) := ((cellsL h w).filter (stepB F l cs)).map fun c => cs ++ [c]
def bfs (F : List (List Nat)) (h w : Nat) (word : List Nat) : List (List Cel) := word.foldl (fun fs l => fs.flatMap (stepL F h w l)) [[]]
theorem flat_if {α β : Type} (p : α → Bool) (f : α → List β) : ∀ l : List α, (l.flatMap fun a => if p a = true then f a else []) = (l.filter p).flatMap f
  | [] => rfl
  | a :: l => by
    rw [List.flatMap_cons, flat_if p f l, List.filter_cons]
    split
    · rw [List.flatMap_cons]
    · rfl
theorem step_eq {F : List (List Nat)} {h w : Nat} (h5 : h ≤ 5) (w5 : w ≤ 5) {l : Nat} {cs : List Cel} (v : Vld h w cs) : (cellsL h w).filter (stepB F l cs) = (nextL h w cs).filter fun c => decide (at_ F c = l) := by
  unfold nextL
  split
  · rename_i e
    have hn := List.getLast?_eq_none_iff.mp e
    subst hn
    apply List.filter_congr
    intro c _
    simp [stepB]
  · rename_i d e
    have hne : cs ≠ [] := fun z => by rw [z] at e; cases e
    rw [near_eq h5 w5 (v.last e), List.filter_filter, List.filter_filter]
    apply List.filter_congr
    intro c _
    unfold stepB
    rw [e, decide_eq_false hne, Bool.false_or, Bool.and_assoc]
theorem snakes_cons {F : List (List Nat)} {h w : Nat} (h5 : h ≤ 5) (w5 : w ≤ 5) {l : Nat} {r : List Nat} {cs : List Cel} (v : Vld h w cs) : snakesOn F h w (l :: r) cs = (stepL F h w l cs).flatMap (snakesOn F h w r) := by
  have e : snakesOn F h w (l :: r) cs = (nextL h w cs).flatMap fun c => if decide (at_ F c = l) = true then snakesOn F h w r (cs ++ [c]) else [] := by
    show (nextL h w cs).flatMap _ = _
    congr 1
    funext c
    simp only [decide_eq_true_eq]
  rw [e, flat_if, ← step_eq h5 w5 v]
  unfold stepL
  rw [List.flatMap_map]
theorem step_vld {F : List (List Nat)} {h w l : Nat} {cs s : List Cel} (v : Vld h w cs) (hs : s ∈ stepL F h w l cs) : Vld h w s := by
  obtain ⟨c, hc, rfl⟩ := List.mem_map.mp hs
  exact v.snoc (List.mem_filter.mp hc).1
theorem bfs_from {F : List (List Nat)} {h w : Nat} (h5 : h ≤ 5) (w5 : w ≤ 5) : ∀ (word : List Nat) (fs : List (List Cel)), (∀ s ∈ fs, Vld h w s) → word.foldl (fun fs l => fs.flatMap (stepL F h w l)) fs = fs.flatMap (snakesOn F h w word)
  | [], fs, _ => by
    show fs = fs.flatMap fun s => [s]
    simp
  | l :: r, fs, hv => by
    rw [List.foldl_cons, bfs_from h5 w5 r _ fun s hs => ?_, List.flatMap_assoc]
    · apply flatMap_congr_left
      intro s hs
      exact (snakes_cons h5 w5 (hv s hs)).symm
    · obtain ⟨t, ht, hs⟩ := List.mem_flatMap.mp hs
      exact step_vld (hv t ht) hs
where
  flatMap_congr_left {α β : Type} {f g : α → List β} {l : List α} (h : ∀ a ∈ l, f a = g a) : l.flatMap f = l.flatMap g := by
    induction l with
    | nil => rfl
    | cons a l ih => rw [List.flatMap_cons, List.flatMap_cons, h a List.mem_cons_self, ih fun b hb => h b (List.mem_cons_of_mem _ hb)]
theorem vld_nil (h w : Nat) : Vld h w [] := fun _ z => nomatch z
theorem bfs_eq {F : List (List Nat)} {h w : Nat} (h5 : h ≤ 5) (w5 : w ≤ 5) (word : List Nat) : bfs F h w word = snakesOn F h w word [] := by
  unfold bfs
  rw [bfs_from h5 w5 word [[]] fun s hs => by rw [List.mem_singleton.mp hs]; exact vld_nil h w]
  simp
/-! ### what snakes are -/
def adjB (cs : List Cel) : Bool := (cs.zip (cs.drop 1)).all fun p => beside p.1 p.2
def snakeB (h w : Nat) (cs : List Cel) : Bool := !decide (cs = []) && (decide cs.Nodup && ((cs.all fun c => decide (c ∈ cellsL h w)) && adjB cs))
def spell (F : List (List Nat)) (cs : List Cel) : List Nat := cs.map (at_ F)
theorem adj_snoc : ∀ {cs : List Cel} {c : Cel}, adjB cs = true → (∀ d, cs.getLast? = some d → beside d c = true) → adjB (cs ++ [c]) = true
  | [], c, _, _ => rfl
  | [a], c, _, h => by
    have := h a rfl
    simp [adjB, this]
  | a :: b :: r, c, h, hl => by
    have h' : beside a b = true ∧ adjB (b :: r) = true := by
      simpa [adjB] using h
    have ih := adj_snoc (cs := b :: r) (c := c) h'.2 (fun d hd => hl d (by rw [List.getLast?_cons_cons]; exact hd))
    have : adjB (a :: b :: r ++ [c]) = (beside a b && adjB (b :: r ++ [c])) := by simp [adjB]
    rw [this, h'.1, ih]; rfl
structure Snk (h w : Nat) (cs : List Cel) : Prop where
  vld : Vld h w cs
  nd : cs.Nodup
  adj : adjB cs = true
theorem snk_nil (h w : Nat) : Snk h w [] := ⟨vld_nil h w, List.nodup_nil, rfl⟩
theorem snakeB_iff {h w : Nat} {cs : List Cel} : snakeB h w cs = true ↔ cs ≠ [] ∧ Snk h w cs := by
  unfold snakeB
  simp only [Bool.and_eq_true, Bool.not_eq_true', decide_eq_false_iff_not, decide_eq_true_eq, List.all_eq_true]
  constructor
  · rintro ⟨a, b, c, d⟩
    exact ⟨a, c, b, d⟩
  · rintro ⟨a, c, b, d⟩
    exact ⟨a, b, c, d⟩
theorem Snk.snoc {F : List (List Nat)} {h w l : Nat} {cs : List Cel} {c : Cel} (k : Snk h w cs) (hc : c ∈ cellsL h w) (hb : stepB F l cs c = true) : Snk h w (cs ++ [c]) := by
  unfold stepB at hb
  simp only [Bool.and_eq_true, Bool.or_eq_true, decide_eq_true_eq, Bool.not_eq_true', decide_eq_false_iff_not] at hb
  obtain ⟨⟨_, hn⟩, hb⟩ := hb
  refine ⟨k.vld.snoc hc, ?_, adj_snoc k.adj fun d hd => ?_⟩
  · rw [List.nodup_append]
    refine ⟨k.nd, by simp, fun a ha b hb' z => ?_⟩
    rw [List.mem_singleton.mp hb'] at z
    exact hn (z ▸ ha)
  · rcases hb with hb | hb
    · rw [hb] at hd; cases hd
    · rw [hd] at hb; exact hb
theorem snakes_are {F : List (List Nat)} {h w : Nat} (h5 : h ≤ 5) (w5 : w ≤ 5) : ∀ (r : List Nat) (cs s : List Cel), Snk h w cs → s ∈ snakesOn F h w r cs → Snk h w s ∧ ∃ t, s = cs ++ t ∧ spell F t = r
  | [], cs, s, k, hs => by
    rw [List.mem_singleton.mp hs]
    exact ⟨k, [], by simp, rfl⟩
  | l :: r, cs, s, k, hs => by
    rw [snakes_cons h5 w5 k.vld] at hs
    obtain ⟨cs', hc', hs⟩ := List.mem_flatMap.mp hs
    obtain ⟨c, hc, rfl⟩ := List.mem_map.mp hc'
    obtain ⟨hc1, hc2⟩ := List.mem_filter.mp hc
    obtain ⟨k2, t, rfl, ht⟩ := snakes_are h5 w5 r _ s (k.snoc hc1 hc2) hs
    refine ⟨k2, c :: t, by simp, ?_⟩
    have hl : at_ F c = l := by
      unfold stepB at hc2
      simp only [Bool.and_eq_true, decide_eq_true_eq] at hc2
      exact hc2.1.1
    show at_ F c :: spell F t = _
    rw [hl, ht]
theorem snakes_mem {F : List (List Nat)} {h w : Nat} (h5 : h ≤ 5) (w5 : w ≤ 5) {word : List Nat} {s : List Cel} (hs : s ∈ snakesOn F h w word []) : Snk h w s ∧ spell F s = word := by
  obtain ⟨k, t, rfl, ht⟩ := snakes_are h5 w5 word [] s (snk_nil h w) hs
  exact ⟨k, by simpa using ht⟩
/-! ### how far snakes come -/
def ne_ (F : List (List Nat)) (h w : Nat) (word : List Nat) (m : Nat) : Bool := !decide (snakesOn F h w (word.take m) [] = [])
theorem bfs_snoc (F : List (List Nat)) (h w : Nat) (word : List Nat) (l : Nat) : bfs F h w (word ++ [l]) = (bfs F h w word).flatMap (stepL F h w l) := by
  unfold bfs
  rw [List.foldl_append]; rfl
theorem ne_down {F : List (List Nat)} {h w : Nat} (h5 : h ≤ 5) (w5 : w ≤ 5) {word : List Nat} {m : Nat} (hm : m < word.length) (h1 : ne_ F h w word (m + 1) = true) : ne_ F h w word m = true := by
  unfold ne_ at h1 ⊢
  rw [Bool.not_eq_true', decide_eq_false_iff_not] at h1 ⊢
  intro z
  apply h1
  rw [← bfs_eq h5 w5] at z ⊢
  rw [List.take_add_one, List.getElem?_eq_getElem hm]
  show bfs F h w (word.take m ++ [word[m]]) = []
  rw [bfs_snoc, z]
  rfl
theorem ne_le {F : List (List Nat)} {h w : Nat} (h5 : h ≤ 5) (w5 : w ≤ 5) {word : List Nat} : ∀ {k m : Nat}, m ≤ k → k ≤ word.length → ne_ F h w word k = true → ne_ F h w word m = true
  | 0, m, h1, _, h => by
    have : m = 0 := by omega
    rw [this]; exact h
  | k + 1, m, h1, h2, h => by
    by_cases e : m = k + 1
    · rw [e]; exact h
    · exact ne_le h5 w5 (by omega) (by omega) (ne_down h5 w5 (by omega) h)
/-- m letters are spelled by some snake, no more are -/
structure Lgst (F : List (List Nat)) (h w : Nat) (word : List Nat) (m : Nat) : Prop where
  le : m ≤ word.length
  ne : ne_ F h w word m = true
  most : ∀ k, m < k → k ≤ word.length → ne_ F h w word k = false
theorem Lgst.inj {F : List (List Nat)} {h w : Nat} {word : List Nat} {m k : Nat} (a : Lgst F h w word m) (b : Lgst F h w word k) : m = k := by
  rcases Nat.lt_trichotomy m k with c | c | c
  · have := a.most k c b.le
    rw [b.ne] at this; cases this
  · exact c
  · have := b.most m c a.le
    rw [a.ne] at this; cases this
theorem lgst_of {F : List (List Nat)} {h w : Nat} (h5 : h ≤ 5) (w5 : w ≤ 5) {word : List Nat} {m : Nat} (le : m ≤ word.length) (ne : ne_ F h w word m = true) (st : m < word.length → ne_ F h w word (m + 1) = false) : Lgst F h w word m := by
  refine ⟨le, ne, fun k h1 h2 => ?_⟩
  cases e : ne_ F h w word k with
  | false => rfl
  | true =>
    have := ne_le h5 w5 (show m + 1 ≤ k by omega) h2 e
    rw [st (by omega)] at this
    cases this
theorem ne_zero (F : List (List Nat)) (h w : Nat) (word : List Nat) : ne_ F h w word 0 = true := by simp [ne_, snakesOn]
end Sn
/-! No snake is told twice. -/
namespace Sn
theorem cells_nodB : ((List.range 6).all fun h => (List.range 6).all fun w => decide (cellsL h w).Nodup) = true := by decide +kernel
theorem cells_nd {h w : Nat} (h5 : h ≤ 5) (w5 : w ≤ 5) : (cellsL h w).Nodup := by
  have a := List.all_eq_true.mp cells_nodB h (List.mem_range.mpr (by omega))
  exact of_decide_eq_true (List.all_eq_true.mp a w (List.mem_range.mpr (by omega)))
theorem snakes_pre {F : List (List Nat)} {h w : Nat} : ∀ (r : List Nat) (cs s : List Cel), s ∈ snakesOn F h w r cs → ∃ t, s = cs ++ t
  | [], cs, s, hs => ⟨[], by rw [List.append_nil]; exact List.mem_singleton.mp hs⟩
  | l :: r, cs, s, hs => by
    obtain ⟨c, _, h2⟩ := List.mem_flatMap.mp hs
    by_cases e : at_ F c = l
    · rw [if_pos e] at h2
      obtain ⟨t, rfl⟩ := snakes_pre r _ _ h2
      exact ⟨c :: t, by simp⟩
    · rw [if_neg e] at h2
      exact nomatch h2
theorem snakes_nd {F : List (List Nat)} {h w : Nat} (h5 : h ≤ 5) (w5 : w ≤ 5) : ∀ (r : List Nat) (cs : List Cel), Vld h w cs → (snakesOn F h w r cs).Nodup
  | [], cs, _ => List.pairwise_singleton _ _
  | l :: r, cs, v => by
    rw [snakes_cons h5 w5 v]
    unfold List.Nodup
    rw [List.pairwise_flatMap]
    refine ⟨fun s hs => snakes_nd h5 w5 r s (step_vld v hs), ?_⟩
    unfold stepL
    rw [List.pairwise_map]
    refine (List.Pairwise.filter _ (cells_nd h5 w5)).imp ?_
    intro a b ne x hx y hy e
    subst e
    obtain ⟨t1, e1⟩ := snakes_pre r _ _ hx
    obtain ⟨t2, e2⟩ := snakes_pre r _ _ hy
    rw [e1, List.append_assoc, List.append_assoc] at e2
    exact ne (List.cons.inj (List.append_cancel_left e2)).1
end Sn
/-! How fields, cells and snakes stand in the heap; comprehensions by one lemma. -/
namespace Sk
open PySem PySem.Spec PyProof.Rows L2 Sn

/-! ### heaps -/
theorem same_new {H : Hp} {p : Addr} {o : HO} (h : H p = none) : Same H (upd H p o) := fun b x e => by
  rw [upd_ne (ne_of_none e h)]; exact e
theorem same_upd {H0 H : Hp} {p : Addr} {o : HO} (s : Same H0 H) (h : H0 p = none) : Same H0 (upd H p o) := fun b x e => by
  rw [upd_ne (ne_of_none e h)]; exact s b x e
/-- all but D stays -/
def Kb (D : Addr) (H H' : Hp) : Prop := ∀ b o, b ≠ D → H b = some o → H' b = some o
theorem Kb.of {D : Addr} {H H' : Hp} (s : Same H H') : Kb D H H' := fun b o _ e => s b o e
theorem Kb.upd {D : Addr} {H H' : Hp} {o : HO} (s : Kb D H H') : Kb D H (upd H' D o) := fun b x n e => by
  rw [upd_ne n]; exact s b x n e
theorem Kb.trans {D : Addr} {H H1 H2 : Hp} (a : Kb D H H1) (b : Kb D H1 H2) : Kb D H H2 := fun c o n e => b c o n (a c o n e)
/-- tuples stay -/
def TupLe (H H' : Hp) : Prop := ∀ a xs, Rd H a (.tup xs) → Rd H' a (.tup xs)
theorem TupLe.refl (H : Hp) : TupLe H H := fun _ _ h => h
theorem TupLe.trans {H H1 H2 : Hp} (a : TupLe H H1) (b : TupLe H1 H2) : TupLe H H2 := fun c xs h => b c xs (a c xs h)
theorem TupLe.of {H H' : Hp} (s : Same H H') : TupLe H H' := fun a xs h => by
  rcases h with h | ⟨o, h⟩
  · exact .inl (s _ _ h)
  · exact .inr ⟨o, s _ _ h⟩
theorem TupLe.kb {D : Addr} {H H' : Hp} {ys : List V} (hD : H D = some (.lst ys)) (s : Kb D H H') : TupLe H H' := fun a xs h => by
  rcases h with h | ⟨o, h⟩
  · exact .inl (s _ _ (ne_of h hD (fun z => by cases z)) h)
  · exact .inr ⟨o, s _ _ (ne_of h hD (fun z => by cases z)) h⟩
theorem TupLe.upd {H H' : Hp} {D : Addr} {ys : List V} {o : HO} (hD : H' D = some (.lst ys)) (s : TupLe H H') : TupLe H (upd H' D o) := fun a xs h => by
  rcases s a xs h with h | ⟨o, h⟩
  · exact .inl (by rw [upd_ne (ne_of h hD (fun z => by cases z))]; exact h)
  · exact .inr ⟨o, by rw [upd_ne (ne_of h hD (fun z => by cases z))]; exact h⟩
theorem TupLe.sqt {K : PySem.W.Frag} {H H' : Hp} {a : Addr} {xs : List V} (s : TupLe H H') (h : SqT K H a xs) : SqT K H' a xs := by
  rcases h with h | h
  · exact .inl (s _ _ h)
  · exact .inr h
theorem Same.sqt {K : PySem.W.Frag} {H H' : Hp} {a : Addr} {xs : List V} (s : Same H H') (h : SqT K H a xs) : SqT K H' a xs := (TupLe.of s).sqt h

/-! ### texts -/
/-- a text by its codes -/
def tx (r : List Nat) : Str := ⟨r.toArray⟩
abbrev tv (r : List Nat) : V := .str (tx r)
theorem tx_len (r : List Nat) : (tx r).length = r.length := by show r.toArray.size = _; simp
theorem tx_cps (r : List Nat) : (tx r).cps.toList = r := by show r.toArray.toList = r; simp
theorem tx_inj {a b : List Nat} (h : tx a = tx b) : a = b := by
  have := congrArg (fun z : Str => z.cps.toList) h
  simpa only [tx_cps] using this
theorem tx_eq (a b : List Nat) : decide (tx a = tx b) = decide (a = b) := by
  by_cases h : a = b
  · subst h; simp
  · rw [decide_eq_false h, decide_eq_false (fun z => h (tx_inj z))]
theorem str_tx (z : Str) : ∃ r, z = tx r := ⟨z.cps.toList, by cases z; simp [tx]⟩
theorem revS_tx (r : List Nat) : revS (tx r) = tx r.reverse := by unfold revS; rw [tx_cps]; rfl
theorem tx_app (a b : List Nat) : tx a ++ tx b = tx (a ++ b) := by
  show (⟨a.toArray ++ b.toArray⟩ : Str) = ⟨(a ++ b).toArray⟩
  simp
/-! ### cells -/
def CellV (K : PySem.W.Frag) (H : Hp) (v : V) (c : Cel) : Prop := ∃ t, v = .ref t ∧ SqT K H t [.int c.1, .int c.2]
abbrev Cells (K : PySem.W.Frag) (H : Hp) (xs : List V) (cs : List Cel) : Prop := Paired (CellV K H) xs cs
theorem CellV.le {K : PySem.W.Frag} {H H' : Hp} {v : V} {c : Cel} (h : CellV K H v c) (s : TupLe H H') : CellV K H' v c := by
  obtain ⟨t, e, q⟩ := h
  exact ⟨t, e, s.sqt q⟩
theorem Cells.le {K : PySem.W.Frag} {H H' : Hp} {xs : List V} {cs : List Cel} (h : Cells K H xs cs) (s : TupLe H H') : Cells K H' xs cs := Paired.mapP h fun _ _ q => q.le s
theorem Paired.get {α β : Type} {F : α → β → Prop} : ∀ {l₁ : List α} {l₂ : List β} {i : Nat} {a : α}, Paired F l₁ l₂ → l₁[i]? = some a → ∃ b, l₂[i]? = some b ∧ F a b
  | _, _, _, _, .nil, e => by simp at e
  | _, _, 0, _, .cons r _, e => by simp at e; subst e; exact ⟨_, rfl, r⟩
  | _, _, i + 1, a, .cons _ t, e => by
    obtain ⟨u, h1, h2⟩ := Paired.get (i := i) (a := a) t (by simpa using e)
    exact ⟨u, by simpa using h1, h2⟩
theorem Paired.get' {α β : Type} {F : α → β → Prop} : ∀ {l₁ : List α} {l₂ : List β} {i : Nat} {b : β}, Paired F l₁ l₂ → l₂[i]? = some b → ∃ a, l₁[i]? = some a ∧ F a b
  | _, _, _, _, .nil, e => by simp at e
  | _, _, 0, _, .cons r _, e => by simp at e; subst e; exact ⟨_, rfl, r⟩
  | _, _, i + 1, b, .cons _ t, e => by
    obtain ⟨u, h1, h2⟩ := Paired.get' (i := i) (b := b) t (by simpa using e)
    exact ⟨u, by simpa using h1, h2⟩
theorem Paired.app {α β : Type} {F : α → β → Prop} : ∀ {a b : List α} {c d : List β}, Paired F a c → Paired F b d → Paired F (a ++ b) (c ++ d)
  | _, _, _, _, .nil, h => h
  | _, _, _, _, .cons r t, h => .cons r (Paired.app t h)
theorem Paired.mapR {α β γ : Type} {F : α → β → Prop} {G : α → γ → Prop} (f : β → γ) : ∀ {a : List α} {b : List β}, Paired F a b → (∀ x y, F x y → G x (f y)) → Paired G a (b.map f)
  | _, _, .nil, _ => .nil
  | _, _, .cons r t, h => .cons (h _ _ r) (Paired.mapR f t h)
theorem Paired.eqs {α β : Type} {f : β → α} : ∀ {a : List α} {b : List β}, Paired (fun x y => x = f y) a b → a = b.map f
  | _, _, .nil => rfl
  | _, _, .cons r t => by rw [List.map_cons, r, Paired.eqs t]
theorem Paired.drop {α β : Type} {F : α → β → Prop} : ∀ {a : List α} {b : List β} (n : Nat), Paired F a b → Paired F (a.drop n) (b.drop n)
  | _, _, 0, h => h
  | _, _, _ + 1, .nil => .nil
  | _, _, n + 1, .cons _ t => Paired.drop n t
theorem Paired.take {α β : Type} {F : α → β → Prop} : ∀ {a : List α} {b : List β} (n : Nat), Paired F a b → Paired F (a.take n) (b.take n)
  | _, _, 0, _ => .nil
  | _, _, _ + 1, .nil => .nil
  | _, _, n + 1, .cons r t => .cons r (Paired.take n t)
theorem Paired.rev {α β : Type} {F : α → β → Prop} : ∀ {a : List α} {b : List β}, Paired F a b → Paired F a.reverse b.reverse
  | _, _, .nil => .nil
  | _, _, .cons r t => by rw [List.reverse_cons, List.reverse_cons]; exact Paired.snoc (Paired.rev t) r
/-! ### data -/
def cellD (c : Cel) : PyData := .tuple [.int c.1, .int c.2]
def cellsD (cs : List Cel) : PyData := .list (cs.map cellD)
def snakesD (ss : List (List Cel)) : PyData := .list (ss.map cellsD)
def textD (r : List Nat) : PyData := .str (tx r)
def textsD (F : List (List Nat)) : PyData := .list (F.map textD)
section
variable {K : PySem.W.Frag} {H H' : Hp}
theorem CellV.dp {v : V} {c : Cel} (h : CellV K H v c) : Dp K H v (cellD c) := by
  obtain ⟨t, rfl, q⟩ := h
  exact .tup q (.cons (.int _) (.cons (.int _) .nil))
theorem Cells.dp {xs : List V} {cs : List Cel} (h : Cells K H xs cs) : DpAll K H xs (cs.map cellD) := by
  induction h with
  | nil => exact .nil
  | cons r _ ih => exact .cons r.dp ih
theorem cells_dp {a : Addr} {xs : List V} {cs : List Cel} (hs : SqL K H a xs) (h : Cells K H xs cs) : Dp K H (.ref a) (cellsD cs) := .lst hs h.dp
theorem texts_all (F : List (List Nat)) : DpAll K H (F.map tv) (F.map textD) := by
  induction F with
  | nil => exact .nil
  | cons r _ ih => exact .cons (.str _) ih
theorem texts_dp {a : Addr} {F : List (List Nat)} (hs : SqL K H a (F.map tv)) : Dp K H (.ref a) (textsD F) := .lst hs (texts_all F)
mutual
theorem Dp.same (s : Same H H') : ∀ (d : PyData) (v : V), Dp K H v d → Dp K H' v d
  | .none, _, h => by cases h; exact .non
  | .bool b, _, h => by cases h; exact .bl b
  | .int i, _, h => by cases h; exact .int i
  | .str x, _, h => by cases h; exact .str x
  | .list ds, _, h => by
    cases h with
    | lst q r => exact .lst (s.seq q) (DpAll.same s ds _ r)
  | .tuple ds, _, h => by
    cases h with
    | tup q r => exact .tup (Same.sqt s q) (DpAll.same s ds _ r)
  | .dict _, _, h => nomatch h
theorem DpAll.same (s : Same H H') : ∀ (ds : List PyData) (vs : List V), DpAll K H vs ds → DpAll K H' vs ds
  | [], _, h => by cases h; exact .nil
  | d :: ds, _, h => by
    cases h with
    | cons a b => exact .cons (Dp.same s d _ a) (DpAll.same s ds _ b)
end
end

/-! ### equality of data -/
theorem eqv_cell (a b : Cel) : PyData.eqv (cellD a) (cellD b) = decide (a = b) := by
  obtain ⟨a1, a2⟩ := a
  obtain ⟨b1, b2⟩ := b
  have e : PyData.eqv (cellD (a1, a2)) (cellD (b1, b2)) = ((a1 == b1) && ((a2 == b2) && true)) := by simp only [cellD, PyData.eqv, PyData.eqvAll]
  rw [e, Bool.and_true]
  by_cases h1 : a1 = b1
  · by_cases h2 : a2 = b2
    · subst h1 h2; simp
    · rw [decide_eq_false (fun z => h2 (congrArg Prod.snd z)), beq_eq_false_iff_ne.mpr h2, Bool.and_false]
  · rw [decide_eq_false (fun z => h1 (congrArg Prod.fst z)), beq_eq_false_iff_ne.mpr h1, Bool.false_and]
theorem eqv_text (a b : List Nat) : PyData.eqv (textD a) (textD b) = decide (a = b) := by
  have e : PyData.eqv (textD a) (textD b) = (tx a == tx b) := by simp only [textD, PyData.eqv]
  rw [e, ← tx_eq]
  by_cases h : tx a = tx b
  · rw [h]; simp
  · rw [decide_eq_false h, beq_eq_false_iff_ne.mpr h]
theorem eqv_maps {α : Type} [DecidableEq α] {f : α → PyData} (hf : ∀ a b, PyData.eqv (f a) (f b) = decide (a = b)) : ∀ xs ys : List α, PyData.eqvAll (xs.map f) (ys.map f) = decide (xs = ys)
  | [], [] => by simp only [List.map_nil, PyData.eqvAll]; rfl
  | [], y :: ys => by simp only [List.map_nil, List.map_cons, PyData.eqvAll]; rfl
  | x :: xs, [] => by simp only [List.map_nil, List.map_cons, PyData.eqvAll]; rfl
  | x :: xs, y :: ys => by
    simp only [List.map_cons, PyData.eqvAll]
    rw [hf, eqv_maps hf xs ys]
    by_cases h1 : x = y
    · by_cases h2 : xs = ys
      · subst h1 h2; simp
      · rw [decide_eq_false h2, decide_eq_false (fun z => h2 (List.cons.inj z).2), Bool.and_false]
    · rw [decide_eq_false h1, decide_eq_false (fun z => h1 (List.cons.inj z).1), Bool.false_and]
theorem eqv_lists {α : Type} [DecidableEq α] {f : α → PyData} (hf : ∀ a b, PyData.eqv (f a) (f b) = decide (a = b)) (xs ys : List α) : PyData.eqv (.list (xs.map f)) (.list (ys.map f)) = decide (xs = ys) := by
  simp only [PyData.eqv]
  exact eqv_maps hf xs ys
theorem eqv_cells (a b : List Cel) : PyData.eqv (cellsD a) (cellsD b) = decide (a = b) := eqv_lists eqv_cell a b
theorem eqv_snakes (a b : List (List Cel)) : PyData.eqv (snakesD a) (snakesD b) = decide (a = b) := eqv_lists eqv_cells a b
theorem eqv_texts (a b : List (List Nat)) : PyData.eqv (textsD a) (textsD b) = decide (a = b) := eqv_lists eqv_text a b
/-! ### shapes -/
def Shp (n : Nat) (d : PyData) : Prop := d.canLay0 = true ∧ d.depth ≤ n
theorem Shp.ok {n : Nat} {d : PyData} (h : Shp n d) (hn : n ≤ 64 := by decide) : SeqAt.shaped d = true := by
  unfold SeqAt.shaped
  rw [h.1, decide_eq_true (Nat.le_trans h.2 hn)]; rfl
theorem shp_all {n : Nat} : ∀ ds : List PyData, (∀ d ∈ ds, Shp n d) → PyData.canLayAll0 ds = true ∧ PyData.depthAll ds ≤ n
  | [], _ => by simp [PyData.canLayAll0, PyData.depthAll]
  | d :: ds, h => by
    obtain ⟨h1, h2⟩ := shp_all ds fun e he => h e (List.mem_cons_of_mem _ he)
    obtain ⟨h3, h4⟩ := h d List.mem_cons_self
    simp only [PyData.canLayAll0, PyData.depthAll]
    exact ⟨by rw [h3, h1]; rfl, by omega⟩
theorem shp_list {n : Nat} {ds : List PyData} (h : ∀ d ∈ ds, Shp n d) : Shp (n + 1) (.list ds) := by
  obtain ⟨h1, h2⟩ := shp_all ds h
  exact ⟨by simp only [PyData.canLay0]; exact h1, by simp only [PyData.depth]; omega⟩
theorem shp_map {α : Type} {n : Nat} {f : α → PyData} (h : ∀ a, Shp n (f a)) (xs : List α) : Shp (n + 1) (.list (xs.map f)) :=
  shp_list fun d hd => by obtain ⟨a, _, rfl⟩ := List.mem_map.mp hd; exact h a
theorem shp_cell (c : Cel) : Shp 1 (cellD c) := ⟨by simp [cellD, PyData.canLay0, PyData.canLayAll0], by simp [cellD, PyData.depth, PyData.depthAll]⟩
/-- codes that a text may have -/
def Cod (r : List Nat) : Prop := ∀ c ∈ r, c < 0x110000
theorem shp_text {r : List Nat} (h : Cod r) : Shp 1 (textD r) := by
  refine ⟨?_, by simp [textD, PyData.depth]⟩
  simp only [textD, PyData.canLay0]
  unfold PyData.strOk
  rw [Array.all_eq_true']
  intro c hc
  have hc' : c ∈ r := by simpa [tx] using hc
  exact decide_eq_true (h c hc')
theorem shp_cells (cs : List Cel) : Shp 2 (cellsD cs) := shp_map shp_cell cs
theorem shp_texts {F : List (List Nat)} (h : ∀ r ∈ F, Cod r) : Shp 2 (textsD F) := shp_list fun d hd => by
  obtain ⟨r, hr, rfl⟩ := List.mem_map.mp hd
  exact shp_text (h r hr)
theorem letter_cod {r : List Nat} (h : ∀ c ∈ r, letter c) : Cod r := fun c hc => by
  have := h c hc
  unfold letter at this
  omega
theorem shp_field {F : List (List Nat)} {h w : Nat} (o : FieldOk F h w) : Shp 2 (textsD F) := shp_texts fun r hr => letter_cod (o.let_ r hr)
theorem shp_snakes (ss : List (List Cel)) : Shp 3 (snakesD ss) := shp_map shp_cells ss
/-! ### what is shown of few cells of small numbers -/
theorem textFrom_le : ∀ (ts : List Str) (k : Nat) (acc : Str) (m : Nat), (∀ t ∈ ts, t.length ≤ m) → (textFrom k acc ts).length ≤ acc.length + ts.length * (m + 2)
  | [], k, acc, m, _ => by show acc.length ≤ _; simp
  | t :: r, k, acc, m, h => by
    have ih := textFrom_le r (k + 1) (acc ++ (if k > 0 then ", " else "" : String) ++ t) m fun u hu => h u (List.mem_cons_of_mem _ hu)
    have ht := h t List.mem_cons_self
    show (textFrom (k + 1) _ r).length ≤ _
    have e : (acc ++ (if k > 0 then ", " else "" : String) ++ t).length ≤ acc.length + 2 + t.length := by
      rw [strLen_append, strLen_append]
      have : ((if k > 0 then ", " else "" : String) : Str).length ≤ 2 := by split <;> decide +kernel
      omega
    rw [List.length_cons, Nat.succ_mul]
    omega
theorem listText_le {ts : List Str} {m : Nat} (h : ∀ t ∈ ts, t.length ≤ m) : (listText ts).length ≤ 2 + ts.length * (m + 2) := by
  unfold listText
  rw [strLen_append]
  have h1 := textFrom_le ts 0 "[" m h
  have e1 : (("[" : String) : Str).length = 1 := by decide +kernel
  have e2 : (("]" : String) : Str).length = 1 := by decide +kernel
  omega
theorem shownAll_map : ∀ ds : List PyData, PyData.shownAll ds = ds.map PyData.shown
  | [] => by simp only [PyData.shownAll, List.map_nil]
  | d :: ds => by simp only [PyData.shownAll, List.map_cons, shownAll_map ds]
/-- a datum that str may show: few signs -/
def Shw (m : Nat) (d : PyData) : Prop := d.showable = true ∧ d.hasDict = false ∧ d.shown.length ≤ m
theorem shw_all : ∀ ds : List PyData, (∀ d ∈ ds, d.showable = true ∧ d.hasDict = false) → PyData.showableAll ds = true ∧ PyData.hasDictAll ds = false
  | [], _ => by simp only [PyData.showableAll, PyData.hasDictAll, and_self]
  | d :: ds, h => by
    obtain ⟨h1, h2⟩ := shw_all ds fun e he => h e (List.mem_cons_of_mem _ he)
    obtain ⟨h3, h4⟩ := h d List.mem_cons_self
    simp only [PyData.showableAll, PyData.hasDictAll]
    rw [h1, h2, h3, h4]
    exact ⟨rfl, rfl⟩
theorem shw_list {m n : Nat} {ds : List PyData} (h : ∀ d ∈ ds, Shw m d) (hn : ds.length ≤ n) : Shw (2 + n * (m + 2)) (.list ds) := by
  obtain ⟨h1, h2⟩ := shw_all ds fun d hd => ⟨(h d hd).1, (h d hd).2.1⟩
  refine ⟨by simp only [PyData.showable]; exact h1, by simp only [PyData.hasDict]; exact h2, ?_⟩
  simp only [PyData.shown]
  rw [shownAll_map]
  refine Nat.le_trans (listText_le (m := m) fun t ht => ?_) ?_
  · obtain ⟨d, hd, rfl⟩ := List.mem_map.mp ht
    exact (h d hd).2.2
  · rw [List.length_map]
    exact Nat.add_le_add_left (Nat.mul_le_mul_right _ hn) _
def celChk (r p : Nat) : Bool := (cellD ((r : Int), (p : Int))).showable && decide ((cellD ((r : Int), (p : Int))).shown.length ≤ 6)
set_option maxRecDepth 100000 in
theorem celChk_all : ((List.range 10).all fun r => (List.range 10).all fun p => celChk r p) = true := by decide +kernel
theorem shw_cell {c : Cel} (h1 : 0 ≤ c.1 ∧ c.1 < 10) (h2 : 0 ≤ c.2 ∧ c.2 < 10) : Shw 6 (cellD c) := by
  have k := celChk_all
  rw [List.all_eq_true] at k
  have k1 := k c.1.toNat (List.mem_range.mpr (by omega))
  rw [List.all_eq_true] at k1
  have k2 := k1 c.2.toNat (List.mem_range.mpr (by omega))
  have e : (((c.1.toNat : Int), (c.2.toNat : Int)) : Cel) = c := by
    apply Prod.ext
    · show ((c.1.toNat : Int)) = c.1; omega
    · show ((c.2.toNat : Int)) = c.2; omega
  unfold celChk at k2
  rw [e, Bool.and_eq_true] at k2
  exact ⟨k2.1, by simp only [cellD, PyData.hasDict, PyData.hasDictAll]; rfl, of_decide_eq_true k2.2⟩
theorem shw_cells {cs : List Cel} (h : ∀ c ∈ cs, (0 ≤ c.1 ∧ c.1 < 10) ∧ (0 ≤ c.2 ∧ c.2 < 10)) (hn : cs.length ≤ 100) : Shw (2 + 100 * (6 + 2)) (cellsD cs) :=
  shw_list (fun d hd => by
    obtain ⟨c, hc, rfl⟩ := List.mem_map.mp hd
    exact shw_cell (h c hc).1 (h c hc).2) (by rw [List.length_map]; exact hn)
/-- what call_strD asks -/
theorem str_asks {d : PyData} {m n : Nat} (hw : Shw m d) (hs : Shp n d) (hm : m ≤ sizeLine := by first | decide | (rw [sizeLine_eq]; decide)) (hn : n ≤ 64 := by decide) : d.showable = true ∧ d.hasDict = false ∧ d.depth ≤ 64 ∧ d.shown.length ≤ sizeLine :=
  ⟨hw.1, hw.2.1, Nat.le_trans hs.2 hn, Nat.le_trans hw.2.2 hm⟩
/-! ### a comprehension by one lemma -/
section
variable {J : It} {n : Nat} {G : Hp → Prop} {Y : Nat → Hp → V → Hp → Prop}
theorem lc_gen (w : Walk J n G Y) {g : TG} {tt : TT} {te : TE} {vs : List Nat} {σ : L2.St} {H1 : Hp} {Q : Addr → Hp → Prop} (hn : n ≤ sizeLine) (keep : Nat → Bool)
    (R : Addr → Nat → V → Hp → Prop) (hR : ∀ D i v H H' ys, H1 D = none → H D = some (.lst ys) → Kb D H H' → R D i v H → R D i v H')
    (hG : ∀ H, Same H1 H → G H)
    (he : ∀ D i x H H' (Qe : VK) (Qn : Hp → Prop), H1 D = none → i < n → Same H1 H → (∃ ys, H D = some (.lst ys)) → Y i H x H' →
      (∀ y H4, keep i = true → Same H H4 → R D i y H4 → Qe y H4) → (∀ H3, keep i = false → Same H H3 → Qn H3) →
      g x (wipe σ vs) H' fun σ2 H2 => wipe σ2 vs = wipe σ vs ∧ tt σ2 H2 fun b H3 => if b = true then te σ2 H3 Qe else Qn H3)
    (hd : ∀ D ys H, H1 D = none → Same H1 H → H D = some (.lst ys) → Paired (fun v i => R D i v H) ys ((List.range n).filter keep) → Q D H) :
    ∀ D, H1 D = none → ∃ W : Nat → Nat → Hp → Prop, (∃ m, W 0 m (upd H1 D (.lst []))) ∧ ∀ i m H, W i m H →
      (J.stop i H ∧ Q D H) ∨ (J.go i H ∧ ∃ Nx : Hp → Prop, (∀ H', Nx H' → ∃ m', m' < m ∧ W (i + 1) m' H') ∧ ∀ x H', J.yld i H x H' → g x (wipe σ vs) H' fun σ2 H2 => wipe σ2 vs = wipe σ vs ∧ tt σ2 H2 fun b H3 =>
        if b = true then te σ2 H3 fun y H4 => ∃ acc, H4 D = some (.lst acc) ∧ acc.length < sizeLine ∧ Nx (upd H4 D (.lst (acc ++ [y]))) else Nx H3) := by
  intro D nD
  refine lc_it w (fun i H => Same H1 H ∧ ∃ ys, H D = some (.lst ys) ∧ Paired (fun v i => R D i v H) ys ((List.range i).filter keep)) ⟨same_new nD, [], upd_same, .nil⟩ (fun i H _ p => hG H p.1) (fun i x H H' hi p y => ?_) fun H p => ?_
  · obtain ⟨sm, ys, hD, hp⟩ := p
    refine he D i x H H' _ _ nD hi sm ⟨ys, hD⟩ y (fun z H4 hk s4 r4 => ?_) fun H3 hk s3 => ?_
    · have hD4 : H4 D = some (.lst ys) := s4 _ _ hD
      refine ⟨ys, hD4, ?_, same_upd (sm.trans s4) nD, ys ++ [z], upd_same, ?_⟩
      · have e1 := hp.length
        have e2 := List.length_filter_le keep (List.range i)
        rw [List.length_range] at e2
        omega
      · rw [List.range_succ, List.filter_append, List.filter_cons, hk, if_pos rfl, List.filter_nil]
        refine Paired.snoc (Paired.mapP hp fun v j q => ?_) ?_
        · exact hR D j v H _ ys nD hD (Kb.upd (Kb.of s4)) q
        · exact hR D i z H4 _ ys nD hD4 (Kb.upd (Kb.of (Same.refl _))) r4
    · refine ⟨sm.trans s3, ys, s3 _ _ hD, ?_⟩
      rw [List.range_succ, List.filter_append, List.filter_cons, hk, if_neg Bool.false_ne_true, List.filter_nil, List.append_nil]
      exact Paired.mapP hp fun v j q => hR D j v H _ ys nD hD (Kb.of s3) q
  · obtain ⟨sm, ys, hD, hp⟩ := p
    exact hd D ys H nD sm hD hp
/-- no test, the values told by the turn -/
theorem lc_val (w : Walk J n G Y) {g : TG} {te : TE} {vs : List Nat} {σ : L2.St} {H1 : Hp} {Q : Addr → Hp → Prop} (hn : n ≤ sizeLine) (f : Nat → V)
    (hG : ∀ H, Same H1 H → G H)
    (he : ∀ D i x H H' (Qe : VK), H1 D = none → i < n → Same H1 H → (∃ ys, H D = some (.lst ys)) → Y i H x H' → (∀ H4, Same H H4 → Qe (f i) H4) →
      g x (wipe σ vs) H' fun σ2 H2 => wipe σ2 vs = wipe σ vs ∧ te σ2 H2 Qe)
    (hd : ∀ D H, H1 D = none → Same H1 H → H D = some (.lst ((List.range n).map f)) → Q D H) :
    ∀ D, H1 D = none → ∃ W : Nat → Nat → Hp → Prop, (∃ m, W 0 m (upd H1 D (.lst []))) ∧ ∀ i m H, W i m H →
      (J.stop i H ∧ Q D H) ∨ (J.go i H ∧ ∃ Nx : Hp → Prop, (∀ H', Nx H' → ∃ m', m' < m ∧ W (i + 1) m' H') ∧ ∀ x H', J.yld i H x H' → g x (wipe σ vs) H' fun σ2 H2 => wipe σ2 vs = wipe σ vs ∧ tYes σ2 H2 fun b H3 =>
        if b = true then te σ2 H3 fun y H4 => ∃ acc, H4 D = some (.lst acc) ∧ acc.length < sizeLine ∧ Nx (upd H4 D (.lst (acc ++ [y]))) else Nx H3) := by
  refine lc_gen w hn (fun _ => true) (fun _ i v _ => v = f i) (fun _ _ _ _ _ _ _ _ _ q => q) hG (fun D i x H H' Qe Qn nD hi sm hy y qe _ => ?_) fun D ys H nD sm hD hp => ?_
  · exact he D i x H H' _ nD hi sm hy y fun H4 s4 => qe _ H4 rfl s4 rfl
  · rw [Paired.eqs hp, List.filter_eq_self.mpr (fun _ _ => rfl)] at hD
    exact hd D H nD sm hD
/-- cells, with a test -/
theorem lc_cel {K : PySem.W.Frag} (w : Walk J n G Y) {g : TG} {tt : TT} {te : TE} {vs : List Nat} {σ : L2.St} {H1 : Hp} {Q : Addr → Hp → Prop} (hn : n ≤ sizeLine) (keep : Nat → Bool) (c : Nat → Cel)
    (hG : ∀ H, Same H1 H → G H)
    (he : ∀ D i x H H' (Qe : VK) (Qn : Hp → Prop), H1 D = none → i < n → Same H1 H → (∃ ys, H D = some (.lst ys)) → Y i H x H' →
      (∀ y H4, keep i = true → Same H H4 → CellV K H4 y (c i) → Qe y H4) → (∀ H3, keep i = false → Same H H3 → Qn H3) →
      g x (wipe σ vs) H' fun σ2 H2 => wipe σ2 vs = wipe σ vs ∧ tt σ2 H2 fun b H3 => if b = true then te σ2 H3 Qe else Qn H3)
    (hd : ∀ D ys H, H1 D = none → Same H1 H → H D = some (.lst ys) → Cells K H ys (((List.range n).filter keep).map c) → Q D H) :
    ∀ D, H1 D = none → ∃ W : Nat → Nat → Hp → Prop, (∃ m, W 0 m (upd H1 D (.lst []))) ∧ ∀ i m H, W i m H →
      (J.stop i H ∧ Q D H) ∨ (J.go i H ∧ ∃ Nx : Hp → Prop, (∀ H', Nx H' → ∃ m', m' < m ∧ W (i + 1) m' H') ∧ ∀ x H', J.yld i H x H' → g x (wipe σ vs) H' fun σ2 H2 => wipe σ2 vs = wipe σ vs ∧ tt σ2 H2 fun b H3 =>
        if b = true then te σ2 H3 fun y H4 => ∃ acc, H4 D = some (.lst acc) ∧ acc.length < sizeLine ∧ Nx (upd H4 D (.lst (acc ++ [y]))) else Nx H3) :=
  lc_gen w hn keep (fun _ i v H => CellV K H v (c i)) (fun D i v H H' ys _ hD k q => q.le (TupLe.kb hD k)) hG he fun D ys H nD sm hD hp => hd D ys H nD sm hD (Paired.mapR c hp fun _ _ q => q)
end
end Sk
/-! What the defs of fields.py promise. -/
namespace Sk
open PySem PySem.Spec PyProof.Rows L2 Sn
section
variable {X : Cx}
theorem pglobI {x : Str} {i : Int} {pos : Pos} (hg : Gl X x) (h : ∃ t, X.mg x = some (.int i t)) (hd : (x == ("__debug__" : Str)) = false := by decide) : PE X (.Name x pos) (tC (.int i)) := by
  obtain ⟨t, h⟩ := h
  exact pe_glob hg h ⟨t, rfl⟩ hd
theorem pglobS {x z : Str} {pos : Pos} (hg : Gl X x) (h : ∃ t, X.mg x = some (.str z t)) (hd : (x == ("__debug__" : Str)) = false := by decide) : PE X (.Name x pos) (tC (.str z)) := by
  obtain ⟨t, h⟩ := h
  exact pe_glob hg h ⟨t, rfl⟩ hd
end
def lettersS : Str := "abcdefghijklmnopqrstuvwxyz"
theorem mem_letters (c : Nat) : decide (c ∈ lettersS.cps.toList) = decide (97 ≤ c ∧ c ≤ 122) := by
  have e : lettersS.cps.toList = (List.range 26).map (· + 97) := by decide +kernel
  rw [e]
  congr 1
  apply propext
  rw [List.mem_map]
  constructor
  · rintro ⟨i, hi, rfl⟩
    have := List.mem_range.mp hi
    omega
  · rintro ⟨h1, h2⟩
    exact ⟨c - 97, List.mem_range.mpr (by omega), by omega⟩
def letB (c : Nat) : Bool := decide (97 ≤ c ∧ c ≤ 122)
def isTextB (r : List Nat) (n : Int) : Bool := decide (1 ≤ (r.length : Int)) && (decide ((r.length : Int) ≤ n) && r.all letB)
theorem letB_letter {c : Nat} : letB c = true ↔ letter c := by unfold letB letter; exact decide_eq_true_iff
theorem range_map_get {α β : Type} (f : α → β) (l : List α) (g : Nat → β) (h : ∀ i x, l[i]? = some x → g i = f x) : (List.range l.length).map g = l.map f := by
  apply List.ext_getElem
  · simp
  · intro i h1 h2
    have hi : i < l.length := by simpa using h1
    simp only [List.getElem_map, List.getElem_range]
    exact h i _ (List.getElem?_eq_getElem hi)
/-! promises -/
abbrev tyInt : Value := .type "int"
abbrev tyBool : Value := .type "bool"
def spIsWhole (K : PySem.W.Frag) : Sp := fun vs H Q _ => ∃ (x : V) (t : Value) (b c : Bool), vs = [x] ∧ TyX K H x t ∧ PySem.W.kitOne K t tyInt = some b ∧ PySem.W.kitOne K t tyBool = some c ∧ Q (.bl (b && !c)) H
theorem isWhole_int {K : PySem.W.Frag} {H : Hp} {Q : VK} {E : XK} (i : Int) (q : Q (.bl true) H) : spIsWhole K [.int i] H Q E :=
  ⟨.int i, .type "int", true, false, rfl, .base (.int i), kit_ty (by decide +kernel), kit_ty (by decide +kernel), q⟩
def spIsText (K : PySem.W.Frag) : Sp := fun vs H Q _ =>
  (∃ (r : List Nat) (n : Int), vs = [tv r, .int n] ∧ r.length ≤ sizeLine ∧ ∀ H', Same H H' → Q (.bl (isTextB r n)) H') ∨
  ∃ (x : V) (t : Value) (n : Int), vs = [x, .int n] ∧ TyX K H x t ∧ PySem.W.kitOne K t (.type "str") = some false ∧ Q (.bl false) H
/-- a valid field stands at a -/
def FieldAt (K : PySem.W.Frag) (H : Hp) (a : Addr) (F : List (List Nat)) (h w : Nat) : Prop := SqL K H a (F.map tv) ∧ FieldOk F h w
theorem FieldAt.same {K : PySem.W.Frag} {H H' : Hp} {a : Addr} {F : List (List Nat)} {h w : Nat} (o : FieldAt K H a F h w) (s : Same H H') : FieldAt K H' a F h w := ⟨s.seq o.1, o.2⟩
theorem FieldAt.row {K : PySem.W.Frag} {H : Hp} {a : Addr} {F : List (List Nat)} {h w : Nat} (o : FieldAt K H a F h w) {i : Nat} (hi : i < h) : (F.map tv)[i]? = some (tv (F.getD i [])) ∧ (F.getD i []).length = w := by
  have hl : i < F.length := by rw [o.2.high]; exact hi
  refine ⟨?_, row_len o.2 hi⟩
  rw [List.getElem?_map, List.getElem?_eq_getElem hl]
  rw [getD_of (List.getElem?_eq_getElem hl)]
  rfl
def spCheckField (K : PySem.W.Frag) : Sp := fun vs H Q _ => ∃ a F h w, vs = [.ref a] ∧ FieldAt K H a F h w ∧ ∀ H', Same H H' → Q .non H'
def inB (h w : Nat) (c : Cel) : Bool := (decide (0 ≤ c.1) && decide (c.1 < (h : Int))) && (decide (0 ≤ c.2) && decide (c.2 < (w : Int)))
theorem inB_mem {h w : Nat} {c : Cel} : inB h w c = true ↔ c ∈ cellsL h w := by
  unfold inB
  rw [mem_cellsL]
  simp only [Bool.and_eq_true, decide_eq_true_eq]
def spIsCell (K : PySem.W.Frag) : Sp := fun vs H Q _ => ∃ a F h w v c, vs = [.ref a, v] ∧ FieldAt K H a F h w ∧ CellV K H v c ∧ ∀ H', Same H H' → Q (.bl (inB h w c)) H'
def spNear (K : PySem.W.Frag) : Sp := fun vs H Q _ => ∃ a F h w v c, vs = [.ref a, v] ∧ FieldAt K H a F h w ∧ CellV K H v c ∧ c ∈ cellsL h w ∧
  ∀ H' p ys, Same H H' → H p = none → H' p = some (.lst ys) → Cells K H' ys (nearL h w c) → Q (.ref p) H'
def spTurned (K : PySem.W.Frag) : Sp := fun vs H Q _ => ∃ a F h w, vs = [.ref a] ∧ FieldAt K H a F h w ∧ ∀ H' p, Same H H' → H p = none → H' p = some (.lst ((turnedL F w).map tv)) → Q (.ref p) H'
def spMirrored (K : PySem.W.Frag) : Sp := fun vs H Q _ => ∃ a F h w, vs = [.ref a] ∧ FieldAt K H a F h w ∧ ∀ H' p, Same H H' → H p = none → H' p = some (.lst ((mirroredL F).map tv)) → Q (.ref p) H'
theorem small_line {n : Nat} (h : n ≤ 1000000) : n ≤ sizeLine := Nat.le_trans h (by rw [sizeLine_eq]; decide)
theorem atN_of {xs : List Nat} {z : Int} {j : Nat} {v : Nat} (e : z = (j : Int)) (h : xs[j]? = some v) : atI xs z = some v := by
  rw [e]; exact atI_nat h
theorem sum_ones : ∀ r : List Nat, (r.map ((fun z : Str => z.length) ∘ fun c => (⟨#[c]⟩ : Str))).sum = r.length
  | [] => rfl
  | c :: r => by rw [List.map_cons, List.sum_cons, sum_ones r, List.length_cons]; show 1 + r.length = _; omega
theorem join_signs (r : List Nat) : Txt.join (tx []) (r.map fun c => (⟨#[c]⟩ : Str)) = tx r := by
  unfold Txt.join
  rw [StrLaws.glued_eq_join]
  induction r with
  | nil => rfl
  | cons c r ih =>
    cases r with
    | nil => rfl
    | cons d r =>
      show (tx [c]) ++ (tx []) ++ Str.join (tx []) (((d :: r).map fun c => (⟨#[c]⟩ : Str))) = _
      rw [ih, tx_app, tx_app]
      rfl
end Sk
/-! What the laws' own helpers promise: some number below the limit, some field. -/
namespace Sk
open PySem PySem.Spec PyProof.Rows L2 Sn
/-- the script's numbers have at most n bits -/
def Bits (n : Nat) (ns : List Int) : Prop := ∀ z ∈ ns, z.natAbs < 2 ^ n
theorem bits_of {ns : List Int} {n : Nat} (h : ∀ z ∈ ns, Builtin.Int.intBits z ≤ n) : Bits n ns := fun z hz => by
  have h1 := h z hz
  unfold Builtin.Int.intBits at h1
  by_cases h0 : z = 0
  · subst h0; exact Nat.two_pow_pos n
  · rw [if_neg (by simpa using h0)] at h1
    have hp : z.natAbs ≠ 0 := by omega
    have : z.natAbs < 2 ^ (z.natAbs.log2 + 1) := Nat.lt_log2_self
    exact Nat.lt_of_lt_of_le this (Nat.pow_le_pow_right (by decide) h1)
theorem big_add {x y : Int} {n : Nat} (hx : x.natAbs < 2 ^ n) (hy : y.natAbs < 1000000) : (x + y).natAbs < 2 ^ (n + 21) := by
  have h1 : (2 : Nat) ^ n * 2 ^ 20 ≥ 2 ^ n := Nat.le_mul_of_pos_right _ (by decide)
  have h2 : (2 : Nat) ^ n * 2 ^ 20 ≥ 2 ^ 20 := Nat.le_mul_of_pos_left _ (Nat.two_pow_pos n)
  have h3 : (2 : Nat) ^ (n + 21) = 2 ^ n * 2 ^ 20 + 2 ^ n * 2 ^ 20 := by
    rw [Nat.pow_add, show (2 : Nat) ^ 21 = 2 ^ 20 + 2 ^ 20 by decide, Nat.mul_add]
  have h4 : (2 : Nat) ^ 20 = 1048576 := by decide
  have := Int.natAbs_add_le x y
  omega
theorem small_mul {i j : Int} (hi : i.natAbs < 2 ^ 30) (hj : j.natAbs < 2 ^ 30) : CMulX i j := mulx_ok hi hj (by decide)
theorem lt30 {i : Int} (h1 : -1000000 < i) (h2 : i < 1000000) : i.natAbs < 2 ^ 30 := by
  have : (2 : Nat) ^ 30 = 1073741824 := by decide
  omega
def primesL : List Int := [1000003, 1000033, 1000037, 1000039, 1000081, 1000099, 1000117, 1000121, 1000133, 1000151, 1000159, 1000171, 1000183, 1000187, 1000193, 1000199]
theorem primes_at {k : Int} (h : 0 ≤ k) : ∃ p : Int, atI (primesL.map V.int) (k % 16) = some (.int p) ∧ 0 < p := by
  have h1 : 0 ≤ k % 16 := Int.emod_nonneg _ (by decide)
  have h2 : k % 16 < 16 := Int.emod_lt_of_pos _ (by decide)
  have hj : (k % 16).toNat < 16 := by omega
  have all : (List.range 16).all (fun j => match primesL[j]? with | some p => decide (0 < p) | none => false) = true := by decide
  have q := List.all_eq_true.mp all _ (List.mem_range.mpr hj)
  cases e : primesL[(k % 16).toNat]? with
  | none => rw [e] at q; cases q
  | some p =>
    rw [e] at q
    exact ⟨p, at_of (j := (k % 16).toNat) (by omega) (by rw [List.getElem?_map, e]; rfl), of_decide_eq_true q⟩
def sevensL : List Int := [1, 7, 49, 343, 2401]
theorem sevens_at {k : Int} (h : 0 ≤ k) : ∃ p : Int, atI (sevensL.map V.int) (k % 5) = some (.int p) ∧ 0 < p ∧ p < 1073741824 := by
  have h1 : 0 ≤ k % 5 := Int.emod_nonneg _ (by decide)
  have h2 : k % 5 < 5 := Int.emod_lt_of_pos _ (by decide)
  have hj : (k % 5).toNat < 5 := by omega
  have all : (List.range 5).all (fun j => match sevensL[j]? with | some p => decide (0 < p ∧ p < 1073741824) | none => false) = true := by decide
  have q := List.all_eq_true.mp all _ (List.mem_range.mpr hj)
  cases e : sevensL[(k % 5).toNat]? with
  | none => rw [e] at q; cases q
  | some p =>
    rw [e] at q
    exact ⟨p, at_of (j := (k % 5).toNat) (by omega) (by rw [List.getElem?_map, e]; rfl), of_decide_eq_true q⟩
/-! promises -/
def spCellAt (K : PySem.W.Frag) : Sp := fun vs H Q _ => ∃ a ns k n, vs = [.ref a, .int k] ∧ SqL K H a (ns.map V.int) ∧ 0 ≤ k ∧ Bits n ns ∧ ∀ z : Int, z.natAbs < 2 ^ n → Q (.int z) H
def spDraw : Sp := fun vs H Q _ => ∃ (c k m : Int) (n : Nat), vs = [.int c, .int k, .int m] ∧ c.natAbs < 2 ^ n ∧ n ≤ 100000000 ∧ 0 ≤ k ∧ k < 1000 ∧ 0 < m ∧ ∀ z H', 0 ≤ z → z < m → Same H H' → Q (.int z) H'
def spNumber : Sp := fun vs H Q _ => ∃ (c k m : Int) (n : Nat), vs = [.int c, .int k, .int m] ∧ c.natAbs < 2 ^ n ∧ n ≤ 2000000 ∧ 0 ≤ k ∧ k < 1000 ∧ 0 < m ∧ ∀ z H', 0 ≤ z → z < m → Same H H' → Q (.int z) H'
def spField (K : PySem.W.Frag) : Sp := fun vs H Q _ => ∃ a ns k m n, vs = [.ref a, .int k, .int m] ∧ SqL K H a (ns.map V.int) ∧ Bits n ns ∧ n ≤ 1900000 ∧ 0 ≤ k ∧ k ≤ 100 ∧ 1 ≤ m ∧ m ≤ 5 ∧
  ∀ H' p F h w, Same H H' → H p = none → H' p = some (.lst (F.map tv)) → FieldOk F h w → (h : Int) ≤ m → (w : Int) ≤ m → Q (.ref p) H'
def spBeside (K : PySem.W.Frag) : Sp := fun vs H Q _ => ∃ u v a b, vs = [u, v] ∧ CellV K H u a ∧ CellV K H v b ∧ Q (.bl (beside a b)) H
def spCells (K : PySem.W.Frag) : Sp := fun vs H Q _ => ∃ a F h w, vs = [.ref a] ∧ FieldAt K H a F h w ∧ ∀ H' p ys, Same H H' → H p = none → H' p = some (.lst ys) → Cells K H' ys (cellsL h w) → Q (.ref p) H'
theorem range_map_rng (lo : Int) (n : Nat) {β : Type} (f : Int → β) : (List.range n).map (fun i : Nat => f (lo + (i : Int))) = (rng lo n).map f := by
  unfold rng; rw [List.map_map]; rfl
theorem cellsL_succ (h w : Nat) : cellsL (h + 1) w = cellsL h w ++ (rng 0 w).map fun p => ((h : Int), p) := by
  unfold cellsL
  rw [rng_succ, List.flatMap_append, List.flatMap_cons, List.flatMap_nil, List.append_nil, Int.zero_add]
theorem cellsL_len (h w : Nat) : (cellsL h w).length = h * w := by
  induction h with
  | zero => simp [cellsL, rng]
  | succ h ih => rw [cellsL_succ, List.length_append, ih, List.length_map, rng_length, Nat.succ_mul]
/-- four texts of letters -/
def lettL : List (List Nat) := ["ab".toList.map Char.toNat, "abc".toList.map Char.toNat, "aeinrst".toList.map Char.toNat, "abcdefghijklmnopqrstuvwxyz".toList.map Char.toNat]
theorem lett_at {z : Int} (h0 : 0 ≤ z) (h1 : z < 4) : ∃ r, atI (lettL.map tv) z = some (tv r) ∧ 1 ≤ r.length ∧ r.length ≤ 26 ∧ ∀ c ∈ r, letter c := by
  have hj : z.toNat < 4 := by omega
  have all : (List.range 4).all (fun j => match lettL[j]? with | some r => decide (1 ≤ r.length) && decide (r.length ≤ 26) && r.all letB | none => false) = true := by decide +kernel
  have q := List.all_eq_true.mp all _ (List.mem_range.mpr hj)
  cases e : lettL[z.toNat]? with
  | none => rw [e] at q; cases q
  | some r =>
    rw [e] at q
    simp only [Bool.and_eq_true, decide_eq_true_eq] at q
    exact ⟨r, at_of (j := z.toNat) (by omega) (by rw [List.getElem?_map, e]; rfl), q.1.1, q.1.2, fun c hc => letB_letter.mp (List.all_eq_true.mp q.2 c hc)⟩
end Sk
/-! Readings of written lists; the laws' outer loop. -/
namespace Sk
open PySem PySem.Spec PyProof.Rows L2 Sn
/-! ### written data -/
def tLit (K : PySem.W.Frag) (d : PyData) : TE := fun _ H Q => ∀ v H', Same H H' → Dp K H' v d → Q v H'
def tLits (K : PySem.W.Frag) (ds : List PyData) : TA := fun _ H Q => ∀ vs H', Same H H' → DpAll K H' vs ds → Q vs H'
theorem DpAll.len {K : PySem.W.Frag} {H : Hp} : ∀ {vs : List V} {ds : List PyData}, DpAll K H vs ds → vs.length = ds.length
  | _, _, .nil => rfl
  | _, _, .cons _ t => by rw [List.length_cons, List.length_cons, DpAll.len t]
section
variable {X : Cx} {e : Expr} {es : List Expr} {pos : Pos} {d : PyData} {ds : List PyData}
theorem PE.weak {t t' : TE} (h : PE X e t) (hw : ∀ σ H Q, t' σ H Q → t σ H Q) : PE X e t' := ⟨fun pins s σ H Q I q => h.run pins s σ H Q I (hw σ H Q q)⟩
theorem PA.weak {t t' : TA} (h : PA X es t) (hw : ∀ σ H Q, t' σ H Q → t σ H Q) : PA X es t' := ⟨fun pos pins s σ H Q I q => h.run pos pins s σ H Q I (hw σ H Q q)⟩
theorem lit_int (K : PySem.W.Frag) {i : Int} {j} : PE X (.Constant (.int i) j pos) (tLit K (.int i)) := PE.weak pe_int fun _ H Q q => q _ _ (Same.refl _) (.int i)
theorem lit_neg (K : PySem.W.Frag) {i : Int} {j} {p : Pos} : PE X (.UnaryOp .USub (.Constant (.int i) j p) pos) (tLit K (.int (-i))) := PE.weak (pe_un un_neg pe_int) fun _ H Q q => ⟨i, rfl, q _ _ (Same.refl _) (.int _)⟩
theorem lit_str (K : PySem.W.Frag) {x : Str} {j} : PE X (.Constant (.str x) j pos) (tLit K (.str x)) := PE.weak pe_str fun _ H Q q => q _ _ (Same.refl _) (.str x)
theorem lit_bl (K : PySem.W.Frag) {b : Bool} {j} : PE X (.Constant (.bool b) j pos) (tLit K (.bool b)) := PE.weak pe_bl fun _ H Q q => q _ _ (Same.refl _) (.bl b)
theorem lit_non (K : PySem.W.Frag) {j} : PE X (.Constant .none j pos) (tLit K .none) := PE.weak pe_non fun _ H Q q => q _ _ (Same.refl _) .non
theorem lits_nil (K : PySem.W.Frag) : PA X [] (tLits K []) := PA.weak pa_nil fun _ H Q q => q _ _ (Same.refl _) .nil
theorem lits_cons (K : PySem.W.Frag) (h : PE X e (tLit K d)) (t : PA X es (tLits K ds)) (hs : starEach (e :: es) X.env = (false, eval e X.env) :: starEach es X.env := by rfl) : PA X (e :: es) (tLits K (d :: ds)) :=
  PA.weak (pa_cons h t hs) fun σ H Q q v H1 s1 d1 vs H2 s2 d2 => q (v :: vs) H2 (s1.trans s2) (.cons (Dp.same s2 d v d1) d2)
theorem lit_list (K : PySem.W.Frag) (h : PA X es (tLits K ds)) (hl : ds.length ≤ 1000 := by decide) : PE X (.List es pos) (tLit K (.list ds)) :=
  PE.weak (pe_lst h) fun σ H Q q vs H1 s1 d1 => ⟨by rw [DpAll.len d1]; exact small_line (by omega), fun p np => q _ _ (s1.trans (same_new np)) (.lst (SqL.of upd_same) (DpAll.same (same_new np) ds vs d1))⟩
theorem lit_tup (K : PySem.W.Frag) {c} (h : PA X es (tLits K ds)) (hl : ds.length ≤ 1000 := by decide) : PE X (.Tuple es c pos) (tLit K (.tuple ds)) :=
  PE.weak (pe_tup h) fun σ H Q q vs H1 s1 d1 => ⟨by rw [DpAll.len d1]; exact small_line (by omega), fun p np => q _ _ (s1.trans (same_new np)) (.tup (SqT.of upd_same) (DpAll.same (same_new np) ds vs d1))⟩
end
section
variable {K : PySem.W.Frag} {H : Hp}
theorem dp_cell {v : V} {r p : Int} (h : Dp K H v (.tuple [.int r, .int p])) : CellV K H v (r, p) := by
  cases h with
  | tup q t =>
    cases t with
    | cons a t =>
      cases t with
      | cons b t =>
        cases t
        cases a
        cases b
        exact ⟨_, rfl, q⟩
theorem dp_texts_all : ∀ {F : List (List Nat)} {vs : List V}, DpAll K H vs (F.map textD) → vs = F.map tv
  | [], _, h => by cases h; rfl
  | r :: F, _, h => by
    cases h with
    | cons a t =>
      cases a
      rw [dp_texts_all t]
      rfl
theorem dp_texts {v : V} {F : List (List Nat)} (h : Dp K H v (textsD F)) : ∃ a, v = .ref a ∧ SqL K H a (F.map tv) := by
  cases h with
  | lst q t => exact ⟨_, rfl, by rw [← dp_texts_all t]; exact q⟩
theorem dp_cells_all : ∀ {cs : List Cel} {vs : List V}, DpAll K H vs (cs.map cellD) → Cells K H vs cs
  | [], _, h => by cases h; exact .nil
  | c :: cs, _, h => by
    cases h with
    | cons a t => exact .cons (dp_cell a) (dp_cells_all t)
theorem dp_cells {v : V} {cs : List Cel} (h : Dp K H v (cellsD cs)) : ∃ a xs, v = .ref a ∧ SqL K H a xs ∧ Cells K H xs cs := by
  cases h with
  | lst q t => exact ⟨_, _, rfl, q, dp_cells_all t⟩
end
def fieldB (F : List (List Nat)) (h w : Nat) : Bool := decide (F.length = h) && decide (1 ≤ h) && decide (h ≤ 5) && decide (1 ≤ w) && decide (w ≤ 5) && F.all fun r => decide (r.length = w) && r.all letB
theorem fieldB_ok {F : List (List Nat)} {h w : Nat} (e : fieldB F h w = true) : FieldOk F h w := by
  unfold fieldB at e
  simp only [Bool.and_eq_true, decide_eq_true_eq, List.all_eq_true] at e
  obtain ⟨⟨⟨⟨⟨e1, e2⟩, e3⟩, e4⟩, e5⟩, e6⟩ := e
  exact ⟨e1, e2, e3, e4, e5, fun r hr => (e6 r hr).1, fun r hr c hc => letB_letter.mp ((e6 r hr).2 c hc)⟩
/-- range(0, max(1, min(8, n)), 4) -/
theorem range4 {j : Int} (h1 : 1 ≤ j) (h8 : j ≤ 8) : ∃ n : Nat, n ≤ 2 ∧ RgC 0 j 4 n := by
  have : j = 1 ∨ j = 2 ∨ j = 3 ∨ j = 4 ∨ j = 5 ∨ j = 6 ∨ j = 7 ∨ j = 8 := by omega
  rcases this with rfl | rfl | rfl | rfl | rfl | rfl | rfl | rfl
  · exact ⟨1, by decide, by decide, by decide, by decide, by decide⟩
  · exact ⟨1, by decide, by decide, by decide, by decide, by decide⟩
  · exact ⟨1, by decide, by decide, by decide, by decide, by decide⟩
  · exact ⟨1, by decide, by decide, by decide, by decide, by decide⟩
  · exact ⟨2, by decide, by decide, by decide, by decide, by decide⟩
  · exact ⟨2, by decide, by decide, by decide, by decide, by decide⟩
  · exact ⟨2, by decide, by decide, by decide, by decide, by decide⟩
  · exact ⟨2, by decide, by decide, by decide, by decide, by decide⟩
def top8 (n : Nat) : Int := if (if (n : Int) < 8 then (n : Int) else 8) > 1 then (if (n : Int) < 8 then (n : Int) else 8) else 1
theorem top8_bd (n : Nat) : 1 ≤ top8 n ∧ top8 n ≤ 8 := by
  unfold top8
  constructor <;> split <;> split <;> omega
/-- xs[:-1] of a list with one more -/
theorem cut_last (xs : List V) (x : V) : cutV (xs ++ [x]) none (some (-1)) = xs := by
  have e : HT.sIx (xs ++ [x]).length (xs ++ [x]).length (some (-1)) = xs.length := by
    rw [List.length_append]
    unfold HT.sIx
    simp only [List.length_cons, List.length_nil]
    split <;> omega
  unfold cutV
  rw [e, HT.sIx_none, List.drop_zero, Nat.sub_zero, List.take_left']
  rfl
/-- the i-th of n cells -/
theorem range_filter_get {α : Type} (l : List α) (d : α) (p : α → Bool) : ((List.range l.length).filter fun i => p (l.getD i d)).map (fun i => l.getD i d) = l.filter p := by
  have e : l = (List.range l.length).map fun i => l.getD i d := by
    have := range_map_get id l (fun i => l.getD i d) (fun i x hx => getD_of hx)
    rw [this, List.map_id]
  conv => rhs; rw [e]
  rw [List.filter_map]
  rfl
end Sk
/-! What the defs of answers.py and snakes.py promise. -/
namespace Sk
open PySem PySem.Spec PyProof.Rows L2 Sn
structure WordOk (r : List Nat) : Prop where
  l1 : 1 ≤ r.length
  l6 : r.length ≤ 6
  let_ : ∀ c ∈ r, letter c
def spCheckWord : Sp := fun vs H Q _ => ∃ r, vs = [tv r] ∧ WordOk r ∧ ∀ H', Same H H' → Q .non H'
def spLetterAt (K : PySem.W.Frag) : Sp := fun vs H Q _ => ∃ a F h w v c, vs = [.ref a, v] ∧ FieldAt K H a F h w ∧ CellV K H v c ∧ c ∈ cellsL h w ∧ Q (tv [at_ F c]) H
theorem FieldAt.at_cell {K : PySem.W.Frag} {H : Hp} {a : Addr} {F : List (List Nat)} {h w : Nat} (o : FieldAt K H a F h w) {c : Cel} (hc : c ∈ cellsL h w) :
    ∃ r, atI (F.map tv) c.1 = some (tv r) ∧ r.length = w ∧ atI r c.2 = some (at_ F c) := by
  obtain ⟨⟨a1, a2⟩, a3, a4⟩ := mem_cellsL.mp hc
  obtain ⟨g1, g2⟩ := o.row (i := c.1.toNat) (by omega)
  refine ⟨F.getD c.1.toNat [], at_of (j := c.1.toNat) (by omega) g1, g2, ?_⟩
  have hl : c.2.toNat < (F.getD c.1.toNat []).length := by rw [g2]; omega
  refine atN_of (j := c.2.toNat) (by omega) ?_
  unfold at_
  rw [getD_of (List.getElem?_eq_getElem hl)]
  exact List.getElem?_eq_getElem hl
def spIsSnake (K : PySem.W.Frag) : Sp := fun vs H Q _ => ∃ a F h w b xs cs, vs = [.ref a, .ref b] ∧ FieldAt K H a F h w ∧ SqL K H b xs ∧ Cells K H xs cs ∧ cs.length < 64 ∧ ∀ H', Same H H' → Q (.bl (snakeB h w cs)) H'
def spSpelled (K : PySem.W.Frag) : Sp := fun vs H Q _ => ∃ a F h w b xs cs, vs = [.ref a, .ref b] ∧ FieldAt K H a F h w ∧ SqL K H b xs ∧ Cells K H xs cs ∧ Vld h w cs ∧ cs.length ≤ 1000 ∧ ∀ H', Same H H' → Q (tv (spell F cs)) H'
def spNext (K : PySem.W.Frag) : Sp := fun vs H Q _ => ∃ a F h w b xs cs, vs = [.ref a, .ref b] ∧ FieldAt K H a F h w ∧ SqL K H b xs ∧ Cells K H xs cs ∧ Vld h w cs ∧ ∀ H' p ys, Same H H' → H p = none → H' p = some (.lst ys) → Cells K H' ys (nextL h w cs) → Q (.ref p) H'
/-- a list of lists of cells; N tells of each list's address -/
def SnkV (K : PySem.W.Frag) (N : Addr → Prop) (H : Hp) (v : V) (cs : List Cel) : Prop := ∃ q ys, v = .ref q ∧ N q ∧ H q = some (.lst ys) ∧ Cells K H ys cs
abbrev Snks (K : PySem.W.Frag) (N : Addr → Prop) (H : Hp) (xs : List V) (ss : List (List Cel)) : Prop := Paired (SnkV K N H) xs ss
theorem SnkV.same {K : PySem.W.Frag} {N : Addr → Prop} {H H' : Hp} {v : V} {cs : List Cel} (h : SnkV K N H v cs) (s : Same H H') : SnkV K N H' v cs := by
  obtain ⟨q, ys, e, n, hq, hy⟩ := h
  exact ⟨q, ys, e, n, s _ _ hq, hy.le (TupLe.of s)⟩
theorem Snks.same {K : PySem.W.Frag} {N : Addr → Prop} {H H' : Hp} {xs : List V} {ss : List (List Cel)} (h : Snks K N H xs ss) (s : Same H H') : Snks K N H' xs ss := Paired.mapP h fun _ _ q => q.same s
/-- .. where a list that is none of them is changed -/
theorem SnkV.upd {K : PySem.W.Frag} {N : Addr → Prop} {H : Hp} {v : V} {cs : List Cel} {p : Addr} {zs : List V} {o : HO} (h : SnkV K N H v cs) (hp : H p = some (.lst zs)) (hn : ∀ q, N q → q ≠ p) : SnkV K N (upd H p o) v cs := by
  obtain ⟨q, ys, e, n, hq, hy⟩ := h
  exact ⟨q, ys, e, n, by rw [upd_ne (hn q n)]; exact hq, hy.le (TupLe.upd hp (TupLe.refl _))⟩
theorem Snks.upd {K : PySem.W.Frag} {N : Addr → Prop} {H : Hp} {xs : List V} {ss : List (List Cel)} {p : Addr} {zs : List V} {o : HO} (h : Snks K N H xs ss) (hp : H p = some (.lst zs)) (hn : ∀ q, N q → q ≠ p) : Snks K N (upd H p o) xs ss := Paired.mapP h fun _ _ q => q.upd hp hn
theorem Snks.imp {K : PySem.W.Frag} {N N' : Addr → Prop} {H : Hp} {xs : List V} {ss : List (List Cel)} (h : Snks K N H xs ss) (f : ∀ q, N q → N' q) : Snks K N' H xs ss := Paired.mapP h fun _ _ ⟨q, ys, e, n, r⟩ => ⟨q, ys, e, f q n, r⟩
theorem Snks.dp {K : PySem.W.Frag} {N : Addr → Prop} {H : Hp} {xs : List V} {ss : List (List Cel)} (h : Snks K N H xs ss) : DpAll K H xs (ss.map cellsD) := by
  induction h with
  | nil => exact .nil
  | cons r _ ih =>
    obtain ⟨q, ys, rfl, _, hq, hy⟩ := r
    exact .cons (cells_dp (SqL.of hq) hy) ih
theorem snks_dp {K : PySem.W.Frag} {N : Addr → Prop} {H : Hp} {a : Addr} {xs : List V} {ss : List (List Cel)} (hs : SqL K H a xs) (h : Snks K N H xs ss) : Dp K H (.ref a) (snakesD ss) := .lst hs h.dp
def spSnakesOn (K : PySem.W.Frag) (r : Nat) : Sp := fun vs H Q _ => ∃ a F h w wd b xs cs, vs = [.ref a, tv wd, .ref b] ∧ FieldAt K H a F h w ∧ H b = some (.lst xs) ∧ Cells K H xs cs ∧ Vld h w cs ∧ wd.length ≤ 6 ∧ cs.length ≤ wd.length ∧ wd.length ≤ cs.length + r ∧
  ∀ H' p ys, Same H H' → H p = none → H' p = some (.lst ys) → Snks K (fun q => H q = none ∨ (q = b ∧ cs.length = wd.length)) H' ys (snakesOn F h w (wd.drop cs.length) cs) → Q (.ref p) H'
def spLongest (K : PySem.W.Frag) : Sp := fun vs H Q _ => ∃ a F h w wd, vs = [.ref a, tv wd] ∧ FieldAt K H a F h w ∧ wd.length ≤ 6 ∧ ∀ H' m, Same H H' → Lgst F h w wd m → Q (.int m) H'
theorem lgst_ex {F : List (List Nat)} {h w : Nat} (h5 : h ≤ 5) (w5 : w ≤ 5) (wd : List Nat) : ∃ m, Lgst F h w wd m := by
  have go : ∀ n m, n + m = wd.length → ne_ F h w wd m = true → ∃ m, Lgst F h w wd m := by
    intro n
    induction n with
    | zero => intro m e ne; exact ⟨m, by omega, ne, fun k h1 h2 => by omega⟩
    | succ n ih =>
      intro m e ne
      cases e2 : ne_ F h w wd (m + 1) with
      | true => exact ih (m + 1) (by omega) e2
      | false => exact ⟨m, lgst_of h5 w5 (by omega) ne fun _ => e2⟩
  exact go wd.length 0 (by omega) (ne_zero F h w wd)
/-! the classes -/
def spFoundInit (K : PySem.W.Frag) (C : Addr) : Sp := fun vs H Q _ => ∃ x dx l0 xs, vs = [.ref x, .ref l0] ∧ H x = some (.ins C dx []) ∧ SqL K H l0 xs ∧
  ∀ H' l, Kb x H H' → H' x = some (.ins C dx [("cells", .ref l)]) → H l = none → H' l = some (.lst xs) → Q .non H'
def spStopsInit (C : Addr) : Sp := fun vs H Q _ => ∃ x dx m, vs = [.ref x, .int m] ∧ H x = some (.ins C dx []) ∧ ∀ H', Kb x H H' → H' x = some (.ins C dx [("many", .int m)]) → Q .non H'
def foundB (F : List (List Nat)) (h w : Nat) (cs : List Cel) (wd : List Nat) : Bool := snakeB h w cs && decide (spell F cs = wd)
def spFoundShows (K : PySem.W.Frag) (C : Addr) : Sp := fun vs H Q _ => ∃ x dx l xs cs a F h w wd, vs = [.ref x, .ref a, tv wd] ∧ H x = some (.ins C dx [("cells", .ref l)]) ∧ SqL K H l xs ∧ Cells K H xs cs ∧ cs.length < 64 ∧ FieldAt K H a F h w ∧
  ∀ H', Same H H' → Q (.bl (foundB F h w cs wd)) H'
def spStopsShows (K : PySem.W.Frag) (C : Addr) : Sp := fun vs H Q _ => ∃ (x dx : Addr) (m : Int) (a : Addr) (F : List (List Nat)) (h w : Nat) (wd : List Nat), vs = [.ref x, .ref a, tv wd] ∧ H x = some (.ins C dx [("many", .int m)]) ∧ wd.length ≤ 6 ∧ FieldAt K H a F h w ∧
  ∀ H' (k : Nat), Same H H' → Lgst F h w wd k → Q (.bl (decide (m < (wd.length : Int)) && decide (m = (k : Int)))) H'
/-- an answer: a Found, a Stops -/
def FoundAt (K : PySem.W.Frag) (C : Addr) (H : Hp) (p l : Addr) (cs : List Cel) : Prop := ∃ dx xs, H p = some (.ins C dx [("cells", .ref l)]) ∧ H l = some (.lst xs) ∧ Cells K H xs cs
def StopsAt (C : Addr) (H : Hp) (p : Addr) (m : Int) : Prop := ∃ dx, H p = some (.ins C dx [("many", .int m)])
def spJudged (K : PySem.W.Frag) (CF CS : Addr) : Sp := fun vs H Q _ => ∃ a F h w wd, vs = [.ref a, tv wd] ∧ FieldAt K H a F h w ∧ WordOk wd ∧
  (∀ H' p l s r, Same H H' → H p = none → H l = none → snakesOn F h w wd [] = s :: r → FoundAt K CF H' p l s → Q (.ref p) H') ∧
  ∀ H' p (m : Nat), Same H H' → H p = none → snakesOn F h w wd [] = [] → Lgst F h w wd m → StopsAt CS H' p m → Q (.ref p) H'
/-- what is made and its __init__ leave all as it was -/
theorem same_made {H H1 : Hp} {x dx C : Addr} (nx : H x = none) (nd : H dx = none) (k : Kb x (upd (upd H dx (.own x)) x (.ins C dx [])) H1) : Same H H1 := fun b o e => by
  have n1 := ne_of_none e nx
  exact k b o n1 (by rw [upd_ne n1, upd_ne (ne_of_none e nd)]; exact e)
end Sk
/-! What the laws' own helpers about snakes promise. -/
namespace Sk
open PySem PySem.Spec PyProof.Rows L2 Sn
def spBroad (K : PySem.W.Frag) : Sp := fun vs H Q _ => ∃ a ns k n, vs = [.ref a, .int k] ∧ SqL K H a (ns.map V.int) ∧ Bits n ns ∧ n ≤ 1900000 ∧ 0 ≤ k ∧ k ≤ 100 ∧
  ∀ H' p F, Same H H' → H p = none → H' p = some (.lst (F.map tv)) → FieldOk F 5 5 → Q (.ref p) H'
def spLSnakes (K : PySem.W.Frag) : Sp := fun vs H Q _ => ∃ a F h w wd, vs = [.ref a, tv wd] ∧ FieldAt K H a F h w ∧ wd.length ≤ 6 ∧
  ∀ H' p ys, Same H H' → H p = none → H' p = some (.lst ys) → Snks K (fun q => H q = none) H' ys (snakesOn F h w wd []) → Q (.ref p) H'
def spLWord (K : PySem.W.Frag) : Sp := fun vs H Q _ => ∃ a ns k n b F h w m, vs = [.ref a, .int k, .ref b, .int m] ∧ SqL K H a (ns.map V.int) ∧ Bits n ns ∧ n ≤ 1900000 ∧ 0 ≤ k ∧ k ≤ 100 ∧ FieldAt K H b F h w ∧ 1 ≤ m ∧ m ≤ 6 ∧
  ∀ H' r, Same H H' → 1 ≤ r.length → (r.length : Int) ≤ m → (∀ c ∈ r, letter c) → Q (tv r) H'
def spSays : Sp := fun vs H Q _ => ∃ x y : Bool, vs = [.bl x, .bl y] ∧ Q (.bl (decide (x = y))) H
def spDue (K : PySem.W.Frag) (CF CS : Addr) : Sp := fun vs H Q _ => ∃ a F h w wd p, vs = [.ref a, tv wd, .ref p] ∧ FieldAt K H a F h w ∧ wd.length ≤ 6 ∧
  ((∃ l cs, FoundAt K CF H p l cs ∧ cs.length < 64 ∧ ∀ H', Same H H' → Q (.bl (foundB F h w cs wd)) H') ∨
   ∃ m : Int, StopsAt CS H p m ∧ ∀ H' (k : Nat), Same H H' → Lgst F h w wd k → Q (.bl (decide (m < (wd.length : Int)) && decide (m = (k : Int)))) H')
def spNumbers (K : PySem.W.Frag) : Sp := fun vs H Q _ => ∃ l xs cs, vs = [.ref l] ∧ SqL K H l xs ∧ Cells K H xs cs ∧ Q (.bl true) H
def sevenL : List Nat := "aeinrst".toList.map Char.toNat
theorem seven_at {z : Int} (h0 : 0 ≤ z) (h1 : z < 7) : ∃ c, atI sevenL z = some c ∧ letter c := by
  have hj : z.toNat < 7 := by omega
  have all : (List.range 7).all (fun j => match sevenL[j]? with | some c => letB c | none => false) = true := by decide +kernel
  have q := List.all_eq_true.mp all _ (List.mem_range.mpr hj)
  cases e : sevenL[z.toNat]? with
  | none => rw [e] at q; cases q
  | some c => rw [e] at q; exact ⟨c, atN_of (j := z.toNat) (by omega) e, letB_letter.mp q⟩
def abzL : List Nat := "abz".toList.map Char.toNat
theorem abz_at {z : Int} (h0 : 0 ≤ z) (h1 : z < 3) : ∃ c, atI abzL z = some c ∧ letter c := by
  have hj : z.toNat < 3 := by omega
  have all : (List.range 3).all (fun j => match abzL[j]? with | some c => letB c | none => false) = true := by decide +kernel
  have q := List.all_eq_true.mp all _ (List.mem_range.mpr hj)
  cases e : abzL[z.toNat]? with
  | none => rw [e] at q; cases q
  | some c => rw [e] at q; exact ⟨c, atN_of (j := z.toNat) (by omega) e, letB_letter.mp q⟩
theorem cutS_last (r : List Nat) : cutS (tx r) none (some (-1)) = tx r.dropLast := by
  unfold cutS
  rw [HT.sIx_none, tx_cps, tx_len, List.drop_zero, Nat.sub_zero]
  have e : HT.sIx r.length r.length (some (-1)) = r.length - 1 := by
    show (if (-1 : Int) < 0 then (-1 + (r.length : Int)).toNat else min (-1 : Int).toNat r.length) = _
    rw [if_pos (by decide)]
    omega
  rw [e]
  show tx (r.take (r.length - 1)) = _
  rw [List.dropLast_eq_take]
/-- the last of the cells -/
theorem cells_last {K : PySem.W.Frag} {H : Hp} {xs : List V} {cs : List Cel} (hc : Cells K H xs cs) {d : Cel} (hd : cs.getLast? = some d) : ∃ v, atI xs (-1) = some v ∧ CellV K H v d := by
  have hd2 : cs[cs.length - 1]? = some d := by rw [← List.getLast?_eq_getElem?]; exact hd
  have hne : cs ≠ [] := fun z => by rw [z] at hd; cases hd
  have l0 : 0 < cs.length := List.length_pos_iff.mpr hne
  obtain ⟨v, gv, vd⟩ := Paired.get' hc hd2
  refine ⟨v, ?_, vd⟩
  unfold atI ixN
  rw [if_neg (by decide), if_pos (by rw [hc.length]; omega)]
  show xs[(-1 + (xs.length : Int)).toNat]? = some v
  rw [← gv]
  congr 1
  rw [hc.length]
  omega
end Sk
/-! What the laws' last defs share. -/
namespace Sk
open PySem PySem.Spec PyProof.Rows L2 Sn
def spLaw (K : PySem.W.Frag) : Sp := fun vs H Q _ => ∃ a ns n, vs = [.ref a] ∧ SqL K H a (ns.map V.int) ∧ Bits n ns ∧ n ≤ 1900000 ∧ ns.length ≤ 63 ∧ ∀ H', Q (.bl true) H'
theorem cutS_takeL (r : List Nat) (n : Nat) : cutS (tx r) none (some (n : Int)) = tx (r.take n) := by
  unfold cutS
  rw [HT.sIx_none, HT.sIx_nat, tx_cps, tx_len, List.drop_zero, Nat.sub_zero]
  show tx (r.take (min n r.length)) = _
  congr 1
  by_cases hn : n ≤ r.length
  · rw [Nat.min_eq_left hn]
  · rw [Nat.min_eq_right (by omega), List.take_length, List.take_of_length_le (by omega)]
theorem cutS1 (r : List Nat) : cutS (tx r) none (some 1) = tx (r.take 1) := cutS_takeL r 1
theorem cutS2 (r : List Nat) : cutS (tx r) none (some 2) = tx (r.take 2) := cutS_takeL r 2
theorem cutS6 (r : List Nat) : cutS (tx r) none (some 6) = tx (r.take 6) := cutS_takeL r 6
theorem repS_tx (r : List Nat) (n : Nat) : repS (tx r) n = tx (List.replicate n r).flatten := by unfold repS; rw [tx_cps]; rfl
theorem WordOk.rev {r : List Nat} (o : WordOk r) : WordOk r.reverse := ⟨by rw [List.length_reverse]; exact o.l1, by rw [List.length_reverse]; exact o.l6, fun c hc => o.let_ c (List.mem_reverse.mp hc)⟩
theorem WordOk.take {r : List Nat} (h1 : 1 ≤ r.length) (hl : ∀ c ∈ r, letter c) {n : Nat} (hn : 1 ≤ n) (hn6 : n ≤ 6) : WordOk (r.take n) := ⟨by rw [List.length_take]; omega, by rw [List.length_take]; omega, fun c hc => hl c (List.mem_of_mem_take hc)⟩
theorem WordOk.rep3 {r : List Nat} (o : WordOk r) : WordOk (List.replicate 3 (r.take 1)).flatten := by
  have e : (List.replicate 3 (r.take 1)).flatten = r.take 1 ++ (r.take 1 ++ r.take 1) := by simp [List.replicate]
  have l1 := o.l1
  have l : (r.take 1).length = 1 := by rw [List.length_take]; omega
  rw [e]
  refine ⟨?_, ?_, fun c hc => ?_⟩
  · rw [List.length_append, l]; omega
  · rw [List.length_append, List.length_append, l]; omega
  · have : c ∈ r.take 1 := by
      rcases List.mem_append.mp hc with z | z
      · exact z
      · rcases List.mem_append.mp z with z | z <;> exact z
    exact o.let_ c (List.mem_of_mem_take this)
def wordB (r : List Nat) : Bool := decide (1 ≤ r.length) && decide (r.length ≤ 6) && r.all letB
theorem wordB_ok {r : List Nat} (e : wordB r = true) : WordOk r := by
  unfold wordB at e
  simp only [Bool.and_eq_true, decide_eq_true_eq, List.all_eq_true] at e
  exact ⟨e.1.1, e.1.2, fun c hc => letB_letter.mp (e.2 c hc)⟩
theorem dp_cells_tup {K : PySem.W.Frag} {H : Hp} {v : V} {cs : List Cel} (h : Dp K H v (.tuple (cs.map cellD))) : ∃ a xs, v = .ref a ∧ SqT K H a xs ∧ Cells K H xs cs := by
  cases h with
  | tup q t => exact ⟨_, _, rfl, q, dp_cells_all t⟩
theorem dp_tup_texts {K : PySem.W.Frag} {H : Hp} {v : V} {F : List (List Nat)} (h : Dp K H v (.tuple (F.map textD))) : ∃ a, v = .ref a ∧ SqT K H a (F.map tv) := by
  cases h with
  | tup q t => exact ⟨_, rfl, by rw [← dp_texts_all t]; exact q⟩
theorem dp_ints_all {K : PySem.W.Frag} {H : Hp} : ∀ {is : List Int} {vs : List V}, DpAll K H vs (is.map PyData.int) → vs = is.map V.int
  | [], _, h => by cases h; rfl
  | i :: is, _, h => by
    cases h with
    | cons a t =>
      cases a
      rw [dp_ints_all t]
      rfl
theorem dp_tup_ints {K : PySem.W.Frag} {H : Hp} {v : V} {is : List Int} (h : Dp K H v (.tuple (is.map PyData.int))) : ∃ a, v = .ref a ∧ SqT K H a (is.map V.int) := by
  cases h with
  | tup q t => exact ⟨_, rfl, by rw [← dp_ints_all t]; exact q⟩
end Sk
/-! The text of the law: its defs by place, their names. -/
namespace Sk
open PySem PySem.Spec PyProof.Rows L2 Sn
def topS (i : Nat) : Stmt := PySem.Challenge.pw_lettersnake_k04_whole_numbers.main.body.getD i (.Pass ⟨0, 0, 0, 0⟩)
abbrev s_is_whole : Stmt := topS 11
theorem sc_is_whole : FnScope ["thing"] ["thing"] (defScope s_is_whole) := ⟨rfl, rfl, rfl, by decide +kernel, rfl, by decide +kernel, by decide +kernel⟩
theorem bn_is_whole : Bnd s_is_whole "is_whole" ["thing"] := fun _ _ _ _ _ _ us hl => match us, hl with | [_], _ => rfl
abbrev s_is_text : Stmt := topS 12
theorem sc_is_text : FnScope ["thing", "most", "one"] ["thing", "most"] (defScope s_is_text) := ⟨rfl, rfl, rfl, by decide +kernel, rfl, by decide +kernel, by decide +kernel⟩
theorem bn_is_text : Bnd s_is_text "is_text" ["thing", "most"] := fun _ _ _ _ _ _ us hl => match us, hl with | [_, _], _ => rfl
abbrev s_check_field : Stmt := topS 13
theorem sc_check_field : FnScope ["field", "row"] ["field"] (defScope s_check_field) := ⟨rfl, rfl, rfl, by decide +kernel, rfl, by decide +kernel, by decide +kernel⟩
theorem bn_check_field : Bnd s_check_field "check_field" ["field"] := fun _ _ _ _ _ _ us hl => match us, hl with | [_], _ => rfl
abbrev s_is_cell : Stmt := topS 14
theorem sc_is_cell : FnScope ["field", "thing", "one"] ["field", "thing"] (defScope s_is_cell) := ⟨rfl, rfl, rfl, by decide +kernel, rfl, by decide +kernel, by decide +kernel⟩
theorem bn_is_cell : Bnd s_is_cell "is_cell" ["field", "thing"] := fun _ _ _ _ _ _ us hl => match us, hl with | [_, _], _ => rfl
abbrev s_check_word : Stmt := topS 15
theorem sc_check_word : FnScope ["word"] ["word"] (defScope s_check_word) := ⟨rfl, rfl, rfl, by decide +kernel, rfl, by decide +kernel, by decide +kernel⟩
theorem bn_check_word : Bnd s_check_word "check_word" ["word"] := fun _ _ _ _ _ _ us hl => match us, hl with | [_], _ => rfl
abbrev s_cells_in : Stmt := topS 16
theorem sc_cells_in : FnScope ["field", "found", "row", "place"] ["field"] (defScope s_cells_in) := ⟨rfl, rfl, rfl, by decide +kernel, rfl, by decide +kernel, by decide +kernel⟩
theorem bn_cells_in : Bnd s_cells_in "cells_in" ["field"] := fun _ _ _ _ _ _ us hl => match us, hl with | [_], _ => rfl
abbrev s_letter_at : Stmt := topS 17
theorem sc_letter_at : FnScope ["field", "cell"] ["field", "cell"] (defScope s_letter_at) := ⟨rfl, rfl, rfl, by decide +kernel, rfl, by decide +kernel, by decide +kernel⟩
theorem bn_letter_at : Bnd s_letter_at "letter_at" ["field", "cell"] := fun _ _ _ _ _ _ us hl => match us, hl with | [_, _], _ => rfl
abbrev s_near_of : Stmt := topS 18
theorem sc_near_of : FnScope ["field", "cell", "found", "row", "place"] ["field", "cell"] (defScope s_near_of) := ⟨rfl, rfl, rfl, by decide +kernel, rfl, by decide +kernel, by decide +kernel⟩
theorem bn_near_of : Bnd s_near_of "near_of" ["field", "cell"] := fun _ _ _ _ _ _ us hl => match us, hl with | [_, _], _ => rfl
abbrev s_is_snake : Stmt := topS 20
theorem sc_is_snake : FnScope ["field", "cells", "cell", "one", "other"] ["field", "cells"] (defScope s_is_snake) := ⟨rfl, rfl, rfl, by decide +kernel, rfl, by decide +kernel, by decide +kernel⟩
theorem bn_is_snake : Bnd s_is_snake "is_snake" ["field", "cells"] := fun _ _ _ _ _ _ us hl => match us, hl with | [_, _], _ => rfl
abbrev s_spelled : Stmt := topS 21
theorem sc_spelled : FnScope ["field", "cells", "cell"] ["field", "cells"] (defScope s_spelled) := ⟨rfl, rfl, rfl, by decide +kernel, rfl, by decide +kernel, by decide +kernel⟩
theorem bn_spelled : Bnd s_spelled "spelled" ["field", "cells"] := fun _ _ _ _ _ _ us hl => match us, hl with | [_, _], _ => rfl
abbrev s_next_cells : Stmt := topS 22
theorem sc_next_cells : FnScope ["field", "cells", "cell"] ["field", "cells"] (defScope s_next_cells) := ⟨rfl, rfl, rfl, by decide +kernel, rfl, by decide +kernel, by decide +kernel⟩
theorem bn_next_cells : Bnd s_next_cells "next_cells" ["field", "cells"] := fun _ _ _ _ _ _ us hl => match us, hl with | [_, _], _ => rfl
abbrev s_snakes_on : Stmt := topS 23
theorem sc_snakes_on : FnScope ["field", "word", "cells", "found", "cell"] ["field", "word", "cells"] (defScope s_snakes_on) := ⟨rfl, rfl, rfl, by decide +kernel, rfl, by decide +kernel, by decide +kernel⟩
theorem bn_snakes_on : Bnd s_snakes_on "snakes_on" ["field", "word", "cells"] := fun _ _ _ _ _ _ us hl => match us, hl with | [_, _, _], _ => rfl
abbrev s_how_many : Stmt := topS 25
theorem sc_how_many : FnScope ["field", "word"] ["field", "word"] (defScope s_how_many) := ⟨rfl, rfl, rfl, by decide +kernel, rfl, by decide +kernel, by decide +kernel⟩
theorem bn_how_many : Bnd s_how_many "how_many" ["field", "word"] := fun _ _ _ _ _ _ us hl => match us, hl with | [_, _], _ => rfl
abbrev s_by_number : Stmt := topS 26
theorem sc_by_number : FnScope ["field", "word", "number", "found"] ["field", "word", "number"] (defScope s_by_number) := ⟨rfl, rfl, rfl, by decide +kernel, rfl, by decide +kernel, by decide +kernel⟩
theorem bn_by_number : Bnd s_by_number "by_number" ["field", "word", "number"] := fun _ _ _ _ _ _ us hl => match us, hl with | [_, _, _], _ => rfl
abbrev s_number_of : Stmt := topS 27
theorem sc_number_of : FnScope ["field", "cells", "cell"] ["field", "cells"] (defScope s_number_of) := ⟨rfl, rfl, rfl, by decide +kernel, rfl, by decide +kernel, by decide +kernel⟩
theorem bn_number_of : Bnd s_number_of "number_of" ["field", "cells"] := fun _ _ _ _ _ _ us hl => match us, hl with | [_, _], _ => rfl
abbrev s__law_cell_at : Stmt := topS 29
theorem sc__law_cell_at : FnScope ["_law_script", "_law_k"] ["_law_script", "_law_k"] (defScope s__law_cell_at) := ⟨rfl, rfl, rfl, by decide +kernel, rfl, by decide +kernel, by decide +kernel⟩
theorem bn__law_cell_at : Bnd s__law_cell_at "_law_cell_at" ["_law_script", "_law_k"] := fun _ _ _ _ _ _ us hl => match us, hl with | [_, _], _ => rfl
abbrev s__law_draw : Stmt := topS 30
theorem sc__law_draw : FnScope ["_law_cell", "_law_k", "_law_most", "_law_primes"] ["_law_cell", "_law_k", "_law_most"] (defScope s__law_draw) := ⟨rfl, rfl, rfl, by decide +kernel, rfl, by decide +kernel, by decide +kernel⟩
theorem bn__law_draw : Bnd s__law_draw "_law_draw" ["_law_cell", "_law_k", "_law_most"] := fun _ _ _ _ _ _ us hl => match us, hl with | [_, _, _], _ => rfl
abbrev s__law_number : Stmt := topS 31
theorem sc__law_number : FnScope ["_law_cell", "_law_k", "_law_limit"] ["_law_cell", "_law_k", "_law_limit"] (defScope s__law_number) := ⟨rfl, rfl, rfl, by decide +kernel, rfl, by decide +kernel, by decide +kernel⟩
theorem bn__law_number : Bnd s__law_number "_law_number" ["_law_cell", "_law_k", "_law_limit"] := fun _ _ _ _ _ _ us hl => match us, hl with | [_, _, _], _ => rfl
abbrev s__law_field : Stmt := topS 32
theorem sc__law_field : FnScope ["_law_script", "_law_by", "_law_most", "_law_cell", "_law_high", "_law_wide", "_law_letters", "_law_found", "_law_row", "_law_text", "_law_place", "_law_spot"] ["_law_script", "_law_by", "_law_most"] (defScope s__law_field) := ⟨rfl, rfl, rfl, by decide +kernel, rfl, by decide +kernel, by decide +kernel⟩
theorem bn__law_field : Bnd s__law_field "_law_field" ["_law_script", "_law_by", "_law_most"] := fun _ _ _ _ _ _ us hl => match us, hl with | [_, _, _], _ => rfl
abbrev s__law_beside : Stmt := topS 33
theorem sc__law_beside : FnScope ["_law_one", "_law_other"] ["_law_one", "_law_other"] (defScope s__law_beside) := ⟨rfl, rfl, rfl, by decide +kernel, rfl, by decide +kernel, by decide +kernel⟩
theorem bn__law_beside : Bnd s__law_beside "_law_beside" ["_law_one", "_law_other"] := fun _ _ _ _ _ _ us hl => match us, hl with | [_, _], _ => rfl
abbrev s__law_broad : Stmt := topS 34
theorem sc__law_broad : FnScope ["_law_script", "_law_by", "_law_found", "_law_row", "_law_text", "_law_place", "_law_spot"] ["_law_script", "_law_by"] (defScope s__law_broad) := ⟨rfl, rfl, rfl, by decide +kernel, rfl, by decide +kernel, by decide +kernel⟩
theorem bn__law_broad : Bnd s__law_broad "_law_broad" ["_law_script", "_law_by"] := fun _ _ _ _ _ _ us hl => match us, hl with | [_, _], _ => rfl
abbrev s__law_cells : Stmt := topS 35
theorem sc__law_cells : FnScope ["_law_field_here", "_law_found", "_law_row", "_law_place"] ["_law_field_here"] (defScope s__law_cells) := ⟨rfl, rfl, rfl, by decide +kernel, rfl, by decide +kernel, by decide +kernel⟩
theorem bn__law_cells : Bnd s__law_cells "_law_cells" ["_law_field_here"] := fun _ _ _ _ _ _ us hl => match us, hl with | [_], _ => rfl
abbrev s__law_snakes : Stmt := topS 36
theorem sc__law_snakes : FnScope ["_law_field_here", "_law_word_here", "_law_found", "_law_letter", "_law_longer", "_law_cells_here", "_law_cell", "_law_good"] ["_law_field_here", "_law_word_here"] (defScope s__law_snakes) := ⟨rfl, rfl, rfl, by decide +kernel, rfl, by decide +kernel, by decide +kernel⟩
theorem bn__law_snakes : Bnd s__law_snakes "_law_snakes" ["_law_field_here", "_law_word_here"] := fun _ _ _ _ _ _ us hl => match us, hl with | [_, _], _ => rfl
abbrev s__law_word : Stmt := topS 37
theorem sc__law_word : FnScope ["_law_script", "_law_by", "_law_field_here", "_law_most", "_law_cell", "_law_many", "_law_here", "_law_every", "_law_text", "_law_gone", "_law_k", "_law_some", "_law_one"] ["_law_script", "_law_by", "_law_field_here", "_law_most"] (defScope s__law_word) := ⟨rfl, rfl, rfl, by decide +kernel, rfl, by decide +kernel, by decide +kernel⟩
theorem bn__law_word : Bnd s__law_word "_law_word" ["_law_script", "_law_by", "_law_field_here", "_law_most"] := fun _ _ _ _ _ _ us hl => match us, hl with | [_, _, _, _], _ => rfl
abbrev s__law_whole : Stmt := topS 38
theorem sc__law_whole : FnScope ["_law_found"] ["_law_found"] (defScope s__law_whole) := ⟨rfl, rfl, rfl, by decide +kernel, rfl, by decide +kernel, by decide +kernel⟩
theorem bn__law_whole : Bnd s__law_whole "_law_whole" ["_law_found"] := fun _ _ _ _ _ _ us hl => match us, hl with | [_], _ => rfl
abbrev s__law_barred : Stmt := topS 39
theorem sc__law_barred : FnScope ["_law_field_here", "_law_word_here", "_law_number_here", "_law_sorts", "error"] ["_law_field_here", "_law_word_here", "_law_number_here"] (defScope s__law_barred) := ⟨rfl, rfl, rfl, by decide +kernel, rfl, by decide +kernel, by decide +kernel⟩
theorem bn__law_barred : Bnd s__law_barred "_law_barred" ["_law_field_here", "_law_word_here", "_law_number_here"] := fun _ _ _ _ _ _ us hl => match us, hl with | [_, _, _], _ => rfl
abbrev s__law_right : Stmt := topS 40
theorem sc__law_right : FnScope ["_law_whole_here", "_law_word_here", "_law_field_here", "_law_every", "_law_found", "_law_number_here", "_law_cells_here", "_law_handed", "_law_told"] ["_law_whole_here", "_law_word_here"] (defScope s__law_right) := ⟨rfl, rfl, rfl, by decide +kernel, rfl, by decide +kernel, by decide +kernel⟩
theorem bn__law_right : Bnd s__law_right "_law_right" ["_law_whole_here", "_law_word_here"] := fun _ _ _ _ _ _ us hl => match us, hl with | [_, _], _ => rfl
abbrev s__law_one_letter : Stmt := topS 41
theorem sc__law_one_letter : FnScope ["_law_field_here", "_law_many"] [] (defScope s__law_one_letter) := ⟨rfl, rfl, rfl, by decide +kernel, rfl, by decide +kernel, by decide +kernel⟩
theorem bn__law_one_letter : Bnd s__law_one_letter "_law_one_letter" [] := fun _ _ _ _ _ _ us hl => match us, hl with | [], _ => rfl
abbrev s_law : Stmt := topS 42
theorem sc_law : FnScope ["_law_script", "_law_by", "_law_field_here", "_law_word_here", "_law_some", "_law_broad_here", "_law_fields"] ["_law_script"] (defScope s_law) := ⟨rfl, rfl, rfl, by decide +kernel, rfl, by decide +kernel, by decide +kernel⟩
theorem bn_law : Bnd s_law "law" ["_law_script"] := fun _ _ _ _ _ _ us hl => match us, hl with | [_], _ => rfl
/-- the names that the top leaves alone, its constants -/
structure Bi (mg : Str → Option Value) : Prop where
  abs : mg "abs" = none
  all : mg "all" = none
  any : mg "any" = none
  bool : mg "bool" = none
  int : mg "int" = none
  isinstance : mg "isinstance" = none
  len : mg "len" = none
  list : mg "list" = none
  max : mg "max" = none
  min : mg "min" = none
  range : mg "range" = none
  set : mg "set" = none
  str : mg "str" = none
  tuple : mg "tuple" = none
  zip : mg "zip" = none
  g_WIDEST : ∃ t, mg "WIDEST" = some (.int 5 t)
  g_LONGEST : ∃ t, mg "LONGEST" = some (.int 6 t)
  g_LETTERS : ∃ t, mg "LETTERS" = some (.str "abcdefghijklmnopqrstuvwxyz" t)
end Sk
namespace Sk
open PySem PySem.Spec PyProof.Rows L2 Sn
section
variable {P : Program} {w : World} {K : PySem.W.Frag} {mg : Str → Option Value} {base : Heap}
theorem ok_is_whole (D : Dfn K mg "is_whole" s_is_whole) (B : Bi mg) : Cal P w K mg base CX0 1 "is_whole" ["thing"] (spIsWhole K) := by
  refine D.cal sc_is_whole bn_is_whole (fun vs H Q E h => ?_) (fun f cdv A outer s H vs Q E hr h => ?_)
  · obtain ⟨x, t, b, c, rfl, _⟩ := h
    rfl
  · obtain ⟨x, t, b, c, rfl, ty, k1, k2, q⟩ := h
    refine ⟨_, (pss_one (ps_ret (pe_and (pe_callB (isiK K) (by rfl) B.isinstance (by decide +kernel) (pa_cons (pv 0) (pa_cons (pe_bltn (v := .ty "int") (by rfl) B.int (by decide +kernel) rfl) pa_nil))) (pe_one (pe_not (pe_callB (isiK K) (by rfl) B.isinstance (by decide +kernel) (pa_cons (pv 0) (pa_cons (pe_bltn (v := .ty "bool") (by rfl) B.bool (by decide +kernel) rfl) pa_nil)))))))), ?_⟩
    refine ⟨x, rfl, x, .ty "int", t, _, b, rfl, .ty "int", ty, k1, b, rfl, ?_⟩
    cases b with
    | false => exact iteF q
    | true => exact iteT ⟨x, rfl, x, .ty "bool", t, _, c, rfl, .ty "bool", ty, k2, c, rfl, q⟩
theorem ok_is_text (D : Dfn K mg "is_text" s_is_text) (B : Bi mg) : Cal P w K mg base CX0 1 "is_text" ["thing", "most"] (spIsText K) := by
  refine D.cal sc_is_text bn_is_text (fun vs H Q E h => ?_) (fun f cdv A outer s H vs Q E hr h => ?_)
  · rcases h with ⟨r, n, rfl, _⟩ | ⟨x, t, n, rfl, _⟩ <;> rfl
  · refine ⟨_, (pss_one (ps_ret (pe_and (pe_callB (isiK K) (by rfl) B.isinstance (by decide +kernel) (pa_cons (pv 0) (pa_cons (pe_bltn (v := .ty "str") (by rfl) B.str (by decide +kernel) rfl) pa_nil))) (pe_and (pe_chain op_le op_le pe_int (pe_callB call_len_str (by rfl) B.len PySem.boot_len (pa_cons (pv 0) pa_nil)) (pv 1)) (pe_one (pe_callB (allK K rfl) (by rfl) B.all (by decide +kernel) (pa_cons (pe_lc (own := [("one", 2)]) (g := gName 2) (tt := tYes) (by rfl) sc_is_text.nd (pi_str (pv 0)) (blkOk_by (own := [("one", 2)]) (N := ["thing", "most", "one"]) (sc := defScope s_is_text) (by decide +kernel)) (fun _ _ _ _ _ => (pg_name (i := 2) sc_is_text.nd rfl (Or.inl rfl))) (fun _ _ _ _ _ => pts_nil) (fun _ _ _ _ _ => (pe_cmpR op_in_sign (pv 2) (pglobS (by rfl) B.g_LETTERS) (by rfl)))) pa_nil))))))), ?_⟩
    rcases h with ⟨r, n, rfl, hl, q⟩ | ⟨x, t, n, rfl, ty, k, q⟩
    · refine ⟨tv r, rfl, tv r, .ty "str", .type "str", _, true, rfl, .ty "str", .base (.str _), kit_ty (by decide +kernel), true, rfl, iteT ?_⟩
      refine ⟨tv r, rfl, tx r, rfl, by rw [tx_len]; exact hl, 1, _, rfl, rfl, _, rfl, ?_⟩
      rw [tx_len]
      by_cases h1 : (1 : Int) ≤ (r.length : Int)
      · rw [decide_eq_true h1]
        refine iteT ⟨.int n, rfl, _, n, rfl, rfl, _, rfl, ?_⟩
        by_cases h2 : (r.length : Int) ≤ n
        · rw [decide_eq_true h2]
          refine iteT ⟨tv r, rfl, tx r, rfl, lc_val walk_str (by show (tx r).length ≤ _; rw [tx_len]; exact hl) (fun i => .bl (letB (r.getD i 0))) (fun _ _ => trivial) (fun D' i x H1 H2 Qe nD hi sm hy y qe => ?_) fun D' H1 nD sm hD => ?_⟩
          · obtain ⟨rfl, c, hc, rfl⟩ := y
            refine ⟨rfl, .str ⟨#[c]⟩, rfl, c, lettersS, rfl, rfl, ?_⟩
            have e : r.getD i 0 = c := getD_of (by rw [← hc]; show r[i]? = r.toArray[i]?; simp)
            have q2 := qe H2 (Same.refl _)
            rw [e] at q2
            rw [mem_letters]
            exact q2
          · refine ⟨D', r.map letB, rfl, .inl (.inl ?_), ?_⟩
            · rw [hD]
              congr 2
              rw [List.map_map]
              have e2 : (tx r).cps.size = r.length := tx_len r
              rw [e2]
              exact range_map_get (V.bl ∘ letB) r _ fun i x hx => by rw [getD_of hx]; rfl
            · have q2 := q H1 sm
              unfold isTextB at q2
              rw [decide_eq_true h1, decide_eq_true h2, Bool.true_and, Bool.true_and] at q2
              have e3 : (r.map letB).all id = r.all letB := by rw [List.all_map]; rfl
              rw [e3]
              exact q2
        · rw [decide_eq_false h2]
          refine iteF ?_
          have q2 := q H (Same.refl _)
          unfold isTextB at q2
          rw [decide_eq_true h1, decide_eq_false h2] at q2
          exact q2
      · rw [decide_eq_false h1]
        refine iteF ⟨_, rfl, iteF ?_⟩
        have q2 := q H (Same.refl _)
        unfold isTextB at q2
        rw [decide_eq_false h1] at q2
        exact q2
    · exact ⟨x, rfl, x, .ty "str", t, _, false, rfl, .ty "str", ty, k, false, rfl, iteF q⟩
end
end Sk
namespace Sk
open PySem PySem.Spec PyProof.Rows L2 Sn
/-- what is read first of a field: its first row -/
theorem FieldAt.row0 {K : PySem.W.Frag} {H : Hp} {a : Addr} {F : List (List Nat)} {h w : Nat} (o : FieldAt K H a F h w) : atI (F.map tv) 0 = some (tv (F.getD 0 [])) := atI_nat (j := 0) (o.row (by have := o.2.h1; omega)).1
theorem FieldAt.len0 {K : PySem.W.Frag} {H : Hp} {a : Addr} {F : List (List Nat)} {h w : Nat} (o : FieldAt K H a F h w) : (tx (F.getD 0 [])).length = w := by rw [tx_len]; exact (o.row (by have := o.2.h1; omega)).2
theorem FieldAt.w_line {K : PySem.W.Frag} {H : Hp} {a : Addr} {F : List (List Nat)} {h w : Nat} (o : FieldAt K H a F h w) : w ≤ sizeLine := small_line (by have := o.2.w5; omega)
theorem FieldAt.len_map {K : PySem.W.Frag} {H : Hp} {a : Addr} {F : List (List Nat)} {h w : Nat} (o : FieldAt K H a F h w) : (F.map tv).length = h := by rw [List.length_map]; exact o.2.high
theorem FieldAt.line {K : PySem.W.Frag} {H : Hp} {a : Addr} {F : List (List Nat)} {h w : Nat} (o : FieldAt K H a F h w) : (F.map tv).length ≤ sizeLine := by rw [o.len_map]; exact small_line (by have := o.2.h5; omega)
theorem FieldAt.item {K : PySem.W.Frag} {H : Hp} {a : Addr} {F : List (List Nat)} {h w : Nat} (o : FieldAt K H a F h w) {i : Nat} {x : V} (hx : (F.map tv)[i]? = some x) : ∃ r ∈ F, x = tv r := by
  rw [List.getElem?_map] at hx
  cases e : F[i]? with
  | none => rw [e] at hx; cases hx
  | some r => rw [e] at hx; exact ⟨r, List.mem_of_getElem? e, (Option.some.inj hx).symm⟩
theorem tyx_list {K : PySem.W.Frag} {H : Hp} {a : Addr} {xs : List V} (h : SqL K H a xs) : TyX K H (.ref a) (.type "list") := by
  rcases h with (h | ⟨o, h⟩) | ⟨o, _, _, hk, hc, _⟩
  · exact .base (.lst h)
  · exact .base (.frz h)
  · exact .kList hk hc
theorem tyx_tup {K : PySem.W.Frag} {H : Hp} {a : Addr} {xs : List V} (h : SqT K H a xs) : TyX K H (.ref a) (.type "tuple") := by
  rcases h with (h | ⟨o, h⟩) | ⟨o, _, _, hk, hc, _⟩
  · exact .base (.tup h)
  · exact .fTuple h
  · exact .kTuple hk hc
theorem all_const : ∀ n : Nat, (((List.range n).map fun _ => true).all id) = true := fun n => by rw [List.all_eq_true]; intro b hb; obtain ⟨_, _, rfl⟩ := List.mem_map.mp hb; rfl
theorem any_const : ∀ n : Nat, (((List.range n).map fun _ => false).any id) = false := fun n => by rw [List.any_eq_false]; intro b hb; obtain ⟨_, _, rfl⟩ := List.mem_map.mp hb; decide
section
variable {P : Program} {w : World} {K : PySem.W.Frag} {mg : Str → Option Value} {base : Heap}
theorem ok_check_field (D : Dfn K mg "check_field" s_check_field) (B : Bi mg) (c_is_text : Cal P w K mg base CX0 1 "is_text" ["thing", "most"] (spIsText K)) : Cal P w K mg base CX0 2 "check_field" ["field"] (spCheckField K) := by
  refine D.cal sc_check_field bn_check_field (fun vs H Q E h => ?_) (fun f cdv A outer s H vs Q E hr h => ?_)
  · obtain ⟨a, F, h, w, rfl, _⟩ := h
    rfl
  · obtain ⟨a, F, h, w, rfl, o, q⟩ := h
    refine ⟨_, (pss_cons (ps_if (PW.pt (pw_or (pt_not (pt_val (pe_callB (isiK K) (by rfl) B.isinstance (by decide +kernel) (pa_cons (pv 0) (pa_cons (pe_bltn (v := .ty "list") (by rfl) B.list (by decide +kernel) rfl) pa_nil))))) (pw_or1 (pt_not (pt_chain op_le op_le pe_int (pe_callB (lenSq K) (by rfl) B.len PySem.boot_len (pa_cons (pv 0) pa_nil)) (pglobI (by rfl) B.g_WIDEST))))))
 (pss_one ps_never) pss_nil)
 (pss_one (ps_if (PW.pt (pw_or (pt_not (pt_val (pe_callB (allK K rfl) (by rfl) B.all (by decide +kernel) (pa_cons (pe_lc (own := [("row", 1)]) (g := gName 1) (tt := tYes) (by rfl) sc_check_field.nd (piL K (pv 0)) (blkOk_by (own := [("row", 1)]) (N := ["field", "row"]) (sc := defScope s_check_field) (by decide +kernel)) (fun _ _ _ _ _ => (pg_name (i := 1) sc_check_field.nd rfl (Or.inl rfl))) (fun _ _ _ _ _ => pts_nil) (fun _ _ _ _ _ => (pcall c_is_text (hr.mono (by omega)) (by rfl) pass0 (pa_cons (pv 1) (pa_cons (pglobI (by rfl) B.g_WIDEST) pa_nil))))) pa_nil)))) (pw_or1 (pt_val (pe_callB (anyK K rfl) (by rfl) B.any (by decide +kernel) (pa_cons (pe_lc (own := [("row", 1)]) (g := gName 1) (tt := tYes) (by rfl) sc_check_field.nd (piL K (pv 0)) (blkOk_by (own := [("row", 1)]) (N := ["field", "row"]) (sc := defScope s_check_field) (by decide +kernel)) (fun _ _ _ _ _ => (pg_name (i := 1) sc_check_field.nd rfl (Or.inl rfl))) (fun _ _ _ _ _ => pts_nil) (fun _ _ _ _ _ => (pe_cmpR op_ne (pe_callB call_len_str (by rfl) B.len PySem.boot_len (pa_cons (pv 1) pa_nil)) (pe_callB call_len_str (by rfl) B.len PySem.boot_len (pa_cons (pe_ix (ixL K) (pv 0) pe_int (fun _ _ => rfl)) pa_nil)) (nomark _)))) pa_nil))))))
 (pss_one ps_never) pss_nil))), ?_⟩
    have e1 := o.2.h1
    have e5 := o.2.h5
    refine ⟨.ref a, rfl, .ref a, .ty "list", .type "list", _, true, rfl, .ty "list", tyx_list o.1, kit_ty (by decide +kernel), true, rfl, iteF ?_⟩
    refine ⟨.ref a, rfl, a, _, rfl, .inl o.1, 1, _, rfl, rfl, true, ?_, iteT ⟨_, 5, rfl, rfl, true, ?_, iteF ?_⟩⟩
    · rw [o.len_map]; exact congrArg V.bl (decide_eq_true (by omega))
    · rw [o.len_map]; exact congrArg V.bl (decide_eq_true (by omega))
    refine ⟨.ref a, rfl, a, rfl, ⟨_, o.1⟩, lc_val (walk_list (xs := F.map tv)) o.line (fun _ => .bl true) (fun H1 s1 => s1.seq o.1) (fun D' i x H1 H2 Qe nD hi sm hy y qe => ?_) fun D' H1 nD sm hD => ?_⟩
    · obtain ⟨rfl, hx⟩ := y
      obtain ⟨r, hr, rfl⟩ := o.item hx
      have hw := o.2.wide r hr
      have w1 := o.2.w1
      have w5 := o.2.w5
      refine ⟨rfl, tv r, rfl, .inl ⟨r, 5, rfl, small_line (by omega), fun H' s' => ?_⟩⟩
      have e : isTextB r 5 = true := by
        unfold isTextB
        rw [decide_eq_true (by omega), decide_eq_true (by omega), List.all_eq_true.mpr fun c hc => letB_letter.mpr (o.2.let_ r hr c hc)]
        rfl
      rw [e]
      exact qe H' s'
    · refine ⟨D', (List.range (F.map tv).length).map fun _ => true, rfl, .inl (.inl ?_), true, ?_, iteF ?_⟩
      · rw [hD, List.map_map]; rfl
      · rw [all_const]
      have o1 := o.same sm
      refine ⟨.ref a, rfl, a, rfl, ⟨_, o1.1⟩, lc_val (walk_list (xs := F.map tv)) o1.line (fun _ => .bl false) (fun H1 s1 => s1.seq o1.1) (fun D2 i x H3 H2 Qe nD hi sm hy y qe => ?_) fun D2 H3 nD sm2 hD => ?_⟩
      · obtain ⟨rfl, hx⟩ := y
        obtain ⟨r, hr, rfl⟩ := o.item hx
        have hw := o.2.wide r hr
        have o2 := o1.same sm
        refine ⟨rfl, tv r, rfl, tx r, rfl, by rw [tx_len, hw]; exact o.w_line, .ref a, rfl, a, _, 0, _, rfl, rfl, o2.1, o.row0, tx (F.getD 0 []), rfl, by rw [o.len0]; exact o.w_line, rfl, ?_⟩
        rw [o.len0, tx_len, hw, decide_eq_true rfl]
        exact qe _ (Same.refl _)
      · refine ⟨D2, (List.range (F.map tv).length).map fun _ => false, rfl, .inl (.inl ?_), false, ?_, iteF ?_⟩
        · rw [hD, List.map_map]; rfl
        · rw [any_const]
        exact q H3 (sm.trans sm2)
theorem ok_is_cell (D : Dfn K mg "is_cell" s_is_cell) (B : Bi mg) (c_is_whole : Cal P w K mg base CX0 1 "is_whole" ["thing"] (spIsWhole K)) : Cal P w K mg base CX0 2 "is_cell" ["field", "thing"] (spIsCell K) := by
  refine D.cal sc_is_cell bn_is_cell (fun vs H Q E h => ?_) (fun f cdv A outer s H vs Q E hr h => ?_)
  · obtain ⟨a, F, h, w, v, c, rfl, _⟩ := h
    rfl
  · obtain ⟨a, F, h, w, v, c, rfl, o, ⟨t, rfl, ht⟩, q⟩ := h
    refine ⟨_, (pss_cons (ps_if (PW.pt (pw_or (pt_not (pt_val (pe_callB (isiK K) (by rfl) B.isinstance (by decide +kernel) (pa_cons (pv 1) (pa_cons (pe_bltn (v := .ty "tuple") (by rfl) B.tuple (by decide +kernel) rfl) pa_nil))))) (pw_or (pt_cmpR op_ne (pe_callB (lenSq K) (by rfl) B.len PySem.boot_len (pa_cons (pv 1) pa_nil)) pe_int (nomark _)) (pw_or1 (pt_not (pt_val (pe_callB (allK K rfl) (by rfl) B.all (by decide +kernel) (pa_cons (pe_lc (own := [("one", 2)]) (g := gName 2) (tt := tYes) (by rfl) sc_is_cell.nd (piT K (pv 1)) (blkOk_by (own := [("one", 2)]) (N := ["field", "thing", "one"]) (sc := defScope s_is_cell) (by decide +kernel)) (fun _ _ _ _ _ => (pg_name (i := 2) sc_is_cell.nd rfl (Or.inl rfl))) (fun _ _ _ _ _ => pts_nil) (fun _ _ _ _ _ => (pcall c_is_whole (hr.mono (by omega)) (by rfl) pass0 (pa_cons (pv 2) pa_nil)))) pa_nil))))))))
 (pss_one (ps_ret pe_bl)) pss_nil)
 (pss_one (ps_ret (pe_and (pe_chain op_le op_lt pe_int (pe_ix (ixT K) (pv 1) pe_int (fun _ _ => rfl)) (pe_callB (lenSq K) (by rfl) B.len PySem.boot_len (pa_cons (pv 0) pa_nil))) (pe_one (pe_chain op_le op_lt pe_int (pe_ix (ixT K) (pv 1) pe_int (fun _ _ => rfl)) (pe_callB call_len_str (by rfl) B.len PySem.boot_len (pa_cons (pe_ix (ixL K) (pv 0) pe_int (fun _ _ => rfl)) pa_nil)))))))), ?_⟩
    refine ⟨.ref t, rfl, .ref t, .ty "tuple", .type "tuple", _, true, rfl, .ty "tuple", tyx_tup ht, kit_ty (by decide +kernel), true, rfl, iteF ?_⟩
    refine ⟨.ref t, rfl, t, _, rfl, .inr ht, rfl, false, rfl, iteF ?_⟩
    refine ⟨.ref t, rfl, t, rfl, ⟨_, ht⟩, lc_val (walk_tup (xs := [.int c.1, .int c.2])) (small_line (by show 2 ≤ 1000000; decide)) (fun _ => .bl true) (fun H1 s1 => Same.sqt s1 ht) (fun D' i x H1 H2 Qe nD hi sm hy y qe => ?_) fun D' H1 nD sm hD => ?_⟩
    · obtain ⟨rfl, hx⟩ := y
      have hx2 : ∃ n : Int, x = .int n := by
        match i, hi with
        | 0, _ => exact ⟨c.1, (Option.some.inj hx).symm⟩
        | 1, _ => exact ⟨c.2, (Option.some.inj hx).symm⟩
      obtain ⟨n, rfl⟩ := hx2
      exact ⟨rfl, .int n, rfl, isWhole_int (E := E0) n (qe _ (Same.refl _))⟩
    · refine ⟨D', [true, true], rfl, .inl (.inl hD), true, rfl, iteF ?_⟩
      have o1 := o.same sm
      have ht1 := Same.sqt sm ht
      have q1 := q H1 sm
      unfold inB at q1
      refine ⟨.ref t, rfl, t, _, 0, .int c.1, rfl, rfl, ht1, atI_nat (j := 0) rfl, 0, c.1, rfl, rfl, _, rfl, ?_⟩
      by_cases h1 : (0 : Int) ≤ c.1
      · rw [decide_eq_true h1] at q1 ⊢
        refine iteT ⟨.ref a, rfl, a, _, rfl, .inl o1.1, _, _, rfl, rfl, _, rfl, ?_⟩
        rw [o.len_map]
        by_cases h2 : c.1 < (h : Int)
        · rw [decide_eq_true h2] at q1 ⊢
          refine iteT ⟨.ref t, rfl, t, _, 1, .int c.2, rfl, rfl, ht1, atI_nat (j := 1) rfl, 0, c.2, rfl, rfl, _, rfl, ?_⟩
          by_cases h3 : (0 : Int) ≤ c.2
          · rw [decide_eq_true h3] at q1 ⊢
            refine iteT ⟨.ref a, rfl, a, _, 0, _, rfl, rfl, o1.1, o.row0, tx (F.getD 0 []), rfl, by rw [o.len0]; exact o.w_line, _, _, rfl, rfl, ?_⟩
            rw [o.len0]
            exact q1
          · rw [decide_eq_false h3] at q1 ⊢
            exact iteF q1
        · rw [decide_eq_false h2] at q1 ⊢
          exact iteF q1
      · rw [decide_eq_false h1] at q1 ⊢
        exact iteF ⟨_, rfl, iteF q1⟩
end
end Sk
namespace Sk
open PySem PySem.Spec PyProof.Rows L2 Sn
theorem loN_bd {h : Nat} {x : Int} (h0 : 0 ≤ x) (h1 : x < h) (h5 : h ≤ 5) : 0 ≤ loN x ∧ loN x ≤ 5 ∧ 0 ≤ hiN h x ∧ hiN h x ≤ 5 := by
  unfold loN hiN
  refine ⟨?_, ?_, ?_, ?_⟩ <;> split <;> omega
theorem nearRow_upto (w : Nat) (c : Cel) (row : Int) : nearRow w c row = ((rng (loN c.2) (hiN w c.2 - loN c.2).toNat).filter fun p => !decide ((row, p) = c)).map fun p => (row, p) := rfl
theorem flat_len_le {α β : Type} (f : α → List β) (m : Nat) (h : ∀ a, (f a).length ≤ m) : ∀ l : List α, (l.flatMap f).length ≤ l.length * m
  | [] => by simp
  | a :: l => by
    rw [List.flatMap_cons, List.length_append, List.length_cons, Nat.succ_mul]
    have := flat_len_le f m h l
    have := h a
    omega
section
variable {P : Program} {w : World} {K : PySem.W.Frag} {mg : Str → Option Value} {base : Heap}
theorem ok_near_of (D : Dfn K mg "near_of" s_near_of) (B : Bi mg) : Cal P w K mg base CX0 1 "near_of" ["field", "cell"] (spNear K) := by
  refine D.cal sc_near_of bn_near_of (fun vs H Q E h => ?_) (fun f cdv A outer s H vs Q E hr h => ?_)
  · obtain ⟨a, F, h, w, v, c, rfl, _⟩ := h
    rfl
  · obtain ⟨a, F, h, w, v, c, rfl, o, ⟨t, rfl, ht⟩, hc, q⟩ := h
    refine ⟨_, (pss_cons (ps_set (i := 2) sc_near_of.nd rfl (.inl rfl) (pe_lst pa_nil))
 (pss_cons (ps_for PassesOwn.never rfl (pi_range2 (by rfl) B.range (pa_cons (pe_callB (call_max2 rfl) (by rfl) B.max (by decide +kernel) (pa_cons pe_int (pa_cons (pe_op op_sub (pe_ix (ixT K) (pv 1) pe_int (fun _ _ => rfl)) pe_int) pa_nil))) (pa_cons (pe_callB (call_min2 rfl) (by rfl) B.min (by decide +kernel) (pa_cons (pe_callB (lenSq K) (by rfl) B.len PySem.boot_len (pa_cons (pv 0) pa_nil)) (pa_cons (pe_op op_add (pe_ix (ixT K) (pv 1) pe_int (fun _ _ => rfl)) pe_int) pa_nil))) pa_nil))) (pg_name (i := 3) sc_near_of.nd rfl (.inl rfl))
 (pss_one (ps_for PassesOwn.never rfl (pi_range2 (by rfl) B.range (pa_cons (pe_callB (call_max2 rfl) (by rfl) B.max (by decide +kernel) (pa_cons pe_int (pa_cons (pe_op op_sub (pe_ix (ixT K) (pv 1) pe_int (fun _ _ => rfl)) pe_int) pa_nil))) (pa_cons (pe_callB (call_min2 rfl) (by rfl) B.min (by decide +kernel) (pa_cons (pe_callB call_len_str (by rfl) B.len PySem.boot_len (pa_cons (pe_ix (ixL K) (pv 0) pe_int (fun _ _ => rfl)) pa_nil)) (pa_cons (pe_op op_add (pe_ix (ixT K) (pv 1) pe_int (fun _ _ => rfl)) pe_int) pa_nil))) pa_nil))) (pg_name (i := 4) sc_near_of.nd rfl (.inl rfl))
 (pss_one (ps_if (pt_cmpR (neDK K hr.units) (pe_tup (pa_cons (pv 3) (pa_cons (pv 4) pa_nil))) (pv 1) (nomark _))
 (pss_one (ps_expr (pe_bm PySem.F.plainAttrs_list PySem.F.slot_list_append PySem.F.type_list_append mt_append (pv 2) (pa_cons (pe_tup (pa_cons (pv 3) (pa_cons (pv 4) pa_nil))) pa_nil)))) pss_nil)))))
 (pss_one (ps_ret (pv 2))))), ?_⟩
    obtain ⟨⟨a1, a2⟩, a3, a4⟩ := mem_cellsL.mp hc
    obtain ⟨b1, b2, b3, b4⟩ := loN_bd a1 a2 o.2.h5
    obtain ⟨d1, d2, d3, d4⟩ := loN_bd a3 a4 o.2.w5
    refine ⟨Nat.zero_le _, fun p np => ?_⟩
    have s1 : Same H (upd H p (.lst [])) := same_new np
    have o1 := o.same s1
    have ht1 := Same.sqt s1 ht
    refine ⟨.ref t, rfl, t, _, 0, .int c.1, rfl, rfl, ht1, atI_nat (j := 0) rfl, _, 1, rfl, rfl, 0, _, rfl, .ref a, rfl, a, _, rfl, .inl o1.1, .ref t, rfl, t, _, 0, .int c.1, rfl, rfl, ht1, atI_nat (j := 0) rfl, _, 2, rfl, rfl, _, _, rfl, loN c.1, hiN h c.1, ?_, ⟨by omega, by omega, by omega, by omega⟩, ?_⟩
    · rw [o.len_map]; rfl
    refine for_it walk_range (fun i σ H' => ∃ y3 y4 ys, σ = [some (.ref a), some (.ref t), some (.ref p), y3, y4] ∧ Same H H' ∧ H' p = some (.lst ys) ∧ Cells K H' ys ((rng (loN c.1) i).flatMap (nearRow w c)))
      ⟨none, none, [], rfl, s1, upd_same, .nil⟩ (fun _ _ _ _ _ => trivial) (fun i x σ H1 H2 hi pv y => ?_) fun σ H1 pv => ?_
    · obtain ⟨rfl, rfl⟩ := y
      obtain ⟨y3, y4, ys, rfl, sm, hp, hy⟩ := pv
      have o2 := o.same sm
      have ht2 := Same.sqt sm ht
      refine ⟨.ref t, rfl, t, _, 1, .int c.2, rfl, rfl, ht2, atI_nat (j := 1) rfl, _, 1, rfl, rfl, 0, _, rfl, .ref a, rfl, a, _, 0, _, rfl, rfl, o2.1, o.row0, tx (F.getD 0 []), rfl, by rw [o.len0]; exact o.w_line, .ref t, rfl, t, _, 1, .int c.2, rfl, rfl, ht2, atI_nat (j := 1) rfl, _, 2, rfl, rfl, _, _, rfl, loN c.2, hiN w c.2, ?_, ⟨by omega, by omega, by omega, by omega⟩, ?_⟩
      · rw [o.len0]; rfl
      refine for_it walk_range (fun j σ H' => ∃ y4 zs, σ = [some (.ref a), some (.ref t), some (.ref p), some (.int (loN c.1 + i)), y4] ∧ Same H H' ∧ H' p = some (.lst zs) ∧ Cells K H' zs ((rng (loN c.1) i).flatMap (nearRow w c) ++ ((rng (loN c.2) j).filter fun p => !decide ((loN c.1 + (i : Int), p) = c)).map fun p => (loN c.1 + (i : Int), p)))
        ⟨y4, ys, rfl, sm, hp, by simpa [rng] using hy⟩ (fun _ _ _ _ _ => trivial) (fun j x σ H3 H4 hj pv y => ?_) fun σ H3 pv => ?_
      · obtain ⟨rfl, rfl⟩ := y
        obtain ⟨y4, zs, rfl, sm2, hp2, hz⟩ := pv
        have hlen : zs.length < sizeLine := by
          rw [hz.length, List.length_append, List.length_map]
          have e1 := flat_len_le (nearRow w c) 5 (fun r => by
            unfold nearRow
            rw [List.length_map]
            refine Nat.le_trans (List.length_filter_le _ _) ?_
            rw [rng_length]; omega) (rng (loN c.1) i)
          have e2 := List.length_filter_le (fun p => !decide ((loN c.1 + (i : Int), p) = c)) (rng (loN c.2) j)
          rw [rng_length] at e1 e2
          exact small1000 (by omega)
        -- (row, place) != cell
        refine ⟨.int (loN c.1 + i), rfl, .int (loN c.2 + j), rfl, by show 2 ≤ sizeLine; decide, fun T nT => ?_⟩
        have sT : Same H4 (upd H4 T (.tup [.int (loN c.1 + i), .int (loN c.2 + j)])) := same_new nT
        have vT : CellV K (upd H4 T (.tup [.int (loN c.1 + i), .int (loN c.2 + j)])) (.ref T) (loN c.1 + i, loN c.2 + j) := ⟨T, rfl, SqT.of upd_same⟩
        have vc : CellV K (upd H4 T (.tup [.int (loN c.1 + i), .int (loN c.2 + j)])) (.ref t) c := ⟨t, rfl, Same.sqt (sm2.trans sT) ht⟩
        refine ⟨.ref t, rfl, _, _, vT.dp, vc.dp, (shp_cell _).ok, (shp_cell _).ok, _, rfl, ?_⟩
        rw [eqv_cell]
        by_cases hne : ((loN c.1 + (i : Int), loN c.2 + (j : Int)) : Cel) = c
        · rw [decide_eq_true hne]
          refine iteF ⟨_, zs, rfl, sm2.trans sT, sT _ _ hp2, ?_⟩
          rw [rng_succ, List.filter_append, List.filter_cons, decide_eq_true hne]
          simp only [Bool.not_true, Bool.false_eq_true, if_false, List.filter_nil, List.append_nil]
          exact hz.le (TupLe.of sT)
        · rw [decide_eq_false hne]
          refine iteT ⟨.ref p, rfl, .inl ⟨rfl, _, SqL.of (sT _ _ hp2)⟩, .int (loN c.1 + i), rfl, .int (loN c.2 + j), rfl, by show 2 ≤ sizeLine; decide, fun U nU => ?_⟩
          have sU := same_new (o := .tup [.int (loN c.1 + i), .int (loN c.2 + j)]) nU
          have hpU := sU _ _ (sT _ _ hp2)
          refine ⟨p, zs, .ref U, rfl, rfl, hpU, hlen, _, _, rfl, same_upd (sm2.trans (sT.trans sU)) np, upd_same, ?_⟩
          rw [rng_succ, List.filter_append, List.filter_cons, decide_eq_false hne]
          simp only [Bool.not_false, if_true, List.filter_nil, List.map_append, List.map_cons, List.map_nil]
          rw [← List.append_assoc]
          refine Paired.snoc ((hz.le (TupLe.of (sT.trans sU))).le (TupLe.upd hpU (TupLe.refl _))) ⟨U, rfl, (TupLe.upd hpU (TupLe.refl _)).sqt (SqT.of upd_same)⟩
      · obtain ⟨y4, zs, rfl, sm2, hp2, hz⟩ := pv
        refine ⟨_, y4, zs, rfl, sm2, hp2, ?_⟩
        rw [rng_succ, List.flatMap_append, List.flatMap_cons, List.flatMap_nil, List.append_nil]
        exact hz
    · obtain ⟨y3, y4, ys, rfl, sm, hp, hy⟩ := pv
      exact ⟨.ref p, rfl, q H1 p ys sm np hp hy⟩
end
end Sk
namespace Sk
open PySem PySem.Spec PyProof.Rows L2 Sn
section
variable {P : Program} {w : World} {K : PySem.W.Frag} {mg : Str → Option Value} {base : Heap}
theorem ok_law_cell_at (D : Dfn K mg "_law_cell_at" s__law_cell_at) (B : Bi mg) : Cal P w K mg base CX0 1 "_law_cell_at" ["_law_script", "_law_k"] (spCellAt K) := by
  refine D.cal sc__law_cell_at bn__law_cell_at (fun vs H Q E h => ?_) (fun f cdv A outer s H vs Q E hr h => ?_)
  · obtain ⟨a, ns, k, n, rfl, _⟩ := h
    rfl
  · obtain ⟨a, ns, k, n, rfl, hs, hk, hb, q⟩ := h
    refine ⟨_, (pss_cons (ps_if (pt_cmpR op_lt (pv 1) (pe_callB (lenSq K) (by rfl) B.len PySem.boot_len (pa_cons (pv 0) pa_nil)) (nomark _))
 (pss_one (ps_ret (pe_ix (ixL K) (pv 0) (pv 1) (fun _ _ => rfl)))) pss_nil)
 (pss_one (ps_ret pe_int))), ?_⟩
    refine ⟨.int k, rfl, .ref a, rfl, a, _, rfl, .inl hs, _, _, rfl, rfl, _, rfl, ite2 (fun e => ?_) (fun e => ?_)⟩
    · have e1 : k < ((ns.map V.int).length : Int) := of_decide_eq_true e
      rw [List.length_map] at e1
      have hj : k.toNat < ns.length := by omega
      refine ⟨.ref a, rfl, .int k, rfl, a, _, k, .int ns[k.toNat], rfl, rfl, hs, at_of (j := k.toNat) (by omega) ?_, q _ (hb _ (List.getElem_mem hj))⟩
      rw [List.getElem?_map, List.getElem?_eq_getElem hj]; rfl
    · exact q 0 (Nat.two_pow_pos n)
theorem ok_law_draw (D : Dfn K mg "_law_draw" s__law_draw) (B : Bi mg) : Cal P w K mg base CX0 1 "_law_draw" ["_law_cell", "_law_k", "_law_most"] spDraw := by
  refine D.cal sc__law_draw bn__law_draw (fun vs H Q E h => ?_) (fun f cdv A outer s H vs Q E hr h => ?_)
  · obtain ⟨c, k, m, n, rfl, _⟩ := h
    rfl
  · obtain ⟨c, k, m, n, rfl, hc, hn, hk, hk2, hm, q⟩ := h
    refine ⟨_, (pss_cons (ps_set (i := 3) sc__law_draw.nd rfl (.inl rfl) (pe_tup (pa_cons pe_int (pa_cons pe_int (pa_cons pe_int (pa_cons pe_int (pa_cons pe_int (pa_cons pe_int (pa_cons pe_int (pa_cons pe_int (pa_cons pe_int (pa_cons pe_int (pa_cons pe_int (pa_cons pe_int (pa_cons pe_int (pa_cons pe_int (pa_cons pe_int (pa_cons pe_int pa_nil))))))))))))))))))
 (pss_one (ps_ret (pe_op op_mod (pe_op op_mod (pe_op op_add (pe_op op_mulX (pv 0) pe_int) (pe_op op_mulX (pv 1) pe_int)) (pe_ix (ixT K) (pv 3) (pe_op op_mod (pv 1) pe_int) (fun _ _ => rfl))) (pv 2))))), ?_⟩
    refine ⟨by show 16 ≤ sizeLine; decide, fun p np => ?_⟩
    obtain ⟨r, hr1, hr2⟩ := primes_at hk
    refine ⟨.int c, rfl, c, 48271, rfl, rfl, mulx_ok hc (lt30 (by decide) (by decide)) (by omega), .int k, rfl, k, 69621, rfl, rfl, small_mul (lt30 (by omega) (by omega)) (lt30 (by decide) (by decide)), _, _, rfl, rfl, .ref p, rfl, .int k, rfl, k, 16, rfl, rfl, (show (0 : Int) < 16 by decide), p, _, _, _, rfl, rfl, SqT.of upd_same, hr1, _, r, rfl, rfl, hr2, .int m, rfl, _, m, rfl, rfl, hm, ?_⟩
    exact q _ _ (Int.emod_nonneg _ (by omega)) (Int.emod_lt_of_pos _ hm) (same_new np)
theorem ok_law_number (D : Dfn K mg "_law_number" s__law_number) (B : Bi mg) (c_law_draw : Cal P w K mg base CX0 1 "_law_draw" ["_law_cell", "_law_k", "_law_most"] spDraw) : Cal P w K mg base CX0 2 "_law_number" ["_law_cell", "_law_k", "_law_limit"] spNumber := by
  refine D.cal sc__law_number bn__law_number (fun vs H Q E h => ?_) (fun f cdv A outer s H vs Q E hr h => ?_)
  · obtain ⟨c, k, m, n, rfl, _⟩ := h
    rfl
  · obtain ⟨c, k, m, n, rfl, hc, hn, hk, hk2, hm, q⟩ := h
    refine ⟨_, (pss_cons (ps_if (pt_cmpR op_ge (pv 0) (pe_op op_pow pe_int pe_int) (nomark _))
 (pss_one (ps_ret (pe_op op_mod (pe_op op_fdiv (pe_op op_sub (pv 0) (pe_op op_pow pe_int pe_int)) (pe_ix (ixT K) (pe_tup (pa_cons pe_int (pa_cons pe_int (pa_cons pe_int (pa_cons pe_int (pa_cons pe_int pa_nil)))))) (pe_op op_mod (pv 1) pe_int) (fun _ _ => rfl))) (pv 2)))) pss_nil)
 (pss_one (ps_ret (pe_op op_mod (pcall c_law_draw (hr.mono (by omega)) (by rfl) pass0 (pa_cons (pe_op op_mulX (pe_op op_add (pv 0) (pe_op op_mulX pe_int (pv 1))) (pe_op op_add (pe_op op_add (pv 0) (pe_op op_mulX pe_int (pv 1))) pe_int)) (pa_cons (pe_op op_add (pe_op op_mod (pv 1) pe_int) pe_int) (pa_cons pe_int pa_nil)))) (pv 2))))), ?_⟩
    refine ⟨.int c, rfl, 10, 18, rfl, rfl, ⟨by decide, by decide, by decide⟩, _, _, rfl, rfl, _, rfl, ite2 (fun e => ?_) (fun e => ?_)⟩
    · obtain ⟨r, hr1, hr2, hr3⟩ := sevens_at hk
      refine ⟨.int c, rfl, 10, 18, rfl, rfl, ⟨by decide, by decide, by decide⟩, _, _, rfl, rfl, by show 5 ≤ sizeLine; decide, fun p np => ?_⟩
      refine ⟨.int k, rfl, k, 5, rfl, rfl, (show (0 : Int) < 5 by decide), p, _, _, _, rfl, rfl, SqT.of upd_same, hr1, _, r, rfl, rfl, ⟨hr2, hr3⟩, .int m, rfl, _, m, rfl, rfl, hm, ?_⟩
      exact q _ _ (Int.emod_nonneg _ (by omega)) (Int.emod_lt_of_pos _ hm) (same_new np)
    · have k9 : 0 ≤ k % 9 := Int.emod_nonneg _ (by decide)
      have k99 : k % 9 < 9 := Int.emod_lt_of_pos _ (by decide)
      have b1 : (c + 977 * k).natAbs < 2 ^ (n + 21) := big_add hc (by omega)
      have b2 : (c + 31 * k + 5).natAbs < 2 ^ (n + 21 + 21) := big_add (big_add hc (by omega)) (by omega)
      refine ⟨.int c, rfl, .int k, rfl, 977, k, rfl, rfl, small_mul (lt30 (by decide) (by decide)) (lt30 (by omega) (by omega)), _, _, rfl, rfl, .int c, rfl, .int k, rfl, 31, k, rfl, rfl, small_mul (lt30 (by decide) (by decide)) (lt30 (by omega) (by omega)), _, _, rfl, rfl, _, 5, rfl, rfl, _, _, rfl, rfl, mulx_ok b1 b2 (by omega),
        .int k, rfl, k, 9, rfl, rfl, (show (0 : Int) < 9 by decide), _, 1, rfl, rfl, ?_⟩
      refine ⟨_, _, _, n + 21 + (n + 21 + 21), rfl, wide_lt b1 b2, by omega, by omega, by omega, by decide, fun z H1 z0 z1 s1 => ?_⟩
      exact ⟨.int m, rfl, z, m, rfl, rfl, hm, q _ _ (Int.emod_nonneg _ (by omega)) (Int.emod_lt_of_pos _ hm) s1⟩
theorem ok_law_beside (D : Dfn K mg "_law_beside" s__law_beside) (B : Bi mg) : Cal P w K mg base CX0 1 "_law_beside" ["_law_one", "_law_other"] (spBeside K) := by
  refine D.cal sc__law_beside bn__law_beside (fun vs H Q E h => ?_) (fun f cdv A outer s H vs Q E hr h => ?_)
  · obtain ⟨u, v, a, b, rfl, _⟩ := h
    rfl
  · obtain ⟨u, v, a, b, rfl, hu, hv, q⟩ := h
    refine ⟨_, (pss_one (ps_ret (pe_and (pe_cmpR (neDK K hr.units) (pv 0) (pv 1) (nomark _)) (pe_and (pe_cmpR op_lt (pe_callB call_abs (by rfl) B.abs (by decide +kernel) (pa_cons (pe_op op_sub (pe_ix (ixT K) (pv 0) pe_int (fun _ _ => rfl)) (pe_ix (ixT K) (pv 1) pe_int (fun _ _ => rfl))) pa_nil)) pe_int (nomark _)) (pe_one (pe_cmpR op_lt (pe_callB call_abs (by rfl) B.abs (by decide +kernel) (pa_cons (pe_op op_sub (pe_ix (ixT K) (pv 0) pe_int (fun _ _ => rfl)) (pe_ix (ixT K) (pv 1) pe_int (fun _ _ => rfl))) pa_nil)) pe_int (nomark _))))))), ?_⟩
    refine ⟨u, rfl, v, rfl, _, _, hu.dp, hv.dp, (shp_cell _).ok, (shp_cell _).ok, _, rfl, ?_⟩
    obtain ⟨t, rfl, ht⟩ := hu
    obtain ⟨t2, rfl, ht2⟩ := hv
    rw [eqv_cell]
    unfold beside at q
    cases e : (!decide (a = b)) with
    | false =>
      rw [e] at q
      exact iteF q
    | true =>
      rw [e] at q
      refine iteT ⟨.ref t, rfl, t, _, 0, .int a.1, rfl, rfl, ht, atI_nat (j := 0) rfl, .ref t2, rfl, t2, _, 0, .int b.1, rfl, rfl, ht2, atI_nat (j := 0) rfl, _, _, rfl, rfl, _, rfl, _, 2, rfl, rfl, _, rfl, ?_⟩
      have q2 : Q (.bl (decide (iabs (a.1 - b.1) < 2) && decide (iabs (a.2 - b.2) < 2))) H := by simpa using q
      cases e2 : decide (iabs (a.1 - b.1) < 2) with
      | false =>
        rw [e2] at q2
        rw [show decide ((if a.1 - b.1 < 0 then -(a.1 - b.1) else a.1 - b.1) < 2) = false from e2]
        exact iteF q2
      | true =>
        rw [e2, Bool.true_and] at q2
        rw [show decide ((if a.1 - b.1 < 0 then -(a.1 - b.1) else a.1 - b.1) < 2) = true from e2]
        exact iteT ⟨.ref t, rfl, t, _, 1, .int a.2, rfl, rfl, ht, atI_nat (j := 1) rfl, .ref t2, rfl, t2, _, 1, .int b.2, rfl, rfl, ht2, atI_nat (j := 1) rfl, _, _, rfl, rfl, _, rfl, _, 2, rfl, rfl, q2⟩
theorem ok_law_cells (D : Dfn K mg "_law_cells" s__law_cells) (B : Bi mg) : Cal P w K mg base CX0 1 "_law_cells" ["_law_field_here"] (spCells K) := by
  refine D.cal sc__law_cells bn__law_cells (fun vs H Q E h => ?_) (fun f cdv A outer s H vs Q E hr h => ?_)
  · obtain ⟨a, F, h, w, rfl, _⟩ := h
    rfl
  · obtain ⟨a, F, h, w, rfl, o, q⟩ := h
    refine ⟨_, (pss_cons (ps_set (i := 1) sc__law_cells.nd rfl (.inl rfl) (pe_lst pa_nil))
 (pss_cons (ps_for PassesOwn.never rfl (pi_range1 (by rfl) B.range (pa_cons (pe_callB (lenSq K) (by rfl) B.len PySem.boot_len (pa_cons (pv 0) pa_nil)) pa_nil)) (pg_name (i := 2) sc__law_cells.nd rfl (.inr rfl))
 (pss_one (ps_expr (pe_bm PySem.F.plainAttrs_list PySem.F.slot_list_extend PySem.F.type_list_extend mt_extend (pv 1) (pa_cons (pe_lc (own := [("_law_place", 3)]) (g := gName 3) (tt := tYes) (by rfl) sc__law_cells.nd (pi_range1 (by rfl) B.range (pa_cons (pe_callB call_len_str (by rfl) B.len PySem.boot_len (pa_cons (pe_ix (ixL K) (pv 0) pe_int (fun _ _ => rfl)) pa_nil)) pa_nil)) (blkOk_by (own := [("_law_place", 3)]) (N := ["_law_field_here", "_law_found", "_law_row", "_law_place"]) (sc := defScope s__law_cells) (by decide +kernel)) (fun _ _ _ _ _ => (pg_name (i := 3) sc__law_cells.nd rfl (Or.inl rfl))) (fun _ _ _ _ _ => pts_nil) (fun _ _ _ _ _ => (pe_tup (pa_cons (pv 2) (pa_cons (pv 3) pa_nil))))) pa_nil)))))
 (pss_one (ps_ret (pv 1))))), ?_⟩
    have h5 := o.2.h5
    have w5 := o.2.w5
    refine ⟨Nat.zero_le _, fun p np => ?_⟩
    have s1 : Same H (upd H p (.lst [])) := same_new np
    have o1 := o.same s1
    refine ⟨.ref a, rfl, a, _, rfl, .inl o1.1, (h : Int), by rw [o.len_map], by omega, by omega, ?_⟩
    rw [Int.toNat_natCast]
    refine for_it walk_range (fun i σ H' => i ≤ h ∧ ∃ y2 ys, σ = [some (.ref a), some (.ref p), y2, none] ∧ Same H H' ∧ H' p = some (.lst ys) ∧ Cells K H' ys (cellsL i w))
      ⟨Nat.zero_le _, none, [], rfl, s1, upd_same, .nil⟩ (fun _ _ _ _ _ => trivial) (fun i x σ H1 H2 hi pv y => ?_) fun σ H1 pv => ?_
    · obtain ⟨rfl, rfl⟩ := y
      obtain ⟨_, y2, ys, rfl, sm, hp, hy⟩ := pv
      have o2 := o.same sm
      have lys : ys.length ≤ 1000 := by rw [hy.length, cellsL_len]; exact Nat.le_trans (Nat.mul_le_mul (by omega : i ≤ 5) w5) (by decide)
      refine ⟨.ref p, rfl, .inl ⟨rfl, _, SqL.of hp⟩, .ref a, rfl, a, _, 0, _, rfl, rfl, o2.1, o.row0, tx (F.getD 0 []), rfl, by rw [o.len0]; exact o.w_line, (w : Int), by rw [o.len0], by omega, by omega, ?_⟩
      rw [Int.toNat_natCast]
      refine lc_cel (K := K) walk_range o.w_line (fun _ => true) (fun j => ((i : Int), (j : Int))) (fun _ _ => trivial) (fun D' j x H3 H4 Qe Qn nD hj sm3 hy3 y qe _ => ?_) fun D' zs H3 nD sm3 hD hz => ?_
      · obtain ⟨rfl, rfl⟩ := y
        refine ⟨rfl, .int (0 + i), rfl, .int (0 + j), rfl, by show 2 ≤ sizeLine; decide, fun T nT => ?_⟩
        refine qe (.ref T) _ rfl (same_new nT) ⟨T, rfl, ?_⟩
        rw [Int.zero_add, Int.zero_add]
        exact SqT.of upd_same
      · have hp3 := sm3 _ _ hp
        have ez : zs.length ≤ 1000 := by
          rw [hz.length, List.length_map]
          refine Nat.le_trans (List.length_filter_le _ _) ?_
          rw [List.length_range]; omega
        refine ⟨p, D', ys, zs, rfl, rfl, hp3, hD, small_line (by omega), ?_⟩
        refine ⟨hi, _, _, rfl, same_upd (sm.trans sm3) np, upd_same, ?_⟩
        rw [cellsL_succ]
        have le1 : TupLe H3 (upd H3 p (.lst (ys ++ zs))) := TupLe.upd hp3 (TupLe.refl _)
        refine Paired.app ((hy.le (TupLe.of sm3)).le le1) ?_
        rw [List.filter_eq_self.mpr (fun _ _ => rfl)] at hz
        have e := range_map_rng 0 w (fun p : Int => ((i : Int), p))
        simp only [Int.zero_add] at e
        rw [e] at hz
        exact hz.le le1
    · obtain ⟨_, y2, ys, rfl, sm, hp, hy⟩ := pv
      exact ⟨.ref p, rfl, q H1 p ys sm np hp hy⟩
end
end Sk
namespace Sk
open PySem PySem.Spec PyProof.Rows L2 Sn
section
variable {P : Program} {w : World} {K : PySem.W.Frag} {mg : Str → Option Value} {base : Heap}
theorem ok_law_field (D : Dfn K mg "_law_field" s__law_field) (B : Bi mg) (c_law_cell_at : Cal P w K mg base CX0 1 "_law_cell_at" ["_law_script", "_law_k"] (spCellAt K))
    (c_law_number : Cal P w K mg base CX0 2 "_law_number" ["_law_cell", "_law_k", "_law_limit"] spNumber) : Cal P w K mg base CX0 3 "_law_field" ["_law_script", "_law_by", "_law_most"] (spField K) := by
  refine D.cal sc__law_field bn__law_field (fun vs H Q E h => ?_) (fun f cdv A outer s H vs Q E hr h => ?_)
  · obtain ⟨a, ns, k, m, n, rfl, _⟩ := h
    rfl
  · obtain ⟨a, ns, k, m, n, rfl, hs, hb, hn, hk, hk2, hm, hm5, q⟩ := h
    refine ⟨_, (pss_cons (ps_set (i := 3) sc__law_field.nd rfl (.inl rfl) (pcall c_law_cell_at (hr.mono (by omega)) (by rfl) pass0 (pa_cons (pv 0) (pa_cons (pv 1) pa_nil))))
 (pss_cons (ps_par (i := 4) (j := 5) (by rfl) sc__law_field.nd rfl rfl (by decide) rfl rfl (pa_cons (pe_op op_add pe_int (pcall c_law_number (hr.mono (by omega)) (by rfl) pass0 (pa_cons (pv 3) (pa_cons (pe_op op_add (pv 1) pe_int) (pa_cons (pv 2) pa_nil))))) (pa_cons (pe_op op_add pe_int (pcall c_law_number (hr.mono (by omega)) (by rfl) pass0 (pa_cons (pv 3) (pa_cons (pe_op op_add (pv 1) pe_int) (pa_cons (pv 2) pa_nil))))) pa_nil)) (by rfl))
 (pss_cons (ps_set (i := 6) sc__law_field.nd rfl (.inl rfl) (pe_ix (ixT K) (pe_tup (pa_cons pe_str (pa_cons pe_str (pa_cons pe_str (pa_cons pe_str pa_nil))))) (pcall c_law_number (hr.mono (by omega)) (by rfl) pass0 (pa_cons (pv 3) (pa_cons (pe_op op_add (pv 1) pe_int) (pa_cons pe_int pa_nil)))) (fun _ _ => rfl)))
 (pss_cons (ps_set (i := 7) sc__law_field.nd rfl (.inl rfl) (pe_lst pa_nil))
 (pss_cons (ps_for PassesOwn.never rfl (pi_range1 (by rfl) B.range (pa_cons (pv 4) pa_nil)) (pg_name (i := 8) sc__law_field.nd rfl (.inl rfl))
 (pss_cons (ps_set (i := 9) sc__law_field.nd rfl (.inl rfl) pe_str)
 (pss_cons (ps_for PassesOwn.never rfl (pi_range1 (by rfl) B.range (pa_cons (pv 5) pa_nil)) (pg_name (i := 10) sc__law_field.nd rfl (.inl rfl))
 (pss_cons (ps_set (i := 11) sc__law_field.nd rfl (.inl rfl) (pe_op op_add (pe_op op_mulX (pv 8) (pv 5)) (pv 10)))
 (pss_one (ps_set (i := 9) sc__law_field.nd rfl (.inl rfl) (pe_op op_add_str (pv 9) (pe_ix ix_str (pv 6) (pcall c_law_number (hr.mono (by omega)) (by rfl) pass0 (pa_cons (pe_op op_add (pcall c_law_cell_at (hr.mono (by omega)) (by rfl) pass0 (pa_cons (pv 0) (pa_cons (pe_op op_add (pv 1) (pv 11)) pa_nil))) (pe_op op_mulX pe_int (pv 11))) (pa_cons (pe_op op_add (pv 11) (pv 1)) (pa_cons (pe_callB call_len_str (by rfl) B.len PySem.boot_len (pa_cons (pv 6) pa_nil)) pa_nil)))) (fun _ _ => rfl)))))))
 (pss_one (ps_expr (pe_bm PySem.F.plainAttrs_list PySem.F.slot_list_append PySem.F.type_list_append mt_append (pv 7) (pa_cons (pv 9) pa_nil)))))))
 (pss_one (ps_ret (pv 7)))))))), ?_⟩
    refine ⟨.ref a, rfl, .int k, rfl, a, ns, k, n, rfl, hs, hk, hb, fun z hz => ?_⟩
    -- high, wide
    refine ⟨.int z, rfl, .int k, rfl, k, 1, rfl, rfl, .int m, rfl, z, k + 1, m, n, rfl, hz, by omega, by omega, by omega, by omega, fun z1 H1 a1 b1 s1 => ?_⟩
    refine ⟨1, z1, rfl, rfl, .int z, rfl, .int k, rfl, k, 2, rfl, rfl, .int m, rfl, z, k + 2, m, n, rfl, hz, by omega, by omega, by omega, by omega, fun z2 H2 a2 b2 s2 => ?_⟩
    refine ⟨1, z2, rfl, rfl, _, _, rfl, ?_⟩
    -- letters
    refine ⟨by show 4 ≤ sizeLine; decide, fun T nT => ?_⟩
    refine ⟨.int z, rfl, .int k, rfl, k, 3, rfl, rfl, z, k + 3, 4, n, rfl, hz, by omega, by omega, by omega, by decide, fun z3 H3 a3 b3 s3 => ?_⟩
    obtain ⟨lr, hl1, hl2, hl3, hl4⟩ := lett_at a3 b3
    refine ⟨T, lettL.map tv, z3, tv lr, rfl, rfl, Same.sqt s3 (SqT.of upd_same), hl1, ?_⟩
    have sH3 : Same H H3 := (s1.trans s2).trans ((same_new nT).trans s3)
    -- found = []
    refine ⟨Nat.zero_le _, fun p np => ?_⟩
    have npH : H p = none := sH3.free np
    obtain ⟨h, eh⟩ : ∃ h : Nat, 1 + z1 = (h : Int) := ⟨(1 + z1).toNat, by omega⟩
    obtain ⟨w, ew⟩ : ∃ w : Nat, 1 + z2 = (w : Int) := ⟨(1 + z2).toNat, by omega⟩
    refine ⟨.int (1 + z1), rfl, 1 + z1, rfl, by omega, by omega, ?_⟩
    rw [show (1 + z1).toNat = h by omega]
    refine for_it walk_range (fun i σ H' => i ≤ h ∧ ∃ y8 y9 y10 y11 F, σ = [some (.ref a), some (.int k), some (.int m), some (.int z), some (.int (1 + z1)), some (.int (1 + z2)), some (tv lr), some (.ref p), y8, y9, y10, y11] ∧ Same H H' ∧ H' p = some (.lst (F.map tv)) ∧ F.length = i ∧ ∀ r ∈ F, r.length = w ∧ ∀ c ∈ r, letter c)
      ⟨Nat.zero_le _, none, none, none, none, [], rfl, same_upd sH3 npH, upd_same, rfl, fun _ h => nomatch h⟩ (fun _ _ _ _ _ => trivial) (fun i x σ H4 H5 hi pv y => ?_) fun σ H4 pv => ?_
    · obtain ⟨rfl, rfl⟩ := y
      obtain ⟨hih, y8, y9, y10, y11, F, rfl, sm, hp, hF, hF2⟩ := pv
      refine ⟨.int (1 + z2), rfl, 1 + z2, rfl, by omega, by omega, ?_⟩
      rw [show (1 + z2).toNat = w by omega]
      refine for_it walk_range (fun j σ H' => j ≤ w ∧ ∃ y10 y11 r, σ = [some (.ref a), some (.int k), some (.int m), some (.int z), some (.int (1 + z1)), some (.int (1 + z2)), some (tv lr), some (.ref p), some (.int (0 + i)), some (tv r), y10, y11] ∧ Same H H' ∧ H' p = some (.lst (F.map tv)) ∧ r.length = j ∧ ∀ c ∈ r, letter c)
        ⟨Nat.zero_le _, y10, y11, [], rfl, sm, hp, rfl, fun _ h => nomatch h⟩ (fun _ _ _ _ _ => trivial) (fun j x σ H6 H7 hj pv y => ?_) fun σ H6 pv => ?_
      · obtain ⟨rfl, rfl⟩ := y
        obtain ⟨hjw, y10, y11, r, rfl, sm6, hp6, hr1, hr2⟩ := pv
        have hiw : (0 + (i : Int)) * (1 + z2) ≤ 5 * 5 := Int.mul_le_mul (by omega) (by omega) (by omega) (by omega)
        have hiw0 : 0 ≤ (0 + (i : Int)) * (1 + z2) := Int.mul_nonneg (by omega) (by omega)
        refine ⟨.int (0 + i), rfl, .int (1 + z2), rfl, _, _, rfl, rfl, small_mul (lt30 (by omega) (by omega)) (lt30 (by omega) (by omega)), .int (0 + j), rfl, _, _, rfl, rfl, ?_⟩
        refine ⟨tv r, rfl, tv lr, rfl, .ref a, rfl, .int k, rfl, .int ((0 + (i : Int)) * (1 + z2) + (0 + (j : Int))), rfl, k, ((0 + (i : Int)) * (1 + z2) + (0 + (j : Int))), rfl, rfl, a, ns, k + ((0 + (i : Int)) * (1 + z2) + (0 + (j : Int))), n, rfl, sm6.seq hs, by omega, hb, fun zc hzc => ?_⟩
        refine ⟨.int ((0 + (i : Int)) * (1 + z2) + (0 + (j : Int))), rfl, 31, ((0 + (i : Int)) * (1 + z2) + (0 + (j : Int))), rfl, rfl, small_mul (lt30 (by decide) (by decide)) (lt30 (by omega) (by omega)), zc, 31 * ((0 + (i : Int)) * (1 + z2) + (0 + (j : Int))), rfl, rfl, .int ((0 + (i : Int)) * (1 + z2) + (0 + (j : Int))), rfl, .int k, rfl, ((0 + (i : Int)) * (1 + z2) + (0 + (j : Int))), k, rfl, rfl, tv lr, rfl, tx lr, rfl, by rw [tx_len]; exact small_line (by omega), ?_⟩
        refine ⟨zc + 31 * ((0 + (i : Int)) * (1 + z2) + (0 + (j : Int))), ((0 + (i : Int)) * (1 + z2) + (0 + (j : Int))) + k, _, n + 21, rfl, big_add hzc (by omega), by omega, by omega, by omega, by rw [tx_len]; omega, fun z4 H8 a4 b4 s8 => ?_⟩
        rw [tx_len] at b4
        have hz4 : z4.toNat < lr.length := by omega
        refine ⟨tx lr, z4, lr[z4.toNat], rfl, rfl, by rw [tx_len]; exact small_line (by omega), by rw [tx_cps]; exact atN_of (j := z4.toNat) (by omega) (List.getElem?_eq_getElem hz4), tx r, tx [lr[z4.toNat]], rfl, rfl, ?_, ?_⟩
        · rw [tx_len, tx_len]; exact small_line (by show r.length + 1 ≤ _; omega)
        · refine ⟨hj, some (.int (0 + j)), some (.int ((0 + (i : Int)) * (1 + z2) + (0 + (j : Int)))), r ++ [lr[z4.toNat]], by rw [tx_app]; rfl, sm6.trans s8, s8 _ _ hp6, by rw [List.length_append, hr1]; rfl, fun c hc => ?_⟩
          rcases List.mem_append.mp hc with hc | hc
          · exact hr2 c hc
          · rw [List.mem_singleton.mp hc]; exact hl4 _ (List.getElem_mem hz4)
      · obtain ⟨_, y10, y11, r, rfl, sm6, hp6, hr1, hr2⟩ := pv
        refine ⟨.ref p, rfl, .inl ⟨rfl, _, SqL.of hp6⟩, tv r, rfl, p, _, tv r, rfl, rfl, hp6, ?_, ?_⟩
        · rw [List.length_map, hF]; exact small1000 (by omega)
        · refine ⟨hi, _, _, _, _, F ++ [r], rfl, same_upd sm6 npH, ?_, by rw [List.length_append, hF]; rfl, fun r2 hr => ?_⟩
          · rw [upd_same, List.map_append]; rfl
          · rcases List.mem_append.mp hr with hr | hr
            · exact hF2 r2 hr
            · rw [List.mem_singleton.mp hr]; exact ⟨hr1, hr2⟩
    · obtain ⟨_, y8, y9, y10, y11, F, rfl, sm, hp, hF, hF2⟩ := pv
      exact ⟨.ref p, rfl, q H4 p F h w sm npH hp ⟨hF, by omega, by omega, by omega, by omega, fun r hr => (hF2 r hr).1, fun r hr => (hF2 r hr).2⟩ (by omega) (by omega)⟩
end
end Sk
namespace Sk
open PySem PySem.Spec PyProof.Rows L2 Sn
/-- the cells of a list, as the set rule wants them -/
theorem cells_keys {K : PySem.W.Frag} {H : Hp} : ∀ {xs : List V} {cs : List Cel}, Cells K H xs cs → ∃ ks : List (Addr × List Int), xs = ks.map (fun p => V.ref p.1) ∧ (∀ p ∈ ks, SqT K H p.1 (p.2.map V.int)) ∧ ks.map (·.2) = cs.map fun c => [c.1, c.2]
  | _, _, .nil => ⟨[], rfl, fun _ h => (nomatch h), rfl⟩
  | _, _, .cons (b := c) ⟨t, e, ht⟩ r => by
    obtain ⟨ks, h1, h2, h3⟩ := cells_keys r
    refine ⟨(t, [c.1, c.2]) :: ks, by rw [e, h1]; rfl, fun p hp => ?_, by rw [List.map_cons, h3]; rfl⟩
    rcases List.mem_cons.mp hp with rfl | hp
    · exact ht
    · exact h2 p hp
theorem keys_nodup (cs : List Cel) : decide (cs.map fun c => [c.1, c.2]).Nodup = decide cs.Nodup := by
  have e : (cs.map fun c : Cel => [c.1, c.2]).Nodup ↔ cs.Nodup := by
    unfold List.Nodup
    rw [List.pairwise_map]
    constructor
    · exact fun h => h.imp fun {a b} n z => n (by rw [z])
    · refine fun h => h.imp fun {a b} n z => n ?_
      simp only [List.cons.injEq, and_true] at z
      exact Prod.ext z.1 z.2
  by_cases h : cs.Nodup
  · rw [decide_eq_true h, decide_eq_true (e.mpr h)]
  · rw [decide_eq_false h, decide_eq_false fun z => h (e.mp z)]
theorem all_ids (n : Nat) (f : Nat → Bool) : (((List.range n).map f).all id) = (List.range n).all f := by rw [List.all_map]; rfl
theorem any_cells (cs : List Cel) (d : Cel) : ((cs.map cellD).any fun z => PyData.eqv z (cellD d)) = decide (d ∈ cs) := by
  induction cs with
  | nil => rfl
  | cons c cs ih =>
    rw [List.map_cons, List.any_cons, ih, eqv_cell]
    by_cases h : c = d
    · subst h; simp
    · rw [decide_eq_false h, Bool.false_or]
      by_cases h2 : d ∈ cs
      · rw [decide_eq_true h2, decide_eq_true (List.mem_cons_of_mem _ h2)]
      · rw [decide_eq_false h2, decide_eq_false fun z => (List.mem_cons.mp z).elim (fun e => h e.symm) h2]
theorem cut_one (xs : List V) : cutV xs (some 1) none = xs.drop 1 := by
  unfold cutV
  have e1 : HT.sIx xs.length 0 (some 1) = min 1 xs.length := HT.sIx_nat xs.length 0 1
  rw [e1, HT.sIx_none]
  cases xs with
  | nil => rfl
  | cons x r =>
    have e2 : min 1 (x :: r).length = 1 := by rw [List.length_cons]; omega
    rw [e2]
    exact List.take_of_length_le (by simp)
/-- all([f(pair) for pair in zip(cs, cs[1:])]) -/
theorem adj_range (cs : List Cel) (f : Cel → Cel → Bool) : ((List.range (min cs.length (cs.drop 1).length)).all fun i => f (cs.getD i (0, 0)) ((cs.drop 1).getD i (0, 0))) = (cs.zip (cs.drop 1)).all fun p => f p.1 p.2 := by
  have e : cs.zip (cs.drop 1) = (List.range (min cs.length (cs.drop 1).length)).map fun i => (cs.getD i (0, 0), (cs.drop 1).getD i (0, 0)) := by
    apply List.ext_getElem
    · simp
    · intro i h1 h2
      have hi : i < min cs.length (cs.drop 1).length := by simpa using h2
      have a1 : i < cs.length := by omega
      have a2 : i < (cs.drop 1).length := by omega
      rw [List.getElem_zip, List.getElem_map, List.getElem_range, getD_of (List.getElem?_eq_getElem a1), getD_of (List.getElem?_eq_getElem a2)]
  rw [e, List.all_map]
  rfl
section
variable {P : Program} {wl : World} {K : PySem.W.Frag} {mg : Str → Option Value} {base : Heap}
theorem ok_check_word (D : Dfn K mg "check_word" s_check_word) (B : Bi mg) (c_is_text : Cal P wl K mg base CX0 1 "is_text" ["thing", "most"] (spIsText K)) : Cal P wl K mg base CX0 2 "check_word" ["word"] spCheckWord := by
  refine D.cal sc_check_word bn_check_word (fun vs H Q E h => ?_) (fun f cdv A outer s H vs Q E hr h => ?_)
  · obtain ⟨r, rfl, _⟩ := h
    rfl
  · obtain ⟨r, rfl, o, q⟩ := h
    refine ⟨_, (pss_one (ps_if (pt_not (pt_val (pcall c_is_text (hr.mono (by omega)) (by rfl) pass0 (pa_cons (pv 0) (pa_cons (pglobI (by rfl) B.g_LONGEST) pa_nil)))))
 (pss_one ps_never) pss_nil)), ?_⟩
    have l1 := o.l1
    have l6 := o.l6
    refine ⟨tv r, rfl, .inl ⟨r, 6, rfl, small_line (by omega), fun H' s' => ⟨true, ?_, iteF (q H' s')⟩⟩⟩
    unfold isTextB
    rw [decide_eq_true (by omega), decide_eq_true (by omega), List.all_eq_true.mpr fun c hc => letB_letter.mpr (o.let_ c hc)]
    rfl
theorem ok_cells_in (D : Dfn K mg "cells_in" s_cells_in) (B : Bi mg) : Cal P wl K mg base CX0 1 "cells_in" ["field"] (spCells K) := by
  refine D.cal sc_cells_in bn_cells_in (fun vs H Q E h => ?_) (fun f cdv A outer s H vs Q E hr h => ?_)
  · obtain ⟨a, F, h, w, rfl, _⟩ := h
    rfl
  · obtain ⟨a, F, h, w, rfl, o, q⟩ := h
    refine ⟨_, (pss_cons (ps_set (i := 1) sc_cells_in.nd rfl (.inl rfl) (pe_lst pa_nil))
 (pss_cons (ps_for PassesOwn.never rfl (pi_range1 (by rfl) B.range (pa_cons (pe_callB (lenSq K) (by rfl) B.len PySem.boot_len (pa_cons (pv 0) pa_nil)) pa_nil)) (pg_name (i := 2) sc_cells_in.nd rfl (.inr rfl))
 (pss_one (ps_expr (pe_bm PySem.F.plainAttrs_list PySem.F.slot_list_extend PySem.F.type_list_extend mt_extend (pv 1) (pa_cons (pe_lc (own := [("place", 3)]) (g := gName 3) (tt := tYes) (by rfl) sc_cells_in.nd (pi_range1 (by rfl) B.range (pa_cons (pe_callB call_len_str (by rfl) B.len PySem.boot_len (pa_cons (pe_ix (ixL K) (pv 0) pe_int (fun _ _ => rfl)) pa_nil)) pa_nil)) (blkOk_by (own := [("place", 3)]) (N := ["field", "found", "row", "place"]) (sc := defScope s_cells_in) (by decide +kernel)) (fun _ _ _ _ _ => (pg_name (i := 3) sc_cells_in.nd rfl (Or.inl rfl))) (fun _ _ _ _ _ => pts_nil) (fun _ _ _ _ _ => (pe_tup (pa_cons (pv 2) (pa_cons (pv 3) pa_nil))))) pa_nil)))))
 (pss_one (ps_ret (pv 1))))), ?_⟩
    have h5 := o.2.h5
    have w5 := o.2.w5
    refine ⟨Nat.zero_le _, fun p np => ?_⟩
    have s1 : Same H (upd H p (.lst [])) := same_new np
    have o1 := o.same s1
    refine ⟨.ref a, rfl, a, _, rfl, .inl o1.1, (h : Int), by rw [o.len_map], by omega, by omega, ?_⟩
    rw [Int.toNat_natCast]
    refine for_it walk_range (fun i σ H' => i ≤ h ∧ ∃ y2 ys, σ = [some (.ref a), some (.ref p), y2, none] ∧ Same H H' ∧ H' p = some (.lst ys) ∧ Cells K H' ys (cellsL i w))
      ⟨Nat.zero_le _, none, [], rfl, s1, upd_same, .nil⟩ (fun _ _ _ _ _ => trivial) (fun i x σ H1 H2 hi pv y => ?_) fun σ H1 pv => ?_
    · obtain ⟨rfl, rfl⟩ := y
      obtain ⟨_, y2, ys, rfl, sm, hp, hy⟩ := pv
      have o2 := o.same sm
      have lys : ys.length ≤ 1000 := by rw [hy.length, cellsL_len]; exact Nat.le_trans (Nat.mul_le_mul (by omega : i ≤ 5) w5) (by decide)
      refine ⟨.ref p, rfl, .inl ⟨rfl, _, SqL.of hp⟩, .ref a, rfl, a, _, 0, _, rfl, rfl, o2.1, o.row0, tx (F.getD 0 []), rfl, by rw [o.len0]; exact o.w_line, (w : Int), by rw [o.len0], by omega, by omega, ?_⟩
      rw [Int.toNat_natCast]
      refine lc_cel (K := K) walk_range o.w_line (fun _ => true) (fun j => ((i : Int), (j : Int))) (fun _ _ => trivial) (fun D' j x H3 H4 Qe Qn nD hj sm3 hy3 y qe _ => ?_) fun D' zs H3 nD sm3 hD hz => ?_
      · obtain ⟨rfl, rfl⟩ := y
        refine ⟨rfl, .int (0 + i), rfl, .int (0 + j), rfl, by show 2 ≤ sizeLine; decide, fun T nT => ?_⟩
        refine qe (.ref T) _ rfl (same_new nT) ⟨T, rfl, ?_⟩
        rw [Int.zero_add, Int.zero_add]
        exact SqT.of upd_same
      · have hp3 := sm3 _ _ hp
        have ez : zs.length ≤ 1000 := by
          rw [hz.length, List.length_map]
          refine Nat.le_trans (List.length_filter_le _ _) ?_
          rw [List.length_range]; omega
        refine ⟨p, D', ys, zs, rfl, rfl, hp3, hD, small_line (by omega), ?_⟩
        refine ⟨hi, _, _, rfl, same_upd (sm.trans sm3) np, upd_same, ?_⟩
        rw [cellsL_succ]
        have le1 : TupLe H3 (upd H3 p (.lst (ys ++ zs))) := TupLe.upd hp3 (TupLe.refl _)
        refine Paired.app ((hy.le (TupLe.of sm3)).le le1) ?_
        rw [List.filter_eq_self.mpr (fun _ _ => rfl)] at hz
        have e := range_map_rng 0 w (fun p : Int => ((i : Int), p))
        simp only [Int.zero_add] at e
        rw [e] at hz
        exact hz.le le1
    · obtain ⟨_, y2, ys, rfl, sm, hp, hy⟩ := pv
      exact ⟨.ref p, rfl, q H1 p ys sm np hp hy⟩
theorem ok_letter_at (D : Dfn K mg "letter_at" s_letter_at) (B : Bi mg) : Cal P wl K mg base CX0 1 "letter_at" ["field", "cell"] (spLetterAt K) := by
  refine D.cal sc_letter_at bn_letter_at (fun vs H Q E h => ?_) (fun f cdv A outer s H vs Q E hr h => ?_)
  · obtain ⟨a, F, h, w, v, c, rfl, _⟩ := h
    rfl
  · obtain ⟨a, F, h, w, v, c, rfl, o, ⟨t, rfl, ht⟩, hc, q⟩ := h
    refine ⟨_, (pss_one (ps_ret (pe_ix ix_str (pe_ix (ixL K) (pv 0) (pe_ix (ixT K) (pv 1) pe_int (fun _ _ => rfl)) (fun _ _ => rfl)) (pe_ix (ixT K) (pv 1) pe_int (fun _ _ => rfl)) (fun _ _ => rfl)))), ?_⟩
    obtain ⟨r, g1, g2, g3⟩ := o.at_cell hc
    refine ⟨.ref a, rfl, .ref t, rfl, t, _, 0, .int c.1, rfl, rfl, ht, atI_nat (j := 0) rfl, a, _, c.1, _, rfl, rfl, o.1, g1, .ref t, rfl, t, _, 1, .int c.2, rfl, rfl, ht, atI_nat (j := 1) rfl, tx r, c.2, at_ F c, rfl, rfl, by rw [tx_len, g2]; exact o.w_line, by rw [tx_cps]; exact g3, q⟩
theorem ok_is_snake (D : Dfn K mg "is_snake" s_is_snake) (B : Bi mg) (c_is_cell : Cal P wl K mg base CX0 2 "is_cell" ["field", "thing"] (spIsCell K)) (c_near_of : Cal P wl K mg base CX0 1 "near_of" ["field", "cell"] (spNear K)) : Cal P wl K mg base CX0 3 "is_snake" ["field", "cells"] (spIsSnake K) := by
  refine D.cal sc_is_snake bn_is_snake (fun vs H Q E h => ?_) (fun f cdv A outer s H vs Q E hr h => ?_)
  · obtain ⟨a, F, h, w, b, xs, cs, rfl, _⟩ := h
    rfl
  · obtain ⟨a, F, h, w, b, xs, cs, rfl, o, hb, hc, h64, q⟩ := h
    refine ⟨_, (pss_cons (ps_if (PW.pt (pw_or (pt_cmpR (eqDK K hr.units) (pv 1) (pe_lst pa_nil) (nomark _)) (pw_or (pt_cmpR op_ne (pe_callB call_lenT (by rfl) B.len PySem.boot_len (pa_cons (pe_callTy (cr_setOfT rfl hr.units) (by rfl) B.set PyProof.Rows.boot_set (pa_cons (pv 1) pa_nil)) pa_nil)) (pe_callB (lenSq K) (by rfl) B.len PySem.boot_len (pa_cons (pv 1) pa_nil)) (nomark _)) (pw_or1 (pt_not (pt_val (pe_callB (allK K rfl) (by rfl) B.all (by decide +kernel) (pa_cons (pe_lc (own := [("cell", 2)]) (g := gName 2) (tt := tYes) (by rfl) sc_is_snake.nd (piL K (pv 1)) (blkOk_by (own := [("cell", 2)]) (N := ["field", "cells", "cell", "one", "other"]) (sc := defScope s_is_snake) (by decide +kernel)) (fun _ _ _ _ _ => (pg_name (i := 2) sc_is_snake.nd rfl (Or.inl rfl))) (fun _ _ _ _ _ => pts_nil) (fun _ _ _ _ _ => (pcall c_is_cell (hr.mono (by omega)) (by rfl) pass0 (pa_cons (pv 0) (pa_cons (pv 2) pa_nil))))) pa_nil))))))))
 (pss_one (ps_ret pe_bl)) pss_nil)
 (pss_one (ps_ret (pe_callB (allK K rfl) (by rfl) B.all (by decide +kernel) (pa_cons (pe_lc (own := [("one", 3), ("other", 4)]) (g := gTup K 2 (gCons (gName 3) (gCons (gName 4) gNil))) (tt := tYes) (by rfl) sc_is_snake.nd (pi_zip (by rfl) B.zip (pa_cons (pv 1) (pa_cons (pe_slice (slL K) (pv 1) (po_some pe_int) po_none) pa_nil))) (blkOk_by (own := [("one", 3), ("other", 4)]) (N := ["field", "cells", "cell", "one", "other"]) (sc := defScope s_is_snake) (by decide +kernel)) (fun _ _ _ _ _ => (pg_tup rfl (pgs_cons (pg_name (i := 3) sc_is_snake.nd rfl (Or.inl rfl)) (pgs_cons (pg_name (i := 4) sc_is_snake.nd rfl (Or.inl rfl)) pgs_nil)))) (fun _ _ _ _ _ => pts_nil) (fun _ _ _ _ _ => (pe_cmpR (inDK K (hu65 hr)) (pv 4) (pcall c_near_of (hr.mono (by omega)) (by rfl) pass0 (pa_cons (pv 0) (pa_cons (pv 3) pa_nil))) (by rfl)))) pa_nil))))), ?_⟩
    have h5 := o.2.h5
    have w5 := o.2.w5
    -- cells == []
    refine ⟨.ref b, rfl, Nat.zero_le _, fun e ne => ?_⟩
    have s1 := same_new (o := .lst []) ne
    have hb1 := s1.seq hb
    have hc1 := hc.le (TupLe.of s1)
    refine ⟨_, cellsD [], cells_dp hb1 hc1, cells_dp (SqL.of upd_same) .nil, (shp_cells _).ok, (shp_cells _).ok, _, rfl, ?_⟩
    rw [eqv_cells]
    unfold snakeB at q
    by_cases hcs : cs = []
    · rw [decide_eq_true hcs] at q ⊢
      exact iteT (q _ s1)
    rw [decide_eq_false hcs] at q ⊢
    refine iteF ?_
    -- len(set(cells)) != len(cells)
    obtain ⟨ks, k1, k2, k3⟩ := cells_keys hc1
    have lks : ks.length = cs.length := by
      have := congrArg List.length k3
      simpa using this
    refine ⟨.ref b, rfl, b, ks, rfl, by rw [← k1]; exact hb1, k2, by omega, fun st L nst hL1 hL2 => ?_⟩
    have s2 := same_new (o := SetTO P wl st L) nst
    refine ⟨st, L, rfl, upd_same, fun p hp => Same.sqt s2 (k2 p (hL1 p hp)), fun nd => ?_⟩
    refine ⟨.ref b, rfl, b, _, rfl, .inl (s2.seq hb1), rfl, _, rfl, ?_⟩
    have eL : decide (V.int (L.length : Int) = V.int (xs.length : Int)) = decide cs.Nodup := by
      rw [hc.length, ← keys_nodup cs, ← k3, ← dedup_len nd (m := ks.map (·.2)) ?_ ?_]
      · rw [List.length_map, List.length_map, lks]
        by_cases z : L.length = cs.length
        · rw [z]; simp
        · rw [decide_eq_false z, decide_eq_false fun y => z (by have := V.int.inj y; omega)]
      · intro z hz
        obtain ⟨p, hp, rfl⟩ := List.mem_map.mp hz
        exact List.mem_map.mpr ⟨p, hL1 p hp, rfl⟩
      · intro z hz
        obtain ⟨p, hp, rfl⟩ := List.mem_map.mp hz
        exact hL2 p hp
    rw [eL]
    have s12 := s1.trans s2
    by_cases hnd : cs.Nodup
    case neg =>
      rw [decide_eq_false hnd] at q ⊢
      exact iteT (q _ s12)
    rw [decide_eq_true hnd] at q ⊢
    refine iteF ?_
    -- all are cells
    have o2 := o.same s12
    have hb2 := s12.seq hb
    have hc2 := hc.le (TupLe.of s12)
    refine ⟨.ref b, rfl, b, rfl, ⟨_, hb2⟩, lc_val (walk_list (xs := xs)) (by rw [hc.length]; exact small_line (by omega)) (fun i => .bl (inB h w (cs.getD i (0, 0)))) (fun H' s' => s'.seq hb2) (fun D' i x H3 H3' Qe nD hi s3 _ y qe => ?_) fun D' H3 nD s3 hD => ?_⟩
    · obtain ⟨rfl, hx⟩ := y
      obtain ⟨c, hci, vc⟩ := Paired.get hc2 hx
      rw [getD_of hci] at qe
      exact ⟨rfl, .ref a, rfl, x, rfl, a, F, h, w, x, c, rfl, o2.same s3, vc.le (TupLe.of s3), fun H4 s4 => qe H4 s4⟩
    have eA : ((List.range xs.length).map fun i => inB h w (cs.getD i (0, 0))) = cs.map (inB h w) := by
      rw [hc.length]
      exact range_map_get (inB h w) cs _ fun i c hci => by rw [getD_of hci]
    refine ⟨D', (List.range xs.length).map fun i => inB h w (cs.getD i (0, 0)), rfl, .inl (.inl (by rw [hD, List.map_map]; rfl)), _, rfl, ?_⟩
    have eB : ((cs.map (inB h w)).all id) = cs.all fun c => decide (c ∈ cellsL h w) := by
      rw [List.all_map]
      congr 1
      funext c
      show inB h w c = _
      by_cases z : c ∈ cellsL h w
      · rw [decide_eq_true z, inB_mem.mpr z]
      · rw [decide_eq_false z]
        cases e : inB h w c with
        | false => rfl
        | true => exact absurd (inB_mem.mp e) z
    rw [eA, eB]
    have s13 := s12.trans s3
    cases hv : (cs.all fun c => decide (c ∈ cellsL h w)) with
    | false =>
      rw [hv] at q
      exact iteT (q _ s13)
    | true =>
      rw [hv] at q
      refine iteF ?_
      have vl : Vld h w cs := fun c hcm => of_decide_eq_true (List.all_eq_true.mp hv c hcm)
      have o3 := o.same s13
      have hb3 := s13.seq hb
      have hc3 := hc.le (TupLe.of s13)
      refine ⟨.ref b, rfl, .ref b, rfl, 1, rfl, b, _, rfl, hb3, fun sl nsl => ?_⟩
      rw [cut_one]
      have s4 := same_new (o := .lst (xs.drop 1)) nsl
      have hsl : SqL K (upd H3 sl (.lst (xs.drop 1))) sl (xs.drop 1) := SqL.of upd_same
      have hcd := (Paired.drop 1 hc3)
      refine ⟨b, sl, xs, xs.drop 1, rfl, s4.seq hb3, hsl, lc_val (walk_zip rfl) (by rw [hc.length]; exact small_line (by omega)) (fun i => .bl (beside (cs.getD i (0, 0)) ((cs.drop 1).getD i (0, 0)))) (fun H' s' => ⟨s'.seq (s4.seq hb3), s'.seq hsl⟩) (fun D2 i x H5 H5' Qe nD2 hi s5 _ y qe => ?_) fun D2 H5 nD2 s5 hD2 => ?_⟩
      · obtain ⟨T, x1, x2, rfl, nT, rfl, g1, g2⟩ := y
        obtain ⟨c1, hc1', v1⟩ := Paired.get hc3 g1
        obtain ⟨c2, hc2', v2⟩ := Paired.get hcd g2
        rw [getD_of hc1', getD_of hc2'] at qe
        have sT := same_new (o := .tup [x1, x2]) nT
        have s45 := s4.trans (s5.trans sT)
        have m1 : c1 ∈ cellsL h w := vl c1 (List.mem_of_getElem? hc1')
        have m2 : c2 ∈ cellsL h w := vl c2 (List.mem_of_mem_drop (List.mem_of_getElem? hc2'))
        refine ⟨T, [x1, x2], rfl, SqT.of upd_same, rfl, x1, [x2], rfl, x2, [], rfl, rfl, rfl, ?_⟩
        refine ⟨x2, rfl, .ref a, rfl, x1, rfl, a, F, h, w, x1, c1, rfl, o3.same s45, v1.le (TupLe.of s45), m1, fun H6 q6 zs s6 n6 h6 hz => ?_⟩
        refine ⟨_, _, (v2.le (TupLe.of (s45.trans s6))).dp, cells_dp (SqL.of h6) hz, (shp_cell _).ok, (shp_cells _).ok, ?_⟩
        rw [any_cells]
        have e6 : decide (c2 ∈ nearL h w c1) = beside c1 c2 := by
          by_cases z : beside c1 c2 = true
          · rw [z, decide_eq_true ((near_mem h5 w5 m1).mpr ⟨m2, z⟩)]
          · rw [decide_eq_false fun y => z ((near_mem h5 w5 m1).mp y).2]
            cases e : beside c1 c2 with
            | false => rfl
            | true => exact absurd e z
        rw [e6]
        exact qe H6 (sT.trans s6)
      · refine ⟨D2, (List.range (min xs.length (xs.drop 1).length)).map fun i => beside (cs.getD i (0, 0)) ((cs.drop 1).getD i (0, 0)), rfl, .inl (.inl (by rw [hD2, List.map_map]; rfl)), ?_⟩
        rw [all_ids, hc.length, hcd.length, adj_range cs beside]
        exact q _ (s13.trans (s4.trans s5))
theorem ok_spelled (D : Dfn K mg "spelled" s_spelled) (B : Bi mg) (c_letter_at : Cal P wl K mg base CX0 1 "letter_at" ["field", "cell"] (spLetterAt K)) : Cal P wl K mg base CX0 2 "spelled" ["field", "cells"] (spSpelled K) := by
  refine D.cal sc_spelled bn_spelled (fun vs H Q E h => ?_) (fun f cdv A outer s H vs Q E hr h => ?_)
  · obtain ⟨a, F, h, w, b, xs, cs, rfl, _⟩ := h
    rfl
  · obtain ⟨a, F, h, w, b, xs, cs, rfl, o, hb, hc, hv, hl, q⟩ := h
    refine ⟨_, (pss_one (ps_ret (joinK K pe_str (pe_lc (own := [("cell", 2)]) (g := gName 2) (tt := tYes) (by rfl) sc_spelled.nd (piL K (pv 1)) (blkOk_by (own := [("cell", 2)]) (N := ["field", "cells", "cell"]) (sc := defScope s_spelled) (by decide +kernel)) (fun _ _ _ _ _ => (pg_name (i := 2) sc_spelled.nd rfl (Or.inl rfl))) (fun _ _ _ _ _ => pts_nil) (fun _ _ _ _ _ => (pcall c_letter_at (hr.mono (by omega)) (by rfl) pass0 (pa_cons (pv 0) (pa_cons (pv 2) pa_nil)))))))), ?_⟩
    refine ⟨⟨_, rfl⟩, .ref b, rfl, b, rfl, ⟨_, hb⟩, lc_val (walk_list (xs := xs)) (by rw [hc.length]; exact small_line (by omega)) (fun i => tv [at_ F (cs.getD i (0, 0))]) (fun H' s' => s'.seq hb) (fun D' i x H1 H1' Qe nD hi s1 _ y qe => ?_) fun D' H1 nD s1 hD => ?_⟩
    · obtain ⟨rfl, hx⟩ := y
      obtain ⟨c, hci, vc⟩ := Paired.get hc hx
      rw [getD_of hci] at qe
      exact ⟨rfl, .ref a, rfl, x, rfl, a, F, h, w, x, c, rfl, o.same s1, vc.le (TupLe.of s1), hv c (List.mem_of_getElem? hci), qe _ (Same.refl _)⟩
    · refine ⟨tx [], D', (spell F cs).map fun c => ⟨#[c]⟩, rfl, rfl, .inl (.inl (.inl ?_)), ?_, ?_⟩
      · rw [hD, List.map_map, hc.length]
        unfold spell
        rw [List.map_map]
        congr 2
        exact range_map_get _ cs _ fun i c hci => by rw [getD_of hci]; rfl
      · rw [List.map_map, sum_ones, List.length_map]
        have e5 : (spell F cs).length = cs.length := by simp [spell]
        rw [e5]; show cs.length + cs.length * 0 ≤ _; omega
      · rw [join_signs]
        exact q H1 s1
theorem ok_next_cells (D : Dfn K mg "next_cells" s_next_cells) (B : Bi mg) (c_cells_in : Cal P wl K mg base CX0 1 "cells_in" ["field"] (spCells K)) (c_near_of : Cal P wl K mg base CX0 1 "near_of" ["field", "cell"] (spNear K)) : Cal P wl K mg base CX0 2 "next_cells" ["field", "cells"] (spNext K) := by
  refine D.cal sc_next_cells bn_next_cells (fun vs H Q E h => ?_) (fun f cdv A outer s H vs Q E hr h => ?_)
  · obtain ⟨a, F, h, w, b, xs, cs, rfl, _⟩ := h
    rfl
  · obtain ⟨a, F, h, w, b, xs, cs, rfl, o, hb, hc, hv, q⟩ := h
    refine ⟨_, (pss_cons (ps_if (pt_cmpR (eqDK K hr.units) (pv 1) (pe_lst pa_nil) (nomark _))
 (pss_one (ps_ret (pcall c_cells_in (hr.mono (by omega)) (by rfl) pass0 (pa_cons (pv 0) pa_nil)))) pss_nil)
 (pss_one (ps_ret (pe_lc (own := [("cell", 2)]) (g := gName 2) (by rfl) sc_next_cells.nd (piL K (pcall c_near_of (hr.mono (by omega)) (by rfl) pass0 (pa_cons (pv 0) (pa_cons (pe_ix (ixL K) (pv 1) (pe_un un_neg pe_int) (fun _ _ => rfl)) pa_nil)))) (blkOk_by (own := [("cell", 2)]) (N := ["field", "cells", "cell"]) (sc := defScope s_next_cells) (by decide +kernel)) (fun _ _ _ _ _ => (pg_name (i := 2) sc_next_cells.nd rfl (Or.inl rfl))) (fun _ _ _ _ _ => (pts_one (pt_cmpR (notInDK K (hu65 hr)) (pv 2) (pv 1) (by rfl)))) (fun _ _ _ _ _ => (pv 2)))))), ?_⟩
    have h5 := o.2.h5
    have w5 := o.2.w5
    refine ⟨.ref b, rfl, Nat.zero_le _, fun e ne => ?_⟩
    have s1 := same_new (o := .lst []) ne
    have hb1 := s1.seq hb
    have hc1 := hc.le (TupLe.of s1)
    refine ⟨_, cellsD [], cells_dp hb1 hc1, cells_dp (SqL.of upd_same) .nil, (shp_cells _).ok, (shp_cells _).ok, _, rfl, ?_⟩
    rw [eqv_cells]
    by_cases hcs : cs = []
    · rw [decide_eq_true hcs]
      refine iteT ⟨.ref a, rfl, a, F, h, w, rfl, o.same s1, fun H2 p ys s2 np hp hy => ?_⟩
      subst hcs
      exact q H2 p ys (s1.trans s2) (s1.free np) hp hy
    · rw [decide_eq_false hcs]
      refine iteF ?_
      obtain ⟨d, hd⟩ : ∃ d, cs.getLast? = some d := by
        cases e : cs.getLast? with
        | none => exact absurd (List.getLast?_eq_none_iff.mp e) hcs
        | some d => exact ⟨d, rfl⟩
      have hdm := hv.last hd
      have hdl := hd
      have hd2 : cs[cs.length - 1]? = some d := by rw [← List.getLast?_eq_getElem?]; exact hd
      obtain ⟨v, gv, vd⟩ := Paired.get' hc1 hd2
      have gl : atI xs (-1) = some v := by
        have l0 : 0 < cs.length := List.length_pos_iff.mpr hcs
        unfold atI ixN
        rw [if_neg (by decide), if_pos (by rw [hc.length]; omega)]
        show xs[(-1 + (xs.length : Int)).toNat]? = some v
        rw [← gv]
        congr 1
        rw [hc.length]
        omega
      refine ⟨.ref a, rfl, .ref b, rfl, 1, rfl, b, _, -1, v, rfl, rfl, hb1, gl, a, F, h, w, v, d, rfl, o.same s1, vd, hdm, fun H2 p ys s2 np hp hy => ?_⟩
      refine ⟨p, rfl, ⟨_, SqL.of hp⟩, lc_cel (K := K) (walk_list (xs := ys)) (by rw [hy.length]; exact small_line (Nat.le_trans (near_len h5 w5 hdm) (by decide))) (fun k => !decide ((nearL h w d).getD k (0, 0) ∈ cs)) (fun k => (nearL h w d).getD k (0, 0)) (fun H' s' => s'.seq (SqL.of hp)) (fun D' k x H3 H3' Qe Qn nD hk s3 _ y qe qn => ?_) fun D' ds H3 nD s3 hD hd => ?_⟩
      · obtain ⟨rfl, hx⟩ := y
        obtain ⟨c, hci, vc⟩ := Paired.get hy hx
        rw [getD_of hci] at qe qn
        have s23 := s2.trans s3
        refine ⟨rfl, x, rfl, .ref b, rfl, _, _, (vc.le (TupLe.of s3)).dp, cells_dp (s23.seq hb1) (hc1.le (TupLe.of s23)), (shp_cell _).ok, (shp_cells _).ok, _, rfl, ?_⟩
        rw [any_cells]
        cases e : (!decide (c ∈ cs)) with
        | false => exact iteF (qn _ e (Same.refl _))
        | true => exact iteT ⟨x, rfl, qe x _ e (Same.refl _) (vc.le (TupLe.of s3))⟩
      · rw [hy.length, range_filter_get (nearL h w d) (0, 0) fun c => !decide (c ∈ cs)] at hd
        refine q H3 D' ds (s1.trans (s2.trans s3)) ((s1.trans s2).free nD) hD ?_
        unfold nextL
        rw [hdl]
        exact hd
end
end Sk
namespace Sk
open PySem PySem.Spec PyProof.Rows L2 Sn
theorem take_flat_le {α β : Type} (f : α → List β) (l : List α) (n : Nat) : ((l.take n).flatMap f).length ≤ (l.flatMap f).length := by
  conv => rhs; rw [← List.take_append_drop n l, List.flatMap_append, List.length_append]
  omega
theorem take_one_more {α : Type} {l : List α} {i : Nat} {x : α} (h : l[i]? = some x) : l.take (i + 1) = l.take i ++ [x] := by
  rw [List.take_add_one, h]; rfl
theorem one_sign (a b : Nat) : decide (V.str (tx [a]) = V.str ⟨#[b]⟩) = decide (a = b) := by
  by_cases h : a = b
  · subst h; rw [decide_eq_true (show V.str (tx [a]) = V.str ⟨#[a]⟩ from rfl), decide_eq_true (show a = a from rfl)]
  · rw [decide_eq_false h]
    refine decide_eq_false fun z => h ?_
    have := tx_inj (a := [a]) (b := [b]) (V.str.inj z)
    exact (List.cons.inj this).1
theorem cutS_take (r : List Nat) (n : Nat) : cutS (tx r) none (some (n : Int)) = tx (r.take n) := by
  unfold cutS
  rw [HT.sIx_none, HT.sIx_nat, tx_cps, tx_len, List.drop_zero, Nat.sub_zero]
  show tx (r.take (min n r.length)) = _
  congr 1
  by_cases hn : n ≤ r.length
  · rw [Nat.min_eq_left hn]
  · rw [Nat.min_eq_right (by omega), List.take_length, List.take_of_length_le (by omega)]
section
variable {P : Program} {wl : World} {K : PySem.W.Frag} {mg : Str → Option Value} {base : Heap}
theorem ok_snakes_on_step (D : Dfn K mg "snakes_on" s_snakes_on) (B : Bi mg) (c_next_cells : Cal P wl K mg base CX0 2 "next_cells" ["field", "cells"] (spNext K)) (c_letter_at : Cal P wl K mg base CX0 1 "letter_at" ["field", "cell"] (spLetterAt K))
    {k r : Nat} (hk : 2 ≤ k) {sp' : Sp} (c_snakes_on : Cal P wl K mg base CX0 k "snakes_on" ["field", "word", "cells"] sp') (hsp : ∀ vs H Q E, r ≠ 0 → spSnakesOn K (r - 1) vs H Q E → sp' vs H Q E) :
    Cal P wl K mg base CX0 (k + 1) "snakes_on" ["field", "word", "cells"] (spSnakesOn K r) := by
  refine D.cal sc_snakes_on bn_snakes_on (fun vs H Q E h => ?_) (fun f cdv A outer s H vs Q E hr h => ?_)
  · obtain ⟨a, F, h, w, wd, b, xs, cs, rfl, _⟩ := h
    rfl
  · obtain ⟨a, F, h, w, wd, b, xs, cs, rfl, o, hb, hc, hv, h6, hle, hr1, q⟩ := h
    refine ⟨_, (pss_cons (ps_if (pt_cmpR op_eq (pe_callB (lenSq K) (by rfl) B.len PySem.boot_len (pa_cons (pv 2) pa_nil)) (pe_callB call_len_str (by rfl) B.len PySem.boot_len (pa_cons (pv 1) pa_nil)) (nomark _))
 (pss_one (ps_ret (pe_lst (pa_cons (pv 2) pa_nil)))) pss_nil)
 (pss_cons (ps_set (i := 3) sc_snakes_on.nd rfl (.inl rfl) (pe_lst pa_nil))
 (pss_cons (ps_for PassesOwn.never rfl (piL K (pcall c_next_cells (hr.mono (by omega)) (by rfl) pass0 (pa_cons (pv 0) (pa_cons (pv 2) pa_nil)))) (pg_name (i := 4) sc_snakes_on.nd rfl (.inl rfl))
 (pss_one (ps_if (pt_cmpR op_eq (pcall c_letter_at (hr.mono (by omega)) (by rfl) pass0 (pa_cons (pv 0) (pa_cons (pv 4) pa_nil))) (pe_ix ix_str (pv 1) (pe_callB (lenSq K) (by rfl) B.len PySem.boot_len (pa_cons (pv 2) pa_nil)) (fun _ _ => rfl)) (nomark _))
 (pss_one (ps_expr (pe_bm PySem.F.plainAttrs_list PySem.F.slot_list_extend PySem.F.type_list_extend mt_extend (pv 3) (pa_cons (pcall c_snakes_on (hr.mono (by omega)) (by rfl) pass0 (pa_cons (pv 0) (pa_cons (pv 1) (pa_cons (pe_op op_cat (pv 2) (pe_lst (pa_cons (pv 4) pa_nil))) pa_nil)))) pa_nil)))) pss_nil)))
 (pss_one (ps_ret (pv 3)))))), ?_⟩
    have h5 := o.2.h5
    have w5 := o.2.w5
    refine ⟨.ref b, rfl, b, _, rfl, .inl (SqL.of hb), tv wd, rfl, tx wd, rfl, by rw [tx_len]; exact small_line (by omega), rfl, _, rfl, ?_⟩
    rw [tx_len, hc.length]
    by_cases e0 : cs.length = wd.length
    · rw [e0, decide_eq_true rfl]
      refine iteT ⟨.ref b, rfl, by show 1 ≤ sizeLine; decide, fun p np => ?_⟩
      refine q _ p _ (same_new np) np upd_same ?_
      have ed : wd.drop cs.length = [] := by rw [e0]; exact List.drop_length
      rw [ed]
      exact .cons ⟨b, xs, rfl, .inr ⟨rfl, e0⟩, (same_new np) _ _ hb, hc.le (TupLe.of (same_new np))⟩ .nil
    · rw [decide_eq_false fun z => e0 (by have := V.int.inj z; omega)]
      refine iteF ⟨Nat.zero_le _, fun p np => ?_⟩
      have s1 := same_new (o := .lst []) np
      have hlt : cs.length < wd.length := by omega
      refine ⟨.ref a, rfl, .ref b, rfl, a, F, h, w, b, xs, cs, rfl, o.same s1, SqL.of (s1 _ _ hb), hc.le (TupLe.of s1), hv, fun H2 e ys s2 ne he hy => ?_⟩
      have hp2 : H2 p = some (.lst []) := s2 _ _ upd_same
      have nep : e ≠ p := fun z => by rw [z, upd_same] at ne; cases ne
      have sH2 : Same H H2 := s1.trans s2
      have neH : H e = none := s1.free ne
      have l0 : wd[cs.length]? = some wd[cs.length] := List.getElem?_eq_getElem hlt
      have hdrop : wd.drop cs.length = wd[cs.length] :: wd.drop (cs.length + 1) := List.drop_eq_getElem_cons hlt
      have tot := snakes_len (F := F) h5 w5 (r := wd.drop cs.length) hv (by rw [List.length_drop]; omega)
      rw [hdrop] at q tot
      let f1 : Cel → List (List Cel) := fun c => if at_ F c = wd[cs.length] then snakesOn F h w (wd.drop (cs.length + 1)) (cs ++ [c]) else []
      have tot2 : ((nextL h w cs).flatMap f1).length ≤ 1000000 := tot
      refine ⟨e, rfl, ⟨_, SqL.of he⟩, for_it (walk_list (xs := ys)) (fun i σ H' => ∃ y4 zs, σ = [some (.ref a), some (tv wd), some (.ref b), some (.ref p), y4] ∧ Kb p H2 H' ∧ H' p = some (.lst zs) ∧ Snks K (fun q => H q = none ∧ q ≠ p) H' zs (((nextL h w cs).take i).flatMap f1))
        ⟨none, [], rfl, fun _ _ _ z => z, hp2, .nil⟩ (fun i σ H' _ pv => by obtain ⟨_, _, _, kb, _⟩ := pv; exact SqL.of (kb _ _ nep he)) (fun i x σ H3o H3 hi pv y => ?_) fun σ H3 pv => ?_⟩
      · obtain ⟨rfl, hx⟩ := y
        obtain ⟨y4, zs, rfl, kb, hp3, hz⟩ := pv
        obtain ⟨c, hci, vc⟩ := Paired.get hy hx
        have hcm : c ∈ cellsL h w := next_mem h5 w5 hv (List.mem_of_getElem? hci)
        have sH3 : Same H H3 := fun b o eb => kb b o (ne_of_none eb np) (sH2 b o eb)
        have le3 : TupLe H2 H3 := TupLe.kb hp2 kb
        have hb3 := sH3 _ _ hb
        have hc3 := hc.le (TupLe.of sH3)
        refine ⟨.ref a, rfl, x, rfl, a, F, h, w, x, c, rfl, o.same sH3, vc.le le3, hcm, tv wd, rfl, .ref b, rfl, b, _, rfl, .inl (SqL.of hb3), tx wd, _, wd[cs.length], rfl, rfl, by rw [tx_len]; exact small_line (by omega), ?_, rfl, _, rfl, ?_⟩
        · rw [tx_cps, hc.length]
          exact atI_nat l0
        rw [one_sign]
        by_cases el : at_ F c = wd[cs.length]
        · rw [decide_eq_true el]
          refine iteT ⟨.ref p, rfl, .inl ⟨rfl, _, SqL.of hp3⟩, .ref a, rfl, tv wd, rfl, .ref b, rfl, x, rfl, by show 1 ≤ sizeLine; decide, fun u nu => ?_⟩
          have su := same_new (o := .lst [x]) nu
          refine ⟨b, u, xs, [x], rfl, rfl, su _ _ hb3, upd_same, by rw [hc.length]; exact small_line (by show cs.length + 1 ≤ _; omega), fun nb nnb => ?_⟩
          have snb := same_new (o := .lst (xs ++ [x])) nnb
          have s34 := su.trans snb
          have cnb : Cells K _ (xs ++ [x]) (cs ++ [c]) := Paired.snoc (hc3.le (TupLe.of s34)) (vc.le (le3.trans (TupLe.of s34)))
          refine hsp _ _ _ _ (by omega) ⟨a, F, h, w, wd, nb, xs ++ [x], cs ++ [c], rfl, o.same (sH3.trans s34), upd_same, cnb, hv.snoc hcm, h6, by rw [List.length_append]; show cs.length + 1 ≤ _; omega, by rw [List.length_append]; show _ ≤ cs.length + 1 + _; omega, fun H5 rs ws s5 nrs hrs hw => ?_⟩
          have hp5 := s5 _ _ (s34 _ _ hp3)
          have nprs : rs ≠ p := fun z => by rw [z] at nrs; rw [s34 _ _ hp3] at nrs; cases nrs
          have esn : snakesOn F h w (wd.drop (cs ++ [c]).length) (cs ++ [c]) = f1 c := by
            show _ = if at_ F c = wd[cs.length] then _ else _
            rw [if_pos el, List.length_append]
            rfl
          rw [esn] at hw
          have hall := take_flat_le f1 (nextL h w cs) (i + 1)
          have etk : ((nextL h w cs).take (i + 1)).flatMap f1 = ((nextL h w cs).take i).flatMap f1 ++ f1 c := by
            rw [take_one_more hci, List.flatMap_append, List.flatMap_cons, List.flatMap_nil, List.append_nil]
          refine ⟨p, rs, zs, ws, rfl, rfl, hp5, hrs, ?_, ?_⟩
          · rw [hz.length, hw.length]
            rw [etk, List.length_append] at hall
            exact small_line (by omega)
          · refine ⟨_, zs ++ ws, rfl, ?_, upd_same, ?_⟩
            · exact Kb.upd fun b o nb' eb => s5 b o (s34 b o (kb b o nb' eb))
            · rw [etk]
              refine Paired.app ?_ ?_
              · exact ((hz.same (s34.trans s5)).upd hp5 fun q hq => hq.2)
              · refine Snks.imp (Snks.upd hw hp5 fun q hq => ?_) fun q hq => ?_
                · rcases hq with hq | ⟨rfl, _⟩
                  · intro z; rw [z, s34 _ _ hp3] at hq; cases hq
                  · intro z; rw [z, su _ _ hp3] at nnb; cases nnb
                · rcases hq with hq | ⟨rfl, _⟩
                  · refine ⟨(sH3.trans s34).free hq, fun z => ?_⟩
                    rw [z, s34 _ _ hp3] at hq; cases hq
                  · refine ⟨(sH3.trans su).free nnb, fun z => ?_⟩
                    rw [z, su _ _ hp3] at nnb; cases nnb
        · rw [decide_eq_false el]
          refine iteF ⟨_, zs, rfl, kb, hp3, ?_⟩
          have ef : f1 c = [] := if_neg el
          rw [take_one_more hci, List.flatMap_append, List.flatMap_cons, List.flatMap_nil, List.append_nil, ef, List.append_nil]
          exact hz
      · obtain ⟨y4, zs, rfl, kb, hp3, hz⟩ := pv
        have sH3 : Same H H3 := fun b o eb => kb b o (ne_of_none eb np) (sH2 b o eb)
        refine ⟨.ref p, rfl, q H3 p zs sH3 np hp3 ?_⟩
        rw [hy.length, List.take_length] at hz
        exact hz.imp fun q hq => .inl hq.1
theorem ok_snakes_on (D : Dfn K mg "snakes_on" s_snakes_on) (B : Bi mg) (c_next_cells : Cal P wl K mg base CX0 2 "next_cells" ["field", "cells"] (spNext K)) (c_letter_at : Cal P wl K mg base CX0 1 "letter_at" ["field", "cell"] (spLetterAt K)) :
    ∀ r, Cal P wl K mg base CX0 (3 + r) "snakes_on" ["field", "word", "cells"] (spSnakesOn K r)
  | 0 => ok_snakes_on_step D B c_next_cells c_letter_at (k := 2) (r := 0) (by omega) (D.cal0 bn_snakes_on) fun _ _ _ _ h => absurd rfl h
  | r + 1 => ok_snakes_on_step D B c_next_cells c_letter_at (k := 3 + r) (r := r + 1) (by omega) (ok_snakes_on D B c_next_cells c_letter_at r) fun _ _ _ _ _ h => h
end
end Sk
namespace Sk
open PySem PySem.Spec PyProof.Rows L2 Sn
section
variable {P : Program} {wl : World} {K : PySem.W.Frag} {mg : Str → Option Value} {base : Heap} {C_Found C_Stops : Addr}
end
end Sk
namespace Sk
open PySem PySem.Spec PyProof.Rows L2 Sn
def spHowMany (K : PySem.W.Frag) : Sp := fun vs H Q _ => ∃ a F h w wd, vs = [.ref a, tv wd] ∧ FieldAt K H a F h w ∧ WordOk wd ∧ ∀ H', Same H H' → Q (.int ((snakesOn F h w wd []).length : Nat)) H'
def spByNumber (K : PySem.W.Frag) : Sp := fun vs H Q _ => ∃ a F h w wd i s, vs = [.ref a, tv wd, .int ((i : Nat) : Int)] ∧ FieldAt K H a F h w ∧ WordOk wd ∧ (snakesOn F h w wd [])[i]? = some s ∧
  ∀ H' p ys, Same H H' → H p = none → H' p = some (.lst ys) → Cells K H' ys s → Q (.ref p) H'
def spNumberOf (K : PySem.W.Frag) : Sp := fun vs H Q _ => ∃ a F h w b xs s i, vs = [.ref a, .ref b] ∧ FieldAt K H a F h w ∧ SqL K H b xs ∧ Cells K H xs s ∧ s ≠ [] ∧ s.length ≤ 6 ∧ (snakesOn F h w (spell F s) [])[i]? = some s ∧
  ∀ H', Same H H' → Q (.int ((i : Nat) : Int)) H'
section
variable {P : Program} {wl : World} {K : PySem.W.Frag} {mg : Str → Option Value} {base : Heap}
theorem ok_how_many (D : Dfn K mg "how_many" s_how_many) (B : Bi mg)
    (c_check_field : Cal P wl K mg base CX0 2 "check_field" ["field"] (spCheckField K)) (c_check_word : Cal P wl K mg base CX0 2 "check_word" ["word"] spCheckWord)
    (c_snakes_on : Cal P wl K mg base CX0 9 "snakes_on" ["field", "word", "cells"] (spSnakesOn K 6)) : Cal P wl K mg base CX0 10 "how_many" ["field", "word"] (spHowMany K) := by
  refine D.cal sc_how_many bn_how_many (fun vs H Q E h => ?_) (fun f cdv A outer s H vs Q E hr h => ?_)
  · obtain ⟨a, F, h, w, wd, rfl, _⟩ := h
    rfl
  · obtain ⟨a, F, h, w, wd, rfl, o, ow, q⟩ := h
    refine ⟨_, (pss_cons (ps_expr (pcall c_check_field (hr.mono (by omega)) (by rfl) pass0 (pa_cons (pv 0) pa_nil)))
 (pss_cons (ps_expr (pcall c_check_word (hr.mono (by omega)) (by rfl) pass0 (pa_cons (pv 1) pa_nil)))
 (pss_one (ps_ret (pe_callB (lenSq K) (by rfl) B.len PySem.boot_len (pa_cons (pcall c_snakes_on (hr.mono (by omega)) (by rfl) pass0 (pa_cons (pv 0) (pa_cons (pv 1) (pa_cons (pe_lst pa_nil) pa_nil)))) pa_nil)))))), ?_⟩
    have l6 := ow.l6
    refine ⟨.ref a, rfl, a, F, h, w, rfl, o, fun H1 s1 => ?_⟩
    refine ⟨tv wd, rfl, wd, rfl, ow, fun H2 s2 => ?_⟩
    have s12 := s1.trans s2
    refine ⟨.ref a, rfl, tv wd, rfl, Nat.zero_le _, fun e ne => ?_⟩
    have se := same_new (o := .lst []) ne
    refine ⟨a, F, h, w, wd, e, [], [], rfl, o.same (s12.trans se), upd_same, .nil, vld_nil h w, l6, Nat.zero_le _, by show wd.length ≤ 0 + 6; omega, fun H3 p ys s3 np hp hy => ?_⟩
    have hl : ys.length = (snakesOn F h w wd []).length := hy.length
    refine ⟨p, ys, rfl, .inl (SqL.of hp), ?_⟩
    rw [hl]
    exact q H3 (s12.trans (se.trans s3))
theorem ok_by_number (D : Dfn K mg "by_number" s_by_number) (B : Bi mg) (c_is_whole : Cal P wl K mg base CX0 1 "is_whole" ["thing"] (spIsWhole K))
    (c_check_field : Cal P wl K mg base CX0 2 "check_field" ["field"] (spCheckField K)) (c_check_word : Cal P wl K mg base CX0 2 "check_word" ["word"] spCheckWord)
    (c_snakes_on : Cal P wl K mg base CX0 9 "snakes_on" ["field", "word", "cells"] (spSnakesOn K 6)) : Cal P wl K mg base CX0 10 "by_number" ["field", "word", "number"] (spByNumber K) := by
  refine D.cal sc_by_number bn_by_number (fun vs H Q E h => ?_) (fun f cdv A outer s H vs Q E hr h => ?_)
  · obtain ⟨a, F, h, w, wd, i, s, rfl, _⟩ := h
    rfl
  · obtain ⟨a, F, h, w, wd, i, sn, rfl, o, ow, hi, q⟩ := h
    refine ⟨_, (pss_cons (ps_expr (pcall c_check_field (hr.mono (by omega)) (by rfl) pass0 (pa_cons (pv 0) pa_nil)))
 (pss_cons (ps_expr (pcall c_check_word (hr.mono (by omega)) (by rfl) pass0 (pa_cons (pv 1) pa_nil)))
 (pss_cons (ps_set (i := 3) sc_by_number.nd rfl (.inl rfl) (pcall c_snakes_on (hr.mono (by omega)) (by rfl) pass0 (pa_cons (pv 0) (pa_cons (pv 1) (pa_cons (pe_lst pa_nil) pa_nil)))))
 (pss_cons (ps_if (PW.pt (pw_or (pt_not (pt_val (pcall c_is_whole (hr.mono (by omega)) (by rfl) pass0 (pa_cons (pv 2) pa_nil)))) (pw_or1 (pt_not (pt_chain op_le op_lt pe_int (pv 2) (pe_callB (lenSq K) (by rfl) B.len PySem.boot_len (pa_cons (pv 3) pa_nil)))))))
 (pss_one ps_never) pss_nil)
 (pss_one (ps_ret (pe_ix (ixL K) (pv 3) (pv 2) (fun _ _ => rfl)))))))), ?_⟩
    have l6 := ow.l6
    have l1 := ow.l1
    refine ⟨.ref a, rfl, a, F, h, w, rfl, o, fun H1 s1 => ?_⟩
    refine ⟨tv wd, rfl, wd, rfl, ow, fun H2 s2 => ?_⟩
    have s12 := s1.trans s2
    refine ⟨.ref a, rfl, tv wd, rfl, Nat.zero_le _, fun e ne => ?_⟩
    have se := same_new (o := .lst []) ne
    refine ⟨a, F, h, w, wd, e, [], [], rfl, o.same (s12.trans se), upd_same, .nil, vld_nil h w, l6, Nat.zero_le _, by show wd.length ≤ 0 + 6; omega, fun H3 p ys s3 np hp hy => ?_⟩
    have hy0 : Snks K (fun q => upd H2 e (.lst []) q = none ∨ (q = e ∧ 0 = wd.length)) H3 ys (snakesOn F h w wd []) := hy
    have hl : ys.length = (snakesOn F h w wd []).length := hy0.length
    have hil : i < (snakesOn F h w wd []).length := (List.getElem?_eq_some_iff.mp hi).1
    obtain ⟨v0, g0, q0, zs, rfl, nq, hq0, hz⟩ := Paired.get' hy0 hi
    have nq2 : upd H2 e (.lst []) q0 = none := by
      rcases nq with z | ⟨_, z⟩
      · exact z
      · omega
    refine ⟨.int i, rfl, .int i, .type "int", true, false, rfl, .base (.int _), kit_ty (by decide +kernel), kit_ty (by decide +kernel), true, rfl, iteF ?_⟩
    refine ⟨.int i, rfl, 0, i, rfl, rfl, _, rfl, ?_⟩
    rw [decide_eq_true (show (0 : Int) ≤ (i : Int) by omega)]
    refine iteT ⟨.ref p, rfl, p, ys, rfl, .inl (SqL.of hp), i, _, rfl, rfl, _, rfl, ?_⟩
    rw [decide_eq_true (show (i : Int) < (ys.length : Int) by omega)]
    refine iteF ⟨.ref p, rfl, .int i, rfl, p, ys, i, .ref q0, rfl, rfl, SqL.of hp, atI_nat g0, ?_⟩
    exact q H3 q0 zs (s12.trans (se.trans s3)) ((s12.trans se).free nq2) hq0 hz
theorem ok_number_of (D : Dfn K mg "number_of" s_number_of) (B : Bi mg)
    (c_check_field : Cal P wl K mg base CX0 2 "check_field" ["field"] (spCheckField K)) (c_is_cell : Cal P wl K mg base CX0 2 "is_cell" ["field", "thing"] (spIsCell K)) (c_is_snake : Cal P wl K mg base CX0 3 "is_snake" ["field", "cells"] (spIsSnake K)) (c_spelled : Cal P wl K mg base CX0 2 "spelled" ["field", "cells"] (spSpelled K))
    (c_snakes_on : Cal P wl K mg base CX0 9 "snakes_on" ["field", "word", "cells"] (spSnakesOn K 6)) : Cal P wl K mg base CX0 10 "number_of" ["field", "cells"] (spNumberOf K) := by
  refine D.cal sc_number_of bn_number_of (fun vs H Q E h => ?_) (fun f cdv A outer s H vs Q E hr h => ?_)
  · obtain ⟨a, F, h, w, b, xs, s, i, rfl, _⟩ := h
    rfl
  · obtain ⟨a, F, h, w, b, xs, sn, i, rfl, o, hb, hc, hne, l6, hi, q⟩ := h
    refine ⟨_, (pss_cons (ps_expr (pcall c_check_field (hr.mono (by omega)) (by rfl) pass0 (pa_cons (pv 0) pa_nil)))
 (pss_cons (ps_if (PW.pt (pw_or (pt_not (pt_val (pe_callB (isiK K) (by rfl) B.isinstance (by decide +kernel) (pa_cons (pv 1) (pa_cons (pe_bltn (v := .ty "list") (by rfl) B.list (by decide +kernel) rfl) pa_nil))))) (pw_or (pt_cmpR op_gt (pe_callB (lenSq K) (by rfl) B.len PySem.boot_len (pa_cons (pv 1) pa_nil)) (pglobI (by rfl) B.g_LONGEST) (nomark _)) (pw_or1 (pt_not (pt_val (pe_callB (allK K rfl) (by rfl) B.all (by decide +kernel) (pa_cons (pe_lc (own := [("cell", 2)]) (g := gName 2) (tt := tYes) (by rfl) sc_number_of.nd (piL K (pv 1)) (blkOk_by (own := [("cell", 2)]) (N := ["field", "cells", "cell"]) (sc := defScope s_number_of) (by decide +kernel)) (fun _ _ _ _ _ => (pg_name (i := 2) sc_number_of.nd rfl (Or.inl rfl))) (fun _ _ _ _ _ => pts_nil) (fun _ _ _ _ _ => (pcall c_is_cell (hr.mono (by omega)) (by rfl) pass0 (pa_cons (pv 0) (pa_cons (pv 2) pa_nil))))) pa_nil))))))))
 (pss_one ps_never) pss_nil)
 (pss_cons (ps_if (pt_not (pt_val (pcall c_is_snake (hr.mono (by omega)) (by rfl) pass0 (pa_cons (pv 0) (pa_cons (pv 1) pa_nil)))))
 (pss_one ps_never) pss_nil)
 (pss_one (ps_ret (pe_bm PySem.F.plainAttrs_list PySem.F.slot_list_index PySem.F.type_list_index (mt_indexD (hu65 hr)) (pcall c_snakes_on (hr.mono (by omega)) (by rfl) pass0 (pa_cons (pv 0) (pa_cons (pcall c_spelled (hr.mono (by omega)) (by rfl) pass0 (pa_cons (pv 0) (pa_cons (pv 1) pa_nil))) (pa_cons (pe_lst pa_nil) pa_nil)))) (pa_cons (pv 1) pa_nil))))))), ?_⟩
    have h5 := o.2.h5
    have w5 := o.2.w5
    have hsn := snakes_mem h5 w5 (List.mem_of_getElem? hi)
    have hsb : snakeB h w sn = true := snakeB_iff.mpr ⟨hne, hsn.1⟩
    refine ⟨.ref a, rfl, a, F, h, w, rfl, o, fun H1 s1 => ?_⟩
    have hb1 := s1.seq hb
    have hc1 := hc.le (TupLe.of s1)
    have o1 := o.same s1
    have lxs : xs.length = sn.length := hc.length
    refine ⟨.ref b, rfl, .ref b, .ty "list", .type "list", _, true, rfl, .ty "list", tyx_list hb1, kit_ty (by decide +kernel), true, rfl, iteF ?_⟩
    refine ⟨.ref b, rfl, b, xs, rfl, .inl hb1, _, 6, rfl, rfl, _, rfl, ?_⟩
    rw [decide_eq_false (show ¬ ((xs.length : Int) > 6) by omega)]
    refine iteF ?_
    refine ⟨.ref b, rfl, b, rfl, ⟨_, hb1⟩, lc_val (walk_list (xs := xs)) (by rw [lxs]; exact small_line (by omega)) (fun _ => .bl true) (fun H' s' => s'.seq hb1) (fun D' j x H2o H2 Qe nD hj s2 _ y qe => ?_) fun D' H2 nD s2 hD => ?_⟩
    · obtain ⟨rfl, hx⟩ := y
      obtain ⟨c, hci, vc⟩ := Paired.get hc1 hx
      refine ⟨rfl, .ref a, rfl, x, rfl, a, F, h, w, x, c, rfl, o1.same s2, vc.le (TupLe.of s2), fun H3 s3 => ?_⟩
      rw [inB_mem.mpr (hsn.1.vld c (List.mem_of_getElem? hci))]
      exact qe _ s3
    refine ⟨D', (List.range xs.length).map fun _ => true, rfl, .inl (.inl (by rw [hD, List.map_map]; rfl)), _, rfl, ?_⟩
    rw [show ((List.range xs.length).map fun _ => true).all id = true by rw [List.all_map]; exact List.all_eq_true.mpr fun _ _ => rfl]
    refine iteF ?_
    have s12 := s1.trans s2
    refine ⟨.ref a, rfl, .ref b, rfl, a, F, h, w, b, xs, sn, rfl, o.same s12, s12.seq hb, hc.le (TupLe.of s12), by omega, fun H3 s3 => ?_⟩
    rw [hsb]
    refine ⟨true, rfl, iteF ?_⟩
    have s13 := s12.trans s3
    refine ⟨.ref a, rfl, .ref a, rfl, .ref b, rfl, a, F, h, w, b, xs, sn, rfl, o.same s13, s13.seq hb, hc.le (TupLe.of s13), hsn.1.vld, by omega, fun H4 s4 => ?_⟩
    have s14 := s13.trans s4
    have lsp : (spell F sn).length = sn.length := by simp [spell]
    refine ⟨Nat.zero_le _, fun e ne => ?_⟩
    have se := same_new (o := .lst []) ne
    refine ⟨a, F, h, w, spell F sn, e, [], [], rfl, o.same (s14.trans se), upd_same, .nil, vld_nil h w, by omega, Nat.zero_le _, by show (spell F sn).length ≤ 0 + 6; omega, fun H5 p ys s5 np hp hy => ?_⟩
    have hy0 : Snks K (fun q => upd H4 e (.lst []) q = none ∨ (q = e ∧ 0 = (spell F sn).length)) H5 ys (snakesOn F h w (spell F sn) []) := hy
    have s15 := s14.trans (se.trans s5)
    refine ⟨.inl ⟨rfl, _, SqL.of hp⟩, .ref b, rfl, p, .ref b, cellsD sn, (snakesOn F h w (spell F sn) []).map cellsD, i, cellsD sn, rfl, rfl, snks_dp (SqL.of hp) hy0, cells_dp (s15.seq hb) (hc.le (TupLe.of s15)), (shp_snakes _).ok, (shp_cells _).ok, by rw [List.getElem?_map, hi]; rfl, by rw [eqv_cells]; exact decide_eq_true rfl, fun m z hm hz => ?_, q _ s15⟩
    rw [List.getElem?_map] at hz
    cases e2 : (snakesOn F h w (spell F sn) [])[m]? with
    | none => rw [e2] at hz; cases hz
    | some s' =>
      rw [e2] at hz
      cases hz
      rw [eqv_cells]
      refine decide_eq_false fun z => ?_
      subst z
      obtain ⟨l1, g1⟩ := List.getElem?_eq_some_iff.mp e2
      obtain ⟨l2, g2⟩ := List.getElem?_eq_some_iff.mp hi
      have := (List.getElem_inj (snakes_nd h5 w5 (spell F s') [] (vld_nil h w))).mp (g1.trans g2.symm)
      omega
end
end Sk
namespace Sk
open PySem PySem.Spec PyProof.Rows L2 Sn
/-- by_number at the number of all: BadNumber -/
def spByNumberX (K : PySem.W.Frag) (CN : Addr) : Sp := fun vs H Q E => ∃ a F h w wd, vs = [.ref a, tv wd, .int (((snakesOn F h w wd []).length : Nat) : Int)] ∧ FieldAt K H a F h w ∧ WordOk wd ∧ ∀ H', Same H H' → E (.ref CN) none H'
def spBarred (K : PySem.W.Frag) : Sp := fun vs H Q _ => ∃ a F h w wd, vs = [.ref a, tv wd, .int (((snakesOn F h w wd []).length : Nat) : Int)] ∧ FieldAt K H a F h w ∧ WordOk wd ∧ ∀ H', Same H H' → Q (.bl true) H'
section
variable {P : Program} {wl : World} {K : PySem.W.Frag} {mg : Str → Option Value} {base : Heap} {C_BadNumber C_BadField C_BadWord C_BadSnake C_BadCell C_SnakeError : Addr}
theorem ok_by_numberX (D : Dfn K mg "by_number" s_by_number) (B : Bi mg) (x_BadNumber : ExK K mg "BadNumber" C_BadNumber) (c_is_whole : Cal P wl K mg base CX0 1 "is_whole" ["thing"] (spIsWhole K))
    (c_check_field : Cal P wl K mg base CX0 2 "check_field" ["field"] (spCheckField K)) (c_check_word : Cal P wl K mg base CX0 2 "check_word" ["word"] spCheckWord)
    (c_snakes_on : Cal P wl K mg base CX0 9 "snakes_on" ["field", "word", "cells"] (spSnakesOn K 6)) : Cal P wl K mg base (L2.CX P wl) 10 "by_number" ["field", "word", "number"] (spByNumberX K C_BadNumber) := by
  refine D.calX sc_by_number bn_by_number (fun vs H Q E h => ?_) (fun f cdv A outer s H vs Q E hr h => ?_)
  · obtain ⟨a, F, h, w, wd, rfl, _⟩ := h
    rfl
  · obtain ⟨a, F, h, w, wd, rfl, o, ow, q⟩ := h
    refine ⟨_, (pss_cons (ps_expr (pcall c_check_field (hr.mono (by omega)) (by rfl) pass0 (pa_cons (pv 0) pa_nil)))
 (pss_cons (ps_expr (pcall c_check_word (hr.mono (by omega)) (by rfl) pass0 (pa_cons (pv 1) pa_nil)))
 (pss_cons (ps_set (i := 3) sc_by_number.nd rfl (.inl rfl) (pcall c_snakes_on (hr.mono (by omega)) (by rfl) pass0 (pa_cons (pv 0) (pa_cons (pv 1) (pa_cons (pe_lst pa_nil) pa_nil)))))
 (pss_cons (ps_if (PW.pt (pw_or (pt_not (pt_val (pcall c_is_whole (hr.mono (by omega)) (by rfl) pass0 (pa_cons (pv 2) pa_nil)))) (pw_or1 (pt_not (pt_chain op_le op_lt pe_int (pv 2) (pe_callB (lenSq K) (by rfl) B.len PySem.boot_len (pa_cons (pv 3) pa_nil)))))))
 (pss_one (ps_raise rfl (takes_of rfl rfl rfl rfl) (pmk_own PySem.F.excBase_ValueError x_BadNumber.xP x_BadNumber.g x_BadNumber.kP (raises_own x_BadNumber.bP x_BadNumber.tP) rfl))) pss_nil)
 (pss_one (ps_ret (pe_ix (ixL K) (pv 3) (pv 2) (fun _ _ => rfl)))))))), ?_⟩
    have l6 := ow.l6
    have l1 := ow.l1
    refine ⟨.ref a, rfl, a, F, h, w, rfl, o, fun H1 s1 => ?_⟩
    refine ⟨tv wd, rfl, wd, rfl, ow, fun H2 s2 => ?_⟩
    have s12 := s1.trans s2
    refine ⟨.ref a, rfl, tv wd, rfl, Nat.zero_le _, fun e ne => ?_⟩
    have se := same_new (o := .lst []) ne
    refine ⟨a, F, h, w, wd, e, [], [], rfl, o.same (s12.trans se), upd_same, .nil, vld_nil h w, l6, Nat.zero_le _, by show wd.length ≤ 0 + 6; omega, fun H3 p ys s3 np hp hy => ?_⟩
    have hl : ys.length = (snakesOn F h w wd []).length := hy.length
    refine ⟨.int _, rfl, .int _, .type "int", true, false, rfl, .base (.int _), kit_ty (by decide +kernel), kit_ty (by decide +kernel), true, rfl, iteF ?_⟩
    refine ⟨.int _, rfl, 0, _, rfl, rfl, _, rfl, ?_⟩
    rw [decide_eq_true (show (0 : Int) ≤ (((snakesOn F h w wd []).length : Nat) : Int) by omega)]
    refine iteT ⟨.ref p, rfl, p, ys, rfl, .inl (SqL.of hp), _, _, rfl, rfl, _, rfl, ?_⟩
    rw [decide_eq_false (show ¬ ((((snakesOn F h w wd []).length : Nat) : Int) < (ys.length : Int)) by omega)]
    exact iteT (q H3 (s12.trans (se.trans s3)))
theorem ok_law_barred (D : Dfn K mg "_law_barred" s__law_barred) (B : Bi mg) (x_BadNumber : ExK K mg "BadNumber" C_BadNumber) (x_SnakeError : ExK K mg "SnakeError" C_SnakeError) (x_BadField : ExK K mg "BadField" C_BadField) (x_BadWord : ExK K mg "BadWord" C_BadWord) (x_BadSnake : ExK K mg "BadSnake" C_BadSnake) (x_BadCell : ExK K mg "BadCell" C_BadCell)
    (hC : ExcC K C_BadNumber) (e1 : PySem.W.exmOne K (.ref C_BadNumber) (.ref C_SnakeError) = some true) (i1 : PySem.W.kitOne K (.ref C_BadNumber) (.ref C_BadNumber) = some true) (i2 : PySem.W.kitOne K (.ref C_BadNumber) (.ref C_BadField) = some false) (i3 : PySem.W.kitOne K (.ref C_BadNumber) (.ref C_BadWord) = some false) (i4 : PySem.W.kitOne K (.ref C_BadNumber) (.ref C_BadSnake) = some false) (i5 : PySem.W.kitOne K (.ref C_BadNumber) (.ref C_BadCell) = some false)
    (c_by_numberX : Cal P wl K mg base (L2.CX P wl) 10 "by_number" ["field", "word", "number"] (spByNumberX K C_BadNumber)) : Cal P wl K mg base CX0 11 "_law_barred" ["_law_field_here", "_law_word_here", "_law_number_here"] (spBarred K) := by
  refine D.cal sc__law_barred bn__law_barred (fun vs H Q E h => ?_) (fun f cdv A outer s H vs Q E hr h => ?_)
  · obtain ⟨a, F, h, w, wd, rfl, _⟩ := h
    rfl
  · obtain ⟨a, F, h, w, wd, rfl, o, ow, q⟩ := h
    refine ⟨_, (pss_cons (ps_set (i := 3) sc__law_barred.nd rfl (.inl rfl) (pe_lst pa_nil))
 (pss_cons (ps_try_as (i := 4) rfl rfl sc__law_barred.nd rfl rfl ⟨rfl, by decide, .inl x_SnakeError.g⟩ takes0 (fun W pn xe tk _ =>
 (pss_one (ps_expr (pcallX c_by_numberX (hr.mono (by omega)) (by rfl) tk (pa_cons (pv 0) (pa_cons (pv 1) (pa_cons (pv 2) pa_nil)))))))
 (fun ae oe cls de pn hz hf =>
 (pss_cons (ps_set (i := 3) sc__law_barred.nd rfl (.inl rfl) (pe_lst (pa_cons (pe_callB (isX K hz hf) (by rfl) B.isinstance (by decide +kernel) (pa_cons (pv 4) (pa_cons (pe_glob (v := .ref C_BadNumber) (by rfl) x_BadNumber.g rfl) pa_nil))) (pa_cons (pe_callB (isX K hz hf) (by rfl) B.isinstance (by decide +kernel) (pa_cons (pv 4) (pa_cons (pe_glob (v := .ref C_BadField) (by rfl) x_BadField.g rfl) pa_nil))) (pa_cons (pe_callB (isX K hz hf) (by rfl) B.isinstance (by decide +kernel) (pa_cons (pv 4) (pa_cons (pe_glob (v := .ref C_BadWord) (by rfl) x_BadWord.g rfl) pa_nil))) pa_nil)))))
 (pss_one (ps_set (i := 3) sc__law_barred.nd rfl (.inl rfl) (pe_op op_cat (pv 3) (pe_lst (pa_cons (pe_callB (isX K hz hf) (by rfl) B.isinstance (by decide +kernel) (pa_cons (pv 4) (pa_cons (pe_glob (v := .ref C_BadSnake) (by rfl) x_BadSnake.g rfl) pa_nil))) (pa_cons (pe_callB (isX K hz hf) (by rfl) B.isinstance (by decide +kernel) (pa_cons (pv 4) (pa_cons (pe_glob (v := .ref C_BadCell) (by rfl) x_BadCell.g rfl) pa_nil))) pa_nil)))))))))
 (pss_one (ps_ret (pe_cmpR (eqDK K hr.units) (pv 3) (pe_op op_cat (pe_lst (pa_cons pe_bl pa_nil)) (pe_op op_rep (pe_lst (pa_cons pe_bl pa_nil)) pe_int)) (nomark _)))))), ?_⟩
    refine ⟨Nat.zero_le _, fun u0 nu0 => ?_⟩
    have su0 := same_new (o := .lst []) nu0
    refine ⟨.ref a, rfl, tv wd, rfl, .int _, rfl, a, F, h, w, wd, rfl, o.same su0, ow, fun H1 s1 => ?_⟩
    refine ⟨true, e1, fun _ ae nae => ?_, fun z => nomatch z⟩
    refine ⟨.ref ae, rfl, C_BadNumber, C_BadNumber, true, rfl, rfl, hC, rfl, i1, .ref ae, rfl, C_BadNumber, C_BadField, false, rfl, rfl, hC, rfl, i2, .ref ae, rfl, C_BadNumber, C_BadWord, false, rfl, rfl, hC, rfl, i3, by show 3 ≤ sizeLine; decide, fun u1 nu1 => ?_⟩
    have su1 := same_new (o := .lst [.bl true, .bl false, .bl false]) nu1
    refine ⟨.ref u1, rfl, .ref ae, rfl, C_BadNumber, C_BadSnake, false, rfl, rfl, hC, rfl, i4, .ref ae, rfl, C_BadNumber, C_BadCell, false, rfl, rfl, hC, rfl, i5, by show 2 ≤ sizeLine; decide, fun u2 nu2 => ?_⟩
    have su2 := same_new (o := .lst [.bl false, .bl false]) nu2
    refine ⟨u1, u2, [.bl true, .bl false, .bl false], [.bl false, .bl false], rfl, rfl, su2 _ _ upd_same, upd_same, by show 5 ≤ sizeLine; decide, fun u3 nu3 => ?_⟩
    have su3 := same_new (o := .lst ([.bl true, .bl false, .bl false] ++ [.bl false, .bl false])) nu3
    refine ⟨.ref u3, rfl, by show 1 ≤ sizeLine; decide, fun v1 nv1 => ?_⟩
    have sv1 := same_new (o := .lst [.bl true]) nv1
    refine ⟨by show 1 ≤ sizeLine; decide, fun v2 nv2 => ?_⟩
    have sv2 := same_new (o := .lst [.bl false]) nv2
    refine ⟨v2, 4, [.bl false], rfl, rfl, upd_same, by decide, by decide, by show 4 ≤ sizeLine; decide, fun v3 nv3 => ?_⟩
    have sv3 := same_new (o := .lst (List.replicate (4 : Int).toNat [V.bl false]).flatten) nv3
    refine ⟨v1, v3, [.bl true], _, rfl, rfl, sv3 _ _ (sv2 _ _ upd_same), upd_same, by show 5 ≤ sizeLine; decide, fun v4 nv4 => ?_⟩
    have sv4 := same_new (o := .lst ([.bl true] ++ (List.replicate (4 : Int).toNat [V.bl false]).flatten)) nv4
    have sv := sv1.trans (sv2.trans (sv3.trans sv4))
    refine ⟨.list [.bool true, .bool false, .bool false, .bool false, .bool false], .list [.bool true, .bool false, .bool false, .bool false, .bool false], .lst (SqL.of (sv _ _ upd_same)) (.cons (.bl _) (.cons (.bl _) (.cons (.bl _) (.cons (.bl _) (.cons (.bl _) .nil))))), .lst (SqL.of upd_same) (.cons (.bl _) (.cons (.bl _) (.cons (.bl _) (.cons (.bl _) (.cons (.bl _) .nil))))), by decide +kernel, by decide +kernel, ?_⟩
    rw [show PyData.eqv (.list [.bool true, .bool false, .bool false, .bool false, .bool false]) (.list [.bool true, .bool false, .bool false, .bool false, .bool false]) = true by decide +kernel]
    exact q _ (su0.trans (s1.trans (su1.trans (su2.trans (su3.trans sv)))))
end
end Sk
namespace Sk
open PySem PySem.Spec PyProof.Rows L2 Sn
section
variable {P : Program} {wl : World} {K : PySem.W.Frag} {mg : Str → Option Value} {base : Heap}
theorem ok_law_broad (D : Dfn K mg "_law_broad" s__law_broad) (B : Bi mg) (c_law_cell_at : Cal P wl K mg base CX0 1 "_law_cell_at" ["_law_script", "_law_k"] (spCellAt K))
    (c_law_number : Cal P wl K mg base CX0 2 "_law_number" ["_law_cell", "_law_k", "_law_limit"] spNumber) : Cal P wl K mg base CX0 3 "_law_broad" ["_law_script", "_law_by"] (spBroad K) := by
  refine D.cal sc__law_broad bn__law_broad (fun vs H Q E h => ?_) (fun f cdv A outer s H vs Q E hr h => ?_)
  · obtain ⟨a, ns, k, n, rfl, _⟩ := h
    rfl
  · obtain ⟨a, ns, k, n, rfl, hs, hb, hn, hk, hk2, q⟩ := h
    refine ⟨_, (pss_cons (ps_set (i := 2) sc__law_broad.nd rfl (.inl rfl) (pe_lst pa_nil))
 (pss_cons (ps_for PassesOwn.never rfl (pi_range1 (by rfl) B.range (pa_cons pe_int pa_nil)) (pg_name (i := 3) sc__law_broad.nd rfl (.inl rfl))
 (pss_cons (ps_set (i := 4) sc__law_broad.nd rfl (.inl rfl) pe_str)
 (pss_cons (ps_for PassesOwn.never rfl (pi_range1 (by rfl) B.range (pa_cons pe_int pa_nil)) (pg_name (i := 5) sc__law_broad.nd rfl (.inl rfl))
 (pss_cons (ps_set (i := 6) sc__law_broad.nd rfl (.inl rfl) (pe_op op_add (pe_op op_mulX (pv 3) pe_int) (pv 5)))
 (pss_one (ps_set (i := 4) sc__law_broad.nd rfl (.inl rfl) (pe_op op_add_str (pv 4) (pe_ix ix_str pe_str (pcall c_law_number (hr.mono (by omega)) (by rfl) pass0 (pa_cons (pe_op op_add (pcall c_law_cell_at (hr.mono (by omega)) (by rfl) pass0 (pa_cons (pv 0) (pa_cons (pe_op op_add (pv 1) (pe_op op_mod (pv 6) pe_int)) pa_nil))) (pe_op op_mulX pe_int (pv 6))) (pa_cons (pe_op op_add (pe_op op_add (pv 6) (pv 1)) pe_int) (pa_cons pe_int pa_nil)))) (fun _ _ => rfl)))))))
 (pss_one (ps_expr (pe_bm PySem.F.plainAttrs_list PySem.F.slot_list_append PySem.F.type_list_append mt_append (pv 2) (pa_cons (pv 4) pa_nil)))))))
 (pss_one (ps_ret (pv 2))))), ?_⟩
    refine ⟨Nat.zero_le _, fun p npH => ?_⟩
    refine ⟨5, rfl, by decide, by decide, for_it walk_range (fun i σ H' => i ≤ 5 ∧ ∃ y3 y4 y5 y6 F, σ = [some (.ref a), some (.int k), some (.ref p), y3, y4, y5, y6] ∧ Same H H' ∧ H' p = some (.lst (F.map tv)) ∧ F.length = i ∧ ∀ r ∈ F, r.length = 5 ∧ ∀ c ∈ r, letter c)
      ⟨by decide, none, none, none, none, [], rfl, same_new npH, upd_same, rfl, fun _ h => nomatch h⟩ (fun _ _ _ _ _ => trivial) (fun i x σ H4o H4 hi pv y => ?_) fun σ H4 pv => ?_⟩
    · obtain ⟨rfl, rfl⟩ := y
      obtain ⟨_, y3, y4, y5, y6, F, rfl, sm, hp, hF, hF2⟩ := pv
      have hi5 : i < 5 := hi
      refine ⟨5, rfl, by decide, by decide, for_it walk_range (fun j σ H' => j ≤ 5 ∧ ∃ y5 y6 r, σ = [some (.ref a), some (.int k), some (.ref p), some (.int (0 + i)), some (tv r), y5, y6] ∧ Same H H' ∧ H' p = some (.lst (F.map tv)) ∧ r.length = j ∧ ∀ c ∈ r, letter c)
        ⟨by decide, y5, y6, [], rfl, sm, hp, rfl, fun _ h => nomatch h⟩ (fun _ _ _ _ _ => trivial) (fun j x σ H6o H6 hj pv y => ?_) fun σ H6 pv => ?_⟩
      · obtain ⟨rfl, rfl⟩ := y
        obtain ⟨_, y5, y6, r, rfl, sm6, hp6, hr1, hr2⟩ := pv
        have hj5 : j < 5 := hj
        have m7 : 0 ≤ ((0 + (i : Int)) * 5 + (0 + (j : Int))) % 7 := Int.emod_nonneg _ (by decide)
        have m77 : ((0 + (i : Int)) * 5 + (0 + (j : Int))) % 7 < 7 := Int.emod_lt_of_pos _ (by decide)
        refine ⟨.int (0 + i), rfl, _, 5, rfl, rfl, small_mul (lt30 (by omega) (by omega)) (lt30 (by decide) (by decide)), .int (0 + j), rfl, _, _, rfl, rfl, ?_⟩
        refine ⟨tv r, rfl, .ref a, rfl, .int k, rfl, .int ((0 + (i : Int)) * 5 + (0 + (j : Int))), rfl, _, 7, rfl, rfl, (show (0 : Int) < 7 by decide), k, _, rfl, rfl, a, ns, _, n, rfl, sm6.seq hs, by omega, hb, fun zc hzc => ?_⟩
        refine ⟨.int ((0 + (i : Int)) * 5 + (0 + (j : Int))), rfl, 53, _, rfl, rfl, small_mul (lt30 (by decide) (by decide)) (lt30 (by omega) (by omega)), zc, _, rfl, rfl, .int ((0 + (i : Int)) * 5 + (0 + (j : Int))), rfl, .int k, rfl, _, k, rfl, rfl, _, 1, rfl, rfl, ?_⟩
        refine ⟨_, _, 7, n + 21, rfl, big_add hzc (by omega), by omega, by omega, by omega, by decide, fun z4 H8 a4 b4 s8 => ?_⟩
        obtain ⟨c, hc1, hc2⟩ := seven_at a4 b4
        refine ⟨tx sevenL, z4, c, rfl, rfl, by rw [tx_len]; exact small_line (by decide +kernel), by rw [tx_cps]; exact hc1, tx r, tx [c], rfl, rfl, ?_, ?_⟩
        · rw [tx_len, tx_len]; exact small_line (by show r.length + 1 ≤ _; omega)
        · refine ⟨hj, some (.int (0 + j)), some (.int ((0 + (i : Int)) * 5 + (0 + (j : Int)))), r ++ [c], by rw [tx_app]; rfl, sm6.trans s8, s8 _ _ hp6, by rw [List.length_append, hr1]; rfl, fun c' hc => ?_⟩
          rcases List.mem_append.mp hc with hc | hc
          · exact hr2 c' hc
          · rw [List.mem_singleton.mp hc]; exact hc2
      · obtain ⟨_, y5, y6, r, rfl, sm6, hp6, hr1, hr2⟩ := pv
        refine ⟨.ref p, rfl, .inl ⟨rfl, _, SqL.of hp6⟩, tv r, rfl, p, _, tv r, rfl, rfl, hp6, ?_, ?_⟩
        · rw [List.length_map, hF]; exact small1000 (by omega)
        · refine ⟨hi, _, _, _, _, F ++ [r], rfl, same_upd sm6 npH, ?_, by rw [List.length_append, hF]; rfl, fun r2 hr => ?_⟩
          · rw [upd_same, List.map_append]; rfl
          · rcases List.mem_append.mp hr with hr | hr
            · exact hF2 r2 hr
            · rw [List.mem_singleton.mp hr]; exact ⟨hr1, hr2⟩
    · obtain ⟨_, y3, y4, y5, y6, F, rfl, sm, hp, hF, hF2⟩ := pv
      exact ⟨.ref p, rfl, q H4 p F sm npH hp ⟨hF, by decide, by decide, by decide, by decide, fun r hr => (hF2 r hr).1, fun r hr => (hF2 r hr).2⟩⟩
theorem ok_law_snakes (D : Dfn K mg "_law_snakes" s__law_snakes) (B : Bi mg) (c_law_cells : Cal P wl K mg base CX0 1 "_law_cells" ["_law_field_here"] (spCells K)) (c_law_beside : Cal P wl K mg base CX0 1 "_law_beside" ["_law_one", "_law_other"] (spBeside K)) :
    Cal P wl K mg base CX0 2 "_law_snakes" ["_law_field_here", "_law_word_here"] (spLSnakes K) := by
  refine D.cal sc__law_snakes bn__law_snakes (fun vs H Q E h => ?_) (fun f cdv A outer s H vs Q E hr h => ?_)
  · obtain ⟨a, F, h, w, wd, rfl, _⟩ := h
    rfl
  · obtain ⟨a, F, h, w, wd, rfl, o, h6, q⟩ := h
    refine ⟨_, (pss_cons (ps_set (i := 2) sc__law_snakes.nd rfl (.inl rfl) (pe_lst (pa_cons (pe_lst pa_nil) pa_nil)))
 (pss_cons (ps_for PassesOwn.never rfl (pi_str (pv 1)) (pg_name (i := 3) sc__law_snakes.nd rfl (.inl rfl))
 (pss_cons (ps_set (i := 4) sc__law_snakes.nd rfl (.inl rfl) (pe_lst pa_nil))
 (pss_cons (ps_for PassesOwn.never rfl (piL K (pv 2)) (pg_name (i := 5) sc__law_snakes.nd rfl (.inl rfl))
 (pss_one (ps_for PassesOwn.never rfl (piL K (pcall c_law_cells (hr.mono (by omega)) (by rfl) pass0 (pa_cons (pv 0) pa_nil))) (pg_name (i := 6) sc__law_snakes.nd rfl (.inl rfl))
 (pss_cons (ps_set (i := 7) sc__law_snakes.nd rfl (.inl rfl) (pe_and (pe_cmpR op_eq (pe_ix ix_str (pe_ix (ixL K) (pv 0) (pe_ix (ixT K) (pv 6) pe_int (fun _ _ => rfl)) (fun _ _ => rfl)) (pe_ix (ixT K) (pv 6) pe_int (fun _ _ => rfl)) (fun _ _ => rfl)) (pv 3) (nomark _)) (pe_one (pe_cmpR (notInDK K (hu65 hr)) (pv 6) (pv 5) (by rfl)))))
 (pss_one (ps_if (PW.pt (pw_and (pt_val (pv 7)) (pw_and1 (PW.pt (pw_or (pt_cmpR (eqDK K hr.units) (pv 5) (pe_lst pa_nil) (nomark _)) (pw_or1 (pt_val (pcall c_law_beside (hr.mono (by omega)) (by rfl) pass0 (pa_cons (pe_ix (ixL K) (pv 5) (pe_un un_neg pe_int) (fun _ _ => rfl)) (pa_cons (pv 6) pa_nil))))))))))
 (pss_one (ps_expr (pe_bm PySem.F.plainAttrs_list PySem.F.slot_list_append PySem.F.type_list_append mt_append (pv 4) (pa_cons (pe_op op_cat (pv 5) (pe_lst (pa_cons (pv 6) pa_nil))) pa_nil)))) pss_nil))))))
 (pss_one (ps_set (i := 2) sc__law_snakes.nd rfl (.inl rfl) (pv 4))))))
 (pss_one (ps_ret (pv 2))))), ?_⟩
    have h5 := o.2.h5
    have w5 := o.2.w5
    have tot : ∀ i, (bfs F h w (wd.take i)).length ≤ 1000000 := fun i => by
      rw [bfs_eq h5 w5]
      exact snakes_len h5 w5 (vld_nil h w) (by rw [List.length_take]; omega)
    -- found = [[]]
    refine ⟨Nat.zero_le _, fun e ne => ⟨by show 1 ≤ sizeLine; decide, fun p np => ?_⟩⟩
    have se := same_new (o := .lst []) ne
    have sp := same_new (o := .lst [.ref e]) np
    refine ⟨tv wd, rfl, tx wd, rfl, for_it walk_str (fun i σ H' => i ≤ wd.length ∧ ∃ y3 y4 y5 y6 y7 f ys, σ = [some (.ref a), some (tv wd), some (.ref f), y3, y4, y5, y6, y7] ∧ Same H H' ∧ H f = none ∧ H' f = some (.lst ys) ∧ Snks K (fun q => H q = none) H' ys (bfs F h w (wd.take i)))
      ⟨Nat.zero_le _, none, none, none, none, none, p, [.ref e], rfl, se.trans sp, se.free np, upd_same, .cons ⟨e, [], rfl, ne, sp _ _ upd_same, .nil⟩ .nil⟩ (fun _ _ _ _ _ => trivial) (fun i x σ H1o H1 hi pv y => ?_) fun σ H1 pv => ?_⟩
    · obtain ⟨rfl, l, hl, rfl⟩ := y
      obtain ⟨_, y3, y4, y5, y6, y7, f0, ys, rfl, s1, nf0, hf0, hy⟩ := pv
      have hiw : i < wd.length := by rw [← tx_len wd]; exact hi
      have hlw : wd[i]? = some l := by rw [← hl]; show wd[i]? = wd.toArray[i]?; simp
      -- longer = []
      refine ⟨Nat.zero_le _, fun g ng => ?_⟩
      have sg := same_new (o := .lst []) ng
      have nfg : f0 ≠ g := fun z => by rw [z] at hf0; rw [hf0] at ng; cases ng
      have ngH : H g = none := s1.free ng
      have hg0 : upd H1 g (.lst []) g = some (.lst []) := upd_same
      refine ⟨.ref f0, rfl, f0, rfl, ⟨_, SqL.of (sg _ _ hf0)⟩, for_it (walk_list (xs := ys)) (fun j σ H' => ∃ y5 y6 y7 zs, σ = [some (.ref a), some (tv wd), some (.ref f0), some (.str ⟨#[l]⟩), some (.ref g), y5, y6, y7] ∧ Kb g (upd H1 g (.lst [])) H' ∧ H' g = some (.lst zs) ∧ Snks K (fun q => H q = none ∧ q ≠ g) H' zs (((bfs F h w (wd.take i)).take j).flatMap (stepL F h w l)))
        ⟨y5, y6, y7, [], rfl, fun _ _ _ z => z, upd_same, .nil⟩ (fun j σ H' _ pv => by obtain ⟨_, _, _, _, _, kb, _⟩ := pv; exact SqL.of (kb _ _ nfg (sg _ _ hf0))) (fun j x σ H2o H2 hj pv y => ?_) fun σ H2 pv => ?_⟩
      · obtain ⟨rfl, hx⟩ := y
        obtain ⟨y5, y6, y7, zs, rfl, kb, hg2, hz⟩ := pv
        obtain ⟨cs, hcs, ⟨b, xs, rfl, nb, hb, hc⟩⟩ := Paired.get hy hx
        have nbg : b ≠ g := fun z => by rw [z] at hb; rw [hb] at ng; cases ng
        have sH2 : Same H H2 := fun b o eb => kb b o (ne_of_none eb ngH) (sg _ _ (s1 b o eb))
        have le2 : TupLe H1 H2 := (TupLe.of sg).trans (TupLe.kb hg0 kb)
        have hb2 : H2 b = some (.lst xs) := kb _ _ nbg (sg _ _ hb)
        have hc2 := hc.le le2
        have vcs : Vld h w cs := by
          have hm := List.mem_of_getElem? hcs
          rw [bfs_eq h5 w5] at hm
          exact (snakes_mem h5 w5 hm).1.vld
        have lcs : cs.length ≤ 6 := by
          have hm := List.mem_of_getElem? hcs
          rw [bfs_eq h5 w5] at hm
          have := congrArg List.length (snakes_mem h5 w5 hm).2
          rw [List.length_take] at this
          simp only [spell, List.length_map] at this
          omega
        refine ⟨.ref a, rfl, a, F, h, w, rfl, o.same sH2, fun H3 c3 ws s3 nc3 hc3 hw => ?_⟩
        have nc3g : c3 ≠ g := fun z => by rw [z, hg2] at nc3; cases nc3
        have hg3 := s3 _ _ hg2
        have stt : ((bfs F h w (wd.take i)).take j).flatMap (stepL F h w l) ++ stepL F h w l cs = ((bfs F h w (wd.take i)).take (j + 1)).flatMap (stepL F h w l) := by
          rw [take_one_more hcs, List.flatMap_append, List.flatMap_cons, List.flatMap_nil, List.append_nil]
        have totl : (((bfs F h w (wd.take i)).take (j + 1)).flatMap (stepL F h w l)).length ≤ 1000000 := by
          refine Nat.le_trans (take_flat_le _ _ _) ?_
          have e := tot (i + 1)
          rw [take_one_more hlw, bfs_snoc] at e
          exact e
        rw [← stt, List.length_append] at totl
        refine ⟨c3, rfl, ⟨_, SqL.of hc3⟩, for_it (walk_list (xs := ws)) (fun k σ H' => ∃ y6 y7 us, σ = [some (.ref a), some (tv wd), some (.ref f0), some (.str ⟨#[l]⟩), some (.ref g), some (.ref b), y6, y7] ∧ Kb g H3 H' ∧ H' g = some (.lst us) ∧ Snks K (fun q => H q = none ∧ q ≠ g) H' us (((bfs F h w (wd.take i)).take j).flatMap (stepL F h w l) ++ (((cellsL h w).take k).filter (stepB F l cs)).map fun c => cs ++ [c]))
          ⟨y6, y7, zs, rfl, fun _ _ _ z => z, hg3, by simpa using hz.same s3⟩ (fun k σ H' _ pv => by obtain ⟨_, _, _, _, kb, _⟩ := pv; exact SqL.of (kb _ _ nc3g hc3)) (fun k x σ H4o H4 hk pv y => ?_) fun σ H4 pv => ?_⟩
        · obtain ⟨rfl, hx3⟩ := y
          obtain ⟨y6, y7, us, rfl, kb4, hg4, hu⟩ := pv
          obtain ⟨c, hci, vc0⟩ := Paired.get hw hx3
          have hcm : c ∈ cellsL h w := List.mem_of_getElem? hci
          have le34 : TupLe H3 H4 := TupLe.kb hg3 kb4
          obtain ⟨t, rfl, ht⟩ := vc0.le le34
          have vc : CellV K H4 (.ref t) c := ⟨t, rfl, ht⟩
          have hb4 : H4 b = some (.lst xs) := kb4 _ _ nbg (s3 _ _ hb2)
          have hc4 := (hc2.le (TupLe.of s3)).le le34
          have sH4 : Same H H4 := fun b o eb => kb4 b o (ne_of_none eb ngH) (s3 _ _ (sH2 b o eb))
          have o4 := o.same sH4
          obtain ⟨r, g1, g2, g3⟩ := o4.at_cell hcm
          have tk1 : (cellsL h w).take (k + 1) = (cellsL h w).take k ++ [c] := take_one_more hci
          have lus : us.length < sizeLine := by
            have e := hu.length
            rw [List.length_append, List.length_map] at e
            have e2 : (((cellsL h w).take k).filter (stepB F l cs)).length ≤ 25 := by
              refine Nat.le_trans (List.length_filter_le _ _) ?_
              refine Nat.le_trans (List.length_take_le' _ _) ?_
              have e9 := next_len h5 w5 (vld_nil h w)
              exact e9
            exact Nat.lt_of_le_of_lt (show us.length ≤ 1000025 by omega) (by rw [sizeLine_eq]; decide)
          -- what holds behind the turn where the cell is not taken
          have fin0 : stepB F l cs c = false → ∀ σ' y7, σ' = [some (.ref a), some (tv wd), some (.ref f0), some (.str ⟨#[l]⟩), some (.ref g), some (.ref b), some (.ref t), y7] → ∀ H', Same H4 H' →
              ∃ y6 y7 us, σ' = [some (.ref a), some (tv wd), some (.ref f0), some (.str ⟨#[l]⟩), some (.ref g), some (.ref b), y6, y7] ∧ Kb g H3 H' ∧ H' g = some (.lst us) ∧ Snks K (fun q => H q = none ∧ q ≠ g) H' us (((bfs F h w (wd.take i)).take j).flatMap (stepL F h w l) ++ (((cellsL h w).take (k + 1)).filter (stepB F l cs)).map fun c => cs ++ [c]) := by
            intro hst σ' y7' hσ H' s'
            refine ⟨_, _, us, hσ, fun b o n eb => s' _ _ (kb4 b o n eb), s' _ _ hg4, ?_⟩
            rw [tk1, List.filter_append, List.filter_cons, hst, if_neg Bool.false_ne_true, List.filter_nil, List.append_nil]
            exact hu.same s'
          refine ⟨.ref a, rfl, .ref t, rfl, t, _, 0, .int c.1, rfl, rfl, ht, atI_nat (j := 0) rfl, a, _, c.1, _, rfl, rfl, o4.1, g1, .ref t, rfl, t, _, 1, .int c.2, rfl, rfl, ht, atI_nat (j := 1) rfl, tx r, c.2, at_ F c, rfl, rfl, by rw [tx_len, g2]; exact o.w_line, by rw [tx_cps]; exact g3, .str ⟨#[l]⟩, rfl, rfl, _, rfl, ?_⟩
          rw [show decide (V.str ⟨#[at_ F c]⟩ = V.str ⟨#[l]⟩) = decide (at_ F c = l) from one_sign _ _]
          cases el : decide (at_ F c = l) with
          | false =>
            have hst : stepB F l cs c = false := by unfold stepB; rw [el]; rfl
            exact iteF ⟨.bl false, rfl, false, rfl, iteF (iteF (fin0 hst _ _ rfl _ (Same.refl _)))⟩
          | true =>
            refine iteT ⟨.ref t, rfl, .ref b, rfl, _, _, vc.dp, cells_dp (SqL.of hb4) hc4, (shp_cell _).ok, (shp_cells _).ok, ?_⟩
            rw [any_cells]
            refine ⟨.bl (!decide (c ∈ cs)), rfl, _, rfl, ?_⟩
            cases en : (!decide (c ∈ cs)) with
            | false =>
              have hst : stepB F l cs c = false := by unfold stepB; rw [el, en]; rfl
              exact iteF (iteF (fin0 hst _ _ rfl _ (Same.refl _)))
            | true =>
              refine iteT ⟨.ref b, rfl, Nat.zero_le _, fun u nu => ?_⟩
              have su := same_new (o := .lst []) nu
              refine ⟨_, cellsD [], cells_dp (SqL.of (su _ _ hb4)) (hc4.le (TupLe.of su)), cells_dp (SqL.of upd_same) .nil, (shp_cells _).ok, (shp_cells _).ok, _, rfl, ?_⟩
              rw [eqv_cells]
              -- what holds where it is taken
              have fin1 : stepB F l cs c = true → ∀ H5, Same H4 H5 → tDrop (tBM K "list" rAppend (tVar 4) (tCons (tOp rCat (tVar 5) (tLst (tCons (tVar 6) tNil))) tNil))
                  { nx := fun σ' H' => ∃ y6 y7 us, σ' = [some (.ref a), some (tv wd), some (.ref f0), some (.str ⟨#[l]⟩), some (.ref g), some (.ref b), y6, y7] ∧ Kb g H3 H' ∧ H' g = some (.lst us) ∧ Snks K (fun q => H q = none ∧ q ≠ g) H' us (((bfs F h w (wd.take i)).take j).flatMap (stepL F h w l) ++ (((cellsL h w).take (k + 1)).filter (stepB F l cs)).map fun c => cs ++ [c]), rt := Q }
                  [some (.ref a), some (tv wd), some (.ref f0), some (.str ⟨#[l]⟩), some (.ref g), some (.ref b), some (.ref t), some (.bl true)] H5 := by
                intro hst H5 s5
                have hg5 := s5 _ _ hg4
                have hb5 := s5 _ _ hb4
                refine ⟨.ref g, rfl, .inl ⟨rfl, _, SqL.of hg5⟩, .ref b, rfl, .ref t, rfl, by show 1 ≤ sizeLine; decide, fun v nv => ?_⟩
                have sv := same_new (o := .lst [.ref t]) nv
                refine ⟨b, v, xs, [.ref t], rfl, rfl, sv _ _ hb5, upd_same, by rw [hc.length]; exact small_line (by show cs.length + 1 ≤ _; omega), fun nb' nnb => ?_⟩
                have snb := same_new (o := .lst (xs ++ [.ref t])) nnb
                have s6 := s5.trans (sv.trans snb)
                have hg6 := s6 _ _ hg4
                have nbg' : nb' ≠ g := fun z => by rw [z, sv _ _ hg5] at nnb; cases nnb
                refine ⟨g, us, .ref nb', rfl, rfl, hg6, lus, _, _, us ++ [.ref nb'], rfl, Kb.upd fun b o n eb => s6 _ _ (kb4 b o n eb), upd_same, ?_⟩
                rw [tk1, List.filter_append, List.filter_cons, hst, if_pos rfl, List.filter_nil, List.map_append, ← List.append_assoc]
                refine Paired.snoc ((hu.same s6).upd hg6 fun q hq => hq.2) ?_
                refine ⟨nb', xs ++ [.ref t], rfl, ⟨(sH4.trans (s5.trans sv)).free nnb, nbg'⟩, by rw [upd_ne nbg']; exact upd_same, ?_⟩
                exact Cells.le (Paired.snoc (hc4.le (TupLe.of s6)) (vc.le (TupLe.of s6))) (TupLe.upd hg6 (TupLe.refl _))
              by_cases hcs0 : cs = []
              · rw [decide_eq_true hcs0]
                have hst : stepB F l cs c = true := by unfold stepB; rw [el, en, decide_eq_true hcs0]; rfl
                exact iteT (iteT (fin1 hst _ su))
              · rw [decide_eq_false hcs0]
                obtain ⟨d, hd⟩ : ∃ d, cs.getLast? = some d := by
                  cases e : cs.getLast? with
                  | none => exact absurd (List.getLast?_eq_none_iff.mp e) hcs0
                  | some d => exact ⟨d, rfl⟩
                obtain ⟨v, gv, vd⟩ := cells_last (hc4.le (TupLe.of su)) hd
                refine iteF ⟨.ref b, rfl, 1, rfl, b, _, -1, v, rfl, rfl, SqL.of (su _ _ hb4), gv, .ref t, rfl, v, .ref t, d, c, rfl, vd, vc.le (TupLe.of su), _, rfl, ?_⟩
                have hst : stepB F l cs c = beside d c := by unfold stepB; rw [el, en, decide_eq_false hcs0, hd]; simp
                cases eb : beside d c with
                | false => exact iteF (fin0 (by rw [hst, eb]) _ _ rfl _ su)
                | true => exact iteT (fin1 (by rw [hst, eb]) _ su)
        · obtain ⟨y6, y7, us, rfl, kb4, hg4, hu⟩ := pv
          refine ⟨_, _, _, us, rfl, fun b o n eb => kb4 _ _ n (s3 _ _ (kb b o n eb)), hg4, ?_⟩
          rw [hw.length, List.take_length] at hu
          rw [← stt]
          exact hu
      · obtain ⟨y5, y6, y7, zs, rfl, kb, hg2, hz⟩ := pv
        refine ⟨.ref g, rfl, hiw, _, _, _, _, _, g, zs, rfl, fun b o eb => kb b o (ne_of_none eb ngH) (sg _ _ (s1 b o eb)), ngH, hg2, ?_⟩
        rw [hy.length, List.take_length] at hz
        rw [take_one_more hlw, bfs_snoc]
        exact hz.imp fun q hq => hq.1
    · obtain ⟨_, y3, y4, y5, y6, y7, f0, ys, rfl, s1, nf0, hf0, hy⟩ := pv
      have e1 : (tx wd).cps.size = wd.length := tx_len wd
      rw [e1, List.take_length, bfs_eq h5 w5] at hy
      exact ⟨.ref f0, rfl, q H1 f0 ys s1 nf0 hf0 hy⟩
end
end Sk
namespace Sk
open PySem PySem.Spec PyProof.Rows L2 Sn
section
variable {P : Program} {wl : World} {K : PySem.W.Frag} {mg : Str → Option Value} {base : Heap}
theorem ok_law_word (D : Dfn K mg "_law_word" s__law_word) (B : Bi mg) (c_law_cell_at : Cal P wl K mg base CX0 1 "_law_cell_at" ["_law_script", "_law_k"] (spCellAt K))
    (c_law_number : Cal P wl K mg base CX0 2 "_law_number" ["_law_cell", "_law_k", "_law_limit"] spNumber) (c_law_cells : Cal P wl K mg base CX0 1 "_law_cells" ["_law_field_here"] (spCells K)) (c_law_beside : Cal P wl K mg base CX0 1 "_law_beside" ["_law_one", "_law_other"] (spBeside K)) :
    Cal P wl K mg base CX0 3 "_law_word" ["_law_script", "_law_by", "_law_field_here", "_law_most"] (spLWord K) := by
  refine D.cal sc__law_word bn__law_word (fun vs H Q E h => ?_) (fun f cdv A outer s H vs Q E hr h => ?_)
  · obtain ⟨a, ns, k, n, b, F, h, w, m, rfl, _⟩ := h
    rfl
  · obtain ⟨a, ns, k, n, b, F, h, w, m, rfl, hs, hb, hn, hk, hk2, o, hm, hm6, q⟩ := h
    refine ⟨_, (pss_cons (ps_set (i := 4) sc__law_word.nd rfl (.inl rfl) (pcall c_law_cell_at (hr.mono (by omega)) (by rfl) pass0 (pa_cons (pv 0) (pa_cons (pv 1) pa_nil))))
 (pss_cons (ps_asg (pe_tup (pa_cons (pe_op op_add pe_int (pcall c_law_number (hr.mono (by omega)) (by rfl) pass0 (pa_cons (pv 4) (pa_cons (pe_op op_add (pv 1) pe_int) (pa_cons (pv 3) pa_nil))))) (pa_cons (lit_tup K (lits_cons K (lit_int K) (lits_cons K (lit_int K) (lits_nil K)))) pa_nil))) (pg_tup rfl (pgs_cons (pg_name (i := 5) sc__law_word.nd rfl (.inl rfl)) (pgs_cons (pg_name (i := 6) sc__law_word.nd rfl (.inr rfl)) pgs_nil))))
 (pss_cons (ps_set (i := 7) sc__law_word.nd rfl (.inl rfl) (pcall c_law_cells (hr.mono (by omega)) (by rfl) pass0 (pa_cons (pv 2) pa_nil)))
 (pss_cons (ps_set (i := 6) sc__law_word.nd rfl (.inr rfl) (pe_ix (ixL K) (pv 7) (pcall c_law_number (hr.mono (by omega)) (by rfl) pass0 (pa_cons (pv 4) (pa_cons (pe_op op_add (pv 1) pe_int) (pa_cons (pe_callB (lenSq K) (by rfl) B.len PySem.boot_len (pa_cons (pv 7) pa_nil)) pa_nil)))) (fun _ _ => rfl)))
 (pss_cons (ps_asg (pe_tup (pa_cons pe_str (pa_cons (pe_lst pa_nil) pa_nil))) (pg_tup rfl (pgs_cons (pg_name (i := 8) sc__law_word.nd rfl (.inl rfl)) (pgs_cons (pg_name (i := 9) sc__law_word.nd rfl (.inr rfl)) pgs_nil))))
 (pss_cons (ps_for PassesOwn.never rfl (pi_range1 (by rfl) B.range (pa_cons (pv 5) pa_nil)) (pg_name (i := 10) sc__law_word.nd rfl (.inl rfl))
 (pss_cons (ps_expr (pe_bm PySem.F.plainAttrs_list PySem.F.slot_list_append PySem.F.type_list_append mt_append (pv 9) (pa_cons (pv 6) pa_nil)))
 (pss_cons (ps_set (i := 8) sc__law_word.nd rfl (.inl rfl) (pe_op op_add_str (pv 8) (pe_ix ix_str (pe_ix (ixL K) (pv 2) (pe_ix (ixT K) (pv 6) pe_int (fun _ _ => rfl)) (fun _ _ => rfl)) (pe_ix (ixT K) (pv 6) pe_int (fun _ _ => rfl)) (fun _ _ => rfl))))
 (pss_cons (ps_setLc (i := 11) (own := [("_law_one", 12)]) (g := gName 12) (by rfl) sc__law_word.nd rfl rfl (sw_true rfl rfl rfl (by decide +kernel)) (piL K (pv 7)) (blkOk_by (own := [("_law_one", 12)]) (N := ["_law_script", "_law_by", "_law_field_here", "_law_most", "_law_cell", "_law_many", "_law_here", "_law_every", "_law_text", "_law_gone", "_law_k", "_law_some", "_law_one"]) (sc := defScope s__law_word) (by decide +kernel)) (fun _ _ _ _ _ => (pg_name (i := 12) sc__law_word.nd rfl (Or.inl rfl))) (fun _ _ _ _ _ => (pts_one (PW.pt (pw_and (pt_val (pcall c_law_beside (hr.mono (by omega)) (by rfl) pass0 (pa_cons (pv 6) (pa_cons (pv 12) pa_nil)))) (pw_and1 (pt_cmpR (notInDK K (hu65 hr)) (pv 12) (pv 9) (by rfl))))))) (fun _ _ _ _ _ => (pv 12)))
 (pss_cons (ps_if (pt_cmpR (eqDK K hr.units) (pv 11) (pe_lst pa_nil) (nomark _))
 (pss_one (ps_ret (pv 8))) pss_nil)
 (pss_one (ps_set (i := 6) sc__law_word.nd rfl (.inr rfl) (pe_ix (ixL K) (pv 11) (pcall c_law_number (hr.mono (by omega)) (by rfl) pass0 (pa_cons (pe_op op_add (pv 4) (pe_op op_mulX pe_int (pv 10))) (pa_cons (pe_op op_add (pv 1) (pv 10)) (pa_cons (pe_callB (lenSq K) (by rfl) B.len PySem.boot_len (pa_cons (pv 11) pa_nil)) pa_nil)))) (fun _ _ => rfl)))))))))
 (pss_cons (ps_if (pt_cmpR op_eq (pcall c_law_number (hr.mono (by omega)) (by rfl) pass0 (pa_cons (pv 4) (pa_cons (pe_op op_add (pv 1) pe_int) (pa_cons pe_int pa_nil)))) pe_int (nomark _))
 (pss_one (ps_set (i := 8) sc__law_word.nd rfl (.inl rfl) (pe_op op_add_str (pe_slice sl_str (pv 8) po_none (po_some (pe_un un_neg pe_int))) (pe_ix ix_str pe_str (pcall c_law_number (hr.mono (by omega)) (by rfl) pass0 (pa_cons (pv 4) (pa_cons (pe_op op_add (pv 1) pe_int) (pa_cons pe_int pa_nil)))) (fun _ _ => rfl))))) pss_nil)
 (pss_one (ps_ret (pv 8)))))))))), ?_⟩
    have h5 := o.2.h5
    have w5 := o.2.w5
    have h1 := o.2.h1
    have w1 := o.2.w1
    refine ⟨.ref a, rfl, .int k, rfl, a, ns, k, n, rfl, hs, hk, hb, fun z hz => ?_⟩
    refine ⟨.int z, rfl, .int k, rfl, k, 4, rfl, rfl, .int m, rfl, z, k + 4, m, n, rfl, hz, by omega, by omega, by omega, by omega, fun z1 H1 a1 b1 s1 => ?_⟩
    refine ⟨1, z1, rfl, rfl, fun v0 H2 s2 _ => ⟨by show 2 ≤ sizeLine; decide, fun T nT => ?_⟩⟩
    have sT := same_new (o := .tup [.int (1 + z1), v0]) nT
    refine ⟨T, [.int (1 + z1), v0], rfl, SqT.of upd_same, rfl, _, _, rfl, _, _, rfl, rfl, ?_⟩
    have s0T : Same H _ := s1.trans (s2.trans sT)
    refine ⟨.ref b, rfl, b, F, h, w, rfl, o.same s0T, fun H3 e ys s3 ne he hy => ?_⟩
    have s03 := s0T.trans s3
    have lys : ys.length = h * w := by rw [hy.length, cellsL_len]
    have lys1 : 1 ≤ ys.length := by rw [lys]; exact Nat.mul_le_mul h1 w1
    have lys25 : ys.length ≤ 25 := by rw [lys]; exact Nat.mul_le_mul h5 w5
    refine ⟨.ref e, rfl, .int z, rfl, .int k, rfl, k, 5, rfl, rfl, .ref e, rfl, e, _, rfl, .inl (SqL.of he), z, k + 5, _, n, rfl, hz, by omega, by omega, by omega, by omega, fun z2 H4 a2 b2 s4 => ?_⟩
    have hz2 : z2.toNat < ys.length := by omega
    obtain ⟨c0, hc0, vc0⟩ := Paired.get hy (List.getElem?_eq_getElem hz2)
    have he4 := s4 _ _ he
    refine ⟨e, _, z2, ys[z2.toNat], rfl, rfl, SqL.of he4, at_of (j := z2.toNat) (by omega) (List.getElem?_eq_getElem hz2), ?_⟩
    refine ⟨Nat.zero_le _, fun g ng => ⟨by show 2 ≤ sizeLine; decide, fun T2 nT2 => ?_⟩⟩
    have sg := same_new (o := .lst []) ng
    have sT2 := same_new (o := .tup [.str "", .ref g]) nT2
    refine ⟨T2, [.str "", .ref g], rfl, SqT.of upd_same, rfl, _, _, rfl, _, _, rfl, rfl, ?_⟩
    have sA := s03.trans s4
    have ngH : H g = none := sA.free ng
    have neg : e ≠ g := fun zz => by rw [zz] at he4; rw [he4] at ng; cases ng
    obtain ⟨mn, emn⟩ : ∃ mn : Nat, 1 + z1 = (mn : Int) := ⟨(1 + z1).toNat, by omega⟩
    refine ⟨.int (1 + z1), rfl, 1 + z1, rfl, by omega, by omega, ?_⟩
    rw [show (1 + z1).toNat = mn by omega]
    have hg0 : upd (upd H4 g (.lst [])) T2 (.tup [.str "", .ref g]) g = some (.lst []) := sT2 _ _ upd_same
    have heB : upd (upd H4 g (.lst [])) T2 (.tup [.str "", .ref g]) e = some (.lst ys) := sT2 _ _ (sg _ _ he4)
    have leB : TupLe H3 (upd (upd H4 g (.lst [])) T2 (.tup [.str "", .ref g])) := TupLe.of (s4.trans (sg.trans sT2))
    have sB : Same H (upd (upd H4 g (.lst [])) T2 (.tup [.str "", .ref g])) := sA.trans (sg.trans sT2)
    refine for_it walk_range (fun i σ H' => i ≤ mn ∧ ∃ hv y10 y11 r gs gc c, σ = [some (.ref a), some (.int k), some (.ref b), some (.int m), some (.int z), some (.int (1 + z1)), some hv, some (.ref e), some (tv r), some (.ref g), y10, y11, none] ∧ Kb g (upd (upd H4 g (.lst [])) T2 (.tup [.str "", .ref g])) H' ∧ H' g = some (.lst gs) ∧ Cells K H' gs gc ∧ gc.length = i ∧ r.length = i ∧ (∀ c ∈ r, letter c) ∧ c ∈ cellsL h w ∧ CellV K H' hv c)
      ⟨Nat.zero_le _, ys[z2.toNat], none, none, [], [], [], c0, rfl, fun _ _ _ z => z, hg0, .nil, rfl, rfl, fun _ z => (nomatch z), List.mem_of_getElem? hc0, vc0.le leB⟩ (fun _ _ _ _ _ => trivial) (fun i x σ H5o H5 hi pv y => ?_) fun σ H5 pv => ?_
    · obtain ⟨rfl, rfl⟩ := y
      obtain ⟨_, hv, y10, y11, r, gs, gc, c, rfl, kb, hg5, hgc, lgc, lr, hlr, hcm, ⟨t, rfl, ht⟩⟩ := pv
      have vc : CellV K H5 (.ref t) c := ⟨t, rfl, ht⟩
      have lgs : gs.length = i := by rw [hgc.length, lgc]
      -- gone.append(here)
      refine ⟨.ref g, rfl, .inl ⟨rfl, _, SqL.of hg5⟩, .ref t, rfl, g, gs, .ref t, rfl, rfl, hg5, by rw [lgs]; exact small1000 (by omega), ?_⟩
      have le6 : TupLe H5 (upd H5 g (.lst (gs ++ [.ref t]))) := TupLe.upd hg5 (TupLe.refl _)
      have kb6 : Kb g _ (upd H5 g (.lst (gs ++ [.ref t]))) := kb.upd (o := .lst (gs ++ [.ref t]))
      have hg6 : upd H5 g (.lst (gs ++ [.ref t])) g = some (.lst (gs ++ [.ref t])) := upd_same
      have s6 : Same H (upd H5 g (.lst (gs ++ [.ref t]))) := fun b o eb => kb6 b o (ne_of_none eb ngH) (sB b o eb)
      have o6 := o.same s6
      have ht6 := le6.sqt ht
      have he6 : upd H5 g (.lst (gs ++ [.ref t])) e = some (.lst ys) := kb6 _ _ neg heB
      have hy6 : Cells K (upd H5 g (.lst (gs ++ [.ref t]))) ys (cellsL h w) := (hy.le leB).le (TupLe.kb hg0 kb6)
      have hgc6 : Cells K (upd H5 g (.lst (gs ++ [.ref t]))) (gs ++ [.ref t]) (gc ++ [c]) := Cells.le (Paired.snoc hgc vc) le6
      -- text
      obtain ⟨row, g1, g2, g3⟩ := o6.at_cell hcm
      have hlc : letter (at_ F c) := by
        obtain ⟨⟨p1, p2⟩, p3, p4⟩ := mem_cellsL.mp hcm
        have hl1 : c.1.toNat < F.length := by rw [o.2.high]; omega
        have hl2 : c.2.toNat < (F.getD c.1.toNat []).length := by rw [row_len o.2 (by omega)]; omega
        unfold at_
        rw [getD_of (List.getElem?_eq_getElem hl2)]
        refine o.2.let_ (F.getD c.1.toNat []) ?_ _ (List.getElem_mem hl2)
        rw [getD_of (List.getElem?_eq_getElem hl1)]
        exact List.getElem_mem hl1
      refine ⟨tv r, rfl, .ref b, rfl, .ref t, rfl, t, _, 0, .int c.1, rfl, rfl, ht6, atI_nat (j := 0) rfl, b, _, c.1, _, rfl, rfl, o6.1, g1, .ref t, rfl, t, _, 1, .int c.2, rfl, rfl, ht6, atI_nat (j := 1) rfl, tx row, c.2, at_ F c, rfl, rfl, by rw [tx_len, g2]; exact o.w_line, by rw [tx_cps]; exact g3, tx r, tx [at_ F c], rfl, rfl, by rw [tx_len, tx_len]; exact small_line (by show r.length + 1 ≤ _; omega), ?_⟩
      rw [tx_app]
      have lr1 : (r ++ [at_ F c]).length = i + 1 := by rw [List.length_append, lr]; rfl
      have hlr1 : ∀ c' ∈ r ++ [at_ F c], letter c' := fun c' hc' => by
        rcases List.mem_append.mp hc' with hc' | hc'
        · exact hlr c' hc'
        · rw [List.mem_singleton.mp hc']; exact hlc
      -- some
      refine ⟨.ref e, rfl, e, rfl, ⟨_, SqL.of he6⟩, lc_cel (K := K) (walk_list (xs := ys)) (small_line (by omega)) (fun u => beside c ((cellsL h w).getD u (0, 0)) && !decide ((cellsL h w).getD u (0, 0) ∈ gc ++ [c])) (fun u => (cellsL h w).getD u (0, 0)) (fun H' s' => s'.seq (SqL.of he6)) (fun D' u x9 H7o H7 Qe Qn nD hu s7 _ y qe qn => ?_) fun D' ds H7 nD s7 hD hd => ?_⟩
      · obtain ⟨rfl, hx9⟩ := y
        obtain ⟨c9, hc9, vc9⟩ := Paired.get hy6 hx9
        rw [getD_of hc9] at qe qn
        have le67 := TupLe.of s7
        refine ⟨rfl, .ref t, rfl, x9, rfl, .ref t, x9, c, c9, rfl, (vc.le le6).le le67, vc9.le le67, _, rfl, ?_⟩
        cases eb : beside c c9 with
        | false =>
          rw [eb] at qn
          exact iteF (iteF (qn _ rfl (Same.refl _)))
        | true =>
          rw [eb, Bool.true_and] at qe qn
          refine iteT ⟨x9, rfl, .ref g, rfl, _, _, (vc9.le le67).dp, cells_dp (SqL.of (s7 _ _ hg6)) (hgc6.le le67), (shp_cell _).ok, (shp_cells _).ok, _, rfl, ?_⟩
          rw [any_cells]
          cases en : (!decide (c9 ∈ gc ++ [c])) with
          | false => exact iteF (qn _ en (Same.refl _))
          | true => exact iteT ⟨x9, rfl, qe x9 _ en (Same.refl _) (vc9.le le67)⟩
      · -- if some == []
        have s67 := s6.trans s7
        refine ⟨.ref D', rfl, Nat.zero_le _, fun u nu => ?_⟩
        have su := same_new (o := .lst []) nu
        refine ⟨_, cellsD [], cells_dp (SqL.of (su _ _ hD)) (hd.le (TupLe.of su)), cells_dp (SqL.of upd_same) .nil, (shp_cells _).ok, (shp_cells _).ok, _, rfl, ?_⟩
        rw [eqv_cells]
        refine ite2 (fun _ => ?_) fun hne => ?_
        · exact ⟨tv (r ++ [at_ F c]), rfl, q _ _ (s67.trans su) (by omega) (by omega) hlr1⟩
        · have hne2 : (((List.range ys.length).filter fun u => beside c ((cellsL h w).getD u (0, 0)) && !decide ((cellsL h w).getD u (0, 0) ∈ gc ++ [c])).map fun u => (cellsL h w).getD u (0, 0)) ≠ [] := fun zz => hne (decide_eq_true zz)
          have ld : 1 ≤ ds.length := by rw [hd.length]; exact List.length_pos_iff.mpr hne2
          refine ⟨.ref D', rfl, .int z, rfl, .int (0 + i), rfl, 7, _, rfl, rfl, small_mul (lt30 (by decide) (by decide)) (lt30 (by omega) (by omega)), z, _, rfl, rfl, .int k, rfl, .int (0 + i), rfl, k, _, rfl, rfl, .ref D', rfl, D', _, rfl, .inl (SqL.of (su _ _ hD)), _, _, _, n + 21, rfl, big_add hz (by omega), by omega, by omega, by omega, by omega, fun z3 H8 a3 b3 s8 => ?_⟩
          have hz3 : z3.toNat < ds.length := by omega
          obtain ⟨c3, hc3, vc3⟩ := Paired.get hd (List.getElem?_eq_getElem hz3)
          have sfin := s7.trans (su.trans s8)
          refine ⟨D', _, z3, ds[z3.toNat], rfl, rfl, SqL.of (s8 _ _ (su _ _ hD)), at_of (j := z3.toNat) (by omega) (List.getElem?_eq_getElem hz3), ?_⟩
          refine ⟨hi, _, _, _, r ++ [at_ F c], gs ++ [.ref t], gc ++ [c], c3, rfl, fun b o n eb => sfin _ _ (kb6 b o n eb), sfin _ _ hg6, hgc6.le (TupLe.of sfin), by rw [List.length_append, lgc]; rfl, lr1, hlr1, ?_, vc3.le (TupLe.of (su.trans s8))⟩
          have hm3 := List.mem_of_getElem? hc3
          obtain ⟨u3, hu3, e3⟩ := List.mem_map.mp hm3
          have hu4 : u3 < (cellsL h w).length := by rw [← hy.length]; exact List.mem_range.mp (List.mem_filter.mp hu3).1
          rw [← e3, getD_of (List.getElem?_eq_getElem hu4)]
          exact List.getElem_mem hu4
    · obtain ⟨_, hv, y10, y11, r, gs, gc, c, rfl, kb, hg5, hgc, lgc, lr, hlr, hcm, vc⟩ := pv
      have s5 : Same H H5 := fun b o eb => kb b o (ne_of_none eb ngH) (sB b o eb)
      refine ⟨.int z, rfl, .int k, rfl, k, 6, rfl, rfl, z, k + 6, 3, n, rfl, hz, by omega, by omega, by omega, by decide, fun z4 H6 a4 b4 s6 => ⟨rfl, _, rfl, ite2 (fun _ => ?_) fun _ => ?_⟩⟩
      · refine ⟨tv r, rfl, 1, rfl, -1, rfl, tx r, rfl, by rw [tx_len]; exact small_line (by omega), .int z, rfl, .int k, rfl, k, 7, rfl, rfl, z, k + 7, 3, n, rfl, hz, by omega, by omega, by omega, by decide, fun z5 H7 a5 b5 s7 => ?_⟩
        obtain ⟨ch, hc1, hc2⟩ := abz_at a5 b5
        rw [cutS_last]
        refine ⟨tx abzL, z5, ch, rfl, rfl, by rw [tx_len]; exact small_line (by decide +kernel), by rw [tx_cps]; exact hc1, tx r.dropLast, tx [ch], rfl, rfl, by rw [tx_len, tx_len, List.length_dropLast]; exact small_line (by show r.length - 1 + 1 ≤ _; omega), ?_⟩
        rw [tx_app]
        refine ⟨tv (r.dropLast ++ [ch]), rfl, q H7 _ (s5.trans (s6.trans s7)) (by rw [List.length_append]; show 1 ≤ _ + 1; omega) (by rw [List.length_append, List.length_dropLast]; show ((r.length - 1 + 1 : Nat) : Int) ≤ m; omega) fun c' hc' => ?_⟩
        rcases List.mem_append.mp hc' with hc' | hc'
        · rw [List.dropLast_eq_take] at hc'; exact hlr c' (List.mem_of_mem_take hc')
        · rw [List.mem_singleton.mp hc']; exact hc2
      · exact ⟨tv r, rfl, q H6 r (s5.trans s6) (by omega) (by omega) hlr⟩
end
end Sk
namespace Sk
open PySem PySem.Spec PyProof.Rows L2 Sn
/-- what isinstance tells of the answers' classes -/
structure Kit (K : PySem.W.Frag) (CA CF CS : Addr) : Prop where
  G : KlG K
  FF : PySem.W.kitOne K (.ref CF) (.ref CF) = some true
  FS : PySem.W.kitOne K (.ref CF) (.ref CS) = some false
  FA : PySem.W.kitOne K (.ref CF) (.ref CA) = some true
  SF : PySem.W.kitOne K (.ref CS) (.ref CF) = some false
  SS : PySem.W.kitOne K (.ref CS) (.ref CS) = some true
  SA : PySem.W.kitOne K (.ref CS) (.ref CA) = some true
theorem cut_take (xs : List V) (n : Nat) : cutV xs none (some (n : Int)) = xs.take n := by
  unfold cutV
  rw [HT.sIx_none, HT.sIx_nat, List.drop_zero, Nat.sub_zero]
  by_cases hn : n ≤ xs.length
  · rw [Nat.min_eq_left hn]
  · rw [Nat.min_eq_right (by omega), List.take_length, List.take_of_length_le (by omega)]
theorem nodup_take (cs : List Cel) : ((List.range cs.length).any fun i => decide (cs.getD i (0, 0) ∈ cs.take i)) = !decide cs.Nodup := by
  by_cases h : cs.Nodup
  · rw [decide_eq_true h, Bool.not_true, List.any_eq_false]
    intro i hi
    have hi2 : i < cs.length := List.mem_range.mp hi
    rw [getD_of (List.getElem?_eq_getElem hi2)]
    intro z
    have z2 := of_decide_eq_true z
    obtain ⟨j, hj, e⟩ := List.mem_iff_getElem.mp z2
    rw [List.length_take] at hj
    rw [List.getElem_take] at e
    have := (List.getElem_inj h).mp e
    omega
  · rw [decide_eq_false h, Bool.not_false, List.any_eq_true]
    apply Classical.byContradiction
    intro hn
    apply h
    unfold List.Nodup
    rw [List.pairwise_iff_getElem]
    intro i j hi hj hij e
    apply hn
    refine ⟨j, List.mem_range.mpr hj, ?_⟩
    rw [getD_of (List.getElem?_eq_getElem hj)]
    apply decide_eq_true
    rw [← e]
    refine List.mem_iff_getElem.mpr ⟨i, by rw [List.length_take]; omega, ?_⟩
    rw [List.getElem_take]
section
variable {P : Program} {wl : World} {K : PySem.W.Frag} {mg : Str → Option Value} {base : Heap} {C_Answer C_Found C_Stops : Addr}
theorem ok_law_whole (D : Dfn K mg "_law_whole" s__law_whole) (B : Bi mg) : Cal P wl K mg base CX0 1 "_law_whole" ["_law_found"] (spIsWhole K) := by
  refine D.cal sc__law_whole bn__law_whole (fun vs H Q E h => ?_) (fun f cdv A outer s H vs Q E hr h => ?_)
  · obtain ⟨x, t, b, c, rfl, _⟩ := h
    rfl
  · obtain ⟨x, t, b, c, rfl, ty, k1, k2, q⟩ := h
    refine ⟨_, (pss_one (ps_ret (pe_and (pe_callB (isiK K) (by rfl) B.isinstance (by decide +kernel) (pa_cons (pv 0) (pa_cons (pe_bltn (v := .ty "int") (by rfl) B.int (by decide +kernel) rfl) pa_nil))) (pe_one (pe_not (pe_callB (isiK K) (by rfl) B.isinstance (by decide +kernel) (pa_cons (pv 0) (pa_cons (pe_bltn (v := .ty "bool") (by rfl) B.bool (by decide +kernel) rfl) pa_nil)))))))), ?_⟩
    refine ⟨x, rfl, x, .ty "int", t, _, b, rfl, .ty "int", ty, k1, b, rfl, ?_⟩
    cases b with
    | false => exact iteF q
    | true => exact iteT ⟨x, rfl, x, .ty "bool", t, _, c, rfl, .ty "bool", ty, k2, c, rfl, q⟩
end
end Sk
namespace Sk
open PySem PySem.Spec PyProof.Rows L2 Sn
theorem rgC_up {j c : Int} (hj : 0 ≤ j) (hj2 : j ≤ 1000000) (hc : 0 < c) (hc2 : c ≤ 1000000) : ∃ n : Nat, RgC 0 j c n ∧ ∀ i : Nat, i < n → (i : Int) * c < j := by
  by_cases h0 : j = 0
  · subst h0
    refine ⟨0, ⟨by omega, by omega, ?_, ?_⟩, fun i hi => by omega⟩
    · unfold Builtin.Range.small Builtin.Range.rangeSize
      simp only [Builtin.Range.rangeFitsLong, Bool.and_eq_true, Bool.or_eq_true, decide_eq_true_eq, beq_iff_eq, if_pos hc, show ¬ ((0 : Int) < 0) by decide, if_false]
      omega
    · unfold Builtin.Range.rangeSize
      rw [if_pos hc, if_neg (by omega)]; rfl
  · have hq : 0 ≤ (j - 0 - 1) / c := Int.ediv_nonneg (by omega) (by omega)
    refine ⟨((j - 0 - 1) / c + 1).toNat, ⟨by omega, by omega, ?_, ?_⟩, fun i hi => ?_⟩
    · have h3 : (j - 0 - 1) / c ≤ j - 0 - 1 := Int.ediv_le_self _ (by omega)
      unfold Builtin.Range.small Builtin.Range.rangeSize
      simp only [Builtin.Range.rangeFitsLong, Bool.and_eq_true, Bool.or_eq_true, decide_eq_true_eq, beq_iff_eq, if_pos hc, if_pos (show (0 : Int) < j by omega)]
      omega
    · unfold Builtin.Range.rangeSize
      rw [if_pos hc, if_pos (by omega)]
      omega
    · have h1 : (i : Int) ≤ (j - 0 - 1) / c := by omega
      have h2 : (i : Int) * c ≤ (j - 0 - 1) / c * c := Int.mul_le_mul_of_nonneg_right h1 (by omega)
      have h3 : (j - 0 - 1) / c * c ≤ j - 0 - 1 := Int.ediv_mul_le _ (by omega)
      omega
theorem at_last {xs : List V} {v : V} (h0 : 0 < xs.length) (h : xs[xs.length - 1]? = some v) : atI xs (-1) = some v := by
  unfold atI ixN
  rw [if_neg (by decide), if_pos (by omega)]
  show xs[(-1 + (xs.length : Int)).toNat]? = some v
  rw [← h]
  congr 1
  omega
def spNRight (K : PySem.W.Frag) : Sp := fun vs H Q _ => ∃ a F h w wd, vs = [.ref a, tv wd] ∧ FieldAt K H a F h w ∧ WordOk wd ∧ ∀ H', Same H H' → Q (.bl true) H'
section
variable {P : Program} {wl : World} {K : PySem.W.Frag} {mg : Str → Option Value} {base : Heap}
theorem ok_law_right (D : Dfn K mg "_law_right" s__law_right) (B : Bi mg)
    (c_law_snakes : Cal P wl K mg base CX0 2 "_law_snakes" ["_law_field_here", "_law_word_here"] (spLSnakes K)) (c_how_many : Cal P wl K mg base CX0 10 "how_many" ["field", "word"] (spHowMany K)) (c_by_number : Cal P wl K mg base CX0 10 "by_number" ["field", "word", "number"] (spByNumber K)) (c_number_of : Cal P wl K mg base CX0 10 "number_of" ["field", "cells"] (spNumberOf K))
    (c_law_whole : Cal P wl K mg base CX0 1 "_law_whole" ["_law_found"] (spIsWhole K)) (c_law_barred : Cal P wl K mg base CX0 11 "_law_barred" ["_law_field_here", "_law_word_here", "_law_number_here"] (spBarred K)) :
    CalG P wl K mg base CX0 12 "_law_right" ["_law_whole_here", "_law_word_here"] (spNRight K) := by
  refine D.calG sc__law_right bn__law_right (fun vs H Q E h => ?_) (fun f cdv A outer s H vs Q E hr gd h => ?_)
  · obtain ⟨a, F, h, w, wd, rfl, _⟩ := h
    rfl
  · obtain ⟨a, F, h, w, wd, rfl, o, ow, q⟩ := h
    refine ⟨_, (pss_cons (ps_set (i := 2) sc__law_right.nd rfl (.inl rfl) (pe_callTy (listOf K) (by rfl) B.list (by decide +kernel) (pa_cons (pv 0) pa_nil)))
 (pss_cons (ps_par (i := 3) (j := 4) (by rfl) sc__law_right.nd rfl rfl (by decide) rfl rfl (pa_cons (pcall c_law_snakes (hr.mono (by omega)) (by rfl) pass0 (pa_cons (pv 2) (pa_cons (pv 1) pa_nil))) (pa_cons (pcall c_how_many (hr.mono (by omega)) (by rfl) pass0 (pa_cons (pv 2) (pa_cons (pv 1) pa_nil))) pa_nil)) (by rfl))
 (pss_cons (ps_if (PW.pt (pw_or (pt_not (pt_val (pcall c_law_whole (hr.mono (by omega)) (by rfl) pass0 (pa_cons (pv 4) pa_nil)))) (pw_or (pt_cmpR op_ne (pv 4) (pe_callB (lenSq K) (by rfl) B.len PySem.boot_len (pa_cons (pv 3) pa_nil)) (nomark _)) (pw_or1 (pt_not (pt_val (pcall c_law_barred (hr.mono (by omega)) (by rfl) pass0 (pa_cons (pv 2) (pa_cons (pv 1) (pa_cons (pv 4) pa_nil))))))))))
 (pss_one (ps_ret pe_bl)) pss_nil)
 (pss_cons (ps_for PassesOwn.never rfl (pi_range3 (by rfl) B.range (pa_cons pe_int (pa_cons (pv 4) (pa_cons (pe_op op_add pe_int (pe_op op_fdiv (pv 4) pe_int)) pa_nil)))) (pg_name (i := 5) sc__law_right.nd rfl (.inl rfl))
 (pss_cons (ps_set (i := 6) sc__law_right.nd rfl (.inl rfl) (pcall c_by_number (hr.mono (by omega)) (by rfl) pass0 (pa_cons (pv 2) (pa_cons (pv 1) (pa_cons (pv 5) pa_nil)))))
 (pss_cons (ps_if (PW.pt (pw_or (pt_not (pt_val (pe_callB (isiK K) (by rfl) B.isinstance (by decide +kernel) (pa_cons (pv 6) (pa_cons (pe_bltn (v := .ty "list") (by rfl) B.list (by decide +kernel) rfl) pa_nil))))) (pw_or1 (pt_cmpR (neDK K hr.units) (pv 6) (pe_ix (ixL K) (pv 3) (pv 5) (fun _ _ => rfl)) (nomark _)))))
 (pss_one (ps_ret pe_bl)) pss_nil)
 (pss_cons (ps_set (i := 7) sc__law_right.nd rfl (.inl rfl) (pe_callTy (listOf K) (by rfl) B.list (by decide +kernel) (pa_cons (pv 6) pa_nil)))
 (pss_cons (ps_set (i := 8) sc__law_right.nd rfl (.inl rfl) (pcall c_number_of (hr.mono (by omega)) (by rfl) pass0 (pa_cons (pv 2) (pa_cons (pv 7) pa_nil))))
 (pss_cons (ps_if (PW.pt (pw_or (pt_not (pt_val (pcall c_law_whole (hr.mono (by omega)) (by rfl) pass0 (pa_cons (pv 8) pa_nil)))) (pw_or (pt_cmpR op_ne (pv 8) (pv 5) (nomark _)) (pw_or1 (pt_cmpR (neDK K hr.units) (pv 7) (pv 6) (nomark _))))))
 (pss_one (ps_ret pe_bl)) pss_nil)
 (pss_cons (ps_expr (pe_bm PySem.F.plainAttrs_list PySem.F.slot_list_append PySem.F.type_list_append mt_append (pv 6) (pa_cons (lit_tup K (lits_cons K (lit_int K) (lits_cons K (lit_int K) (lits_nil K)))) pa_nil)))
 (pss_one (ps_if (pt_cmpR (neDK K hr.units) (pcall c_by_number (hr.mono (by omega)) (by rfl) pass0 (pa_cons (pv 2) (pa_cons (pv 1) (pa_cons (pv 5) pa_nil)))) (pe_slice (slL K) (pv 6) po_none (po_some (pe_un un_neg pe_int))) (nomark _))
 (pss_one (ps_ret pe_bl)) pss_nil)))))))))
 (pss_cons (ps_if (PW.pt (pw_and (pt_cmpR op_gt (pv 4) pe_int (nomark _)) (pw_and1 (pt_cmpR op_ne (pe_callTy (call_strD gd hr) (by rfl) B.str (by decide +kernel) (pa_cons (pcall c_by_number (hr.mono (by omega)) (by rfl) pass0 (pa_cons (pv 2) (pa_cons (pv 1) (pa_cons (pe_op op_sub (pv 4) pe_int) pa_nil)))) pa_nil)) (pe_callTy (call_strD gd hr) (by rfl) B.str (by decide +kernel) (pa_cons (pe_ix (ixL K) (pv 3) (pe_un un_neg pe_int) (fun _ _ => rfl)) pa_nil)) (nomark _)))))
 (pss_one (ps_ret pe_bl)) pss_nil)
 (pss_one (ps_ret (pe_cmpR (eqDK K hr.units) (pv 2) (pv 0) (nomark _))))))))), ?_⟩
    have h5 := o.2.h5
    have w5 := o.2.w5
    have l6 := ow.l6
    have l1 := ow.l1
    refine ⟨.ref a, rfl, a, _, rfl, .inl o.1, fun L nL => ?_⟩
    have sL := same_new (o := .lst (F.map tv)) nL
    have hL : upd H L (.lst (F.map tv)) L = some (.lst (F.map tv)) := upd_same
    refine ⟨.ref L, rfl, tv wd, rfl, L, F, h, w, wd, rfl, ⟨SqL.of hL, o.2⟩, l6, fun H1 e ys s1 ne he hy => ?_⟩
    refine ⟨.ref L, rfl, tv wd, rfl, L, F, h, w, wd, rfl, ⟨SqL.of (s1 _ _ hL), o.2⟩, ow, fun H2 s2 => ?_⟩
    refine ⟨_, _, rfl, ?_⟩
    have lys : ys.length = (snakesOn F h w wd []).length := hy.length
    have tot : (snakesOn F h w wd []).length ≤ 1000000 := snakes_len h5 w5 (vld_nil h w) l6
    have hL2 := s2 _ _ (s1 _ _ hL)
    have he2 := s2 _ _ he
    have hy2 := Snks.same hy s2
    refine ⟨.int _, rfl, .int _, .type "int", true, false, rfl, .base (.int _), kit_ty (by decide +kernel), kit_ty (by decide +kernel), true, rfl, iteF ?_⟩
    refine ⟨.int _, rfl, .ref e, rfl, e, ys, rfl, .inl (SqL.of he2), rfl, _, rfl, ?_⟩
    rw [lys, decide_eq_true rfl]
    refine iteF ?_
    refine ⟨.ref L, rfl, tv wd, rfl, .int _, rfl, L, F, h, w, wd, rfl, ⟨SqL.of hL2, o.2⟩, ow, fun H3 s3 => ⟨true, rfl, iteF ?_⟩⟩
    have hL3 := s3 _ _ hL2
    have he3 := s3 _ _ he2
    have hy3 := Snks.same hy2 s3
    have sb : Same H H3 := sL.trans (s1.trans (s2.trans s3))
    generalize hN : (snakesOn F h w wd []).length = N at tot lys ⊢
    have hdiv : (N : Int) / 6 ≤ 1000000 - 1 := by omega
    have hdiv0 : 0 ≤ (N : Int) / 6 := by omega
    obtain ⟨n, hrg, hlt⟩ := rgC_up (j := (N : Int)) (c := 1 + (N : Int) / 6) (by omega) (by omega) (by omega) (by omega)
    refine ⟨.int N, rfl, .int N, rfl, _, 6, rfl, rfl, ⟨by decide, by decide⟩, 1, _, rfl, rfl, 0, _, _, n, rfl, hrg, ?_⟩
    refine for_it walk_rangeC (fun i σ H' => Same H3 H' ∧ ∃ y5 y6 y7 y8, σ = [some (.ref a), some (tv wd), some (.ref L), some (.ref e), some (.int N), y5, y6, y7, y8])
      ⟨Same.refl _, none, none, none, none, rfl⟩ (fun _ _ _ _ _ => trivial) (fun i x σ H4o H4 hi pv y => ?_) fun σ H4 pv => ?_
    · obtain ⟨rfl, rfl⟩ := y
      obtain ⟨s4, y5, y6, y7, y8, rfl⟩ := pv
      have hlt2 := hlt i hi
      have hnn : (0 : Int) ≤ (i : Int) * (1 + (N : Int) / 6) := Int.mul_nonneg (by omega) (by omega)
      obtain ⟨j, hj⟩ : ∃ j : Nat, (0 + (i : Nat) * (1 + (N : Int) / 6) : Int) = (j : Int) := ⟨((i : Int) * (1 + (N : Int) / 6)).toNat, by omega⟩
      have hjN : j < (snakesOn F h w wd []).length := by omega
      simp only [hj]
      have sH4 := sb.trans s4
      have hL4 := s4 _ _ hL3
      have he4 := s4 _ _ he3
      have hy4 := Snks.same hy3 s4
      obtain ⟨sn, hsn⟩ : ∃ sn, (snakesOn F h w wd [])[j]? = some sn := ⟨_, List.getElem?_eq_getElem hjN⟩
      have hm := snakes_mem h5 w5 (List.mem_of_getElem? hsn)
      have lsn : sn.length = wd.length := by have := congrArg List.length hm.2; simpa [spell] using this
      refine ⟨.ref L, rfl, tv wd, rfl, .int j, rfl, L, F, h, w, wd, j, sn, rfl, ⟨SqL.of hL4, o.2⟩, ow, hsn, fun H5 p zs s5 np hp hz => ?_⟩
      obtain ⟨vj, gj, qj, xsj, rfl, _, hqj, hcj⟩ := Paired.get' (Snks.same hy4 s5) hsn
      refine ⟨.ref p, rfl, .ref p, .ty "list", .type "list", _, true, rfl, .ty "list", tyx_list (SqL.of hp), kit_ty (by decide +kernel), true, rfl, iteF ?_⟩
      refine ⟨.ref p, rfl, .ref e, rfl, .int j, rfl, e, ys, j, .ref qj, rfl, rfl, SqL.of (s5 _ _ he4), atI_nat gj, _, _, cells_dp (SqL.of hp) hz, cells_dp (SqL.of hqj) hcj, (shp_cells _).ok, (shp_cells _).ok, _, rfl, ?_⟩
      rw [eqv_cells, decide_eq_true rfl]
      refine iteF ?_
      -- handed
      refine ⟨.ref p, rfl, p, _, rfl, .inl (SqL.of hp), fun hd nhd => ?_⟩
      have shd := same_new (o := .lst zs) nhd
      have hhd : upd H5 hd (.lst zs) hd = some (.lst zs) := upd_same
      have s45 := s5.trans shd
      have hzd := hz.le (TupLe.of shd)
      refine ⟨.ref L, rfl, .ref hd, rfl, L, F, h, w, hd, zs, sn, j, rfl, ⟨SqL.of (s45 _ _ hL4), o.2⟩, SqL.of hhd, hzd, fun z => by rw [z] at lsn; simp only [List.length_nil] at lsn; omega, by omega, by rw [hm.2]; exact hsn, fun H6 s6 => ?_⟩
      have hp6 := s6 _ _ (shd _ _ hp)
      have hz6 := hzd.le (TupLe.of s6)
      refine ⟨.int j, rfl, .int j, .type "int", true, false, rfl, .base (.int _), kit_ty (by decide +kernel), kit_ty (by decide +kernel), true, rfl, iteF ?_⟩
      refine ⟨.int j, rfl, .int j, rfl, rfl, _, rfl, ?_⟩
      rw [decide_eq_true rfl]
      refine iteF ?_
      refine ⟨.ref hd, rfl, .ref p, rfl, _, _, cells_dp (SqL.of (s6 _ _ hhd)) hz6, cells_dp (SqL.of hp6) hz6, (shp_cells _).ok, (shp_cells _).ok, _, rfl, ?_⟩
      rw [eqv_cells, decide_eq_true rfl]
      refine iteF ?_
      -- cells.append((9, 9))
      refine ⟨.ref p, rfl, .inl ⟨rfl, _, SqL.of hp6⟩, fun v7 H7 s7 d7 => ⟨p, zs, v7, rfl, rfl, s7 _ _ hp6, by rw [hz.length]; exact small1000 (by omega), ?_⟩⟩
      have s47 : Same H4 (upd H7 p (.lst (zs ++ [v7]))) := same_upd (s45.trans (s6.trans s7)) np
      have hz8 := (hz6.le (TupLe.of s7)).le (TupLe.upd (o := .lst (zs ++ [v7])) (s7 _ _ hp6) (TupLe.refl _))
      refine ⟨.ref L, rfl, tv wd, rfl, .int j, rfl, L, F, h, w, wd, j, sn, rfl, ⟨SqL.of (s47 _ _ hL4), o.2⟩, ow, hsn, fun H9 p9 zs9 s9 np9 hp9 hz9 => ?_⟩
      refine ⟨.ref p, rfl, 1, rfl, -1, rfl, p, _, rfl, SqL.of (s9 _ _ upd_same), fun c1 nc1 => ?_⟩
      rw [cut_last]
      have sc1 := same_new (o := .lst zs) nc1
      refine ⟨_, _, cells_dp (SqL.of (sc1 _ _ hp9)) (hz9.le (TupLe.of sc1)), cells_dp (SqL.of upd_same) (hz8.le (TupLe.of (s9.trans sc1))), (shp_cells _).ok, (shp_cells _).ok, _, rfl, ?_⟩
      rw [eqv_cells, decide_eq_true rfl]
      exact iteF ⟨s4.trans (s47.trans (s9.trans sc1)), _, _, _, _, rfl⟩
    · obtain ⟨s4, y5, y6, y7, y8, rfl⟩ := pv
      have hL4 := s4 _ _ hL3
      have he4 := s4 _ _ he3
      have hy4 := Snks.same hy3 s4
      have hs4 := sb.trans s4
      by_cases hN0 : N = 0
      · refine ⟨.int N, rfl, N, 0, rfl, rfl, _, rfl, ?_⟩
        rw [decide_eq_false (show ¬ ((N : Int) > 0) by omega)]
        refine iteF (iteF ⟨.ref L, rfl, .ref a, rfl, _, _, texts_dp (SqL.of hL4), texts_dp (hs4.seq o.1), (shp_field o.2).ok, (shp_field o.2).ok, ?_⟩)
        rw [eqv_texts, decide_eq_true rfl]
        exact q _ hs4
      · refine ⟨.int N, rfl, N, 0, rfl, rfl, _, rfl, ?_⟩
        rw [decide_eq_true (show (N : Int) > 0 by omega)]
        have hjN : N - 1 < (snakesOn F h w wd []).length := by omega
        obtain ⟨sn, hsn⟩ : ∃ sn, (snakesOn F h w wd [])[N - 1]? = some sn := ⟨_, List.getElem?_eq_getElem hjN⟩
        have hm := snakes_mem h5 w5 (List.mem_of_getElem? hsn)
        have lsn : sn.length = wd.length := by have := congrArg List.length hm.2; simpa [spell] using this
        have shw := shw_cells (cs := sn) (fun d hd => by have := mem_cellsL.mp (hm.1.vld d hd); omega) (by omega)
        obtain ⟨k1, k2, k3, k4⟩ := str_asks shw (shp_cells _)
        refine iteT ⟨.ref L, rfl, tv wd, rfl, .int N, rfl, N, 1, rfl, rfl, L, F, h, w, wd, N - 1, sn, by show [V.ref L, tv wd, V.int ((N : Int) - 1)] = _; rw [show ((N : Int) - 1) = ((N - 1 : Nat) : Int) by omega], ⟨SqL.of hL4, o.2⟩, ow, hsn, fun H5 p zs s5 np hp hz => ?_⟩
        obtain ⟨vj, gj, qj, xsj, rfl, _, hqj, hcj⟩ := Paired.get' (Snks.same hy4 s5) hsn
        refine ⟨p, _, rfl, cells_dp (SqL.of hp) hz, k1, k2, k3, k4, .ref e, rfl, 1, rfl, e, ys, -1, .ref qj, rfl, rfl, SqL.of (s5 _ _ he4), at_last (by omega) (by rw [lys]; exact gj), qj, _, rfl, cells_dp (SqL.of hqj) hcj, k1, k2, k3, k4, rfl, _, rfl, ?_⟩
        rw [decide_eq_true rfl]
        have hs5 := hs4.trans s5
        refine iteF ⟨.ref L, rfl, .ref a, rfl, _, _, texts_dp (SqL.of (s5 _ _ hL4)), texts_dp (hs5.seq o.1), (shp_field o.2).ok, (shp_field o.2).ok, ?_⟩
        rw [eqv_texts, decide_eq_true rfl]
        exact q _ hs5
end
end Sk
namespace Sk
open PySem PySem.Spec PyProof.Rows L2 Sn
def F5 : List (List Nat) := [[97,97,97,97,97],[97,97,97,97,97],[97,97,97,97,97],[97,97,97,97,97],[97,97,97,97,97]]
def wA (i : Nat) : List Nat := List.replicate (i + 1) 97
theorem n5_1 : (snakesOn F5 5 5 (wA 0) []).length = 25 := by decide +kernel
theorem n5_2 : (snakesOn F5 5 5 (wA 1) []).length = 144 := by decide +kernel
theorem n5_3 : (snakesOn F5 5 5 (wA 2) []).length = 768 := by decide +kernel
theorem n5_4 : (snakesOn F5 5 5 (wA 3) []).length = 3768 := by decide +kernel
theorem n5_a : (snakesOn F5 5 5 [97, 97, 97, 97] [])[0]? = some [(0, 0), (0, 1), (0, 2), (0, 3)] := by decide +kernel
theorem n5_b : (snakesOn F5 5 5 [97, 97, 97, 97] [])[3767]? = some [(4, 4), (4, 3), (4, 2), (4, 1)] := by decide +kernel
def spOneLetter : Sp := fun vs H Q _ => vs = [] ∧ ∀ H', Same H H' → Q (.bl true) H'
section
variable {P : Program} {wl : World} {K : PySem.W.Frag} {mg : Str → Option Value} {base : Heap}
theorem ok_law_one_letter (D : Dfn K mg "_law_one_letter" s__law_one_letter) (B : Bi mg)
    (c_how_many : Cal P wl K mg base CX0 10 "how_many" ["field", "word"] (spHowMany K)) (c_by_number : Cal P wl K mg base CX0 10 "by_number" ["field", "word", "number"] (spByNumber K)) :
    Cal P wl K mg base CX0 11 "_law_one_letter" [] spOneLetter := by
  refine D.cal sc__law_one_letter bn__law_one_letter (fun vs H Q E h => ?_) (fun f cdv A outer s H vs Q E hr h => ?_)
  · obtain ⟨rfl, _⟩ := h
    rfl
  · obtain ⟨rfl, q⟩ := h
    refine ⟨_, (pss_cons (ps_set (i := 0) sc__law_one_letter.nd rfl (.inr rfl) (pe_op op_rep (pe_lst (pa_cons pe_str pa_nil)) pe_int))
 (pss_cons (ps_if (pt_cmpR (neDK K hr.units) (pe_lc (own := [("_law_many", 1)]) (g := gName 1) (tt := tYes) (by rfl) sc__law_one_letter.nd (piT K (lit_tup K (lits_cons K (lit_int K) (lits_cons K (lit_int K) (lits_cons K (lit_int K) (lits_cons K (lit_int K) (lits_nil K))))))) (blkOk_by (own := [("_law_many", 1)]) (N := ["_law_field_here", "_law_many"]) (sc := defScope s__law_one_letter) (by decide +kernel)) (fun _ _ _ _ _ => (pg_name (i := 1) sc__law_one_letter.nd rfl (Or.inl rfl))) (fun _ _ _ _ _ => pts_nil) (fun _ _ _ _ _ => (pcall c_how_many (hr.mono (by omega)) (by rfl) pass0 (pa_cons (pv 0) (pa_cons (pe_op op_repN pe_str (pv 1)) pa_nil))))) (lit_list K (lits_cons K (lit_int K) (lits_cons K (lit_int K) (lits_cons K (lit_int K) (lits_cons K (lit_int K) (lits_nil K)))))) (nomark _))
 (pss_one (ps_ret pe_bl)) pss_nil)
 (pss_cons (ps_if (pt_cmpR (neDK K hr.units) (pcall c_by_number (hr.mono (by omega)) (by rfl) pass0 (pa_cons (pv 0) (pa_cons pe_str (pa_cons pe_int pa_nil)))) (lit_list K (lits_cons K (lit_tup K (lits_cons K (lit_int K) (lits_cons K (lit_int K) (lits_nil K)))) (lits_cons K (lit_tup K (lits_cons K (lit_int K) (lits_cons K (lit_int K) (lits_nil K)))) (lits_cons K (lit_tup K (lits_cons K (lit_int K) (lits_cons K (lit_int K) (lits_nil K)))) (lits_cons K (lit_tup K (lits_cons K (lit_int K) (lits_cons K (lit_int K) (lits_nil K)))) (lits_nil K)))))) (nomark _))
 (pss_one (ps_ret pe_bl)) pss_nil)
 (pss_one (ps_ret (pe_cmpR (eqDK K hr.units) (pcall c_by_number (hr.mono (by omega)) (by rfl) pass0 (pa_cons (pv 0) (pa_cons pe_str (pa_cons pe_int pa_nil)))) (lit_list K (lits_cons K (lit_tup K (lits_cons K (lit_int K) (lits_cons K (lit_int K) (lits_nil K)))) (lits_cons K (lit_tup K (lits_cons K (lit_int K) (lits_cons K (lit_int K) (lits_nil K)))) (lits_cons K (lit_tup K (lits_cons K (lit_int K) (lits_cons K (lit_int K) (lits_nil K)))) (lits_cons K (lit_tup K (lits_cons K (lit_int K) (lits_cons K (lit_int K) (lits_nil K)))) (lits_nil K)))))) (nomark _))))))), ?_⟩
    have ok5 : FieldOk F5 5 5 := fieldB_ok (by decide +kernel)
    have ow4 : WordOk [97, 97, 97, 97] := wordB_ok (by decide +kernel)
    refine ⟨by show 1 ≤ sizeLine; decide, fun u nu => ⟨u, 5, [.str "aaaaa"], rfl, rfl, upd_same, by decide, by decide, by show 5 ≤ sizeLine; decide, fun p np => ?_⟩⟩
    have su := same_new (o := .lst [.str "aaaaa"]) nu
    have sp := same_new (o := .lst (F5.map tv)) np
    have hp : upd (upd H u (.lst [.str "aaaaa"])) p (.lst (F5.map tv)) p = some (.lst (F5.map tv)) := upd_same
    have s0 := su.trans sp
    refine fun vt Ht st dt => ?_
    obtain ⟨tw, rfl, hw⟩ := dp_tup_ints (is := [1, 2, 3, 4]) dt
    have hpt := st _ _ hp
    refine ⟨tw, rfl, ⟨_, hw⟩, lc_val (walk_tup (xs := [1, 2, 3, 4].map V.int)) (small_line (by show 4 ≤ 1000000; decide)) (fun i => .int ((snakesOn F5 5 5 (wA i) []).length : Nat)) (fun H' s' => Same.sqt s' hw) (fun D' i x H3o H3 Qe nD hi s3 _ y qe => ?_) fun D2 H3 nD2 s3 hD2 => ?_⟩
    · obtain ⟨rfl, hx⟩ := y
      have hi4 : i < 4 := hi
      have ex : x = .int ((i + 1 : Nat) : Int) := by
        match i, hi4, hx with
        | 0, _, h => exact (Option.some.inj h).symm
        | 1, _, h => exact (Option.some.inj h).symm
        | 2, _, h => exact (Option.some.inj h).symm
        | 3, _, h => exact (Option.some.inj h).symm
      subst ex
      refine ⟨rfl, .ref p, rfl, .int ((i + 1 : Nat) : Int), rfl, tx [97], i + 1, rfl, rfl, by omega, by omega, by decide, by decide, ?_⟩
      have er : repS (tx [97]) (i + 1) = tx (wA i) := by
        rw [repS_tx]
        unfold wA
        congr 1
        match i, hi4 with
        | 0, _ => rfl
        | 1, _ => rfl
        | 2, _ => rfl
        | 3, _ => rfl
      rw [er]
      refine ⟨p, F5, 5, 5, wA i, rfl, ⟨SqL.of (s3 _ _ hpt), ok5⟩, ⟨by simp [wA], by simp [wA]; omega, fun c hc => ?_⟩, fun H4 s4 => qe _ s4⟩
      rw [List.eq_of_mem_replicate hc]
      exact ow4.let_ 97 (by decide)
    have eD2 : ((List.range ([1, 2, 3, 4].map V.int).length).map fun i => V.int ((snakesOn F5 5 5 (wA i) []).length : Nat)) = [.int 25, .int 144, .int 768, .int 3768] := by
      show [V.int ((snakesOn F5 5 5 (wA 0) []).length : Nat), V.int ((snakesOn F5 5 5 (wA 1) []).length : Nat), V.int ((snakesOn F5 5 5 (wA 2) []).length : Nat), V.int ((snakesOn F5 5 5 (wA 3) []).length : Nat)] = _
      rw [n5_1, n5_2, n5_3, n5_4]
      rfl
    rw [eD2] at hD2
    refine fun v4 H4 s4 d4 => ?_
    refine ⟨.list [.int 25, .int 144, .int 768, .int 3768], _, .lst (SqL.of (s4 _ _ hD2)) (.cons (.int _) (.cons (.int _) (.cons (.int _) (.cons (.int _) .nil)))), d4, by decide +kernel, by decide +kernel, false, by decide +kernel, iteF ?_⟩
    have sp4 := st.trans (s3.trans s4)
    refine ⟨.ref p, rfl, p, F5, 5, 5, [97, 97, 97, 97], 0, _, rfl, ⟨SqL.of (sp4 _ _ hp), ok5⟩, ow4, n5_a, fun H5 q5 z5 s5 nq5 hq5 hz5 => ?_⟩
    refine fun v6 H6 s6 d6 => ?_
    refine ⟨_, _, cells_dp (SqL.of (s6 _ _ hq5)) (hz5.le (TupLe.of s6)), d6, by decide +kernel, by decide +kernel, false, by decide +kernel, iteF ?_⟩
    have sp6 := sp4.trans (s5.trans s6)
    refine ⟨.ref p, rfl, p, F5, 5, 5, [97, 97, 97, 97], 3767, _, rfl, ⟨SqL.of (sp6 _ _ hp), ok5⟩, ow4, n5_b, fun H7 q7 z7 s7 nq7 hq7 hz7 => ?_⟩
    refine fun v8 H8 s8 d8 => ?_
    refine ⟨_, _, cells_dp (SqL.of (s8 _ _ hq7)) (hz7.le (TupLe.of s8)), d8, by decide +kernel, by decide +kernel, ?_⟩
    have e8 : PyData.eqv (cellsD [(4, 4), (4, 3), (4, 2), (4, 1)]) (.list [.tuple [.int 4, .int 4], .tuple [.int 4, .int 3], .tuple [.int 4, .int 2], .tuple [.int 4, .int 1]]) = true := by decide +kernel
    rw [e8]
    exact q _ (s0.trans (sp6.trans (s7.trans s8)))
end
end Sk
namespace Sk
open PySem PySem.Spec PyProof.Rows L2 Sn
theorem cutS5 (r : List Nat) : cutS (tx r) none (some 5) = tx (r.take 5) := cutS_takeL r 5
def fAB (i : Nat) : List (List Nat) := [[[97, 98]], [[97, 98], [97, 98]], [[97, 98], [98, 97]], [[97, 98], [99, 100]]].getD i []
def hAB (i : Nat) : Nat := if i = 0 then 1 else 2
section
variable {P : Program} {wl : World} {K : PySem.W.Frag} {mg : Str → Option Value} {base : Heap}
theorem ok_law (D : Dfn K mg "law" s_law) (B : Bi mg)
    (c_law_field : Cal P wl K mg base CX0 3 "_law_field" ["_law_script", "_law_by", "_law_most"] (spField K))
    (c_law_broad : Cal P wl K mg base CX0 3 "_law_broad" ["_law_script", "_law_by"] (spBroad K))
    (c_law_word : Cal P wl K mg base CX0 3 "_law_word" ["_law_script", "_law_by", "_law_field_here", "_law_most"] (spLWord K))
    (c_law_right : CalG P wl K mg base CX0 12 "_law_right" ["_law_whole_here", "_law_word_here"] (spNRight K))
    (c_how_many : Cal P wl K mg base CX0 10 "how_many" ["field", "word"] (spHowMany K)) (c_law_one_letter : Cal P wl K mg base CX0 11 "_law_one_letter" [] spOneLetter) :
    CalG P wl K mg base CX0 13 "law" ["_law_script"] (spLaw K) := by
  refine D.calG sc_law bn_law (fun vs H Q E h => ?_) (fun f cdv A outer s H vs Q E hr gd h => ?_)
  · obtain ⟨a, ns, n, rfl, _⟩ := h
    rfl
  · obtain ⟨a, ns, n, rfl, hs, hb, hn, hlen, q⟩ := h
    refine ⟨_, (pss_cons (ps_for PassesOwn.never rfl (pi_range3 (by rfl) B.range (pa_cons pe_int (pa_cons (pe_callB (call_max2 rfl) (by rfl) B.max (by decide +kernel) (pa_cons pe_int (pa_cons (pe_callB (call_min2 rfl) (by rfl) B.min (by decide +kernel) (pa_cons pe_int (pa_cons (pe_callB (lenSq K) (by rfl) B.len PySem.boot_len (pa_cons (pv 0) pa_nil)) pa_nil))) pa_nil))) (pa_cons pe_int pa_nil)))) (pg_name (i := 1) sc_law.nd rfl (.inl rfl))
 (pss_cons (ps_set (i := 2) sc_law.nd rfl (.inl rfl) (pcall c_law_field (hr.mono (by omega)) (by rfl) pass0 (pa_cons (pv 0) (pa_cons (pv 1) (pa_cons (pe_ifExp (pt_cmpR op_eq (pv 1) pe_int (nomark _)) pe_int pe_int) pa_nil)))))
 (pss_cons (ps_set (i := 3) sc_law.nd rfl (.inl rfl) (pcall c_law_word (hr.mono (by omega)) (by rfl) pass0 (pa_cons (pv 0) (pa_cons (pv 1) (pa_cons (pv 2) (pa_cons pe_int pa_nil))))))
 (pss_cons (ps_for PassesOwn.never rfl (piT K (pe_tup (pa_cons (pv 3) (pa_cons (pe_slice sl_str (pv 3) po_none (po_some pe_int)) (pa_cons (pe_slice sl_str (pv 3) po_none (po_some pe_int)) (pa_cons (pe_revS (pv 3)) (pa_cons (pe_op op_repS (pe_slice sl_str (pv 3) po_none (po_some pe_int)) pe_int) pa_nil))))))) (pg_name (i := 4) sc_law.nd rfl (.inl rfl))
 (pss_one (ps_if (pt_not (pt_val (pcallG c_law_right (hr.mono (by omega)) gd (by rfl) pass0 (pa_cons (pv 2) (pa_cons (pv 4) pa_nil)))))
 (pss_one (ps_ret pe_bl)) pss_nil)))
 (pss_cons (ps_set (i := 5) sc_law.nd rfl (.inl rfl) (pcall c_law_broad (hr.mono (by omega)) (by rfl) pass0 (pa_cons (pv 0) (pa_cons (pv 1) pa_nil))))
 (pss_cons (ps_set (i := 3) sc_law.nd rfl (.inl rfl) (pcall c_law_word (hr.mono (by omega)) (by rfl) pass0 (pa_cons (pv 0) (pa_cons (pe_op op_add (pv 1) pe_int) (pa_cons (pv 5) (pa_cons pe_int pa_nil))))))
 (pss_one (ps_for PassesOwn.never rfl (piT K (pe_tup (pa_cons (pv 3) (pa_cons (pe_slice sl_str (pv 3) po_none (po_some pe_int)) (pa_cons (pe_revS (pv 3)) (pa_cons (pe_slice sl_str (pv 3) po_none (po_some pe_int)) pa_nil)))))) (pg_name (i := 4) sc_law.nd rfl (.inl rfl))
 (pss_one (ps_if (pt_not (pt_val (pcallG c_law_right (hr.mono (by omega)) gd (by rfl) pass0 (pa_cons (pv 5) (pa_cons (pv 4) pa_nil)))))
 (pss_one (ps_ret pe_bl)) pss_nil))))))))))
 (pss_cons (ps_set (i := 6) sc_law.nd rfl (.inl rfl) (pe_tup (pa_cons (pe_lst (pa_cons pe_str pa_nil)) (pa_cons (pe_lst (pa_cons pe_str (pa_cons pe_str pa_nil))) (pa_cons (pe_lst (pa_cons pe_str (pa_cons pe_str pa_nil))) (pa_cons (pe_lst (pa_cons pe_str (pa_cons pe_str pa_nil))) pa_nil))))))
 (pss_cons (ps_if (PW.pt (pw_or (pt_cmpR (neDK K hr.units) (pe_lc (own := [("_law_field_here", 2)]) (g := gName 2) (tt := tYes) (by rfl) sc_law.nd (piT K (pv 6)) (blkOk_by (own := [("_law_field_here", 2)]) (N := ["_law_script", "_law_by", "_law_field_here", "_law_word_here", "_law_some", "_law_broad_here", "_law_fields"]) (sc := defScope s_law) (by decide +kernel)) (fun _ _ _ _ _ => (pg_name (i := 2) sc_law.nd rfl (Or.inl rfl))) (fun _ _ _ _ _ => pts_nil) (fun _ _ _ _ _ => (pcall c_how_many (hr.mono (by omega)) (by rfl) pass0 (pa_cons (pv 2) (pa_cons pe_str pa_nil))))) (lit_list K (lits_cons K (lit_int K) (lits_cons K (lit_int K) (lits_cons K (lit_int K) (lits_cons K (lit_int K) (lits_nil K)))))) (nomark _)) (pw_or1 (pt_not (pt_val (pcall0 c_law_one_letter (hr.mono (by omega)) (by rfl) pass0))))))
 (pss_one (ps_ret pe_bl)) pss_nil)
 (pss_one (ps_ret (pe_and (pe_cmpR op_eq (pcall c_how_many (hr.mono (by omega)) (by rfl) pass0 (pa_cons (lit_list K (lits_cons K (lit_str K) (lits_cons K (lit_str K) (lits_nil K)))) (pa_cons pe_str pa_nil))) pe_int (nomark _)) (pe_one (pe_cmpR op_eq (pcall c_how_many (hr.mono (by omega)) (by rfl) pass0 (pa_cons (lit_list K (lits_cons K (lit_str K) (lits_cons K (lit_str K) (lits_nil K)))) (pa_cons pe_str pa_nil))) pe_int (nomark _))))))))), ?_⟩
    refine ⟨.ref a, rfl, a, _, rfl, .inl hs, 8, _, rfl, 1, _, rfl, ?_⟩
    rw [List.length_map]
    obtain ⟨t1, t8⟩ := top8_bd ns.length
    obtain ⟨m, hm, hrg⟩ := range4 t1 t8
    refine ⟨0, top8 ns.length, 4, m, rfl, hrg, ?_⟩
    refine for_it walk_rangeC (fun i σ H' => Same H H' ∧ ∃ y1 y2 y3 y4 y5, σ = [some (.ref a), y1, y2, y3, y4, y5, none])
      ⟨Same.refl _, none, none, none, none, none, rfl⟩ (fun _ _ _ _ _ => trivial) (fun i x σ H1o H1 hi pv y => ?_) fun σ H1 pv => ?_
    · obtain ⟨rfl, rfl⟩ := y
      obtain ⟨sm, y1, y2, y3, y4, y5, rfl⟩ := pv
      have by0 : (0 : Int) ≤ 0 + (i : Nat) * 4 := by omega
      have by9 : (0 : Int) + (i : Nat) * 4 ≤ 20 := by omega
      refine ⟨.ref a, rfl, .int (0 + (i : Nat) * 4), rfl, .int (0 + (i : Nat) * 4), rfl, rfl, _, rfl, ?_⟩
      cases hz : decide (V.int (0 + (i : Nat) * 4) = V.int 0)
      all_goals first
        | refine iteF ⟨a, ns, _, 3, n, rfl, sm.seq hs, hb, hn, by omega, by omega, by decide, by decide, ?_⟩
        | refine iteT ⟨a, ns, _, 4, n, rfl, sm.seq hs, hb, hn, by omega, by omega, by decide, by decide, ?_⟩
      all_goals
        intro H2 p F h w s2 np hp oF _ _
        have h5 := oF.h5
        have w5 := oF.w5
        have s12 := sm.trans s2
        refine ⟨.ref a, rfl, .int (0 + (i : Nat) * 4), rfl, .ref p, rfl, a, ns, _, n, p, F, h, w, 4, rfl, s12.seq hs, hb, hn, by0, by omega, ⟨SqL.of hp, oF⟩, by decide, by decide, fun H3 r1 s3 a1 a5 al => ?_⟩
        have s13 := s12.trans s3
        have hp3 := s3 _ _ hp
        have o1 : WordOk r1 := ⟨a1, by omega, al⟩
        have lr1 : (tx r1).length ≤ sizeLine := by rw [tx_len]; exact small_line (by omega)
        refine ⟨tv r1, rfl, tv r1, rfl, 1, rfl, tx r1, rfl, lr1, tv r1, rfl, 2, rfl, tx r1, rfl, lr1, tv r1, rfl, tx r1, rfl, lr1, tv r1, rfl, 1, rfl, tx r1, rfl, lr1, _, 3, rfl, rfl, by decide, by decide, by rw [cutS1, tx_len, List.length_take]; omega, by rw [cutS1, tx_len, List.length_take]; omega, by show 5 ≤ sizeLine; decide, fun t nt => ?_⟩
        rw [revS_tx, cutS2, cutS1, repS_tx]
        have hall : ∀ x ∈ [tv r1, tv (r1.take 1), tv (r1.take 2), tv r1.reverse, tv (List.replicate 3 (r1.take 1)).flatten], ∃ wd, x = tv wd ∧ WordOk wd := by
          intro x hx
          simp only [List.mem_cons, List.not_mem_nil, or_false] at hx
          rcases hx with rfl | rfl | rfl | rfl | rfl
          · exact ⟨_, rfl, o1⟩
          · exact ⟨_, rfl, WordOk.take a1 al (by decide) (by decide)⟩
          · exact ⟨_, rfl, WordOk.take a1 al (by decide) (by decide)⟩
          · exact ⟨_, rfl, o1.rev⟩
          · exact ⟨_, rfl, o1.rep3⟩
        have st := same_new (o := .tup [tv r1, tv (r1.take 1), tv (r1.take 2), tv r1.reverse, tv (List.replicate 3 (r1.take 1)).flatten]) nt
        have hst : SqT K (upd H3 t (.tup [tv r1, tv (r1.take 1), tv (r1.take 2), tv r1.reverse, tv (List.replicate 3 (r1.take 1)).flatten])) t _ := SqT.of upd_same
        have s15 := s13.trans st
        have hp5 := st _ _ hp3
        refine ⟨t, rfl, ⟨_, hst⟩, for_it (walk_tup (xs := [tv r1, tv (r1.take 1), tv (r1.take 2), tv r1.reverse, tv (List.replicate 3 (r1.take 1)).flatten])) (fun j σ H' => Same (upd H3 t (.tup [tv r1, tv (r1.take 1), tv (r1.take 2), tv r1.reverse, tv (List.replicate 3 (r1.take 1)).flatten])) H' ∧ ∃ y4, σ = [some (.ref a), some (.int (0 + (i : Nat) * 4)), some (.ref p), some (tv r1), y4, y5, none])
          ⟨Same.refl _, y4, rfl⟩ (fun j σ H' _ pv => Same.sqt pv.1 hst) (fun j x σ H6o H6 hj pv y => ?_) fun σ H6 pv => ?_⟩
        · obtain ⟨rfl, hx⟩ := y
          obtain ⟨s6, y4, rfl⟩ := pv
          obtain ⟨wd, rfl, ow⟩ := hall x (List.mem_of_getElem? hx)
          exact ⟨.ref p, rfl, tv wd, rfl, p, F, h, w, wd, rfl, ⟨SqL.of (s6 _ _ hp5), oF⟩, ow, fun H7 s7 => ⟨true, rfl, iteF ⟨s6.trans s7, _, rfl⟩⟩⟩
        · obtain ⟨s6, y4, rfl⟩ := pv
          have s16 := s15.trans s6
          refine ⟨.ref a, rfl, .int (0 + (i : Nat) * 4), rfl, a, ns, _, n, rfl, s16.seq hs, hb, hn, by omega, by omega, fun H7 pb Fb s7 npb hpb oFb => ?_⟩
          have s17 := s16.trans s7
          refine ⟨.ref a, rfl, .int (0 + (i : Nat) * 4), rfl, _, 2, rfl, rfl, .ref pb, rfl, a, ns, _, n, pb, Fb, 5, 5, 6, rfl, s17.seq hs, hb, hn, by omega, by omega, ⟨SqL.of hpb, oFb⟩, by decide, by decide, fun H8 r3 s8 c1 c6 cl => ?_⟩
          have s18 := s17.trans s8
          have hpb8 := s8 _ _ hpb
          have o3 : WordOk r3 := ⟨c1, by omega, cl⟩
          have lr3 : (tx r3).length ≤ sizeLine := by rw [tx_len]; exact small_line (by omega)
          refine ⟨tv r3, rfl, tv r3, rfl, 5, rfl, tx r3, rfl, lr3, tv r3, rfl, tx r3, rfl, lr3, tv r3, rfl, 2, rfl, tx r3, rfl, lr3, by show 4 ≤ sizeLine; decide, fun t2 nt2 => ?_⟩
          rw [revS_tx, cutS2, cutS5]
          have hall3 : ∀ x ∈ [tv r3, tv (r3.take 5), tv r3.reverse, tv (r3.take 2)], ∃ wd, x = tv wd ∧ WordOk wd := by
            intro x hx
            simp only [List.mem_cons, List.not_mem_nil, or_false] at hx
            rcases hx with rfl | rfl | rfl | rfl
            · exact ⟨_, rfl, o3⟩
            · exact ⟨_, rfl, WordOk.take c1 cl (by decide) (by decide)⟩
            · exact ⟨_, rfl, o3.rev⟩
            · exact ⟨_, rfl, WordOk.take c1 cl (by decide) (by decide)⟩
          have st2 := same_new (o := .tup [tv r3, tv (r3.take 5), tv r3.reverse, tv (r3.take 2)]) nt2
          have hst2 : SqT K (upd H8 t2 (.tup [tv r3, tv (r3.take 5), tv r3.reverse, tv (r3.take 2)])) t2 _ := SqT.of upd_same
          have hpb9 := st2 _ _ hpb8
          refine ⟨t2, rfl, ⟨_, hst2⟩, for_it (walk_tup (xs := [tv r3, tv (r3.take 5), tv r3.reverse, tv (r3.take 2)])) (fun j σ H' => Same (upd H8 t2 (.tup [tv r3, tv (r3.take 5), tv r3.reverse, tv (r3.take 2)])) H' ∧ ∃ y4, σ = [some (.ref a), some (.int (0 + (i : Nat) * 4)), some (.ref p), some (tv r3), y4, some (.ref pb), none])
            ⟨Same.refl _, y4, rfl⟩ (fun j σ H' _ pv => Same.sqt pv.1 hst2) (fun j x σ H9o H9 hj pv y => ?_) fun σ H9 pv => ?_⟩
          · obtain ⟨rfl, hx⟩ := y
            obtain ⟨s9, y4, rfl⟩ := pv
            obtain ⟨wd, rfl, ow⟩ := hall3 x (List.mem_of_getElem? hx)
            exact ⟨.ref pb, rfl, tv wd, rfl, pb, Fb, 5, 5, wd, rfl, ⟨SqL.of (s9 _ _ hpb9), oFb⟩, ow, fun H10 s10 => ⟨true, rfl, iteF ⟨s9.trans s10, _, rfl⟩⟩⟩
          · obtain ⟨s9, y4, rfl⟩ := pv
            exact ⟨s18.trans (st2.trans s9), _, _, _, _, _, rfl⟩
    · obtain ⟨sm, y1, y2, y3, y4, y5, rfl⟩ := pv
      have owab : WordOk [97, 98] := wordB_ok (by decide +kernel)
      have ow4 : WordOk [97, 97, 97, 97] := wordB_ok (by decide +kernel)
      have ow5 : WordOk [97, 97, 97, 97, 97] := wordB_ok (by decide +kernel)
      have oaa : FieldOk [[97, 97], [97, 97]] 2 2 := fieldB_ok (by decide +kernel)
      refine ⟨by show 1 ≤ sizeLine; decide, fun p0 n0 => ⟨by show 2 ≤ sizeLine; decide, fun p1 n1 => ⟨by show 2 ≤ sizeLine; decide, fun p2 n2 => ⟨by show 2 ≤ sizeLine; decide, fun p3 n3 => ⟨by show 4 ≤ sizeLine; decide, fun t nt => ?_⟩⟩⟩⟩⟩
      have z0 := same_new (o := .lst ((fAB 0).map tv)) n0
      have z1 := same_new (o := .lst ((fAB 1).map tv)) n1
      have z2 := same_new (o := .lst ((fAB 2).map tv)) n2
      have z3 := same_new (o := .lst ((fAB 3).map tv)) n3
      have zt := same_new (o := .tup [.ref p0, .ref p1, .ref p2, .ref p3]) nt
      have g0 := (z1.trans (z2.trans (z3.trans zt))) _ _ (upd_same (o := .lst ((fAB 0).map tv)))
      have g1 := (z2.trans (z3.trans zt)) _ _ (upd_same (o := .lst ((fAB 1).map tv)))
      have g2 := (z3.trans zt) _ _ (upd_same (o := .lst ((fAB 2).map tv)))
      have g3 := zt _ _ (upd_same (o := .lst ((fAB 3).map tv)))
      have ht : SqT K (upd (upd (upd (upd (upd H1 p0 (.lst ((fAB 0).map tv))) p1 (.lst ((fAB 1).map tv))) p2 (.lst ((fAB 2).map tv))) p3 (.lst ((fAB 3).map tv))) t (.tup [.ref p0, .ref p1, .ref p2, .ref p3])) t [.ref p0, .ref p1, .ref p2, .ref p3] := SqT.of upd_same
      refine ⟨.ref t, rfl, t, rfl, ⟨_, ht⟩, lc_val (walk_tup (xs := [.ref p0, .ref p1, .ref p2, .ref p3])) (small_line (by show 4 ≤ 1000000; decide)) (fun i => .int ((snakesOn (fAB i) (hAB i) 2 [97, 98] []).length : Nat)) (fun H' s' => Same.sqt s' ht) (fun D' i x H3o H3 Qe nD hi s3 _ y qe => ?_) fun D2 H3 nD2 s3 hD2 => ?_⟩
      · obtain ⟨rfl, hx⟩ := y
        match i, hx, qe with
        | 0, hx, qe => cases hx; exact ⟨rfl, .ref p0, rfl, p0, fAB 0, hAB 0, 2, [97, 98], rfl, ⟨SqL.of (s3 _ _ g0), fieldB_ok (by decide +kernel)⟩, owab, fun H4 s4 => qe _ s4⟩
        | 1, hx, qe => cases hx; exact ⟨rfl, .ref p1, rfl, p1, fAB 1, hAB 1, 2, [97, 98], rfl, ⟨SqL.of (s3 _ _ g1), fieldB_ok (by decide +kernel)⟩, owab, fun H4 s4 => qe _ s4⟩
        | 2, hx, qe => cases hx; exact ⟨rfl, .ref p2, rfl, p2, fAB 2, hAB 2, 2, [97, 98], rfl, ⟨SqL.of (s3 _ _ g2), fieldB_ok (by decide +kernel)⟩, owab, fun H4 s4 => qe _ s4⟩
        | 3, hx, qe => cases hx; exact ⟨rfl, .ref p3, rfl, p3, fAB 3, hAB 3, 2, [97, 98], rfl, ⟨SqL.of (s3 _ _ g3), fieldB_ok (by decide +kernel)⟩, owab, fun H4 s4 => qe _ s4⟩
        | i + 4, hx, _ => cases hx
      have eD2 : ((List.range [V.ref p0, V.ref p1, V.ref p2, V.ref p3].length).map fun i => V.int ((snakesOn (fAB i) (hAB i) 2 [97, 98] []).length : Nat)) = [.int 1, .int 4, .int 4, .int 1] := by
        show [V.int ((snakesOn (fAB 0) (hAB 0) 2 [97, 98] []).length : Nat), V.int ((snakesOn (fAB 1) (hAB 1) 2 [97, 98] []).length : Nat), V.int ((snakesOn (fAB 2) (hAB 2) 2 [97, 98] []).length : Nat), V.int ((snakesOn (fAB 3) (hAB 3) 2 [97, 98] []).length : Nat)] = _
        rw [show (snakesOn (fAB 0) (hAB 0) 2 [97, 98] []).length = 1 by decide +kernel, show (snakesOn (fAB 1) (hAB 1) 2 [97, 98] []).length = 4 by decide +kernel, show (snakesOn (fAB 2) (hAB 2) 2 [97, 98] []).length = 4 by decide +kernel, show (snakesOn (fAB 3) (hAB 3) 2 [97, 98] []).length = 1 by decide +kernel]
        rfl
      rw [eD2] at hD2
      refine fun v4 H4 s4 d4 => ?_
      refine ⟨.list [.int 1, .int 4, .int 4, .int 1], _, .lst (SqL.of (s4 _ _ hD2)) (.cons (.int _) (.cons (.int _) (.cons (.int _) (.cons (.int _) .nil)))), d4, by decide +kernel, by decide +kernel, false, by decide +kernel, iteF ?_⟩
      refine ⟨rfl, fun H5 s5 => ⟨true, rfl, iteF ?_⟩⟩
      refine fun v6 H6 s6 d6 => ?_
      obtain ⟨a6, rfl, q6⟩ := dp_texts (F := [[97, 97], [97, 97]]) d6
      refine ⟨a6, [[97, 97], [97, 97]], 2, 2, [97, 97, 97, 97], rfl, ⟨q6, oaa⟩, ow4, fun H7 s7 => ?_⟩
      rw [show (snakesOn [[97, 97], [97, 97]] 2 2 [97, 97, 97, 97] []).length = 24 by decide +kernel]
      refine ⟨rfl, true, rfl, iteT ?_⟩
      refine fun v8 H8 s8 d8 => ?_
      obtain ⟨a8, rfl, q8⟩ := dp_texts (F := [[97, 97], [97, 97]]) d8
      refine ⟨a8, [[97, 97], [97, 97]], 2, 2, [97, 97, 97, 97, 97], rfl, ⟨q8, oaa⟩, ow5, fun H9 s9 => ?_⟩
      rw [show (snakesOn [[97, 97], [97, 97]] 2 2 [97, 97, 97, 97, 97] []).length = 0 by decide +kernel]
      exact ⟨rfl, q _⟩
end
end Sk
namespace Sk
open PySem PySem.Spec PyProof.Rows L2 Sn
def hd_fn : List He.DefD := [⟨("is_whole", none), "is_whole", "is_whole", defArgs s_is_whole, defBody s_is_whole, defScope s_is_whole, [], []⟩, ⟨("is_text", none), "is_text", "is_text", defArgs s_is_text, defBody s_is_text, defScope s_is_text, [], []⟩, ⟨("check_field", none), "check_field", "check_field", defArgs s_check_field, defBody s_check_field, defScope s_check_field, [], []⟩, ⟨("is_cell", none), "is_cell", "is_cell", defArgs s_is_cell, defBody s_is_cell, defScope s_is_cell, [], []⟩, ⟨("check_word", none), "check_word", "check_word", defArgs s_check_word, defBody s_check_word, defScope s_check_word, [], []⟩, ⟨("cells_in", none), "cells_in", "cells_in", defArgs s_cells_in, defBody s_cells_in, defScope s_cells_in, [], []⟩, ⟨("letter_at", none), "letter_at", "letter_at", defArgs s_letter_at, defBody s_letter_at, defScope s_letter_at, [], []⟩, ⟨("near_of", none), "near_of", "near_of", defArgs s_near_of, defBody s_near_of, defScope s_near_of, [], []⟩, ⟨("is_snake", none), "is_snake", "is_snake", defArgs s_is_snake, defBody s_is_snake, defScope s_is_snake, [], []⟩, ⟨("spelled", none), "spelled", "spelled", defArgs s_spelled, defBody s_spelled, defScope s_spelled, [], []⟩, ⟨("next_cells", none), "next_cells", "next_cells", defArgs s_next_cells, defBody s_next_cells, defScope s_next_cells, [], []⟩, ⟨("snakes_on", none), "snakes_on", "snakes_on", defArgs s_snakes_on, defBody s_snakes_on, defScope s_snakes_on, [], []⟩, ⟨("how_many", none), "how_many", "how_many", defArgs s_how_many, defBody s_how_many, defScope s_how_many, [], []⟩, ⟨("by_number", none), "by_number", "by_number", defArgs s_by_number, defBody s_by_number, defScope s_by_number, [], []⟩, ⟨("number_of", none), "number_of", "number_of", defArgs s_number_of, defBody s_number_of, defScope s_number_of, [], []⟩, ⟨("_law_cell_at", none), "_law_cell_at", "_law_cell_at", defArgs s__law_cell_at, defBody s__law_cell_at, defScope s__law_cell_at, [], []⟩, ⟨("_law_draw", none), "_law_draw", "_law_draw", defArgs s__law_draw, defBody s__law_draw, defScope s__law_draw, [], []⟩, ⟨("_law_number", none), "_law_number", "_law_number", defArgs s__law_number, defBody s__law_number, defScope s__law_number, [], []⟩, ⟨("_law_field", none), "_law_field", "_law_field", defArgs s__law_field, defBody s__law_field, defScope s__law_field, [], []⟩, ⟨("_law_beside", none), "_law_beside", "_law_beside", defArgs s__law_beside, defBody s__law_beside, defScope s__law_beside, [], []⟩, ⟨("_law_broad", none), "_law_broad", "_law_broad", defArgs s__law_broad, defBody s__law_broad, defScope s__law_broad, [], []⟩, ⟨("_law_cells", none), "_law_cells", "_law_cells", defArgs s__law_cells, defBody s__law_cells, defScope s__law_cells, [], []⟩, ⟨("_law_snakes", none), "_law_snakes", "_law_snakes", defArgs s__law_snakes, defBody s__law_snakes, defScope s__law_snakes, [], []⟩, ⟨("_law_word", none), "_law_word", "_law_word", defArgs s__law_word, defBody s__law_word, defScope s__law_word, [], []⟩, ⟨("_law_whole", none), "_law_whole", "_law_whole", defArgs s__law_whole, defBody s__law_whole, defScope s__law_whole, [], []⟩, ⟨("_law_barred", none), "_law_barred", "_law_barred", defArgs s__law_barred, defBody s__law_barred, defScope s__law_barred, [], []⟩, ⟨("_law_right", none), "_law_right", "_law_right", defArgs s__law_right, defBody s__law_right, defScope s__law_right, [], []⟩, ⟨("_law_one_letter", none), "_law_one_letter", "_law_one_letter", defArgs s__law_one_letter, defBody s__law_one_letter, defScope s__law_one_letter, [], []⟩, ⟨("law", none), "law", "law", defArgs s_law, defBody s_law, defScope s_law, [], []⟩]
def hd_fa : List He.Fa := [.glo "is_whole", .glo "is_text", .glo "check_field", .glo "is_cell", .glo "check_word", .glo "cells_in", .glo "letter_at", .glo "near_of", .glo "is_snake", .glo "spelled", .glo "next_cells", .glo "snakes_on", .glo "how_many", .glo "by_number", .glo "number_of", .glo "_law_cell_at", .glo "_law_draw", .glo "_law_number", .glo "_law_field", .glo "_law_beside", .glo "_law_broad", .glo "_law_cells", .glo "_law_snakes", .glo "_law_word", .glo "_law_whole", .glo "_law_barred", .glo "_law_right", .glo "_law_one_letter", .glo "law", .free "abs", .free "all", .free "any", .free "bool", .free "int", .free "isinstance", .free "len", .free "list", .free "max", .free "min", .free "range", .free "set", .free "str", .free "tuple", .free "zip", .int "WIDEST" 5, .int "LONGEST" 6, .str "LETTERS" "abcdefghijklmnopqrstuvwxyz", .glo "SnakeError", .exc "SnakeError", .glo "BadNumber", .exc "BadNumber", .glo "BadField", .exc "BadField", .glo "BadWord", .exc "BadWord", .glo "BadSnake", .exc "BadSnake", .glo "BadCell", .exc "BadCell", .exm "SnakeError" "SnakeError" true, .exm "SnakeError" "BadNumber" false, .exm "SnakeError" "BadField" false, .exm "SnakeError" "BadWord" false, .exm "SnakeError" "BadSnake" false, .exm "SnakeError" "BadCell" false, .exm "BadNumber" "SnakeError" true, .exm "BadNumber" "BadNumber" true, .exm "BadNumber" "BadField" false, .exm "BadNumber" "BadWord" false, .exm "BadNumber" "BadSnake" false, .exm "BadNumber" "BadCell" false, .exm "BadField" "SnakeError" true, .exm "BadField" "BadNumber" false, .exm "BadField" "BadField" true, .exm "BadField" "BadWord" false, .exm "BadField" "BadSnake" false, .exm "BadField" "BadCell" false, .exm "BadWord" "SnakeError" true, .exm "BadWord" "BadNumber" false, .exm "BadWord" "BadField" false, .exm "BadWord" "BadWord" true, .exm "BadWord" "BadSnake" false, .exm "BadWord" "BadCell" false, .exm "BadSnake" "SnakeError" true, .exm "BadSnake" "BadNumber" false, .exm "BadSnake" "BadField" false, .exm "BadSnake" "BadWord" false, .exm "BadSnake" "BadSnake" true, .exm "BadSnake" "BadCell" false, .exm "BadCell" "SnakeError" true, .exm "BadCell" "BadNumber" false, .exm "BadCell" "BadField" false, .exm "BadCell" "BadWord" false, .exm "BadCell" "BadSnake" false, .exm "BadCell" "BadCell" true]
def hd_ex (K : PySem.W.Frag) : Bool := (klgB K && (excB K "BadNumber" && (kitB2 K "BadNumber" "SnakeError" true && (kitB2 K "BadNumber" "BadNumber" true && (kitB2 K "BadNumber" "BadField" false && (kitB2 K "BadNumber" "BadWord" false && (kitB2 K "BadNumber" "BadSnake" false && (kitB2 K "BadNumber" "BadCell" false && true))))))))
def hd_names : List PySem.Str := (["SnakeError", "BadField", "BadCell", "BadWord", "BadSnake", "BadNumber", "WIDEST", "LONGEST", "LETTERS", "is_whole", "is_text", "check_field", "is_cell", "check_word", "cells_in", "letter_at", "near_of", "is_snake", "spelled", "next_cells", "snakes_on", "how_many", "by_number", "number_of", "_law_cell_at", "_law_draw", "_law_number", "_law_field", "_law_beside", "_law_broad"] : List PySem.Str) ++ (["_law_cells", "_law_snakes", "_law_word", "_law_whole", "_law_barred", "_law_right", "_law_one_letter"] : List PySem.Str)
abbrev hd_R : PySem.W.OpenRow := PySem.W.OpenLaw.row PySem.Challenge.rw_lettersnake_k04_whole_numbers
abbrev hd_hk : PySem.W.Hook := hookX 5 hd_fa hd_fn hd_ex
def hd_ob (s : PySem.W.SharedT) : Bool × He.AlD := obX 5 hd_fa hd_fn hd_ex (HandSHeadRun.getT s)
theorem hd_obeq (s : PySem.W.SharedT) : hd_ob s = hd_hk.obs s.abs := obX_eq (HandSHeadRun.getT_eq s)
theorem hd_run (w : World) : HandSHeadRun.RunEq hd_R (PySem.W.view hd_R.prog [42]) hd_hk hd_ob 6000 hd_names w := by
  intro os
  kernel_rfl
section
variable {K : PySem.W.Frag} {h : Heap} {mg : Str → Option Value}
theorem hd_is_whole (X : K.In h) (G : h.Ns mainGlobals mg) (c : He.SaysD hd_fa hd_fn K) : Dfn K mg "is_whole" s_is_whole := by
  obtain ⟨fd, F⟩ := c.def_ 0 (d := ⟨("is_whole", none), "is_whole", "is_whole", defArgs s_is_whole, defBody s_is_whole, defScope s_is_whole, [], []⟩) rfl
  exact ⟨_, fd, F, He.glo_ok X G (c.fact 0 (f := .glo "is_whole") rfl)⟩
theorem hd_is_text (X : K.In h) (G : h.Ns mainGlobals mg) (c : He.SaysD hd_fa hd_fn K) : Dfn K mg "is_text" s_is_text := by
  obtain ⟨fd, F⟩ := c.def_ 1 (d := ⟨("is_text", none), "is_text", "is_text", defArgs s_is_text, defBody s_is_text, defScope s_is_text, [], []⟩) rfl
  exact ⟨_, fd, F, He.glo_ok X G (c.fact 1 (f := .glo "is_text") rfl)⟩
theorem hd_check_field (X : K.In h) (G : h.Ns mainGlobals mg) (c : He.SaysD hd_fa hd_fn K) : Dfn K mg "check_field" s_check_field := by
  obtain ⟨fd, F⟩ := c.def_ 2 (d := ⟨("check_field", none), "check_field", "check_field", defArgs s_check_field, defBody s_check_field, defScope s_check_field, [], []⟩) rfl
  exact ⟨_, fd, F, He.glo_ok X G (c.fact 2 (f := .glo "check_field") rfl)⟩
theorem hd_is_cell (X : K.In h) (G : h.Ns mainGlobals mg) (c : He.SaysD hd_fa hd_fn K) : Dfn K mg "is_cell" s_is_cell := by
  obtain ⟨fd, F⟩ := c.def_ 3 (d := ⟨("is_cell", none), "is_cell", "is_cell", defArgs s_is_cell, defBody s_is_cell, defScope s_is_cell, [], []⟩) rfl
  exact ⟨_, fd, F, He.glo_ok X G (c.fact 3 (f := .glo "is_cell") rfl)⟩
theorem hd_check_word (X : K.In h) (G : h.Ns mainGlobals mg) (c : He.SaysD hd_fa hd_fn K) : Dfn K mg "check_word" s_check_word := by
  obtain ⟨fd, F⟩ := c.def_ 4 (d := ⟨("check_word", none), "check_word", "check_word", defArgs s_check_word, defBody s_check_word, defScope s_check_word, [], []⟩) rfl
  exact ⟨_, fd, F, He.glo_ok X G (c.fact 4 (f := .glo "check_word") rfl)⟩
theorem hd_cells_in (X : K.In h) (G : h.Ns mainGlobals mg) (c : He.SaysD hd_fa hd_fn K) : Dfn K mg "cells_in" s_cells_in := by
  obtain ⟨fd, F⟩ := c.def_ 5 (d := ⟨("cells_in", none), "cells_in", "cells_in", defArgs s_cells_in, defBody s_cells_in, defScope s_cells_in, [], []⟩) rfl
  exact ⟨_, fd, F, He.glo_ok X G (c.fact 5 (f := .glo "cells_in") rfl)⟩
theorem hd_letter_at (X : K.In h) (G : h.Ns mainGlobals mg) (c : He.SaysD hd_fa hd_fn K) : Dfn K mg "letter_at" s_letter_at := by
  obtain ⟨fd, F⟩ := c.def_ 6 (d := ⟨("letter_at", none), "letter_at", "letter_at", defArgs s_letter_at, defBody s_letter_at, defScope s_letter_at, [], []⟩) rfl
  exact ⟨_, fd, F, He.glo_ok X G (c.fact 6 (f := .glo "letter_at") rfl)⟩
theorem hd_near_of (X : K.In h) (G : h.Ns mainGlobals mg) (c : He.SaysD hd_fa hd_fn K) : Dfn K mg "near_of" s_near_of := by
  obtain ⟨fd, F⟩ := c.def_ 7 (d := ⟨("near_of", none), "near_of", "near_of", defArgs s_near_of, defBody s_near_of, defScope s_near_of, [], []⟩) rfl
  exact ⟨_, fd, F, He.glo_ok X G (c.fact 7 (f := .glo "near_of") rfl)⟩
theorem hd_is_snake (X : K.In h) (G : h.Ns mainGlobals mg) (c : He.SaysD hd_fa hd_fn K) : Dfn K mg "is_snake" s_is_snake := by
  obtain ⟨fd, F⟩ := c.def_ 8 (d := ⟨("is_snake", none), "is_snake", "is_snake", defArgs s_is_snake, defBody s_is_snake, defScope s_is_snake, [], []⟩) rfl
  exact ⟨_, fd, F, He.glo_ok X G (c.fact 8 (f := .glo "is_snake") rfl)⟩
theorem hd_spelled (X : K.In h) (G : h.Ns mainGlobals mg) (c : He.SaysD hd_fa hd_fn K) : Dfn K mg "spelled" s_spelled := by
  obtain ⟨fd, F⟩ := c.def_ 9 (d := ⟨("spelled", none), "spelled", "spelled", defArgs s_spelled, defBody s_spelled, defScope s_spelled, [], []⟩) rfl
  exact ⟨_, fd, F, He.glo_ok X G (c.fact 9 (f := .glo "spelled") rfl)⟩
theorem hd_next_cells (X : K.In h) (G : h.Ns mainGlobals mg) (c : He.SaysD hd_fa hd_fn K) : Dfn K mg "next_cells" s_next_cells := by
  obtain ⟨fd, F⟩ := c.def_ 10 (d := ⟨("next_cells", none), "next_cells", "next_cells", defArgs s_next_cells, defBody s_next_cells, defScope s_next_cells, [], []⟩) rfl
  exact ⟨_, fd, F, He.glo_ok X G (c.fact 10 (f := .glo "next_cells") rfl)⟩
theorem hd_snakes_on (X : K.In h) (G : h.Ns mainGlobals mg) (c : He.SaysD hd_fa hd_fn K) : Dfn K mg "snakes_on" s_snakes_on := by
  obtain ⟨fd, F⟩ := c.def_ 11 (d := ⟨("snakes_on", none), "snakes_on", "snakes_on", defArgs s_snakes_on, defBody s_snakes_on, defScope s_snakes_on, [], []⟩) rfl
  exact ⟨_, fd, F, He.glo_ok X G (c.fact 11 (f := .glo "snakes_on") rfl)⟩
theorem hd_how_many (X : K.In h) (G : h.Ns mainGlobals mg) (c : He.SaysD hd_fa hd_fn K) : Dfn K mg "how_many" s_how_many := by
  obtain ⟨fd, F⟩ := c.def_ 12 (d := ⟨("how_many", none), "how_many", "how_many", defArgs s_how_many, defBody s_how_many, defScope s_how_many, [], []⟩) rfl
  exact ⟨_, fd, F, He.glo_ok X G (c.fact 12 (f := .glo "how_many") rfl)⟩
theorem hd_by_number (X : K.In h) (G : h.Ns mainGlobals mg) (c : He.SaysD hd_fa hd_fn K) : Dfn K mg "by_number" s_by_number := by
  obtain ⟨fd, F⟩ := c.def_ 13 (d := ⟨("by_number", none), "by_number", "by_number", defArgs s_by_number, defBody s_by_number, defScope s_by_number, [], []⟩) rfl
  exact ⟨_, fd, F, He.glo_ok X G (c.fact 13 (f := .glo "by_number") rfl)⟩
theorem hd_number_of (X : K.In h) (G : h.Ns mainGlobals mg) (c : He.SaysD hd_fa hd_fn K) : Dfn K mg "number_of" s_number_of := by
  obtain ⟨fd, F⟩ := c.def_ 14 (d := ⟨("number_of", none), "number_of", "number_of", defArgs s_number_of, defBody s_number_of, defScope s_number_of, [], []⟩) rfl
  exact ⟨_, fd, F, He.glo_ok X G (c.fact 14 (f := .glo "number_of") rfl)⟩
theorem hd__law_cell_at (X : K.In h) (G : h.Ns mainGlobals mg) (c : He.SaysD hd_fa hd_fn K) : Dfn K mg "_law_cell_at" s__law_cell_at := by
  obtain ⟨fd, F⟩ := c.def_ 15 (d := ⟨("_law_cell_at", none), "_law_cell_at", "_law_cell_at", defArgs s__law_cell_at, defBody s__law_cell_at, defScope s__law_cell_at, [], []⟩) rfl
  exact ⟨_, fd, F, He.glo_ok X G (c.fact 15 (f := .glo "_law_cell_at") rfl)⟩
theorem hd__law_draw (X : K.In h) (G : h.Ns mainGlobals mg) (c : He.SaysD hd_fa hd_fn K) : Dfn K mg "_law_draw" s__law_draw := by
  obtain ⟨fd, F⟩ := c.def_ 16 (d := ⟨("_law_draw", none), "_law_draw", "_law_draw", defArgs s__law_draw, defBody s__law_draw, defScope s__law_draw, [], []⟩) rfl
  exact ⟨_, fd, F, He.glo_ok X G (c.fact 16 (f := .glo "_law_draw") rfl)⟩
theorem hd__law_number (X : K.In h) (G : h.Ns mainGlobals mg) (c : He.SaysD hd_fa hd_fn K) : Dfn K mg "_law_number" s__law_number := by
  obtain ⟨fd, F⟩ := c.def_ 17 (d := ⟨("_law_number", none), "_law_number", "_law_number", defArgs s__law_number, defBody s__law_number, defScope s__law_number, [], []⟩) rfl
  exact ⟨_, fd, F, He.glo_ok X G (c.fact 17 (f := .glo "_law_number") rfl)⟩
theorem hd__law_field (X : K.In h) (G : h.Ns mainGlobals mg) (c : He.SaysD hd_fa hd_fn K) : Dfn K mg "_law_field" s__law_field := by
  obtain ⟨fd, F⟩ := c.def_ 18 (d := ⟨("_law_field", none), "_law_field", "_law_field", defArgs s__law_field, defBody s__law_field, defScope s__law_field, [], []⟩) rfl
  exact ⟨_, fd, F, He.glo_ok X G (c.fact 18 (f := .glo "_law_field") rfl)⟩
theorem hd__law_beside (X : K.In h) (G : h.Ns mainGlobals mg) (c : He.SaysD hd_fa hd_fn K) : Dfn K mg "_law_beside" s__law_beside := by
  obtain ⟨fd, F⟩ := c.def_ 19 (d := ⟨("_law_beside", none), "_law_beside", "_law_beside", defArgs s__law_beside, defBody s__law_beside, defScope s__law_beside, [], []⟩) rfl
  exact ⟨_, fd, F, He.glo_ok X G (c.fact 19 (f := .glo "_law_beside") rfl)⟩
theorem hd__law_broad (X : K.In h) (G : h.Ns mainGlobals mg) (c : He.SaysD hd_fa hd_fn K) : Dfn K mg "_law_broad" s__law_broad := by
  obtain ⟨fd, F⟩ := c.def_ 20 (d := ⟨("_law_broad", none), "_law_broad", "_law_broad", defArgs s__law_broad, defBody s__law_broad, defScope s__law_broad, [], []⟩) rfl
  exact ⟨_, fd, F, He.glo_ok X G (c.fact 20 (f := .glo "_law_broad") rfl)⟩
theorem hd__law_cells (X : K.In h) (G : h.Ns mainGlobals mg) (c : He.SaysD hd_fa hd_fn K) : Dfn K mg "_law_cells" s__law_cells := by
  obtain ⟨fd, F⟩ := c.def_ 21 (d := ⟨("_law_cells", none), "_law_cells", "_law_cells", defArgs s__law_cells, defBody s__law_cells, defScope s__law_cells, [], []⟩) rfl
  exact ⟨_, fd, F, He.glo_ok X G (c.fact 21 (f := .glo "_law_cells") rfl)⟩
theorem hd__law_snakes (X : K.In h) (G : h.Ns mainGlobals mg) (c : He.SaysD hd_fa hd_fn K) : Dfn K mg "_law_snakes" s__law_snakes := by
  obtain ⟨fd, F⟩ := c.def_ 22 (d := ⟨("_law_snakes", none), "_law_snakes", "_law_snakes", defArgs s__law_snakes, defBody s__law_snakes, defScope s__law_snakes, [], []⟩) rfl
  exact ⟨_, fd, F, He.glo_ok X G (c.fact 22 (f := .glo "_law_snakes") rfl)⟩
theorem hd__law_word (X : K.In h) (G : h.Ns mainGlobals mg) (c : He.SaysD hd_fa hd_fn K) : Dfn K mg "_law_word" s__law_word := by
  obtain ⟨fd, F⟩ := c.def_ 23 (d := ⟨("_law_word", none), "_law_word", "_law_word", defArgs s__law_word, defBody s__law_word, defScope s__law_word, [], []⟩) rfl
  exact ⟨_, fd, F, He.glo_ok X G (c.fact 23 (f := .glo "_law_word") rfl)⟩
theorem hd__law_whole (X : K.In h) (G : h.Ns mainGlobals mg) (c : He.SaysD hd_fa hd_fn K) : Dfn K mg "_law_whole" s__law_whole := by
  obtain ⟨fd, F⟩ := c.def_ 24 (d := ⟨("_law_whole", none), "_law_whole", "_law_whole", defArgs s__law_whole, defBody s__law_whole, defScope s__law_whole, [], []⟩) rfl
  exact ⟨_, fd, F, He.glo_ok X G (c.fact 24 (f := .glo "_law_whole") rfl)⟩
theorem hd__law_barred (X : K.In h) (G : h.Ns mainGlobals mg) (c : He.SaysD hd_fa hd_fn K) : Dfn K mg "_law_barred" s__law_barred := by
  obtain ⟨fd, F⟩ := c.def_ 25 (d := ⟨("_law_barred", none), "_law_barred", "_law_barred", defArgs s__law_barred, defBody s__law_barred, defScope s__law_barred, [], []⟩) rfl
  exact ⟨_, fd, F, He.glo_ok X G (c.fact 25 (f := .glo "_law_barred") rfl)⟩
theorem hd__law_right (X : K.In h) (G : h.Ns mainGlobals mg) (c : He.SaysD hd_fa hd_fn K) : Dfn K mg "_law_right" s__law_right := by
  obtain ⟨fd, F⟩ := c.def_ 26 (d := ⟨("_law_right", none), "_law_right", "_law_right", defArgs s__law_right, defBody s__law_right, defScope s__law_right, [], []⟩) rfl
  exact ⟨_, fd, F, He.glo_ok X G (c.fact 26 (f := .glo "_law_right") rfl)⟩
theorem hd__law_one_letter (X : K.In h) (G : h.Ns mainGlobals mg) (c : He.SaysD hd_fa hd_fn K) : Dfn K mg "_law_one_letter" s__law_one_letter := by
  obtain ⟨fd, F⟩ := c.def_ 27 (d := ⟨("_law_one_letter", none), "_law_one_letter", "_law_one_letter", defArgs s__law_one_letter, defBody s__law_one_letter, defScope s__law_one_letter, [], []⟩) rfl
  exact ⟨_, fd, F, He.glo_ok X G (c.fact 27 (f := .glo "_law_one_letter") rfl)⟩
theorem hd_law (X : K.In h) (G : h.Ns mainGlobals mg) (c : He.SaysD hd_fa hd_fn K) : Dfn K mg "law" s_law := by
  obtain ⟨fd, F⟩ := c.def_ 28 (d := ⟨("law", none), "law", "law", defArgs s_law, defBody s_law, defScope s_law, [], []⟩) rfl
  exact ⟨_, fd, F, He.glo_ok X G (c.fact 28 (f := .glo "law") rfl)⟩
theorem hd_bi (X : K.In h) (G : h.Ns mainGlobals mg) (c : He.SaysD hd_fa hd_fn K) : Bi mg where
  abs := He.free_ok X G (c.fact 29 (f := .free "abs") rfl)
  all := He.free_ok X G (c.fact 30 (f := .free "all") rfl)
  any := He.free_ok X G (c.fact 31 (f := .free "any") rfl)
  bool := He.free_ok X G (c.fact 32 (f := .free "bool") rfl)
  int := He.free_ok X G (c.fact 33 (f := .free "int") rfl)
  isinstance := He.free_ok X G (c.fact 34 (f := .free "isinstance") rfl)
  len := He.free_ok X G (c.fact 35 (f := .free "len") rfl)
  list := He.free_ok X G (c.fact 36 (f := .free "list") rfl)
  max := He.free_ok X G (c.fact 37 (f := .free "max") rfl)
  min := He.free_ok X G (c.fact 38 (f := .free "min") rfl)
  range := He.free_ok X G (c.fact 39 (f := .free "range") rfl)
  set := He.free_ok X G (c.fact 40 (f := .free "set") rfl)
  str := He.free_ok X G (c.fact 41 (f := .free "str") rfl)
  tuple := He.free_ok X G (c.fact 42 (f := .free "tuple") rfl)
  zip := He.free_ok X G (c.fact 43 (f := .free "zip") rfl)
  g_WIDEST := He.int_ok X G (c.fact 44 (f := .int "WIDEST" 5) rfl)
  g_LONGEST := He.int_ok X G (c.fact 45 (f := .int "LONGEST" 6) rfl)
  g_LETTERS := He.str_ok X G (c.fact 46 (f := .str "LETTERS" "abcdefghijklmnopqrstuvwxyz") rfl)
structure HdEx (K : PySem.W.Frag) : Prop where
  x0 : klgB K = true
  x1 : excB K "BadNumber" = true
  x2 : kitB2 K "BadNumber" "SnakeError" true = true
  x3 : kitB2 K "BadNumber" "BadNumber" true = true
  x4 : kitB2 K "BadNumber" "BadField" false = true
  x5 : kitB2 K "BadNumber" "BadWord" false = true
  x6 : kitB2 K "BadNumber" "BadSnake" false = true
  x7 : kitB2 K "BadNumber" "BadCell" false = true
theorem hd_exs (x : hd_ex K = true) : HdEx K := by
  unfold hd_ex at x
  simp only [Bool.and_eq_true] at x
  exact ⟨x.1, x.2.1, x.2.2.1, x.2.2.2.1, x.2.2.2.2.1, x.2.2.2.2.2.1, x.2.2.2.2.2.2.1, x.2.2.2.2.2.2.2.1⟩
theorem hd_x_SnakeError (X : K.In h) (G : h.Ns mainGlobals mg) (c : He.SaysD hd_fa hd_fn K) : ExK K mg "SnakeError" (He.ga K "SnakeError") := by
  obtain ⟨a, b, d, e⟩ := He.exc_ok (c.fact 48 (f := .exc "SnakeError") rfl)
  exact ⟨He.glo_ok X G (c.fact 47 (f := .glo "SnakeError") rfl), a, b, d, e⟩
theorem hd_exm_SnakeError_SnakeError (c : He.SaysD hd_fa hd_fn K) : PySem.W.exmOne K (.ref (He.ga K "SnakeError")) (.ref (He.ga K "SnakeError")) = some true := He.exm_ok (c.fact 59 (f := .exm "SnakeError" "SnakeError" true) rfl)
theorem hd_exm_SnakeError_BadNumber (c : He.SaysD hd_fa hd_fn K) : PySem.W.exmOne K (.ref (He.ga K "SnakeError")) (.ref (He.ga K "BadNumber")) = some false := He.exm_ok (c.fact 60 (f := .exm "SnakeError" "BadNumber" false) rfl)
theorem hd_exm_SnakeError_BadField (c : He.SaysD hd_fa hd_fn K) : PySem.W.exmOne K (.ref (He.ga K "SnakeError")) (.ref (He.ga K "BadField")) = some false := He.exm_ok (c.fact 61 (f := .exm "SnakeError" "BadField" false) rfl)
theorem hd_exm_SnakeError_BadWord (c : He.SaysD hd_fa hd_fn K) : PySem.W.exmOne K (.ref (He.ga K "SnakeError")) (.ref (He.ga K "BadWord")) = some false := He.exm_ok (c.fact 62 (f := .exm "SnakeError" "BadWord" false) rfl)
theorem hd_exm_SnakeError_BadSnake (c : He.SaysD hd_fa hd_fn K) : PySem.W.exmOne K (.ref (He.ga K "SnakeError")) (.ref (He.ga K "BadSnake")) = some false := He.exm_ok (c.fact 63 (f := .exm "SnakeError" "BadSnake" false) rfl)
theorem hd_exm_SnakeError_BadCell (c : He.SaysD hd_fa hd_fn K) : PySem.W.exmOne K (.ref (He.ga K "SnakeError")) (.ref (He.ga K "BadCell")) = some false := He.exm_ok (c.fact 64 (f := .exm "SnakeError" "BadCell" false) rfl)
theorem hd_x_BadNumber (X : K.In h) (G : h.Ns mainGlobals mg) (c : He.SaysD hd_fa hd_fn K) : ExK K mg "BadNumber" (He.ga K "BadNumber") := by
  obtain ⟨a, b, d, e⟩ := He.exc_ok (c.fact 50 (f := .exc "BadNumber") rfl)
  exact ⟨He.glo_ok X G (c.fact 49 (f := .glo "BadNumber") rfl), a, b, d, e⟩
theorem hd_exm_BadNumber_SnakeError (c : He.SaysD hd_fa hd_fn K) : PySem.W.exmOne K (.ref (He.ga K "BadNumber")) (.ref (He.ga K "SnakeError")) = some true := He.exm_ok (c.fact 65 (f := .exm "BadNumber" "SnakeError" true) rfl)
theorem hd_exm_BadNumber_BadNumber (c : He.SaysD hd_fa hd_fn K) : PySem.W.exmOne K (.ref (He.ga K "BadNumber")) (.ref (He.ga K "BadNumber")) = some true := He.exm_ok (c.fact 66 (f := .exm "BadNumber" "BadNumber" true) rfl)
theorem hd_exm_BadNumber_BadField (c : He.SaysD hd_fa hd_fn K) : PySem.W.exmOne K (.ref (He.ga K "BadNumber")) (.ref (He.ga K "BadField")) = some false := He.exm_ok (c.fact 67 (f := .exm "BadNumber" "BadField" false) rfl)
theorem hd_exm_BadNumber_BadWord (c : He.SaysD hd_fa hd_fn K) : PySem.W.exmOne K (.ref (He.ga K "BadNumber")) (.ref (He.ga K "BadWord")) = some false := He.exm_ok (c.fact 68 (f := .exm "BadNumber" "BadWord" false) rfl)
theorem hd_exm_BadNumber_BadSnake (c : He.SaysD hd_fa hd_fn K) : PySem.W.exmOne K (.ref (He.ga K "BadNumber")) (.ref (He.ga K "BadSnake")) = some false := He.exm_ok (c.fact 69 (f := .exm "BadNumber" "BadSnake" false) rfl)
theorem hd_exm_BadNumber_BadCell (c : He.SaysD hd_fa hd_fn K) : PySem.W.exmOne K (.ref (He.ga K "BadNumber")) (.ref (He.ga K "BadCell")) = some false := He.exm_ok (c.fact 70 (f := .exm "BadNumber" "BadCell" false) rfl)
theorem hd_x_BadField (X : K.In h) (G : h.Ns mainGlobals mg) (c : He.SaysD hd_fa hd_fn K) : ExK K mg "BadField" (He.ga K "BadField") := by
  obtain ⟨a, b, d, e⟩ := He.exc_ok (c.fact 52 (f := .exc "BadField") rfl)
  exact ⟨He.glo_ok X G (c.fact 51 (f := .glo "BadField") rfl), a, b, d, e⟩
theorem hd_exm_BadField_SnakeError (c : He.SaysD hd_fa hd_fn K) : PySem.W.exmOne K (.ref (He.ga K "BadField")) (.ref (He.ga K "SnakeError")) = some true := He.exm_ok (c.fact 71 (f := .exm "BadField" "SnakeError" true) rfl)
theorem hd_exm_BadField_BadNumber (c : He.SaysD hd_fa hd_fn K) : PySem.W.exmOne K (.ref (He.ga K "BadField")) (.ref (He.ga K "BadNumber")) = some false := He.exm_ok (c.fact 72 (f := .exm "BadField" "BadNumber" false) rfl)
theorem hd_exm_BadField_BadField (c : He.SaysD hd_fa hd_fn K) : PySem.W.exmOne K (.ref (He.ga K "BadField")) (.ref (He.ga K "BadField")) = some true := He.exm_ok (c.fact 73 (f := .exm "BadField" "BadField" true) rfl)
theorem hd_exm_BadField_BadWord (c : He.SaysD hd_fa hd_fn K) : PySem.W.exmOne K (.ref (He.ga K "BadField")) (.ref (He.ga K "BadWord")) = some false := He.exm_ok (c.fact 74 (f := .exm "BadField" "BadWord" false) rfl)
theorem hd_exm_BadField_BadSnake (c : He.SaysD hd_fa hd_fn K) : PySem.W.exmOne K (.ref (He.ga K "BadField")) (.ref (He.ga K "BadSnake")) = some false := He.exm_ok (c.fact 75 (f := .exm "BadField" "BadSnake" false) rfl)
theorem hd_exm_BadField_BadCell (c : He.SaysD hd_fa hd_fn K) : PySem.W.exmOne K (.ref (He.ga K "BadField")) (.ref (He.ga K "BadCell")) = some false := He.exm_ok (c.fact 76 (f := .exm "BadField" "BadCell" false) rfl)
theorem hd_x_BadWord (X : K.In h) (G : h.Ns mainGlobals mg) (c : He.SaysD hd_fa hd_fn K) : ExK K mg "BadWord" (He.ga K "BadWord") := by
  obtain ⟨a, b, d, e⟩ := He.exc_ok (c.fact 54 (f := .exc "BadWord") rfl)
  exact ⟨He.glo_ok X G (c.fact 53 (f := .glo "BadWord") rfl), a, b, d, e⟩
theorem hd_exm_BadWord_SnakeError (c : He.SaysD hd_fa hd_fn K) : PySem.W.exmOne K (.ref (He.ga K "BadWord")) (.ref (He.ga K "SnakeError")) = some true := He.exm_ok (c.fact 77 (f := .exm "BadWord" "SnakeError" true) rfl)
theorem hd_exm_BadWord_BadNumber (c : He.SaysD hd_fa hd_fn K) : PySem.W.exmOne K (.ref (He.ga K "BadWord")) (.ref (He.ga K "BadNumber")) = some false := He.exm_ok (c.fact 78 (f := .exm "BadWord" "BadNumber" false) rfl)
theorem hd_exm_BadWord_BadField (c : He.SaysD hd_fa hd_fn K) : PySem.W.exmOne K (.ref (He.ga K "BadWord")) (.ref (He.ga K "BadField")) = some false := He.exm_ok (c.fact 79 (f := .exm "BadWord" "BadField" false) rfl)
theorem hd_exm_BadWord_BadWord (c : He.SaysD hd_fa hd_fn K) : PySem.W.exmOne K (.ref (He.ga K "BadWord")) (.ref (He.ga K "BadWord")) = some true := He.exm_ok (c.fact 80 (f := .exm "BadWord" "BadWord" true) rfl)
theorem hd_exm_BadWord_BadSnake (c : He.SaysD hd_fa hd_fn K) : PySem.W.exmOne K (.ref (He.ga K "BadWord")) (.ref (He.ga K "BadSnake")) = some false := He.exm_ok (c.fact 81 (f := .exm "BadWord" "BadSnake" false) rfl)
theorem hd_exm_BadWord_BadCell (c : He.SaysD hd_fa hd_fn K) : PySem.W.exmOne K (.ref (He.ga K "BadWord")) (.ref (He.ga K "BadCell")) = some false := He.exm_ok (c.fact 82 (f := .exm "BadWord" "BadCell" false) rfl)
theorem hd_x_BadSnake (X : K.In h) (G : h.Ns mainGlobals mg) (c : He.SaysD hd_fa hd_fn K) : ExK K mg "BadSnake" (He.ga K "BadSnake") := by
  obtain ⟨a, b, d, e⟩ := He.exc_ok (c.fact 56 (f := .exc "BadSnake") rfl)
  exact ⟨He.glo_ok X G (c.fact 55 (f := .glo "BadSnake") rfl), a, b, d, e⟩
theorem hd_exm_BadSnake_SnakeError (c : He.SaysD hd_fa hd_fn K) : PySem.W.exmOne K (.ref (He.ga K "BadSnake")) (.ref (He.ga K "SnakeError")) = some true := He.exm_ok (c.fact 83 (f := .exm "BadSnake" "SnakeError" true) rfl)
theorem hd_exm_BadSnake_BadNumber (c : He.SaysD hd_fa hd_fn K) : PySem.W.exmOne K (.ref (He.ga K "BadSnake")) (.ref (He.ga K "BadNumber")) = some false := He.exm_ok (c.fact 84 (f := .exm "BadSnake" "BadNumber" false) rfl)
theorem hd_exm_BadSnake_BadField (c : He.SaysD hd_fa hd_fn K) : PySem.W.exmOne K (.ref (He.ga K "BadSnake")) (.ref (He.ga K "BadField")) = some false := He.exm_ok (c.fact 85 (f := .exm "BadSnake" "BadField" false) rfl)
theorem hd_exm_BadSnake_BadWord (c : He.SaysD hd_fa hd_fn K) : PySem.W.exmOne K (.ref (He.ga K "BadSnake")) (.ref (He.ga K "BadWord")) = some false := He.exm_ok (c.fact 86 (f := .exm "BadSnake" "BadWord" false) rfl)
theorem hd_exm_BadSnake_BadSnake (c : He.SaysD hd_fa hd_fn K) : PySem.W.exmOne K (.ref (He.ga K "BadSnake")) (.ref (He.ga K "BadSnake")) = some true := He.exm_ok (c.fact 87 (f := .exm "BadSnake" "BadSnake" true) rfl)
theorem hd_exm_BadSnake_BadCell (c : He.SaysD hd_fa hd_fn K) : PySem.W.exmOne K (.ref (He.ga K "BadSnake")) (.ref (He.ga K "BadCell")) = some false := He.exm_ok (c.fact 88 (f := .exm "BadSnake" "BadCell" false) rfl)
theorem hd_x_BadCell (X : K.In h) (G : h.Ns mainGlobals mg) (c : He.SaysD hd_fa hd_fn K) : ExK K mg "BadCell" (He.ga K "BadCell") := by
  obtain ⟨a, b, d, e⟩ := He.exc_ok (c.fact 58 (f := .exc "BadCell") rfl)
  exact ⟨He.glo_ok X G (c.fact 57 (f := .glo "BadCell") rfl), a, b, d, e⟩
theorem hd_exm_BadCell_SnakeError (c : He.SaysD hd_fa hd_fn K) : PySem.W.exmOne K (.ref (He.ga K "BadCell")) (.ref (He.ga K "SnakeError")) = some true := He.exm_ok (c.fact 89 (f := .exm "BadCell" "SnakeError" true) rfl)
theorem hd_exm_BadCell_BadNumber (c : He.SaysD hd_fa hd_fn K) : PySem.W.exmOne K (.ref (He.ga K "BadCell")) (.ref (He.ga K "BadNumber")) = some false := He.exm_ok (c.fact 90 (f := .exm "BadCell" "BadNumber" false) rfl)
theorem hd_exm_BadCell_BadField (c : He.SaysD hd_fa hd_fn K) : PySem.W.exmOne K (.ref (He.ga K "BadCell")) (.ref (He.ga K "BadField")) = some false := He.exm_ok (c.fact 91 (f := .exm "BadCell" "BadField" false) rfl)
theorem hd_exm_BadCell_BadWord (c : He.SaysD hd_fa hd_fn K) : PySem.W.exmOne K (.ref (He.ga K "BadCell")) (.ref (He.ga K "BadWord")) = some false := He.exm_ok (c.fact 92 (f := .exm "BadCell" "BadWord" false) rfl)
theorem hd_exm_BadCell_BadSnake (c : He.SaysD hd_fa hd_fn K) : PySem.W.exmOne K (.ref (He.ga K "BadCell")) (.ref (He.ga K "BadSnake")) = some false := He.exm_ok (c.fact 93 (f := .exm "BadCell" "BadSnake" false) rfl)
theorem hd_exm_BadCell_BadCell (c : He.SaysD hd_fa hd_fn K) : PySem.W.exmOne K (.ref (He.ga K "BadCell")) (.ref (He.ga K "BadCell")) = some true := He.exm_ok (c.fact 94 (f := .exm "BadCell" "BadCell" true) rfl)
theorem hd_c_BadNumber (X : K.In h) (G : h.Ns mainGlobals mg) (c : He.SaysD hd_fa hd_fn K) (x : hd_ex K = true) : ExcC K (He.ga K "BadNumber") := excB_ok (hd_x_BadNumber X G c) (klgB_ok (hd_exs x).x0) (hd_exs x).x1
theorem hd_kit_BadNumber_SnakeError (x : hd_ex K = true) : PySem.W.kitOne K (.ref (He.ga K "BadNumber")) (.ref (He.ga K "SnakeError")) = some true := of_decide_eq_true (hd_exs x).x2
theorem hd_kit_BadNumber_BadNumber (x : hd_ex K = true) : PySem.W.kitOne K (.ref (He.ga K "BadNumber")) (.ref (He.ga K "BadNumber")) = some true := of_decide_eq_true (hd_exs x).x3
theorem hd_kit_BadNumber_BadField (x : hd_ex K = true) : PySem.W.kitOne K (.ref (He.ga K "BadNumber")) (.ref (He.ga K "BadField")) = some false := of_decide_eq_true (hd_exs x).x4
theorem hd_kit_BadNumber_BadWord (x : hd_ex K = true) : PySem.W.kitOne K (.ref (He.ga K "BadNumber")) (.ref (He.ga K "BadWord")) = some false := of_decide_eq_true (hd_exs x).x5
theorem hd_kit_BadNumber_BadSnake (x : hd_ex K = true) : PySem.W.kitOne K (.ref (He.ga K "BadNumber")) (.ref (He.ga K "BadSnake")) = some false := of_decide_eq_true (hd_exs x).x6
theorem hd_kit_BadNumber_BadCell (x : hd_ex K = true) : PySem.W.kitOne K (.ref (He.ga K "BadNumber")) (.ref (He.ga K "BadCell")) = some false := of_decide_eq_true (hd_exs x).x7
end
theorem law_all {P : Program} {w : World} {K : PySem.W.Frag} {h : Heap} {mg : Str → Option Value} (X : K.In h) (G : h.Ns mainGlobals mg) (c : He.SaysD hd_fa hd_fn K) (x : hd_ex K = true) (base : Heap) : CalG P w K mg base CX0 13 "law" ["_law_script"] (spLaw K) := by
  have B := hd_bi X G c
  have x_SnakeError := hd_x_SnakeError X G c
  have x_BadNumber := hd_x_BadNumber X G c
  have x_BadField := hd_x_BadField X G c
  have x_BadWord := hd_x_BadWord X G c
  have x_BadSnake := hd_x_BadSnake X G c
  have x_BadCell := hd_x_BadCell X G c
  have c_is_whole := ok_is_whole (P := P) (w := w) (base := base) (hd_is_whole X G c) B
  have c_is_text := ok_is_text (P := P) (w := w) (base := base) (hd_is_text X G c) B
  have c_check_field := ok_check_field (hd_check_field X G c) B c_is_text
  have c_check_word := ok_check_word (hd_check_word X G c) B c_is_text
  have c_is_cell := ok_is_cell (hd_is_cell X G c) B c_is_whole
  have c_near_of := ok_near_of (P := P) (w := w) (base := base) (hd_near_of X G c) B
  have c_cells_in := ok_cells_in (P := P) (wl := w) (base := base) (hd_cells_in X G c) B
  have c_letter_at := ok_letter_at (P := P) (wl := w) (base := base) (hd_letter_at X G c) B
  have c_is_snake := ok_is_snake (hd_is_snake X G c) B c_is_cell c_near_of
  have c_spelled := ok_spelled (hd_spelled X G c) B c_letter_at
  have c_next_cells := ok_next_cells (hd_next_cells X G c) B c_cells_in c_near_of
  have c_snakes_on := ok_snakes_on (hd_snakes_on X G c) B c_next_cells c_letter_at 6
  have c_law_cell_at := ok_law_cell_at (P := P) (w := w) (base := base) (hd__law_cell_at X G c) B
  have c_law_draw := ok_law_draw (P := P) (w := w) (base := base) (hd__law_draw X G c) B
  have c_law_number := ok_law_number (hd__law_number X G c) B c_law_draw
  have c_law_field := ok_law_field (hd__law_field X G c) B c_law_cell_at c_law_number
  have c_law_beside := ok_law_beside (P := P) (w := w) (base := base) (hd__law_beside X G c) B
  have c_law_cells := ok_law_cells (P := P) (w := w) (base := base) (hd__law_cells X G c) B
  have c_law_broad := ok_law_broad (hd__law_broad X G c) B c_law_cell_at c_law_number
  have c_law_snakes := ok_law_snakes (hd__law_snakes X G c) B c_law_cells c_law_beside
  have c_law_word := ok_law_word (hd__law_word X G c) B c_law_cell_at c_law_number c_law_cells c_law_beside
  have c_law_whole := ok_law_whole (P := P) (wl := w) (base := base) (hd__law_whole X G c) B
  have c_how_many := ok_how_many (hd_how_many X G c) B c_check_field c_check_word c_snakes_on
  have c_by_number := ok_by_number (hd_by_number X G c) B c_is_whole c_check_field c_check_word c_snakes_on
  have c_by_numberX := ok_by_numberX (hd_by_number X G c) B x_BadNumber c_is_whole c_check_field c_check_word c_snakes_on
  have c_number_of := ok_number_of (hd_number_of X G c) B c_check_field c_is_cell c_is_snake c_spelled c_snakes_on
  have c_law_barred := ok_law_barred (hd__law_barred X G c) B x_BadNumber x_SnakeError x_BadField x_BadWord x_BadSnake x_BadCell (hd_c_BadNumber X G c x) (hd_exm_BadNumber_SnakeError c) (hd_kit_BadNumber_BadNumber x) (hd_kit_BadNumber_BadField x) (hd_kit_BadNumber_BadWord x) (hd_kit_BadNumber_BadSnake x) (hd_kit_BadNumber_BadCell x) c_by_numberX
  have c_law_right := ok_law_right (hd__law_right X G c) B c_law_snakes c_how_many c_by_number c_number_of c_law_whole c_law_barred
  have c_law_one_letter := ok_law_one_letter (hd__law_one_letter X G c) B c_how_many c_by_number
  exact ok_law (hd_law X G c) B c_law_field c_law_broad c_law_word c_law_right c_how_many c_law_one_letter
end Sk
open PySem PySem.W PySem.Calls PyProof.Rows
set_option maxHeartbeats 0 in
theorem PySem.Challenge.cw_lettersnake_k04_whole_numbers_holds : PySem.Challenge.rw_lettersnake_k04_whole_numbers.Holds := by
  w_on; o_law
  refine HandSHeadRun.head_any (r := OpenLaw.row PySem.Challenge.rw_lettersnake_k04_whole_numbers) (q := view (OpenLaw.row PySem.Challenge.rw_lettersnake_k04_whole_numbers).prog [42]) (H := Sk.hd_hk) (ob := Sk.hd_ob) (loose := Sk.hd_names) (d := HandSHeadRun.topDef (OpenLaw.row PySem.Challenge.rw_lettersnake_k04_whole_numbers).prog 42) (kwd := []) Sk.hd_obeq
    (by kernel_rfl) (fun s => by kernel_rfl) Sk.hd_run (by kernel_rfl) (by kernel_rfl) (by kernel_rfl) (by rfl) (by first | assumption | decide +kernel) (by decide +kernel) ⟨rfl, rfl, rfl, rfl, rfl, by decide +kernel⟩ ?hw ?hc
  case hw => w_witness2
  case hc =>
    refine Sk.walk_G (l := PySem.Challenge.rw_lettersnake_k04_whole_numbers) (n := 63) (k := 13) (x := "_law_script") rfl (by decide) (by kernel_rfl) ⟨rfl, by decide, by decide⟩ ?F
    intro w mg fa h Y G hmg0
    obtain ⟨K, KX, c, cx⟩ := Y
    have hmg : mg ("law" : PySem.Str) = some (.ref fa) := by
      have e : (HandSHeadRun.topDef (OpenLaw.row PySem.Challenge.rw_lettersnake_k04_whole_numbers).prog 42).name = ("law" : PySem.Str) := by kernel_rfl
      rw [← e]
      exact hmg0
    obtain ⟨fa2, fd, g, hb, hF⟩ := Sk.law_end (P := (PySem.Challenge.rw_lettersnake_k04_whole_numbers).prog) (w := w) (Sk.hd_law KX G c) Sk.bn_law fun base h1 h2 => Sk.law_all (P := (PySem.Challenge.rw_lettersnake_k04_whole_numbers).prog) (w := w) KX G c cx base
    have e := hmg.symm.trans g
    cases e
    exact ⟨K, fd, Sk.spLaw K, KX, hb, fun H a ns hl hbits hO hS => ⟨a, ns, 1048576, rfl, hS, Sk.bits_of hbits, by decide, hl, fun _ => rfl⟩, hF⟩
