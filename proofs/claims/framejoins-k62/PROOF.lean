import PyProof.Rows.All
import Wide.All
import OpenK.AllK
import Wide.FinOn
import KE.KStateDown
import HandS.ForMost
import HandS.Codes
import HandS.Property
import HandS.OwnEq
import HandS.Walk
import HandS.Conv
import HandS.ClsMeth
import HandS.TupAny
import HandS.TupLe
import HandS.IsInst
import HandS.Style
import HandS.Wide
import HandS.Defaults
import KE.KOpsOwn
import KE.KUnpackStar
import HandS.ExcOwn
import PyProof.RulesMatch
import Lean
import HandS.Ends
import HandS.More
import HandS.Words
import HandS.WordsExc
import HandS.Head0
import HandS.Head1
import HandS.Head2
import HandS.HeadEnd
import HandS.HeadHook1
import HandS.HeadHook2
import HandS.HeadNt
import PySem.Challenge.RW_framejoins_k62_whole_scripts_that_say_th
set_option Elab.async false
set_option linter.all false
set_option maxRecDepth 100000
set_option maxHeartbeats 4000000
/-! own rules: match, a staticmethod by its class, own operators, a starred target -/
namespace FJ
open PySem PySem.Spec PyProof.Rows L2

/-! ### match over texts -/
section
variable {X : Cx}
structure PMC (X : Cx) (cases : List MatchCase) (t : V → TS) : Prop where
  run : ∀ (first : Bool) (pins : List (Addr × Obj)) (s : Shared) (σ : L2.St) (H : Hp) (v : V) (u : Value) (D : Ends), Inv X pins σ H s → RelV v u → t v D σ H → wpAny (model X.prog X.w) X.A (matchCases cases X.env u first) (SP X pins D) X.xe s
def tMNil : V → TS := fun _ D σ H => D.nx σ H
def tMStr (z : Str) (tb : TS) (tr : V → TS) : V → TS := fun v D σ H => ∃ x, v = .str x ∧ if decide (x = z) = true then tb D σ H else tr v D σ H
theorem pmc_nil : PMC X [] tMNil := ⟨fun _ _ _ σ H _ _ _ I _ h => wpAny_matchCases_nil ⟨σ, H, I, h⟩⟩
theorem pmc_str {z : Str} {j p p' body rest} {tb : TS} {tr : V → TS} (hb : PSs X body tb) (hr : PMC X rest tr) : PMC X (⟨.MatchValue (.Constant (.str z) j p) p', none, body⟩ :: rest) (tMStr z tb tr) := by
  refine ⟨fun first pins s σ H v u D I r h => ?_⟩
  obtain ⟨x, rfl, h⟩ := h
  obtain ⟨t, rfl⟩ := r
  refine wpAny_matchCases_cons (wpAny_matchPattern_Value ?_)
  refine Calls.Constant_str ?_
  refine eq_str ?_
  refine wpAny_truthy_bool ?_
  by_cases e : x = z
  · subst e
    simp only [decide_true, if_true, beq_self_eq_true] at h ⊢
    exact wpAny_assignInOrder_none (hb.run pins _ σ H D (I.tok _) h)
  · have e2 : decide (x = z) = false := decide_eq_false e
    have e3 : (x == z) = false := beq_eq_false_iff_ne.mpr e
    rw [e2] at h
    simp only [e3, Bool.false_eq_true, if_false] at h ⊢
    exact hr.run false pins _ σ H (.str x) _ D (I.tok _) ⟨t, rfl⟩ h
def tMatch (te : TE) (t : V → TS) : TS := fun D σ H => te σ H fun v H1 => t v D σ H1
theorem ps_match {e : Expr} {cases : List MatchCase} {pos : Pos} {te : TE} {t : V → TS} (he : PE X e te) (hc : PMC X cases t) : PS X (.Match e cases pos) (tMatch te t) := by
  exact ⟨fun pins s σ H D I h => wpAny_Match (thn (he.run pins s σ H _ I h) fun u s1 ⟨v, H1, I1, r, q⟩ => hc.run true pins s1 σ H1 v u D I1 r q)⟩
end

/-! ### C.m(..), m a staticmethod of the class C -/
/-- C.m is a staticmethod: its record at p, its def at g -/
structure SMet (K : PySem.W.Frag) (C : Addr) (mc : Value) (m : Str) (p g : Addr) : Prop where
  at_ : PySem.W.findCls K (.ref C) mc m = some (.get (.builtin "staticmethod.__get__") (.ref p) .none (.ref C))
  rc : ∃ rest, PySem.W.recIn K p "staticmethod" = some (.ref g :: rest)
  kp : PySem.W.keepIn K (.ref g) = true
section
variable {X : Cx} {CX : CXT} {k : Nat} {C p g : Addr} {mc : Value} {sp : Sp} {E : XK} {o e : Expr} {es : List Expr} {m : Str} {pos apos : Pos} {ta : TE} {t : TA} {pl : Sem Bool} {fd : FuncData} {ps : List Str} {ds : List Value} {dvs : List V}
/-- C.m(..) -/
def tSMeth (C : Addr) (sp : Sp) (dvs : List V) (E : XK) (ta : TE) (t : TA) : TE := fun σ H Q => ta σ H fun x H1 => x = .ref C ∧ t σ H1 fun vs H2 => sp (vs ++ dvs) H2 Q E
/-- a method's call without keywords, as the model runs it -/
def byMethod (X : Cx) (o : Expr) (m : Str) (args : List Expr) (apos pos : Pos) (pl : Sem Bool) : Sem Value := eval o X.env >>= fun recv => standAt apos.atName >>= fun _ => holding [recv] (getMethod recv m pl) >>= fun got =>
  match got with
  | (fn, bound) => callWith pos fn bound (backTo pos (starEach args X.env)) (backToKw pos (keywordEach [] X.env))
theorem getsm_ok {pins : List (Addr × Obj)} {σ : L2.St} {H : Hp} {s : Shared} {A : Around} {E : Value → Shared → Prop} {Q : Value × List Value → Shared → Prop} (I : Inv X pins σ H s) (r : ClX.CRead X.K C mc) (c : SMet X.K C mc m p g)
    (h : ∀ s', Inv X pins σ H s' → Q (.ref g, []) s') : wpAny (model X.prog X.w) A (getMethod (.ref C) m pl) Q E s := by
  obtain ⟨rest, hp⟩ := c.rc
  refine PySem.W.method_cls I.kIn r.ga ?_
  refine PySem.W.cls_bind I.kIn r.rd c.at_ ?_
  refine wpAny_call (PySem.W.sm_get (s := { s with toks := s.toks + 1 }) I.kIn hp (PySem.W.handed_on rfl ?_))
  exact h _ (I.tok _)
theorem pe_smeth (he : PE X o ta) (r : ClX.CRead X.K C mc) (c : SMet X.K C mc m p g) (F : FnOk X.prog X.w X.K X.mg X.base CX k g fd ps sp) (hr : Room k X.A) (hb : Binds X.K fd ps ds) (hd : Vals dvs ds) (hx : Passes CX X E) (ha : PA X (e :: es) t) (plain : starEach (e :: es) X.env = (false, eval e X.env) :: starEach es X.env := by rfl)
    (rest : (backTo pos (starEach es X.env)).any (·.1) = false := by rfl) (form : eval (.Call (.Attribute o m apos) (e :: es) [] pos) X.env = byMethod X o m (e :: es) apos pos pl := by rfl) : PE X (.Call (.Attribute o m apos) (e :: es) [] pos) (tSMeth C sp dvs E ta t) := by
  refine ⟨fun pins s σ H Q I h => PySem.W.methodCall_KW (pl := pl) (thn (he.run pins s σ H _ I h) ?_) form⟩
  rintro u s1 ⟨x, H1, I1, rx, rfl, q⟩
  cases rx
  exact getsm_ok I1 r c fun s2 I2 => PySem.W.callWith_K (first := []) (h₀ := X.base) I.ok.mod.kin c.kp (thn (ha.run pos pins s2 σ H1 _ I2 q) fun us s3 ⟨vs, H2, I3, rv, q2⟩ => ⟨I3.kIn, run_fn F hr hb hd hx I3 rv q2⟩) plain rest
end

/-! ### operators of an own class -/
section
variable {X : Cx} {CX : CXT} {k : Nat} {C g : Addr} {sp : Sp} {E : XK} {fd : FuncData} {ps : List Str} {op : Operator}
theorem cmpBack_of {Q : VK} {pins : List (Addr × Obj)} {σ : L2.St} {v : Value} {s : Shared} (h : EP X pins σ Q v s) : PySem.W.CmpBack (EP X pins σ Q) v s := by
  obtain ⟨x, H', I, r, q⟩ := h
  have e : EP X pins σ Q v s := ⟨x, H', I, r, q⟩
  cases v <;> first | exact e | (exfalso; cases x <;> (first | (cases r; done) | (obtain ⟨t, z⟩ := r; cases z)))
/-- x op y, both instances of C -/
def rOwn2 (C : Addr) (sp : Sp) (E : XK) : R2 := fun x y H Q => ∃ a b dx dy fs gs, x = .ref a ∧ y = .ref b ∧ H a = some (.ins C dx fs) ∧ H b = some (.ins C dy gs) ∧ sp [x, y] H Q E
theorem op_own2 (hc : PySem.W.selfFirst X.K C = true) (hs : PySem.W.findIn X.K (.ref C) (PySem.dunder op.info.2) = some (some (.ref g))) (hf : PySem.W.isFn X.K (.ref g) = true)
    (F : FnOk X.prog X.w X.K X.mg X.base CX k g fd ps sp) (hr : Room k X.A) (hb : Binds X.K fd ps []) (hx : Passes CX X E) : OpR X (binaryOp op) (rOwn2 C sp E) := by
  rintro pins s σ H x y v u Q I rx ry ⟨a, b, dx, dy, fs, gs, rfl, rfl, ha, hb', q⟩
  cases rx
  cases ry
  obtain ⟨_, JA, _⟩ := ins_get I.hok ha
  obtain ⟨_, JB, _⟩ := ins_get I.hok hb'
  obtain ⟨_, J, _⟩ := JA.look
  obtain ⟨_, J', _⟩ := JB.look
  obtain ⟨m, hF⟩ := I.fr
  refine PySem.W.binop_K hF I.ok.mod.kin J J'.type hc hs hf ?_
  refine thn (run_fn (dvs := []) (us := [.ref a, .ref b]) (vs := [.ref a, .ref b]) F hr hb .nil hx I (.cons rfl (.cons rfl .nil)) ?_) fun v s' z => cmpBack_of z
  simpa using q
/-- x op n, x an instance of C, n an int -/
def rOwnI (C : Addr) (sp : Sp) (E : XK) : R2 := fun x y H Q => ∃ a n dx fs, x = .ref a ∧ y = .int n ∧ H a = some (.ins C dx fs) ∧ sp [x, y] H Q E
theorem op_ownI {fo ro rc : Option Value} (hc : PySem.W.selfFirst X.K C = true) (hs : PySem.W.findIn X.K (.ref C) (PySem.dunder op.info.2) = some (some (.ref g))) (hf : PySem.W.isFn X.K (.ref g) = true)
    (hr' : PySem.W.findIn X.K (.ref C) (dunderR op.info.2) = some rc) (hp : rc = none ∨ ∃ g : Addr, rc = some (.ref g)) (h1 : PySem.W.findIn X.K (.type "int") (PySem.dunder op.info.2) = some fo) (h2 : PySem.W.findIn X.K (.type "int") (dunderR op.info.2) = some ro)
    (hsub : PySem.W.subIn X.K (.type "int") (.ref C) = some false)
    (F : FnOk X.prog X.w X.K X.mg X.base CX k g fd ps sp) (hr : Room k X.A) (hb : Binds X.K fd ps []) (hx : Passes CX X E) : OpR X (binaryOp op) (rOwnI C sp E) := by
  rintro pins s σ H x y v u Q I rx ry ⟨a, n, dx, fs, rfl, rfl, ha, q⟩
  cases rx
  obtain ⟨t, rfl⟩ := ry
  obtain ⟨_, J, _⟩ := ins_get I.hok ha
  obtain ⟨od, J, _⟩ := J.look
  obtain ⟨m, hF⟩ := I.fr
  refine PySem.W.ksp_binT (T := "int") hF I.ok.mod.kin J rfl hc hs hf hr' hp h1 h2 hsub ?_
  refine thn (run_fn (dvs := []) (us := [.ref a, .int n t]) (vs := [.ref a, .int n]) F hr hb .nil hx I (.cons rfl (.cons ⟨t, rfl⟩ .nil)) ?_) fun v s' z => cmpBack_of z
  simpa using q
end

/-! ### *a, b = t -/
section
variable {prog : Program} {w : World} {A : Around} {E : Value → Shared → Prop} {s : Shared}
open PySem.W PySem.Calls in
/-- all but the last go into a new list, what stood in the heap stays -/
theorem star2 {t : Addr} {its : Array Value} {Q : List Value → Shared → Prop} (T : IsTup s.heap t its) (calm : A.handled = none) (full : 1 ≤ its.size) (small : its.size ≤ 16384)
    (fin : ∀ D hp tk, (∀ b o, s.heap.get? b = some o → hp.get? b = some o) → s.heap.get? D = none → hp.get? D = some { cls := .type "list", data := .seq (its.toList.take (its.size - 1)).toArray 0 } → Q (.ref D :: its.toList.drop (its.size - 1)) { s with heap := hp, toks := tk }) :
    wpAny (model prog w) A (unpackItems (.ref t) 2 (some 0)) Q E s := by
  have below : t < s.heap.objs.size := T.elim fun _ z => Heap.lt_size z.1
  have len : its.toList.length = its.size := Array.length_toList
  unfold unpackItems notIterableAtAll
  refine wpAny_bind (wpAny_bind (wpAny_specialOf T.typeIs slot_tuple_iter.lookup (wpAny_pure ?_)))
  rw [if_neg (by decide)]
  refine wpAny_bind (wpAny_holding (iter_tuple T (wpAny_bind (wpAny_holding ?_))))
  -- nothing is drawn ahead of the star
  refine draw_tuple (Nat.ne_of_lt below) 0 0 _ _ ⟨_, Heap.get?_push_size _ rfl, rfl, rfl⟩ (T.push _) (Nat.zero_le _) fun h1 walker stays => ?_
  have T1 : IsTup h1 t its := (T.push _).extBut stays.extBut (Nat.ne_of_lt below)
  rw [if_neg (show ¬ (List.take 0 (List.drop 0 its.toList)).length < 0 from Nat.not_lt_zero _)]
  refine wpAny_bind (wpAny_holding ?rest)
  have i1 : s.heap.objs.size < h1.objs.size := walker.elim fun _ z => Heap.lt_size z.1
  have i2 : t < h1.objs.size := T1.elim fun _ z => Heap.lt_size z.1
  refine kun_collect (T := "tuple_iterator") (k := 0) (.inr (.inr (.inr rfl))) (Walks.tuple (A := A.in1) calm s.heap.objs.size t (Nat.ne_of_lt below) its) (fun _ _ z => z.1.typeIs) (Nat.zero_le _) ⟨walker, T1⟩ i1 i2 (fun h2 tk more => ?_) (by rw [sizeLine_eq]; omega)
  rw [List.drop_zero]
  show wpAny _ _ (if its.toList.length < 1 then _ else (newList (its.toList.take (its.toList.length - 1)) >>= fun d => pure ([] ++ [d] ++ its.toList.drop (its.toList.length - 1)))) _ _ _
  rw [if_neg (by omega), len]
  have stay : ∀ b o, s.heap.get? b = some o → h2.get? b = some o := fun b o z =>
    have nb : b ≠ s.heap.objs.size := Nat.ne_of_lt (Heap.lt_size z)
    more b o nb (stays.extBut b o nb (Heap.get?_push_of_some _ z))
  refine wpAny_bind (wpAny_newList (wpAny_pure (fin h2.objs.size (h2.push _) tk (fun b o z => Heap.get?_push_of_some _ (stay b o z)) ?_ (Heap.get?_push_size _ rfl))) (by rw [List.length_take, sizeLine_eq]; omega))
  cases z : s.heap.get? h2.objs.size with
  | none => rfl
  | some o => exact (Nat.lt_irrefl _ (Heap.lt_size (stay _ _ z))).elim
end
section
variable {X : Cx} {pins : List (Addr × Obj)} {σ : L2.St} {H : Hp} {s : Shared} {h' : Heap}
theorem fresh' {a : Addr} (I : Inv X pins σ H s) (n : s.heap.get? a = none) : H a = none := by
  cases e : H a with
  | none => rfl
  | some o =>
    obtain ⟨u, q⟩ := objOk_get (I.hok a o e)
    rw [n] at q; cases q
theorem laid' {a : Addr} {o : HO} {t' : Nat} (I : Inv X pins σ H s) (k : ∀ b u, s.heap.get? b = some u → h'.get? b = some u) (n : s.heap.get? a = none) (new : ObjOk X.prog X.w (upd H a o) h' a o) :
    Inv X pins σ (upd H a o) { s with heap := h', toks := t' } := by
  have hn := fresh' I n
  have ne : ∀ b u, s.heap.get? b = some u → b ≠ a := fun b u e z => by subst z; rw [n] at e; cases e
  refine I.un ⟨fun b u q _ _ _ => k b u q, fun b u q _ _ _ => ⟨u.slots, k b u q⟩, fun b u q m _ => by rw [upd_ne (ne b u q)]; exact m, fun b u q _ => ⟨u, k b u q⟩, fun b xs q => by rw [upd_ne (ne_of_none q hn)]; exact q, fun b u xs q => by rw [upd_ne (ne_of_none q hn)]; exact q, fun b ps q => ⟨#[], by rw [upd_ne (ne_of_none q hn), q]; simp⟩⟩ fun b u e => ?_
  by_cases hb : b = a
  · subst hb
    rw [upd_same] at e
    exact Option.some.inj e ▸ new
  · rw [upd_ne hb] at e
    exact (I.hok b u e).stay (fun c v _ q => k c v q) (fun c q => by rw [upd_ne (ne_of_none q hn)]; exact q) fun c xs q => by rw [upd_ne (ne_of_none q hn)]; exact q
/-- *x, y = t: t a tuple xs ++ [z]: x is a new list of xs -/
def gStar1 (K : PySem.W.Frag) (t : TGs) : TG := fun v σ H Q => ∃ (a : Addr) (xs : List V) (z : V), v = .ref a ∧ SqT K H a (xs ++ [z]) ∧ xs.length ≤ 1000 ∧ ∀ p, H p = none → t [.ref p, z] σ (upd H p (.lst xs)) Q
theorem pg_star1 {e1 e2 : Expr} {sp : Pos} {k : Nat} {pos : Pos} {t : TGs} (hc : X.calm = true) (h : PGs X [e1, e2] t)
    (hst : (assignEach [.Starred e1 sp, e2] X.env) = [(true, assign e1 X.env), (false, assign e2 X.env)] := by rfl) (hst2 : (assignEach [e1, e2] X.env).map (·.2) = [assign e1 X.env, assign e2 X.env] := by rfl) : PG X (.Tuple [.Starred e1 sp, e2] k pos) (gStar1 X.K t) := by
  constructor
  rintro pins s σ H v u Q I r ⟨a, xs, z, rfl, hq, hl, hw⟩
  cases r
  obtain ⟨its, rv, ht, -⟩ := I.tuple hq
  have hlen : its.length = xs.length + 1 := by rw [← rv.length, List.length_append]; rfl
  rw [assign_Tuple]
  unfold unpack
  refine wpAny_bind (wpAny_standAt (wpAny_bind ?_))
  rw [hst]
  refine (wpAny_holding (star2 ht (I.ok.hd hc) (by simp; omega) (by simp; omega) fun D h' tk k1 k2 k3 => ?_))
  have rt : Vals xs (its.take xs.length) := by
    have := rv.take xs.length
    rwa [List.take_left' rfl] at this
  have rd : Vals [z] (its.drop xs.length) := by
    have := rv.drop xs.length
    rwa [List.drop_left' rfl] at this
  have hH := fresh' I k2
  have esz : its.toArray.size - 1 = xs.length := by simp; omega
  rw [esz] at k3 ⊢
  have I2 : Inv X pins σ (upd H D (.lst xs)) { s with heap := h', toks := tk } := laid' I k1 k2 ⟨by rw [sizeLine_eq]; omega, its.take xs.length, 0, rt, k3⟩
  have hh := h.run pins _ σ _ [.ref D, z] (.ref D :: its.drop xs.length) Q I2 (.cons rfl rd) (hw D hH)
  rw [hst2] at hh
  simpa using hh
end

/-! ### bundles: what is called, by its promise -/

theorem pe_c0 {X : Cx} {k j : Nat} {x : Str} {sp : Sp} {dvs : List V} {p pos : Pos} (c : C8.Cal X.prog X.w X.K X.mg X.base k x sp dvs) (hr : Room j X.A) (hk : k ≤ j) (hg : Gl X x)
    (hdb : (x == ("__debug__" : Str)) = false := by decide) : PE X (.Call (.Name x p) [] [] pos) (tCall sp dvs E0 tNil) := by
  obtain ⟨fa, fd, ps, ds, F, gl, kp, b, d⟩ := c.ex
  exact pe_call0 F (hr.mono hk) hg gl kp b d pass0 hdb

theorem pe_mk0 {X : Cx} {k j : Nat} {C : Addr} {x : Str} {sp : Sp} {dvs : List V} {p pos : Pos} (c : C8.Mak X.prog X.w X.K X.mg X.base k x C sp dvs) (hr : Room j X.A) (hk : k + 1 ≤ j) (hg : Gl X x)
    (hdb : (x == ("__debug__" : Str)) = false := by decide) : PE X (.Call (.Name x p) [] [] pos) (tMake C sp dvs E0 tNil) := by
  obtain ⟨fa, fd, ps, ds, M, F, gl, b, d⟩ := c.ex
  exact pe_make0 M F (hr.mono hk) hg gl b d pass0 hdb
/-- a staticmethod of the class at C -/
structure Sta (P : Program) (w : World) (K : PySem.W.Frag) (mg : Str → Option Value) (base : Heap) (k : Nat) (C : Addr) (m : Str) (sp : Sp) (dvs : List V) : Prop where
  ex : ∃ (mc : Value) (p g : Addr) (fd : FuncData) (ps : List Str) (ds : List Value), ClX.CRead K C mc ∧ SMet K C mc m p g ∧ FnOk P w K mg base CX0 k g fd ps sp ∧ Binds K fd ps ds ∧ Vals dvs ds
theorem pe_sta {X : Cx} {k j : Nat} {C : Addr} {m : Str} {sp : Sp} {dvs : List V} {pos apos : Pos} {o e : Expr} {es : List Expr} {ta : TE} {t : TA} {pl : Sem Bool} (c : Sta X.prog X.w X.K X.mg X.base k C m sp dvs) (hr : Room j X.A) (hk : k ≤ j) (he : PE X o ta) (ha : PA X (e :: es) t) (plain : starEach (e :: es) X.env = (false, eval e X.env) :: starEach es X.env := by rfl)
    (rest : (backTo pos (starEach es X.env)).any (·.1) = false := by rfl) (form : eval (.Call (.Attribute o m apos) (e :: es) [] pos) X.env = byMethod X o m (e :: es) apos pos pl := by rfl) : PE X (.Call (.Attribute o m apos) (e :: es) [] pos) (tSMeth C sp dvs E0 ta t) := by
  obtain ⟨mc, p, g, fd, ps, ds, r, s, F, b, d⟩ := c.ex
  exact pe_smeth (pl := pl) he r s F (hr.mono hk) b d pass0 ha plain rest form
/-- a property -/
structure Prp (P : Program) (w : World) (K : PySem.W.Frag) (mg : Str → Option Value) (base : Heap) (k : Nat) (C : Addr) (f : Str) (sp : Sp) : Prop where
  ex : ∃ (p g : Addr) (fd : FuncData) (ps : List Str), Cls K C ∧ PropOf K C f p g ∧ FnOk P w K mg base CX0 k g fd ps sp ∧ Binds K fd ps []
theorem pe_prp {X : Cx} {k j : Nat} {C : Addr} {f : Str} {sp : Sp} {pos : Pos} {e : Expr} {ta : TE} (c : Prp X.prog X.w X.K X.mg X.base k C f sp) (hr : Room j X.A) (hk : k + 1 ≤ j) (he : PE X e ta)
    (hab : attributeBase e f X.env (eval e X.env) = eval e X.env := by rfl) : PE X (.Attribute e f pos) (tProp C sp [] E0 ta) := by
  obtain ⟨p, g, fd, ps, cl, hp, F, b⟩ := c.ex
  exact pe_prop he cl hp F (hr.mono hk) b .nil pass0 hab
/-- an own operator on two instances of C; on an instance and an int; own == -/
structure Opr2 (P : Program) (w : World) (K : PySem.W.Frag) (mg : Str → Option Value) (base : Heap) (k : Nat) (C : Addr) (op : Operator) (sp : Sp) : Prop where
  ex : ∃ (g : Addr) (fd : FuncData) (ps : List Str), PySem.W.selfFirst K C = true ∧ PySem.W.findIn K (.ref C) (PySem.dunder op.info.2) = some (some (.ref g)) ∧ PySem.W.isFn K (.ref g) = true ∧ FnOk P w K mg base CX0 k g fd ps sp ∧ Binds K fd ps []
theorem op_o2 {X : Cx} {k j : Nat} {C : Addr} {op : Operator} {sp : Sp} (c : Opr2 X.prog X.w X.K X.mg X.base k C op sp) (hr : Room j X.A) (hk : k ≤ j) : OpR X (binaryOp op) (rOwn2 C sp E0) := by
  obtain ⟨g, fd, ps, hc, hs, hf, F, b⟩ := c.ex
  exact op_own2 hc hs hf F (hr.mono hk) b pass0
structure OprI (P : Program) (w : World) (K : PySem.W.Frag) (mg : Str → Option Value) (base : Heap) (k : Nat) (C : Addr) (op : Operator) (sp : Sp) : Prop where
  ex : ∃ (g : Addr) (fd : FuncData) (ps : List Str) (fo ro rc : Option Value), PySem.W.selfFirst K C = true ∧ PySem.W.findIn K (.ref C) (PySem.dunder op.info.2) = some (some (.ref g)) ∧ PySem.W.isFn K (.ref g) = true ∧
    PySem.W.findIn K (.ref C) (dunderR op.info.2) = some rc ∧ (rc = none ∨ ∃ g : Addr, rc = some (.ref g)) ∧ PySem.W.findIn K (.type "int") (PySem.dunder op.info.2) = some fo ∧ PySem.W.findIn K (.type "int") (dunderR op.info.2) = some ro ∧
    PySem.W.subIn K (.type "int") (.ref C) = some false ∧ FnOk P w K mg base CX0 k g fd ps sp ∧ Binds K fd ps []
theorem op_oI {X : Cx} {k j : Nat} {C : Addr} {op : Operator} {sp : Sp} (c : OprI X.prog X.w X.K X.mg X.base k C op sp) (hr : Room j X.A) (hk : k ≤ j) : OpR X (binaryOp op) (rOwnI C sp E0) := by
  obtain ⟨g, fd, ps, fo, ro, rc, hc, hs, hf, h1, h2, h3, h4, h5, F, b⟩ := c.ex
  exact op_ownI hc hs hf h1 h2 h3 h4 h5 F (hr.mono hk) b pass0
structure OprE (P : Program) (w : World) (K : PySem.W.Frag) (mg : Str → Option Value) (base : Heap) (k : Nat) (C : Addr) (R : Addr → Addr → Hp → Prop) : Prop where
  ex : ∃ (g : Addr) (fd : FuncData) (ps : List Str), PySem.W.findIn K (.ref C) "__eq__" = some (some (.ref g)) ∧ PySem.W.isFn K (.ref g) = true ∧ FnOk P w K mg base CX0 k g fd ps (spEq R) ∧ Binds K fd ps []
theorem op_oE {X : Cx} {k j : Nat} {C : Addr} {R : Addr → Addr → Hp → Prop} (c : OprE X.prog X.w X.K X.mg X.base k C R) (hr : Room j X.A) (hk : k ≤ j) : OpR X (compareOp .Eq) (rEqG (DIns C R)) := by
  obtain ⟨g, fd, ps, hs, hf, F, b⟩ := c.ex
  exact op_eqG (rcG_ins F hs hf b pass0) (hr.mono hk)
end FJ

set_option Elab.async false
set_option linter.all false
set_option maxRecDepth 100000
set_option maxHeartbeats 4000000
/-! the mirrors: tokens, the reader, trees, pieces, evaluation: plain functions -/
namespace FJ
open PySem L2

inductive Tok where
  | name (s : Str) | num (n : Int) | sym (s : Str) | fin (s : Str)
def Tok.kd : Tok → Str
  | .name _ => "name"
  | .num _ => "number"
  | .sym _ => "symbol"
  | .fin _ => "end"
/-- the token's word is w -/
def Tok.is (w : Str) : Tok → Bool
  | .name s => decide (s = w)
  | .num _ => false
  | .sym s => decide (s = w)
  | .fin s => decide (s = w)
structure PS where
  toks : List (Int × Tok)
  last : Int
  place : Nat
  depth : Int
  used : Int
  tl : Nat
def PS.cur (S : PS) : Option (Int × Tok) := S.toks[S.place]?
def PS.isW (S : PS) (w : Str) : Bool := match S.cur with
  | some (_, t) => t.is w
  | none => false
def PS.kind (S : PS) : Str := match S.cur with
  | some (_, t) => t.kd
  | none => ""
def PS.line (S : PS) : Int := match S.cur with
  | some (l, _) => l
  | none => S.last
def PS.skip (S : PS) : Option PS := match S.cur with
  | none => none
  | some (_, .fin _) => some { S with place := S.place + 1 }
  | some _ => if S.used + 1 > 200 then none else some { S with used := S.used + 1, place := S.place + 1 }
def PS.isName (S : PS) : Bool := match S.cur with
  | some (_, .name _) => true
  | _ => false
def PS.isNum (S : PS) : Bool := match S.cur with
  | some (_, .num _) => true
  | _ => false
def PS.isFin (S : PS) : Bool := match S.cur with
  | some (_, .fin _) => true
  | _ => false
def PS.expect (S : PS) (w : Str) : Option PS := if S.isW w && !S.isName then S.skip else none
def PS.enter (S : PS) (w : Str) : Option PS := if S.depth = 20 then none else (S.expect w).bind fun S1 => some { S1 with depth := S1.depth + 1 }
def PS.leave (S : PS) (w : Str) : Option PS := (S.expect w).bind fun S1 => some { S1 with depth := S1.depth - 1 }
def PS.number (S : PS) : Option (Int × PS) := match S.cur with
  | some (_, .num n) => S.skip.bind fun S1 => some (n, S1)
  | _ => none
def PS.signed (S : PS) : Option (Int × PS) := if S.isW "-" then S.skip.bind fun S1 => S1.number.bind fun r => some (-r.1, r.2) else S.number
def PS.optNum (S : PS) : Option (Option Int × PS) := if S.isNum then S.number.bind fun r => some (some r.1, r.2) else some (none, S)

inductive Tree where
  | name (s : Str) | sum (l r : Tree) | times (t : Tree) (n : Int) | stretch (t : Tree) (i j : Option Int) | silence (n : Int) | gain (t : Tree) (v n : Int) | insert (a : Tree) (i : Int) (b : Tree)
  | replace (a : Tree) (i j : Int) (b : Tree) | cut (a : Tree) (i j : Int)
def oi : Option Int → PyData
  | none => .none
  | some i => .int i
def Tree.data : Tree → PyData
  | .name s => .tuple [.str "name", .str s]
  | .sum l r => .tuple [.str "sum", l.data, r.data]
  | .times t n => .tuple [.str "times", t.data, .int n]
  | .stretch t i j => .tuple [.str "stretch", t.data, oi i, oi j]
  | .silence n => .tuple [.str "silence", .int n]
  | .gain t v n => .tuple [.str "gain", t.data, .int v, .int n]
  | .insert a i b => .tuple [.str "insert", a.data, .int i, b.data]
  | .replace a i j b => .tuple [.str "replace", a.data, .int i, .int j, b.data]
  | .cut a i j => .tuple [.str "cut", a.data, .int i, .int j]
abbrev PF := PS → Option (Tree × PS)
def sumLoop (prod : PF) : Nat → PS → Tree → Option (Tree × PS)
  | 0, _, _ => none
  | k + 1, S, acc => if S.isW "+" then S.skip.bind fun S1 => (prod S1).bind fun r => sumLoop prod k r.2 (.sum acc r.1) else some (acc, S)
def timesLoop : Nat → PS → Tree → Option (Tree × PS)
  | 0, _, _ => none
  | k + 1, S, acc => if S.isW "*" then S.skip.bind fun S1 => S1.number.bind fun r => timesLoop k r.2 (.times acc r.1) else some (acc, S)
def stretchLoop : Nat → PS → Tree → Option (Tree × PS)
  | 0, _, _ => none
  | k + 1, S, acc => if S.isW "[" then (S.enter "[").bind fun S1 => S1.optNum.bind fun r => (r.2.expect ":").bind fun S3 => S3.optNum.bind fun q => (q.2.leave "]").bind fun S5 => stretchLoop k S5 (.stretch acc r.1 q.1) else some (acc, S)
def pCall (ex : PF) (w : Str) (S : PS) : Option (Tree × PS) :=
  if w = "silence" then S.number.bind fun r => some (.silence r.1, r.2)
  else if w = "samples" then none
  else (ex S).bind fun a => (a.2.expect ",").bind fun S2 =>
    if w = "gain" then S2.signed.bind fun v => (v.2.expect "/").bind fun S4 => S4.number.bind fun n => some (.gain a.1 v.1 n.1, n.2)
    else if w = "insert" then S2.number.bind fun i => (i.2.expect ",").bind fun S4 => (ex S4).bind fun b => some (.insert a.1 i.1 b.1, b.2)
    else S2.number.bind fun i => (i.2.expect ":").bind fun S4 => S4.number.bind fun j =>
      if w = "cut" then some (.cut a.1 i.1 j.1, j.2)
      else (j.2.expect ",").bind fun S6 => (ex S6).bind fun b => some (.replace a.1 i.1 j.1 b.1, b.2)
def reserved : List Str := ["return", "silence", "samples", "gain", "insert", "replace", "cut"]
def pAtom (ex : PF) (S : PS) : Option (Tree × PS) :=
  if S.isW "(" then (S.enter "(").bind fun S1 => (ex S1).bind fun r => (r.2.leave ")").bind fun S3 => some (r.1, S3)
  else match S.cur with
    | some (_, .name s) => if s = "return" then none else S.skip.bind fun S1 =>
        if s ∈ reserved then (S1.enter "(").bind fun S2 => (pCall ex s S2).bind fun r => (r.2.leave ")").bind fun S4 => some (r.1, S4)
        else some (.name s, S1)
    | _ => none
def pOperand (ex : PF) (S : PS) : Option (Tree × PS) := (pAtom ex S).bind fun r => stretchLoop 210 r.2 r.1
def pProduct (ex : PF) (S : PS) : Option (Tree × PS) := (pOperand ex S).bind fun r => timesLoop 210 r.2 r.1
def pSum (ex : PF) (S : PS) : Option (Tree × PS) := (pProduct ex S).bind fun r => sumLoop (pProduct ex) 210 r.2 r.1
def pExpr : Nat → PF
  | 0 => fun _ => none
  | n + 1 => pSum (pExpr n)
inductive Row where
  | define (line : Int) (name : Str) (t : Tree) | ret (line : Int) (t : Tree)
def Row.data : Row → PyData
  | .define l x t => .tuple [.str "define", .int l, .str x, t.data]
  | .ret l t => .tuple [.str "return", .int l, t.data]
def skipEnds : Nat → PS → Option PS
  | 0, _ => none
  | k + 1, S => if S.isFin then S.skip.bind (skipEnds k) else some S
def pDefs (ex : PF) : Nat → PS → List Row → Option (List Row × PS)
  | 0, _, _ => none
  | k + 1, S, acc => if S.isW "return" then some (acc, S) else match S.cur with
    | some (l, .name s) => if s ∈ reserved then none else ({ S with used := 0 } : PS).skip.bind fun S1 => (S1.expect "=").bind fun S2 => (ex S2).bind fun r =>
        if r.2.isFin then (skipEnds 210 r.2).bind fun S4 => pDefs ex k S4 (acc ++ [.define l s r.1]) else none
    | _ => none
def pScript (ex : PF) (toks : List (Int × Tok)) (last : Int) (tl : Nat) : Option (List Row) :=
  (skipEnds 210 ⟨toks, last, 0, 0, 0, tl⟩).bind fun S1 => (pDefs ex 210 S1 []).bind fun r =>
    ({ r.2 with used := 0 } : PS).skip.bind fun S4 => (ex S4).bind fun q => (skipEnds 210 q.2).bind fun S6 =>
      if S6.cur.isNone then some (r.1 ++ [.ret r.2.line q.1]) else none

/-! ### pieces -/
inductive Flat where
  | part (s : Str) (lo hi : Int) (gs : List (Int × Int)) | sil (n : Int)
inductive Piece where
  | fl (f : Flat) | rep (n : Int) (fs : List Flat)
def gsData (gs : List (Int × Int)) : PyData := .tuple (gs.map fun g => .tuple [.int g.1, .int g.2])
def Flat.data : Flat → PyData
  | .part s lo hi gs => .tuple [.str "part", .str s, .int lo, .int hi, gsData gs]
  | .sil n => .tuple [.str "silence", .int n]
def Piece.data : Piece → PyData
  | .fl f => f.data
  | .rep n fs => .tuple [.str "repeat", .int n, .tuple (fs.map Flat.data)]
def psData (ps : List Piece) : PyData := .tuple (ps.map Piece.data)
def Flat.len : Flat → Int
  | .part _ lo hi _ => hi - lo
  | .sil n => n
def fsLen (fs : List Flat) : Int := (fs.map Flat.len).sum
def Piece.len : Piece → Int
  | .fl f => f.len
  | .rep n fs => n * fsLen fs
def psLen (ps : List Piece) : Int := (ps.map Piece.len).sum
def Piece.cnt : Piece → Int
  | .fl _ => 1
  | .rep _ fs => 1 + fs.length
def psCnt (ps : List Piece) : Int := (ps.map Piece.cnt).sum
def mergedF : Flat → Flat → Option Flat
  | .sil a, .sil b => some (.sil (a + b))
  | .part s lo hi g, .part s' lo' hi' g' => if s = s' ∧ hi = lo' ∧ g = g' then some (.part s lo hi' g) else none
  | _, _ => none
def mergedP : Piece → Piece → Option Flat
  | .fl a, .fl b => mergedF a b
  | _, _ => none
def both (ps qs : List Piece) : List Piece := match ps.getLast?, qs with
  | some p, q :: r => match mergedP p q with
    | some f => ps.dropLast ++ .fl f :: r
    | none => ps ++ qs
  | _, _ => ps ++ qs
def flats : List Piece → Option (List Flat)
  | [] => some []
  | .fl f :: r => (flats r).bind fun fs => some (f :: fs)
  | .rep _ _ :: _ => none
def repeated (ps : List Piece) (n : Int) : Option (List Piece) :=
  if n = 0 ∨ ps.isEmpty then some []
  else if n = 1 then some ps
  else match ps with
    | [.fl (.sil m)] => some [.fl (.sil (m * n))]
    | [.rep m fs] => some [.rep (m * n) fs]
    | _ => (flats ps).bind fun fs => some [.rep n fs]
def cutF (f : Flat) (s e : Int) : Flat := match f with
  | .part x lo _ gs => .part x (lo + s) (lo + e) gs
  | .sil _ => .sil (e - s)
def cutGo (start stop : Int) : List Flat → Int → List Piece → List Piece
  | [], _, found => found
  | f :: r, place, found =>
    let first := if 0 > start - place then 0 else start - place
    let last := if f.len < stop - place then f.len else stop - place
    cutGo start stop r (place + f.len) (if first < last then both found [.fl (cutF f first last)] else found)
def gainF (g : Int × Int) : Flat → Flat
  | .part x lo hi gs => .part x lo hi (gs ++ [g])
  | .sil n => .sil n
def Sm (i : Int) : Prop := i.natAbs < 2 ^ 200
def Piece.Ok : Piece → Prop
  | .fl (.part _ _ _ gs) => gs.length ≤ 1000
  | .fl (.sil m) => Sm m
  | .rep n fs => Sm n ∧ Sm (fsLen fs) ∧ fs.length ≤ 1000
/-- a clip may be made of them -/
def Wf (ps : List Piece) : Prop := ps.length ≤ 200 ∧ (∀ p ∈ ps, p.Ok) ∧ SeqAt.shaped (psData ps) = true ∧ psLen ps ≤ 10 ^ 40 ∧ psCnt ps ≤ 200
open Classical in
noncomputable def mkC (ps : List Piece) : Option (List Piece) := if Wf ps then some ps else none
/-- a stretch of the clip -/
def Stre (ps : List Piece) (s e : Int) : Prop := 0 ≤ s ∧ s ≤ psLen ps ∧ 0 ≤ e ∧ e ≤ psLen ps ∧ s ≤ e
open Classical in
noncomputable def cutC (ps : List Piece) (s e : Int) : Option (List Piece) := if Stre ps s e then (flats ps).bind fun fs => if fs.length ≤ 1 then mkC (cutGo s e fs 0 []) else none else none
open Classical in
noncomputable def replC (ps : List Piece) (s e : Int) (os : List Piece) : Option (List Piece) := if Stre ps s e then (cutC ps 0 s).bind fun a => (mkC (both a os)).bind fun b => (cutC ps e (psLen ps)).bind fun c => mkC (both b c) else none
def partC (x : Str) (lo hi : Int) : List Piece := if lo < hi then [.fl (.part x lo hi [])] else []
def silC (n : Int) : List Piece := if n > 0 then [.fl (.sil n)] else []
noncomputable def evalT (env : Str → Option (List Piece)) : Tree → Option (List Piece)
  | .name s => env s
  | .silence n => if 0 ≤ n ∧ n ≤ 10 ^ 30 then mkC (silC n) else none
  | .sum l r => (evalT env l).bind fun a => (evalT env r).bind fun b => mkC (both a b)
  | .times t n => (evalT env t).bind fun a => if 0 ≤ n ∧ n ≤ 10 ^ 30 then (repeated a n).bind mkC else none
  | .stretch t i j => (evalT env t).bind fun a => cutC a (i.getD 0) (j.getD (psLen a))
  | .gain t v n => (evalT env t).bind fun a => if -1000 ≤ v ∧ v ≤ 1000 ∧ 1 ≤ n ∧ n ≤ 1000 then (flats a).bind fun fs => mkC (fs.map fun f => .fl (gainF (v, n) f)) else none
  | .insert a i b => (evalT env a).bind fun p => (evalT env b).bind fun q => replC p i i q
  | .replace a i j b => (evalT env a).bind fun p => (evalT env b).bind fun q => replC p i j q
  | .cut a i j => (evalT env a).bind fun p => replC p i j []
def NameOk (x : Str) : Prop := 1 ≤ x.cps.toList.length ∧ x.cps.toList.length ≤ 8 ∧ x.cps.toList.all (fun c => decide (97 ≤ c) && decide (c ≤ 122)) = true
open Classical in
noncomputable def envOf (sizes : Str → Option Int) (d : List (Str × List Piece)) (x : Str) : Option (List Piece) := match d.lookup x with
  | some ps => some ps
  | none => (sizes x).bind fun n => if 0 ≤ n ∧ NameOk x then mkC (partC x 0 n) else none
noncomputable def runRows (sizes : Str → Option Int) : List Row → List (Str × List Piece) → Option (List Piece)
  | [], _ => none
  | .ret _ t :: _, d => evalT (envOf sizes d) t
  | .define _ x t :: r, d => (evalT (envOf sizes d) t).bind fun c => runRows sizes r ((x, c) :: d)

example (i : Int) (tl : Nat) : pScript (pExpr 5) [(1, .name "return"), (1, .name "insert"), (1, .sym "("), (1, .name "a"), (1, .sym ","), (1, .num i), (1, .sym ","), (1, .name "b"), (1, .sym ")")] 1 tl = some [.ret 1 (.insert (.name "a") i (.name "b"))] := by kernel_rfl
end FJ

set_option Elab.async false
set_option linter.all false
set_option maxRecDepth 100000
set_option maxHeartbeats 4000000
/-! the text by places, scopes, facts of the text, how data lie in the heap -/
namespace FJ
open PySem PySem.Spec PyProof.Rows L2
abbrev St := L2.St

def top (i : Nat) : Stmt := PySem.Challenge.pw_framejoins_k62_whole_scripts_that_say_th.main.body.getD i (.Pass ⟨0, 0, 0, 0⟩)
abbrev s_InvalidNumber_init : Stmt := inClass (top 2) 0
abbrev s_InvalidSound_init : Stmt := inClass (top 3) 0
abbrev s_ScriptError_init : Stmt := inClass (top 4) 0
abbrev s_InvalidPlace_init : Stmt := inClass (top 5) 0
abbrev s_UnknownName_init : Stmt := inClass (top 6) 0
abbrev s_LimitExceeded_init : Stmt := inClass (top 7) 0
abbrev s_is_integer : Stmt := top 9
abbrev s_is_between : Stmt := top 10
abbrev s_is_row : Stmt := top 11
abbrev s_require_sound : Stmt := top 13
abbrev s_is_name : Stmt := top 21
abbrev s_piece_length : Stmt := top 22
abbrev s_total_length : Stmt := top 23
abbrev s_piece_count : Stmt := top 24
abbrev s_merged : Stmt := top 25
abbrev s_both_pieces : Stmt := top 26
abbrev s_repeated_pieces : Stmt := top 27
abbrev s_cut_repeat : Stmt := top 28
abbrev s_cut_piece : Stmt := top 29
abbrev s_cut_pieces : Stmt := top 30
abbrev s_gained_pieces : Stmt := top 31
abbrev s_gained_sample : Stmt := top 32
abbrev s_names_in : Stmt := top 33
abbrev s_sample_of : Stmt := top 34
abbrev s_Clip_init : Stmt := inClass (top 35) 0
abbrev s_Clip_part : Stmt := inClass (top 35) 1
abbrev s_Clip_silence : Stmt := inClass (top 35) 2
abbrev s_Clip_samples : Stmt := inClass (top 35) 3
abbrev s_Clip_length : Stmt := inClass (top 35) 4
abbrev s_Clip_names : Stmt := inClass (top 35) 5
abbrev s_Clip_pieces : Stmt := inClass (top 35) 6
abbrev s_Clip_require_stretch : Stmt := inClass (top 35) 7
abbrev s_Clip_cut : Stmt := inClass (top 35) 8
abbrev s_Clip_gained : Stmt := inClass (top 35) 9
abbrev s_Clip_sample : Stmt := inClass (top 35) 10
abbrev s_Clip_add : Stmt := inClass (top 35) 11
abbrev s_Clip_mul : Stmt := inClass (top 35) 12
abbrev s_Clip_eq : Stmt := inClass (top 35) 13
abbrev s_Clip_repr : Stmt := inClass (top 35) 14
abbrev s_run_length : Stmt := top 46
abbrev s_token_at : Stmt := top 47
abbrev s_line_tokens : Stmt := top 48
abbrev s_text_tokens : Stmt := top 49
abbrev s_Reader_init : Stmt := inClass (top 50) 0
abbrev s_Reader_kind_here : Stmt := inClass (top 50) 1
abbrev s_Reader_word_here : Stmt := inClass (top 50) 2
abbrev s_Reader_line_here : Stmt := inClass (top 50) 3
abbrev s_Reader_fail : Stmt := inClass (top 50) 4
abbrev s_Reader_skip : Stmt := inClass (top 50) 5
abbrev s_Reader_expect : Stmt := inClass (top 50) 6
abbrev s_Reader_enter : Stmt := inClass (top 50) 7
abbrev s_Reader_leave : Stmt := inClass (top 50) 8
abbrev s_Reader_number : Stmt := inClass (top 50) 9
abbrev s_Reader_signed : Stmt := inClass (top 50) 10
abbrev s_Reader_expression : Stmt := inClass (top 50) 11
abbrev s_Reader_product : Stmt := inClass (top 50) 12
abbrev s_Reader_operand : Stmt := inClass (top 50) 13
abbrev s_Reader_atom : Stmt := inClass (top 50) 14
abbrev s_Reader_call : Stmt := inClass (top 50) 15
abbrev s_Reader_skip_ends : Stmt := inClass (top 50) 16
abbrev s_Reader_script : Stmt := inClass (top 50) 17
abbrev s_parse_script : Stmt := top 53
abbrev s_replaced : Stmt := top 54
abbrev s_Evaluator_init : Stmt := inClass (top 55) 0
abbrev s_Evaluator_named : Stmt := inClass (top 55) 1
abbrev s_Evaluator_clip : Stmt := inClass (top 55) 2
abbrev s_clip_of : Stmt := top 56
abbrev s__law_pool : Stmt := top 58
abbrev s__law_take : Stmt := top 59
abbrev s_law : Stmt := top 60
abbrev FnP (K : PySem.W.Frag) (x q : Str) (st : Stmt) (f : Addr) (fd : FuncData) : Prop := FunD K x q (defArgs st) (defBody st) (defScope st) [] [] f fd
theorem sc_is_integer : FnScope ["value"] ["value"] (defScope s_is_integer) := ⟨rfl, rfl, rfl, by decide +kernel, rfl, by decide +kernel, by decide +kernel⟩
theorem sc_is_between : FnScope ["value", "least", "most"] ["value", "least", "most"] (defScope s_is_between) := ⟨rfl, rfl, rfl, by decide +kernel, rfl, by decide +kernel, by decide +kernel⟩
theorem sc_is_name : FnScope ["value", "sign"] ["value"] (defScope s_is_name) := ⟨rfl, rfl, rfl, by decide +kernel, rfl, by decide +kernel, by decide +kernel⟩
theorem sc_piece_length : FnScope ["piece"] ["piece"] (defScope s_piece_length) := ⟨rfl, rfl, rfl, by decide +kernel, rfl, by decide +kernel, by decide +kernel⟩
theorem sc_total_length : FnScope ["pieces", "piece"] ["pieces"] (defScope s_total_length) := ⟨rfl, rfl, rfl, by decide +kernel, rfl, by decide +kernel, by decide +kernel⟩
theorem sc_piece_count : FnScope ["pieces", "piece"] ["pieces"] (defScope s_piece_count) := ⟨rfl, rfl, rfl, by decide +kernel, rfl, by decide +kernel, by decide +kernel⟩
theorem sc_merged : FnScope ["first", "second"] ["first", "second"] (defScope s_merged) := ⟨rfl, rfl, rfl, by decide +kernel, rfl, by decide +kernel, by decide +kernel⟩
theorem sc_both_pieces : FnScope ["first", "second", "one"] ["first", "second"] (defScope s_both_pieces) := ⟨rfl, rfl, rfl, by decide +kernel, rfl, by decide +kernel, by decide +kernel⟩
theorem sc_repeated_pieces : FnScope ["pieces", "count"] ["pieces", "count"] (defScope s_repeated_pieces) := ⟨rfl, rfl, rfl, by decide +kernel, rfl, by decide +kernel, by decide +kernel⟩
theorem sc_cut_piece : FnScope ["piece", "start", "end"] ["piece", "start", "end"] (defScope s_cut_piece) := ⟨rfl, rfl, rfl, by decide +kernel, rfl, by decide +kernel, by decide +kernel⟩
theorem sc_cut_pieces : FnScope ["pieces", "start", "end", "found", "place", "piece", "size", "first", "last"] ["pieces", "start", "end"] (defScope s_cut_pieces) := ⟨rfl, rfl, rfl, by decide +kernel, rfl, by decide +kernel, by decide +kernel⟩
theorem sc_gained_pieces : FnScope ["pieces", "gain", "found", "piece", "rest", "gains"] ["pieces", "gain"] (defScope s_gained_pieces) := ⟨rfl, rfl, rfl, by decide +kernel, rfl, by decide +kernel, by decide +kernel⟩
theorem sc_Clip_init : FnScope ["self", "pieces"] ["self", "pieces"] (defScope s_Clip_init) := ⟨rfl, rfl, rfl, by decide +kernel, rfl, by decide +kernel, by decide +kernel⟩
theorem sc_Clip_part : FnScope ["name", "start", "end", "value"] ["name", "start", "end"] (defScope s_Clip_part) := ⟨rfl, rfl, rfl, by decide +kernel, rfl, by decide +kernel, by decide +kernel⟩
theorem sc_Clip_silence : FnScope ["count"] ["count"] (defScope s_Clip_silence) := ⟨rfl, rfl, rfl, by decide +kernel, rfl, by decide +kernel, by decide +kernel⟩
theorem sc_Clip_length : FnScope ["self"] ["self"] (defScope s_Clip_length) := ⟨rfl, rfl, rfl, by decide +kernel, rfl, by decide +kernel, by decide +kernel⟩
theorem sc_Clip_require_stretch : FnScope ["self", "start", "end", "value"] ["self", "start", "end"] (defScope s_Clip_require_stretch) := ⟨rfl, rfl, rfl, by decide +kernel, rfl, by decide +kernel, by decide +kernel⟩
theorem sc_Clip_cut : FnScope ["self", "start", "end"] ["self", "start", "end"] (defScope s_Clip_cut) := ⟨rfl, rfl, rfl, by decide +kernel, rfl, by decide +kernel, by decide +kernel⟩
theorem sc_Clip_gained : FnScope ["self", "top", "bottom"] ["self", "top", "bottom"] (defScope s_Clip_gained) := ⟨rfl, rfl, rfl, by decide +kernel, rfl, by decide +kernel, by decide +kernel⟩
theorem sc_Clip_add : FnScope ["self", "other"] ["self", "other"] (defScope s_Clip_add) := ⟨rfl, rfl, rfl, by decide +kernel, rfl, by decide +kernel, by decide +kernel⟩
theorem sc_Clip_mul : FnScope ["self", "other"] ["self", "other"] (defScope s_Clip_mul) := ⟨rfl, rfl, rfl, by decide +kernel, rfl, by decide +kernel, by decide +kernel⟩
theorem sc_Clip_eq : FnScope ["self", "other"] ["self", "other"] (defScope s_Clip_eq) := ⟨rfl, rfl, rfl, by decide +kernel, rfl, by decide +kernel, by decide +kernel⟩
theorem sc_run_length : FnScope ["line", "at", "signs", "most", "end"] ["line", "at", "signs", "most"] (defScope s_run_length) := ⟨rfl, rfl, rfl, by decide +kernel, rfl, by decide +kernel, by decide +kernel⟩
theorem sc_token_at : FnScope ["line", "at"] ["line", "at"] (defScope s_token_at) := ⟨rfl, rfl, rfl, by decide +kernel, rfl, by decide +kernel, by decide +kernel⟩
theorem sc_line_tokens : FnScope ["number", "line", "found", "at", "token"] ["number", "line"] (defScope s_line_tokens) := ⟨rfl, rfl, rfl, by decide +kernel, rfl, by decide +kernel, by decide +kernel⟩
theorem sc_text_tokens : FnScope ["text", "lines", "found", "number", "line"] ["text"] (defScope s_text_tokens) := ⟨rfl, rfl, rfl, by decide +kernel, rfl, by decide +kernel, by decide +kernel⟩
theorem sc_Reader_init : FnScope ["self", "items", "last"] ["self", "items", "last"] (defScope s_Reader_init) := ⟨rfl, rfl, rfl, by decide +kernel, rfl, by decide +kernel, by decide +kernel⟩
theorem sc_Reader_kind_here : FnScope ["self"] ["self"] (defScope s_Reader_kind_here) := ⟨rfl, rfl, rfl, by decide +kernel, rfl, by decide +kernel, by decide +kernel⟩
theorem sc_Reader_word_here : FnScope ["self"] ["self"] (defScope s_Reader_word_here) := ⟨rfl, rfl, rfl, by decide +kernel, rfl, by decide +kernel, by decide +kernel⟩
theorem sc_Reader_line_here : FnScope ["self"] ["self"] (defScope s_Reader_line_here) := ⟨rfl, rfl, rfl, by decide +kernel, rfl, by decide +kernel, by decide +kernel⟩
theorem sc_Reader_skip : FnScope ["self"] ["self"] (defScope s_Reader_skip) := ⟨rfl, rfl, rfl, by decide +kernel, rfl, by decide +kernel, by decide +kernel⟩
theorem sc_Reader_expect : FnScope ["self", "word"] ["self", "word"] (defScope s_Reader_expect) := ⟨rfl, rfl, rfl, by decide +kernel, rfl, by decide +kernel, by decide +kernel⟩
theorem sc_Reader_enter : FnScope ["self", "bracket"] ["self", "bracket"] (defScope s_Reader_enter) := ⟨rfl, rfl, rfl, by decide +kernel, rfl, by decide +kernel, by decide +kernel⟩
theorem sc_Reader_leave : FnScope ["self", "bracket"] ["self", "bracket"] (defScope s_Reader_leave) := ⟨rfl, rfl, rfl, by decide +kernel, rfl, by decide +kernel, by decide +kernel⟩
theorem sc_Reader_number : FnScope ["self"] ["self"] (defScope s_Reader_number) := ⟨rfl, rfl, rfl, by decide +kernel, rfl, by decide +kernel, by decide +kernel⟩
theorem sc_Reader_signed : FnScope ["self"] ["self"] (defScope s_Reader_signed) := ⟨rfl, rfl, rfl, by decide +kernel, rfl, by decide +kernel, by decide +kernel⟩
theorem sc_Reader_expression : FnScope ["self", "found"] ["self"] (defScope s_Reader_expression) := ⟨rfl, rfl, rfl, by decide +kernel, rfl, by decide +kernel, by decide +kernel⟩
theorem sc_Reader_product : FnScope ["self", "found"] ["self"] (defScope s_Reader_product) := ⟨rfl, rfl, rfl, by decide +kernel, rfl, by decide +kernel, by decide +kernel⟩
theorem sc_Reader_operand : FnScope ["self", "found", "first", "last"] ["self"] (defScope s_Reader_operand) := ⟨rfl, rfl, rfl, by decide +kernel, rfl, by decide +kernel, by decide +kernel⟩
theorem sc_Reader_atom : FnScope ["self", "found", "word"] ["self"] (defScope s_Reader_atom) := ⟨rfl, rfl, rfl, by decide +kernel, rfl, by decide +kernel, by decide +kernel⟩
theorem sc_Reader_call : FnScope ["self", "word", "values", "first", "top", "place", "start", "end"] ["self", "word"] (defScope s_Reader_call) := ⟨rfl, rfl, rfl, by decide +kernel, rfl, by decide +kernel, by decide +kernel⟩
theorem sc_Reader_skip_ends : FnScope ["self"] ["self"] (defScope s_Reader_skip_ends) := ⟨rfl, rfl, rfl, by decide +kernel, rfl, by decide +kernel, by decide +kernel⟩
theorem sc_Reader_script : FnScope ["self", "found", "line", "name"] ["self"] (defScope s_Reader_script) := ⟨rfl, rfl, rfl, by decide +kernel, rfl, by decide +kernel, by decide +kernel⟩
theorem sc_parse_script : FnScope ["text"] ["text"] (defScope s_parse_script) := ⟨rfl, rfl, rfl, by decide +kernel, rfl, by decide +kernel, by decide +kernel⟩
theorem sc_replaced : FnScope ["clip", "start", "end", "other"] ["clip", "start", "end", "other"] (defScope s_replaced) := ⟨rfl, rfl, rfl, by decide +kernel, rfl, by decide +kernel, by decide +kernel⟩
theorem sc_Evaluator_init : FnScope ["self", "lengths"] ["self", "lengths"] (defScope s_Evaluator_init) := ⟨rfl, rfl, rfl, by decide +kernel, rfl, by decide +kernel, by decide +kernel⟩
theorem sc_Evaluator_named : FnScope ["self", "name"] ["self", "name"] (defScope s_Evaluator_named) := ⟨rfl, rfl, rfl, by decide +kernel, rfl, by decide +kernel, by decide +kernel⟩
theorem sc_Evaluator_clip : FnScope ["self", "tree", "first", "start"] ["self", "tree"] (defScope s_Evaluator_clip) := ⟨rfl, rfl, rfl, by decide +kernel, rfl, by decide +kernel, by decide +kernel⟩
theorem sc_clip_of : FnScope ["text", "lengths", "evaluator", "row"] ["text", "lengths"] (defScope s_clip_of) := ⟨rfl, rfl, rfl, by decide +kernel, rfl, by decide +kernel, by decide +kernel⟩
theorem sc__law_pool : FnScope ["_law_script", "_law_k", "_law_cell", "_law_great", "_law_seed"] ["_law_script", "_law_k"] (defScope s__law_pool) := ⟨rfl, rfl, rfl, by decide +kernel, rfl, by decide +kernel, by decide +kernel⟩
theorem sc__law_take : FnScope ["_law_pool_here", "_law_many", "_law_found"] ["_law_pool_here", "_law_many"] (defScope s__law_take) := ⟨rfl, rfl, rfl, by decide +kernel, rfl, by decide +kernel, by decide +kernel⟩
theorem sc_law : FnScope ["_law_script", "_law_k", "_law_pool_here", "_law_size", "_law_other", "_law_sizes", "_law_low", "_law_high", "_law_i", "_law_j", "_law_n", "_law_pairs", "_law_one", "_law_two", "_law_clip", "_law_due"] ["_law_script"] (defScope s_law) := ⟨rfl, rfl, rfl, by decide +kernel, rfl, by decide +kernel, by decide +kernel⟩

/-- an int, a text of the module -/
abbrev GI (mg : Str → Option Value) (x : Str) (v : V) : Prop := ∃ u, mg x = some u ∧ RelV v u
structure Txt (K : PySem.W.Frag) (mg : Str → Option Value) (CC CR CE RES : Addr) : Prop where
  clC : Cls K CC
  clR : Cls K CR
  clE : Cls K CE
  nPieces : NoAttr K CC "own_pieces"
  nLen : NoAttr K CC "own_length"
  nTok : NoAttr K CR "tokens"
  nLast : NoAttr K CR "last"
  nPlace : NoAttr K CR "place"
  nDepth : NoAttr K CR "depth"
  nUsed : NoAttr K CR "used"
  nLens : NoAttr K CE "lengths"
  nDef : NoAttr K CE "defined"
  mg_Clip : mg "Clip" = some (.ref CC)
  n_len : mg "len" = none
  n_isinstance : mg "isinstance" = none
  n_sum : mg "sum" = none
  n_all : mg "all" = none
  n_max : mg "max" = none
  n_min : mg "min" = none
  n_abs : mg "abs" = none
  n_int : mg "int" = none
  n_bool : mg "bool" = none
  n_str : mg "str" = none
  n_tuple : mg "tuple" = none
  n_range : mg "range" = none
  n_enumerate : mg "enumerate" = none
  g_MAX_COUNT : GI mg "MAX_COUNT" (.int (10 ^ 30))
  g_MAX_LENGTH : GI mg "MAX_LENGTH" (.int (10 ^ 40))
  g_MAX_PIECES : GI mg "MAX_PIECES" (.int 200)
  g_MAX_GAIN : GI mg "MAX_GAIN" (.int 1000)
  g_MAX_NAME_clips : GI mg "MAX_NAME_clips" (.int 8)
  g_MAX_NAME_reader : GI mg "MAX_NAME_reader" (.int 8)
  g_MAX_DIGITS : GI mg "MAX_DIGITS" (.int 30)
  g_MAX_DEPTH : GI mg "MAX_DEPTH" (.int 20)
  g_MAX_TOKENS : GI mg "MAX_TOKENS" (.int 200)
  g_MAX_TEXT : GI mg "MAX_TEXT" (.int 8000)
  g_LETTERS_clips : GI mg "LETTERS_clips" (.str "abcdefghijklmnopqrstuvwxyz")
  g_LETTERS_reader : GI mg "LETTERS_reader" (.str "abcdefghijklmnopqrstuvwxyz")
  g_DIGITS : GI mg "DIGITS" (.str "0123456789")
  g_SYMBOLS : GI mg "SYMBOLS" (.str "+-*/()[],:=")
  g_ENDS : GI mg "ENDS" (.str ";\n")
  g_RESERVED : GI mg "RESERVED" (.ref RES)
  res : ∀ H, SqT K H RES (reserved.map V.str)

theorem bt_len : bootBuiltins "len" = some (.builtin "len") := by decide +kernel
theorem bt_isinstance : bootBuiltins "isinstance" = some (.builtin "isinstance") := by decide +kernel
theorem bt_sum : bootBuiltins "sum" = some (.builtin "sum") := by decide +kernel
theorem bt_all : bootBuiltins "all" = some (.builtin "all") := by decide +kernel
theorem bt_max : bootBuiltins "max" = some (.builtin "max") := by decide +kernel
theorem bt_min : bootBuiltins "min" = some (.builtin "min") := by decide +kernel
theorem bt_abs : bootBuiltins "abs" = some (.builtin "abs") := by decide +kernel
theorem bt_int : bootBuiltins "int" = some (.type "int") := by decide +kernel
theorem bt_str : bootBuiltins "str" = some (.type "str") := by decide +kernel
theorem bt_bool : bootBuiltins "bool" = some (.type "bool") := by decide +kernel
theorem bt_tuple : bootBuiltins "tuple" = some (.type "tuple") := by decide +kernel
/-! ### pairs of lists -/
theorem PGet {α β : Type} {F : α → β → Prop} {xs : List α} {ys : List β} (h : Paired F xs ys) : ∀ {i : Nat} {y : β}, ys[i]? = some y → ∃ x, xs[i]? = some x ∧ F x y := by
  induction h with
  | nil => intro i y e; cases i <;> cases e
  | cons r _ ih =>
    intro i y e
    cases i with
    | zero =>
      cases e
      exact ⟨_, rfl, r⟩
    | succ i => exact ih e
theorem PLen {α β : Type} {F : α → β → Prop} {xs : List α} {ys : List β} (h : Paired F xs ys) : xs.length = ys.length := by
  induction h with
  | nil => rfl
  | cons _ _ ih => simp [ih]
theorem PApp {α β : Type} {F : α → β → Prop} : ∀ {xs xs' : List α} {ys ys' : List β}, Paired F xs ys → Paired F xs' ys' → Paired F (xs ++ xs') (ys ++ ys')
  | _, _, _, _, .nil, s => s
  | _, _, _, _, .cons r t, s => .cons r (PApp t s)
theorem PMono {α β : Type} {F G : α → β → Prop} (f : ∀ a b, F a b → G a b) : ∀ {xs : List α} {ys : List β}, Paired F xs ys → Paired G xs ys
  | _, _, .nil => .nil
  | _, _, .cons r t => .cons (f _ _ r) (PMono f t)

/-! ### heaps: the tuples stay; all but one stays -/
def TupE (H H' : Hp) : Prop := ∀ a xs, H a = some (.tup xs) → H' a = some (.tup xs)
def XE (r : Addr) (H H' : Hp) : Prop := ∀ a o, a ≠ r → H a = some o → H' a = some o
theorem TupE.of {H H' : Hp} (e : Same H H') : TupE H H' := fun a xs h => e a _ h
theorem TupE.refl (H : Hp) : TupE H H := fun _ _ h => h
theorem TupE.trans {H H1 H2 : Hp} (a : TupE H H1) (b : TupE H1 H2) : TupE H H2 := fun c o h => b c o (a c o h)
theorem XE.refl (r : Addr) (H : Hp) : XE r H H := fun _ _ _ h => h
theorem XE.trans {r : Addr} {H H1 H2 : Hp} (a : XE r H H1) (b : XE r H1 H2) : XE r H H2 := fun c o n h => b c o n (a c o n h)
theorem XE.tup {r : Addr} {H H' : Hp} (e : XE r H H') {C dx : Addr} {fs : List (Str × V)} (h : H r = some (.ins C dx fs)) : TupE H H' := fun a xs q => e a _ (ne_of q h (by intro z; cases z)) q
theorem XE.of {r : Addr} {H H' : Hp} (e : Same H H') : XE r H H' := fun a o _ h => e a o h
theorem XE.upd {r : Addr} {H : Hp} {o : HO} : XE r H (upd H r o) := fun a u n h => by rw [upd_ne n]; exact h
theorem XE.upd' {r p : Addr} {H H1 : Hp} {o : HO} (e : XE r H H1) (n : H1 p = none) : XE r H (L2.upd H1 p o) := fun a u na h => by
  have q := e a u na h
  rw [upd_ne (ne_of_none q n)]
  exact q
theorem Same.upd {H : Hp} {p : Addr} {o : HO} (n : H p = none) : Same H (L2.upd H p o) := fun a u h => by rw [upd_ne (ne_of_none h n)]; exact h
theorem Same.upd' {H H1 : Hp} {p : Addr} {o : HO} (e : Same H H1) (n : H1 p = none) : Same H (L2.upd H1 p o) := e.trans (Same.upd n)
theorem Dp.mono {K : PySem.W.Frag} {H H' : Hp} (e : Same H H') {v : V} {d : PyData} (h : Dp K H v d) : Dp K H' v d := by
  refine Dp.rec (motive_1 := fun v d _ => Dp K H' v d) (motive_2 := fun vs ds _ => DpAll K H' vs ds) .non (fun b => .bl b) (fun i => .int i) (fun x => .str x) ?_ ?_ .nil ?_ h
  · intro a xs ds hq _ ih
    exact .lst (e.seq hq) ih
  · intro a xs ds hq _ ih
    refine .tup ?_ ih
    rcases hq with (q | ⟨o, q⟩) | q
    · exact .inl (.inl (e _ _ q))
    · exact .inl (.inr ⟨o, e _ _ q⟩)
    · exact .inr q
  · intro v vs d ds _ _ h1 h2
    exact .cons h1 h2

/-! ### data by tuples that are tracked or of the text: they lean on tuples alone -/
def TqT (K : PySem.W.Frag) (H : Hp) (a : Addr) (xs : List V) : Prop := H a = some (.tup xs) ∨ ∀ H', SqT K H' a xs
theorem TqT.sq {K : PySem.W.Frag} {H : Hp} {a : Addr} {xs : List V} (h : TqT K H a xs) : SqT K H a xs := h.elim SqT.of fun h => h H
theorem TqT.mono {K : PySem.W.Frag} {H H' : Hp} {a : Addr} {xs : List V} (e : TupE H H') (h : TqT K H a xs) : TqT K H' a xs := h.elim (fun h => .inl (e _ _ h)) fun h => .inr h
mutual
/-- flat data and tuples -/
inductive Td (K : PySem.W.Frag) (H : Hp) : V → PyData → Prop where
  | non : Td K H .non .none
  | int (i : Int) : Td K H (.int i) (.int i)
  | str (x : Str) : Td K H (.str x) (.str x)
  | tup {a : Addr} {xs : List V} {ds : List PyData} : TqT K H a xs → TdAll K H xs ds → Td K H (.ref a) (.tuple ds)
inductive TdAll (K : PySem.W.Frag) (H : Hp) : List V → List PyData → Prop where
  | nil : TdAll K H [] []
  | cons {v : V} {vs : List V} {d : PyData} {ds : List PyData} : Td K H v d → TdAll K H vs ds → TdAll K H (v :: vs) (d :: ds)
end
theorem Td.mono {K : PySem.W.Frag} {H H' : Hp} (e : TupE H H') {v : V} {d : PyData} (h : Td K H v d) : Td K H' v d := by
  refine Td.rec (motive_1 := fun v d _ => Td K H' v d) (motive_2 := fun vs ds _ => TdAll K H' vs ds) .non (fun i => .int i) (fun x => .str x) ?_ .nil ?_ h
  · intro a xs ds hq _ ih
    exact .tup (hq.mono e) ih
  · intro v vs d ds _ _ h1 h2
    exact .cons h1 h2
theorem Td.dp {K : PySem.W.Frag} {H : Hp} {v : V} {d : PyData} (h : Td K H v d) : Dp K H v d := by
  refine Td.rec (motive_1 := fun v d _ => Dp K H v d) (motive_2 := fun vs ds _ => DpAll K H vs ds) .non (fun i => .int i) (fun x => .str x) ?_ .nil ?_ h
  · intro a xs ds hq _ ih
    exact .tup hq.sq ih
  · intro v vs d ds _ _ h1 h2
    exact .cons h1 h2
theorem TdAll.mono {K : PySem.W.Frag} {H H' : Hp} (e : TupE H H') : ∀ {vs : List V} {ds : List PyData}, TdAll K H vs ds → TdAll K H' vs ds
  | _, _, .nil => .nil
  | _, _, .cons h t => .cons (h.mono e) (TdAll.mono e t)
theorem TdAll.app {K : PySem.W.Frag} {H : Hp} : ∀ {vs vs' : List V} {ds ds' : List PyData}, TdAll K H vs ds → TdAll K H vs' ds' → TdAll K H (vs ++ vs') (ds ++ ds')
  | _, _, _, _, .nil, s => s
  | _, _, _, _, .cons h t, s => .cons h (TdAll.app t s)
theorem TdAll.len {K : PySem.W.Frag} {H : Hp} : ∀ {vs : List V} {ds : List PyData}, TdAll K H vs ds → vs.length = ds.length
  | _, _, .nil => rfl
  | _, _, .cons _ t => congrArg Nat.succ (TdAll.len t)
theorem TdAll.get {K : PySem.W.Frag} {H : Hp} : ∀ {vs : List V} {ds : List PyData} {i : Nat} {d : PyData}, TdAll K H vs ds → ds[i]? = some d → ∃ v, vs[i]? = some v ∧ Td K H v d
  | [], _, _, _, .nil, e => absurd e (by simp)
  | _ :: _, _, 0, _, .cons h _, e => ⟨_, rfl, (Option.some.inj e) ▸ h⟩
  | _ :: _, _, i + 1, d, .cons _ t, e => TdAll.get (i := i) (d := d) t e
theorem TdAll.take {K : PySem.W.Frag} {H : Hp} : ∀ {vs : List V} {ds : List PyData} (n : Nat), TdAll K H vs ds → TdAll K H (vs.take n) (ds.take n)
  | _, _, 0, _ => .nil
  | _, _, _ + 1, .nil => .nil
  | _, _, n + 1, .cons h t => .cons h (TdAll.take n t)
theorem TdAll.drop {K : PySem.W.Frag} {H : Hp} : ∀ {vs : List V} {ds : List PyData} (n : Nat), TdAll K H vs ds → TdAll K H (vs.drop n) (ds.drop n)
  | _, _, 0, h => h
  | _, _, _ + 1, .nil => .nil
  | _, _, n + 1, .cons _ t => TdAll.drop n t
/-- the parts of a tuple of two, three, four, five -/
theorem Td.t1 {K : PySem.W.Frag} {H : Hp} {v : V} {d1 : PyData} (h : Td K H v (.tuple [d1])) : ∃ a x1, v = .ref a ∧ TqT K H a [x1] ∧ Td K H x1 d1 := by
  cases h with | tup q t => cases t with | cons h1 t => cases t; exact ⟨_, _, rfl, q, h1⟩
theorem Td.t2 {K : PySem.W.Frag} {H : Hp} {v : V} {d1 d2 : PyData} (h : Td K H v (.tuple [d1, d2])) : ∃ a x1 x2, v = .ref a ∧ TqT K H a [x1, x2] ∧ Td K H x1 d1 ∧ Td K H x2 d2 := by
  cases h with | tup q t => cases t with | cons h1 t => cases t with | cons h2 t => cases t; exact ⟨_, _, _, rfl, q, h1, h2⟩
theorem Td.t3 {K : PySem.W.Frag} {H : Hp} {v : V} {d1 d2 d3 : PyData} (h : Td K H v (.tuple [d1, d2, d3])) : ∃ a x1 x2 x3, v = .ref a ∧ TqT K H a [x1, x2, x3] ∧ Td K H x1 d1 ∧ Td K H x2 d2 ∧ Td K H x3 d3 := by
  cases h with | tup q t => cases t with | cons h1 t => cases t with | cons h2 t => cases t with | cons h3 t => cases t; exact ⟨_, _, _, _, rfl, q, h1, h2, h3⟩
theorem Td.t4 {K : PySem.W.Frag} {H : Hp} {v : V} {d1 d2 d3 d4 : PyData} (h : Td K H v (.tuple [d1, d2, d3, d4])) : ∃ a x1 x2 x3 x4, v = .ref a ∧ TqT K H a [x1, x2, x3, x4] ∧ Td K H x1 d1 ∧ Td K H x2 d2 ∧ Td K H x3 d3 ∧ Td K H x4 d4 := by
  cases h with | tup q t => cases t with | cons h1 t => cases t with | cons h2 t => cases t with | cons h3 t => cases t with | cons h4 t => cases t; exact ⟨_, _, _, _, _, rfl, q, h1, h2, h3, h4⟩
theorem Td.t5 {K : PySem.W.Frag} {H : Hp} {v : V} {d1 d2 d3 d4 d5 : PyData} (h : Td K H v (.tuple [d1, d2, d3, d4, d5])) : ∃ a x1 x2 x3 x4 x5, v = .ref a ∧ TqT K H a [x1, x2, x3, x4, x5] ∧ Td K H x1 d1 ∧ Td K H x2 d2 ∧ Td K H x3 d3 ∧ Td K H x4 d4 ∧ Td K H x5 d5 := by
  cases h with | tup q t => cases t with | cons h1 t => cases t with | cons h2 t => cases t with | cons h3 t => cases t with | cons h4 t => cases t with | cons h5 t => cases t; exact ⟨_, _, _, _, _, _, rfl, q, h1, h2, h3, h4, h5⟩
theorem Td.tn {K : PySem.W.Frag} {H : Hp} {v : V} {ds : List PyData} (h : Td K H v (.tuple ds)) : ∃ a xs, v = .ref a ∧ TqT K H a xs ∧ TdAll K H xs ds := by
  cases h with | tup q t => exact ⟨_, _, rfl, q, t⟩
theorem Td.i {K : PySem.W.Frag} {H : Hp} {v : V} {i : Int} (h : Td K H v (.int i)) : v = .int i := by cases h; rfl
theorem Td.s {K : PySem.W.Frag} {H : Hp} {v : V} {i : Str} (h : Td K H v (.str i)) : v = .str i := by cases h; rfl
theorem Td.n {K : PySem.W.Frag} {H : Hp} {v : V} (h : Td K H v .none) : v = .non := by cases h; rfl
/-- a new tuple -/
theorem Td.new {K : PySem.W.Frag} {H : Hp} {p : Addr} {xs : List V} {ds : List PyData} (n : H p = none) (h : TdAll K H xs ds) : Td K (upd H p (.tup xs)) (.ref p) (.tuple ds) :=
  .tup (.inl upd_same) (h.mono (TupE.of (Same.upd n)))

/-! ### tokens, the reader -/
def WordOf : Tok → Str → Prop
  | .name s, z => z = s
  | .num n, z => intText? z = some n ∧ z.length ≤ 640 ∧ (∀ c ∈ z.cps.toList, 48 ≤ c ∧ c ≤ 57) ∧ z.cps.toList ≠ []
  | .sym s, z => z = s
  | .fin s, z => z = s
def TokAt (H : Hp) (v : V) (t : Int × Tok) : Prop := ∃ a z, v = .ref a ∧ H a = some (.tup [.int t.1, .str t.2.kd, .str z]) ∧ WordOf t.2 z
theorem TokAt.mono {H H' : Hp} (e : TupE H H') {v : V} {t : Int × Tok} (h : TokAt H v t) : TokAt H' v t := by
  obtain ⟨a, z, hv, h1, h2⟩ := h
  exact ⟨a, z, hv, e _ _ h1, h2⟩
def rf (l : Addr) (la p d u : Int) : List (Str × V) := [(("tokens" : Str), V.ref l), ("last", .int la), ("place", .int p), ("depth", .int d), ("used", .int u)]
theorem rf_tokens (l : Addr) (la p d u : Int) : (rf l la p d u).lookup ("tokens" : Str) = some (.ref l) := by kernel_rfl
theorem rf_last (l : Addr) (la p d u : Int) : (rf l la p d u).lookup ("last" : Str) = some (.int la) := by kernel_rfl
theorem rf_place (l : Addr) (la p d u : Int) : (rf l la p d u).lookup ("place" : Str) = some (.int p) := by kernel_rfl
theorem rf_depth (l : Addr) (la p d u : Int) : (rf l la p d u).lookup ("depth" : Str) = some (.int d) := by kernel_rfl
theorem rf_used (l : Addr) (la p d u : Int) : (rf l la p d u).lookup ("used" : Str) = some (.int u) := by kernel_rfl
theorem rf_put_place (l : Addr) (la p d u x : Int) : putF "place" (.int x) (rf l la p d u) = rf l la x d u := by kernel_rfl
theorem rf_put_depth (l : Addr) (la p d u x : Int) : putF "depth" (.int x) (rf l la p d u) = rf l la p x u := by kernel_rfl
theorem rf_put_used (l : Addr) (la p d u x : Int) : putF "used" (.int x) (rf l la p d u) = rf l la p d x := by kernel_rfl
theorem rf_len (l : Addr) (la p d u : Int) : (rf l la p d u).length < 1000 := by show 5 < 1000; decide
/-- at r stands a reader in the state S -/
def RdAt (CR : Addr) (H : Hp) (r : Addr) (S : PS) : Prop := ∃ dx l xs, H r = some (.ins CR dx (rf l S.last S.place S.depth S.used)) ∧ H l = some (.lst xs) ∧ Paired (TokAt H) xs S.toks ∧ l = S.tl
theorem RdAt.tup {CR r : Addr} {H H' : Hp} {S : PS} (h : RdAt CR H r S) (e : XE r H H') : TupE H H' := by
  obtain ⟨dx, l, xs, h1, _⟩ := h
  exact e.tup h1
/-- the word that stands next -/
def WordIs (S : PS) (z : Str) : Prop := match S.cur with
  | some (_, t) => WordOf t z
  | none => z = ""
/-- a text that is no number's and not empty -/
def Word (w : Str) : Bool := w.cps.toList.any fun c => !(decide (48 ≤ c) && decide (c ≤ 57))
theorem Word.num {w z : Str} (h : Word w = true) (hz : ∀ c ∈ z.cps.toList, 48 ≤ c ∧ c ≤ 57) : z ≠ w := by
  intro e
  subst e
  obtain ⟨c, hc, h2⟩ := List.any_eq_true.mp h
  obtain ⟨h3, h4⟩ := hz c hc
  simp [h3, h4] at h2
theorem WordOf.is {t : Tok} {z w : Str} (h : WordOf t z) (hw : Word w = true) : decide (V.str z = V.str w) = t.is w := by
  have q : ∀ s : Str, decide (V.str s = V.str w) = decide (s = w) := fun s => by
    by_cases e : s = w
    · subst e; simp
    · rw [decide_eq_false e]; exact decide_eq_false fun z => e (V.str.inj z)
  cases t with
  | name s => cases (show z = s from h); exact q _
  | num n =>
    have h2 : z ≠ w := Word.num hw h.2.2.1
    rw [q]; exact decide_eq_false h2
  | sym s => cases (show z = s from h); exact q _
  | fin s => cases (show z = s from h); exact q _
theorem WordIs.is {S : PS} {z w : Str} (h : WordIs S z) (hw : Word w = true) : decide (V.str z = V.str w) = S.isW w := by
  unfold WordIs at h
  unfold PS.isW
  cases e : S.cur with
  | none =>
    rw [e] at h
    cases (show z = "" from h)
    refine decide_eq_false fun q => ?_
    have q2 := V.str.inj q
    subst q2
    exact absurd hw (by decide +kernel)
  | some p =>
    rw [e] at h
    exact WordOf.is h hw
end FJ

set_option Elab.async false
set_option linter.all false
set_option maxRecDepth 100000
set_option maxHeartbeats 0
/-! the head: facts by names, the run -/
namespace FJ
open PySem PySem.Spec PyProof.Rows L2
/-- the default of Clip's maker; the getter of length -/
def empA (K : PySem.W.Frag) : Addr := He.dflAt ("Clip", some "__init__") 0 K
def getA (K : PySem.W.Frag) : Addr := match PySem.W.recIn K (He.ma K (He.ga K "Clip") "length") "property" with
  | some (.ref g :: _) => g
  | _ => 0
def kC (K : PySem.W.Frag) : Addr := He.ga K "Clip"
def isRef : Option (Option Value) → Bool
  | some none => true
  | some (some (.ref _)) => true
  | _ => false
def isTy : Option Value → Bool
  | some (.ref _) => true
  | _ => false
def tupAtB (K : PySem.W.Frag) (a : Addr) : Bool := match K.lookup a with
  | some ⟨.type c, _, .seq its _, _⟩ => decide (c = "tuple") && its.isEmpty
  | _ => false
/-- what the facts by names do not tell -/
def exs : List (PySem.W.Frag → Bool) := [
  fun K => PySem.W.readsIn K (kC K) (.type "type"),
  fun K => He5.wrapB K (kC K) "staticmethod" "staticmethod.__get__" "part",
  fun K => He5.wrapB K (kC K) "staticmethod" "staticmethod.__get__" "silence",
  fun K => He.eqO (PySem.W.findIn K (.ref (kC K)) "length") (some (some (.ref (He.ma K (kC K) "length")))),
  fun K => He.eqO (PySem.W.specialIn K (.ref (He.ma K (kC K) "length")) "__get__") (some (some (.builtin "property.__get__"))),
  fun K => decide (PySem.W.takesIn K (.ref (He.ma K (kC K) "length")) = some true),
  fun K => (match PySem.W.recIn K (He.ma K (kC K) "length") "property" with
    | some (.ref _ :: _) => true
    | _ => false),
  fun K => PySem.W.selfFirst K (kC K),
  fun K => isRef (PySem.W.findIn K (.ref (kC K)) "__rmul__"),
  fun K => (PySem.W.findIn K (.type "int") "__mul__").isSome,
  fun K => (PySem.W.findIn K (.type "int") "__rmul__").isSome,
  fun K => decide (PySem.W.subIn K (.type "int") (.ref (kC K)) = some false),
  fun K => He.eqO (PySem.W.findIn K (.ref (kC K)) "__class__") (some (some (.builtin "object.__class__"))),
  fun K => He.eqO (PySem.W.specialIn K (.builtin "object.__class__") "__get__") (some (some (.builtin "getset_descriptor.__get__"))),
  fun K => decide (PySem.W.takesIn K (.builtin "object.__class__") = some true),
  fun K => decide (PySem.W.mroIn K (kC K) (.type "object") = some true),
  fun K => He.tupB K "RESERVED" [.str "return", .str "silence", .str "samples", .str "gain", .str "insert", .str "replace", .str "cut"],
  fun K => tupAtB K (empA K)]
def d_is_integer : He5.DefA := ⟨fun K => He.ga K "is_integer", "is_integer", "is_integer", defArgs s_is_integer, defBody s_is_integer, defScope s_is_integer, [], []⟩
def d_is_between : He5.DefA := ⟨fun K => He.ga K "is_between", "is_between", "is_between", defArgs s_is_between, defBody s_is_between, defScope s_is_between, [], []⟩
def d_is_name : He5.DefA := ⟨fun K => He.ga K "is_name", "is_name", "is_name", defArgs s_is_name, defBody s_is_name, defScope s_is_name, [], []⟩
def d_piece_length : He5.DefA := ⟨fun K => He.ga K "piece_length", "piece_length", "piece_length", defArgs s_piece_length, defBody s_piece_length, defScope s_piece_length, [], []⟩
def d_total_length : He5.DefA := ⟨fun K => He.ga K "total_length", "total_length", "total_length", defArgs s_total_length, defBody s_total_length, defScope s_total_length, [], []⟩
def d_piece_count : He5.DefA := ⟨fun K => He.ga K "piece_count", "piece_count", "piece_count", defArgs s_piece_count, defBody s_piece_count, defScope s_piece_count, [], []⟩
def d_merged : He5.DefA := ⟨fun K => He.ga K "merged", "merged", "merged", defArgs s_merged, defBody s_merged, defScope s_merged, [], []⟩
def d_both_pieces : He5.DefA := ⟨fun K => He.ga K "both_pieces", "both_pieces", "both_pieces", defArgs s_both_pieces, defBody s_both_pieces, defScope s_both_pieces, [], []⟩
def d_repeated_pieces : He5.DefA := ⟨fun K => He.ga K "repeated_pieces", "repeated_pieces", "repeated_pieces", defArgs s_repeated_pieces, defBody s_repeated_pieces, defScope s_repeated_pieces, [], []⟩
def d_cut_repeat : He5.DefA := ⟨fun K => He.ga K "cut_repeat", "cut_repeat", "cut_repeat", defArgs s_cut_repeat, defBody s_cut_repeat, defScope s_cut_repeat, [], []⟩
def d_cut_piece : He5.DefA := ⟨fun K => He.ga K "cut_piece", "cut_piece", "cut_piece", defArgs s_cut_piece, defBody s_cut_piece, defScope s_cut_piece, [], []⟩
def d_cut_pieces : He5.DefA := ⟨fun K => He.ga K "cut_pieces", "cut_pieces", "cut_pieces", defArgs s_cut_pieces, defBody s_cut_pieces, defScope s_cut_pieces, [], []⟩
def d_gained_pieces : He5.DefA := ⟨fun K => He.ga K "gained_pieces", "gained_pieces", "gained_pieces", defArgs s_gained_pieces, defBody s_gained_pieces, defScope s_gained_pieces, [], []⟩
def d_run_length : He5.DefA := ⟨fun K => He.ga K "run_length", "run_length", "run_length", defArgs s_run_length, defBody s_run_length, defScope s_run_length, [], []⟩
def d_token_at : He5.DefA := ⟨fun K => He.ga K "token_at", "token_at", "token_at", defArgs s_token_at, defBody s_token_at, defScope s_token_at, [], []⟩
def d_line_tokens : He5.DefA := ⟨fun K => He.ga K "line_tokens", "line_tokens", "line_tokens", defArgs s_line_tokens, defBody s_line_tokens, defScope s_line_tokens, [], []⟩
def d_text_tokens : He5.DefA := ⟨fun K => He.ga K "text_tokens", "text_tokens", "text_tokens", defArgs s_text_tokens, defBody s_text_tokens, defScope s_text_tokens, [], []⟩
def d_parse_script : He5.DefA := ⟨fun K => He.ga K "parse_script", "parse_script", "parse_script", defArgs s_parse_script, defBody s_parse_script, defScope s_parse_script, [], []⟩
def d_replaced : He5.DefA := ⟨fun K => He.ga K "replaced", "replaced", "replaced", defArgs s_replaced, defBody s_replaced, defScope s_replaced, [], []⟩
def d_clip_of : He5.DefA := ⟨fun K => He.ga K "clip_of", "clip_of", "clip_of", defArgs s_clip_of, defBody s_clip_of, defScope s_clip_of, [], []⟩
def d__law_pool : He5.DefA := ⟨fun K => He.ga K "_law_pool", "_law_pool", "_law_pool", defArgs s__law_pool, defBody s__law_pool, defScope s__law_pool, [], []⟩
def d__law_take : He5.DefA := ⟨fun K => He.ga K "_law_take", "_law_take", "_law_take", defArgs s__law_take, defBody s__law_take, defScope s__law_take, [], []⟩
def d_law : He5.DefA := ⟨fun K => He.ga K "law", "law", "law", defArgs s_law, defBody s_law, defScope s_law, [], []⟩
def d_Clip_init : He5.DefA := ⟨fun K => He.ma K (He.ga K "Clip") "__init__", "__init__", "Clip.__init__", defArgs s_Clip_init, defBody s_Clip_init, defScope s_Clip_init, [.adr empA], []⟩
def d_Clip_require_stretch : He5.DefA := ⟨fun K => He.ma K (He.ga K "Clip") "require_stretch", "require_stretch", "Clip.require_stretch", defArgs s_Clip_require_stretch, defBody s_Clip_require_stretch, defScope s_Clip_require_stretch, [], []⟩
def d_Clip_cut : He5.DefA := ⟨fun K => He.ma K (He.ga K "Clip") "cut", "cut", "Clip.cut", defArgs s_Clip_cut, defBody s_Clip_cut, defScope s_Clip_cut, [], []⟩
def d_Clip_gained : He5.DefA := ⟨fun K => He.ma K (He.ga K "Clip") "gained", "gained", "Clip.gained", defArgs s_Clip_gained, defBody s_Clip_gained, defScope s_Clip_gained, [], []⟩
def d_Clip_add : He5.DefA := ⟨fun K => He.ma K (He.ga K "Clip") "__add__", "__add__", "Clip.__add__", defArgs s_Clip_add, defBody s_Clip_add, defScope s_Clip_add, [], []⟩
def d_Clip_mul : He5.DefA := ⟨fun K => He.ma K (He.ga K "Clip") "__mul__", "__mul__", "Clip.__mul__", defArgs s_Clip_mul, defBody s_Clip_mul, defScope s_Clip_mul, [], []⟩
def d_Clip_eq : He5.DefA := ⟨fun K => He.ma K (He.ga K "Clip") "__eq__", "__eq__", "Clip.__eq__", defArgs s_Clip_eq, defBody s_Clip_eq, defScope s_Clip_eq, [], []⟩
def d_Reader_init : He5.DefA := ⟨fun K => He.ma K (He.ga K "Reader") "__init__", "__init__", "Reader.__init__", defArgs s_Reader_init, defBody s_Reader_init, defScope s_Reader_init, [], []⟩
def d_Reader_kind_here : He5.DefA := ⟨fun K => He.ma K (He.ga K "Reader") "kind_here", "kind_here", "Reader.kind_here", defArgs s_Reader_kind_here, defBody s_Reader_kind_here, defScope s_Reader_kind_here, [], []⟩
def d_Reader_word_here : He5.DefA := ⟨fun K => He.ma K (He.ga K "Reader") "word_here", "word_here", "Reader.word_here", defArgs s_Reader_word_here, defBody s_Reader_word_here, defScope s_Reader_word_here, [], []⟩
def d_Reader_line_here : He5.DefA := ⟨fun K => He.ma K (He.ga K "Reader") "line_here", "line_here", "Reader.line_here", defArgs s_Reader_line_here, defBody s_Reader_line_here, defScope s_Reader_line_here, [], []⟩
def d_Reader_skip : He5.DefA := ⟨fun K => He.ma K (He.ga K "Reader") "skip", "skip", "Reader.skip", defArgs s_Reader_skip, defBody s_Reader_skip, defScope s_Reader_skip, [], []⟩
def d_Reader_expect : He5.DefA := ⟨fun K => He.ma K (He.ga K "Reader") "expect", "expect", "Reader.expect", defArgs s_Reader_expect, defBody s_Reader_expect, defScope s_Reader_expect, [], []⟩
def d_Reader_enter : He5.DefA := ⟨fun K => He.ma K (He.ga K "Reader") "enter", "enter", "Reader.enter", defArgs s_Reader_enter, defBody s_Reader_enter, defScope s_Reader_enter, [], []⟩
def d_Reader_leave : He5.DefA := ⟨fun K => He.ma K (He.ga K "Reader") "leave", "leave", "Reader.leave", defArgs s_Reader_leave, defBody s_Reader_leave, defScope s_Reader_leave, [], []⟩
def d_Reader_number : He5.DefA := ⟨fun K => He.ma K (He.ga K "Reader") "number", "number", "Reader.number", defArgs s_Reader_number, defBody s_Reader_number, defScope s_Reader_number, [], []⟩
def d_Reader_signed : He5.DefA := ⟨fun K => He.ma K (He.ga K "Reader") "signed", "signed", "Reader.signed", defArgs s_Reader_signed, defBody s_Reader_signed, defScope s_Reader_signed, [], []⟩
def d_Reader_expression : He5.DefA := ⟨fun K => He.ma K (He.ga K "Reader") "expression", "expression", "Reader.expression", defArgs s_Reader_expression, defBody s_Reader_expression, defScope s_Reader_expression, [], []⟩
def d_Reader_product : He5.DefA := ⟨fun K => He.ma K (He.ga K "Reader") "product", "product", "Reader.product", defArgs s_Reader_product, defBody s_Reader_product, defScope s_Reader_product, [], []⟩
def d_Reader_operand : He5.DefA := ⟨fun K => He.ma K (He.ga K "Reader") "operand", "operand", "Reader.operand", defArgs s_Reader_operand, defBody s_Reader_operand, defScope s_Reader_operand, [], []⟩
def d_Reader_atom : He5.DefA := ⟨fun K => He.ma K (He.ga K "Reader") "atom", "atom", "Reader.atom", defArgs s_Reader_atom, defBody s_Reader_atom, defScope s_Reader_atom, [], []⟩
def d_Reader_call : He5.DefA := ⟨fun K => He.ma K (He.ga K "Reader") "call", "call", "Reader.call", defArgs s_Reader_call, defBody s_Reader_call, defScope s_Reader_call, [], []⟩
def d_Reader_skip_ends : He5.DefA := ⟨fun K => He.ma K (He.ga K "Reader") "skip_ends", "skip_ends", "Reader.skip_ends", defArgs s_Reader_skip_ends, defBody s_Reader_skip_ends, defScope s_Reader_skip_ends, [], []⟩
def d_Reader_script : He5.DefA := ⟨fun K => He.ma K (He.ga K "Reader") "script", "script", "Reader.script", defArgs s_Reader_script, defBody s_Reader_script, defScope s_Reader_script, [], []⟩
def d_Evaluator_init : He5.DefA := ⟨fun K => He.ma K (He.ga K "Evaluator") "__init__", "__init__", "Evaluator.__init__", defArgs s_Evaluator_init, defBody s_Evaluator_init, defScope s_Evaluator_init, [], []⟩
def d_Evaluator_named : He5.DefA := ⟨fun K => He.ma K (He.ga K "Evaluator") "named", "named", "Evaluator.named", defArgs s_Evaluator_named, defBody s_Evaluator_named, defScope s_Evaluator_named, [], []⟩
def d_Evaluator_clip : He5.DefA := ⟨fun K => He.ma K (He.ga K "Evaluator") "clip", "clip", "Evaluator.clip", defArgs s_Evaluator_clip, defBody s_Evaluator_clip, defScope s_Evaluator_clip, [], []⟩
def d_Clip_part : He5.DefA := ⟨fun K => He5.wf K (He.ga K "Clip") "staticmethod" "part", "part", "Clip.part", defArgs s_Clip_part, defBody s_Clip_part, defScope s_Clip_part, [], []⟩
def d_Clip_silence : He5.DefA := ⟨fun K => He5.wf K (He.ga K "Clip") "staticmethod" "silence", "silence", "Clip.silence", defArgs s_Clip_silence, defBody s_Clip_silence, defScope s_Clip_silence, [], []⟩
def d_Clip_length : He5.DefA := ⟨getA, "length", "Clip.length", defArgs s_Clip_length, defBody s_Clip_length, defScope s_Clip_length, [], []⟩
def fn : List He5.DefA := [d_is_integer, d_is_between, d_is_name, d_piece_length, d_total_length, d_piece_count, d_merged, d_both_pieces, d_repeated_pieces, d_cut_repeat, d_cut_piece, d_cut_pieces, d_gained_pieces, d_run_length, d_token_at, d_line_tokens, d_text_tokens, d_parse_script, d_replaced, d_clip_of, d__law_pool, d__law_take, d_law, d_Clip_init, d_Clip_require_stretch, d_Clip_cut, d_Clip_gained, d_Clip_add, d_Clip_mul, d_Clip_eq, d_Reader_init, d_Reader_kind_here, d_Reader_word_here, d_Reader_line_here, d_Reader_skip, d_Reader_expect, d_Reader_enter, d_Reader_leave, d_Reader_number, d_Reader_signed, d_Reader_expression, d_Reader_product, d_Reader_operand, d_Reader_atom, d_Reader_call, d_Reader_skip_ends, d_Reader_script, d_Evaluator_init, d_Evaluator_named, d_Evaluator_clip, d_Clip_part, d_Clip_silence, d_Clip_length]
def fa : List He.Fa := [.glo "is_integer", .glo "is_between", .glo "is_name", .glo "piece_length", .glo "total_length", .glo "piece_count", .glo "merged", .glo "both_pieces", .glo "repeated_pieces", .glo "cut_repeat", .glo "cut_piece", .glo "cut_pieces", .glo "gained_pieces", .glo "run_length", .glo "token_at", .glo "line_tokens", .glo "text_tokens", .glo "parse_script", .glo "replaced", .glo "clip_of", .glo "_law_pool", .glo "_law_take", .glo "law", .glo "Clip", .cls "Clip", .mkr "Clip", .meth "Clip" "require_stretch", .meth "Clip" "cut", .meth "Clip" "gained", .meth "Clip" "__add__", .meth "Clip" "__mul__", .meth "Clip" "__eq__", .glo "Reader", .cls "Reader", .mkr "Reader", .meth "Reader" "kind_here", .meth "Reader" "word_here", .meth "Reader" "line_here", .meth "Reader" "skip", .meth "Reader" "expect", .meth "Reader" "enter", .meth "Reader" "leave", .meth "Reader" "number", .meth "Reader" "signed", .meth "Reader" "expression", .meth "Reader" "product", .meth "Reader" "operand", .meth "Reader" "atom", .meth "Reader" "call", .meth "Reader" "skip_ends", .meth "Reader" "script", .glo "Evaluator", .cls "Evaluator", .mkr "Evaluator", .meth "Evaluator" "named", .meth "Evaluator" "clip", .noat "Clip" "own_pieces", .noat "Clip" "own_length", .noat "Reader" "tokens", .noat "Reader" "last", .noat "Reader" "place", .noat "Reader" "depth", .noat "Reader" "used", .noat "Evaluator" "lengths", .noat "Evaluator" "defined", .free "len", .free "isinstance", .free "sum", .free "all", .free "max", .free "min", .free "abs", .free "int", .free "bool", .free "str", .free "tuple", .free "range", .free "enumerate", .int "MAX_COUNT" (10 ^ 30), .int "MAX_LENGTH" (10 ^ 40), .int "MAX_PIECES" 200, .int "MAX_GAIN" 1000, .int "MAX_NAME_clips" 8, .int "MAX_NAME_reader" 8, .int "MAX_DIGITS" 30, .int "MAX_DEPTH" 20, .int "MAX_TOKENS" 200, .int "MAX_TEXT" 8000, .str "LETTERS_clips" "abcdefghijklmnopqrstuvwxyz", .str "LETTERS_reader" "abcdefghijklmnopqrstuvwxyz", .str "DIGITS" "0123456789", .str "SYMBOLS" "+-*/()[],:=", .str "ENDS" ";\n", .glo "RESERVED"]
def exB (K : PySem.W.Frag) : Bool := exs.all fun e => e K
/-- what an object names, the order of its classes left out -/
def namesJ (o : Obj) : List Addr := (match o.dict with
  | some d => [d]
  | none => []) ++ match o.data with
  | .seq vs _ => vs.toList.flatMap He.refV
  | .dict rows _ => rows.toList.flatMap fun r => He.refV r.val
  | .func fd => He.refV fd.code ++ He.refV fd.defaults
  | .cls cd => [cd.ns]
  | .fields vs => vs.toList.flatMap He.refV
  | _ => []
/-- what the module's names reach in just so many steps -/
def layerJ (g : Addr → Option Obj) : Nat → List Addr
  | 0 => [mainGlobals]
  | n + 1 => (layerJ g n).flatMap fun a => match g a with
    | some o => namesJ o
    | none => []
def placesJ (g : Addr → Option Obj) (n : Nat) : List Addr := (List.range (n + 1)).flatMap (layerJ g) ++ [cStatics]
abbrev AlJ : Type := He.AlD × Bool
def obsJ (n : Nat) (fa : List He.Fa) (fn : List He5.DefA) (ex : PySem.W.Frag → Bool) (g : Addr → Option Obj) : AlJ := (He5.obsA fa fn (He.frG g (placesJ g n)), ex (He.frG g (placesJ g n)))
theorem obsJ_of {n : Nat} {fa : List He.Fa} {fn : List He5.DefA} {ex : PySem.W.Frag → Bool} {h : Heap} (e : obsJ n fa fn ex h.get? = (He5.valA fn, true)) : ∃ K : PySem.W.Frag, K.In h ∧ He5.SaysA fa fn K ∧ ex K = true := by
  unfold obsJ at e
  have e1 := congrArg Prod.fst e
  have e2 := congrArg Prod.snd e
  exact ⟨He.frG h.get? (placesJ h.get? n), He.frG_in, e1, e2⟩
def hookJ (n : Nat) (fa : List He.Fa) (fn : List He5.DefA) (ex : PySem.W.Frag → Bool) : PySem.W.Hook where
  α := AlJ
  obs := fun s => obsJ n fa fn ex s.heap.get?
  val := fun _ => (He5.valA fn, true)
  says := fun _ h => ∃ K : PySem.W.Frag, K.In h ∧ He5.SaysA fa fn K ∧ ex K = true
  of := fun _ _ e => obsJ_of e
  keeps := fun _ _ _ told k => told.elim fun K t => ⟨K, PySem.W.Frag.In.keeps t.1 k, t.2⟩
theorem obsJ_eq {n : Nat} {fa : List He.Fa} {fn : List He5.DefA} {ex : PySem.W.Frag → Bool} {g : Addr → Option Obj} {s : Shared} (h : ∀ a, g a = s.heap.get? a) : obsJ n fa fn ex g = (hookJ n fa fn ex).obs s := by
  obtain rfl : g = fun a => s.heap.get? a := funext h
  rfl
abbrev hkJ : PySem.W.Hook := hookJ 5 fa fn exB
def obJ (s : PySem.W.SharedT) : AlJ := obsJ 5 fa fn exB (HandSHeadRun.getT s)
theorem obJ_eq (s : PySem.W.SharedT) : obJ s = hkJ.obs s.abs := obsJ_eq (HandSHeadRun.getT_eq s)
abbrev RJ : PySem.W.OpenRow := PySem.W.OpenLaw.row PySem.Challenge.rw_framejoins_k62_whole_scripts_that_say_th
def looseJ : List PySem.Str := (["JoinError", "InvalidNumber", "InvalidSound", "ScriptError", "InvalidPlace", "UnknownName", "LimitExceeded", "is_integer", "is_between", "is_row", "require_sound", "MAX_COUNT", "MAX_LENGTH", "MAX_PIECES", "MAX_GAIN", "MAX_NAME_clips", "LETTERS_clips", "is_name", "piece_length", "total_length", "piece_count", "merged", "both_pieces", "repeated_pieces", "cut_repeat", "cut_piece", "cut_pieces", "gained_pieces", "gained_sample", "names_in"] : List PySem.Str) ++ (["sample_of", "Clip", "MAX_NAME_reader", "MAX_DIGITS", "MAX_DEPTH", "MAX_TOKENS", "LETTERS_reader", "DIGITS", "SYMBOLS", "ENDS", "RESERVED", "run_length", "token_at", "line_tokens", "text_tokens", "Reader", "MAX_TEXT", "parse_script", "replaced", "Evaluator", "clip_of", "_law_pool", "_law_take"] : List PySem.Str)

theorem runJ (w : World) : HandSHeadRun.RunEq RJ (PySem.W.view RJ.prog [60]) hkJ obJ 30000 looseJ w := by
  intro os
  kernel_rfl
end FJ

set_option Elab.async false
set_option linter.all false
set_option maxRecDepth 100000
set_option maxHeartbeats 4000000
/-! the reader's small methods -/
namespace FJ
open PySem PySem.Spec PyProof.Rows L2
open C8 (pe_c pe_mk pe_mt pe_mt0 pe_gc)

/-- a promise by what it is about -/
def spOf {α : Type} (args : α → List V) (body : α → Hp → VK → Prop) : Sp := fun vs H Q _ => ∃ x, vs = args x ∧ body x H Q
theorem ok0 {P : Program} {w : World} {K : PySem.W.Frag} {mg : Str → Option Value} {base : Heap} {x q : Str} {st : Stmt} {f : Addr} {fd : FuncData} {N ps : List Str} {k : Nat} {α : Type} {args : α → List V} {body : α → Hp → VK → Prop} {dvs : List V}
    (F : FunD K x q (defArgs st) (defBody st) (defScope st) dvs [] f fd) (S : FnScope N ps (defScope st)) (len : ∀ x, (args x).length = ps.length)
    (hbody : ∀ (cdv : Value) (A : Around) (outer : List Env) (s : Shared) (H : Hp) (y : α) (Q : VK) (E : XK), Room k (A.deeper (envOfC q (defScope st) s.heap.objs.size f cdv)) → body y H Q →
      ∃ t, PSs (cxOf CX0 P w K mg base N q (defScope st) f cdv A outer s H E).nox (defBody st) t ∧ t { nx := fun _ H' => Q .non H', rt := Q } (start N (args y)) H) : FnOk P w K mg base CX0 (k + 1) f fd ps (spOf args body) := by
  refine F.ok S (fun vs H Q E h => ?_) (fun cdv A outer s H vs Q E hr h => ?_)
  · obtain ⟨y, rfl, _⟩ := h
    exact len y
  · obtain ⟨y, rfl, hb⟩ := h
    obtain ⟨t, h1, h2⟩ := hbody cdv A outer s H y Q E hr hb
    exact ⟨t, h1.nox, h2⟩

theorem r_fld {K : PySem.W.Frag} {i : Nat} {σ : St} {H : Hp} {a C dx : Addr} {fs : List (Str × V)} {f : Str} {v : V} {Q : VK} (hs : σ[i]? = some (some (.ref a))) (h : H a = some (.ins C dx fs)) (c : Cls K C) (n : NoAttr K C f) (l : fs.lookup f = some v) (q : Q v H) :
    tFld K (tVar i) f σ H Q := ⟨_, hs, a, C, dx, fs, v, rfl, h, c, n, l, q⟩
theorem wh {c : TT} {tb : TS} {D : Ends} {σ : St} {H : Hp} (W : Nat → St → Hp → Prop) (m : Nat) (h0 : W m σ H)
    (hs : ∀ m σ H, W m σ H → c σ H fun b H1 => if b = true then ∃ N : St → Hp → Prop, (∀ σ' H', N σ' H' → ∃ m', m' < m ∧ W m' σ' H') ∧ tb { D with nx := N, ct := N, bk := D.nx } σ H1 else D.nx σ H1) : tWhile c tb D σ H := ⟨W, ⟨m, h0⟩, hs⟩

section
variable {P : Program} {w : World} {K : PySem.W.Frag} {mg : Str → Option Value} {base : Heap} {CC CR CE RES : Addr} {f : Addr} {fd : FuncData}
/-! ### what stands next -/
def spKind (CR : Addr) : Sp := spOf (fun x : Addr × PS => [.ref x.1]) fun x H Q => RdAt CR H x.1 x.2 ∧ Q (.str x.2.kind) H
def spWord (CR : Addr) : Sp := spOf (fun x : Addr × PS => [.ref x.1]) fun x H Q => RdAt CR H x.1 x.2 ∧ ∀ z, WordIs x.2 z → Q (.str z) H
def spLine (CR : Addr) : Sp := spOf (fun x : Addr × PS => [.ref x.1]) fun x H Q => RdAt CR H x.1 x.2 ∧ Q (.int x.2.line) H
theorem cur_some {CR r : Addr} {H : Hp} {S : PS} {dx l : Addr} {xs : List V} (hp : Paired (TokAt H) xs S.toks) {t : Int × Tok} (h : S.cur = some t) : S.place < xs.length ∧ ∃ v, xs[S.place]? = some v ∧ TokAt H v t := by
  obtain ⟨v, h1, h2⟩ := PGet hp h
  exact ⟨(List.getElem?_eq_some_iff.mp h1).1, v, h1, h2⟩
theorem cur_none {H : Hp} {S : PS} {xs : List V} (hp : Paired (TokAt H) xs S.toks) (h : S.cur = none) : ¬ S.place < xs.length := by
  have := List.getElem?_eq_none_iff.mp h
  rw [PLen hp]; omega
theorem ok_kind (F : FnP K "kind_here" "Reader.kind_here" s_Reader_kind_here f fd) (T : Txt K mg CC CR CE RES) : FnOk P w K mg base CX0 1 f fd ["self"] (spKind CR) := by
  refine ok0 F sc_Reader_kind_here (fun _ => rfl) (fun cdv A outer s H y Q E hr h => ?_)
  obtain ⟨r, S⟩ := y
  obtain ⟨⟨dx, l, xs, h1, hl, hp, htl⟩, hQ⟩ := h
  refine ⟨_, (pss_one (ps_ret (pe_ifExp (pt_cmpR op_lt (pe_fld (pv 0) rfl) (pe_callB call_len_seq (by rfl) T.n_len bt_len (pa_cons (pe_fld (pv 0) rfl) pa_nil)) (nomark _)) (pe_ix ix_tup (pe_ix ix_list (pe_fld (pv 0) rfl) (pe_fld (pv 0) rfl) (fun _ _ => rfl)) pe_int (fun _ _ => rfl)) pe_str))), ?_⟩
  refine ⟨_, rfl, r, CR, _, _, _, rfl, h1, T.clR, T.nPlace, rf_place .., _, rfl, r, CR, _, _, _, rfl, h1, T.clR, T.nTok, rf_tokens .., l, _, rfl, .inl (SqL.of hl), _, _, rfl, rfl, _, rfl, ?_⟩
  cases e : S.cur with
  | none =>
    have n := cur_none hp e
    rw [decide_eq_false (by omega)]
    refine iteF ?_
    have : S.kind = "" := by unfold PS.kind; rw [e]
    rw [this] at hQ
    exact hQ
  | some t =>
    obtain ⟨hlt, v, h2, a, z, rfl, h3, h4⟩ := cur_some (CR := CR) (r := r) (dx := dx) (l := l) hp e
    rw [decide_eq_true (by omega)]
    refine iteT ⟨_, rfl, r, CR, _, _, _, rfl, h1, T.clR, T.nTok, rf_tokens .., _, rfl, r, CR, _, _, _, rfl, h1, T.clR, T.nPlace, rf_place .., l, _, _, _, rfl, rfl, SqL.of hl, atI_nat h2, a, _, _, _, rfl, rfl, SqT.of h3, rfl, ?_⟩
    have : S.kind = t.2.kd := by unfold PS.kind; rw [e]
    rw [this] at hQ
    exact hQ

theorem ok_word (F : FnP K "word_here" "Reader.word_here" s_Reader_word_here f fd) (T : Txt K mg CC CR CE RES) : FnOk P w K mg base CX0 1 f fd ["self"] (spWord CR) := by
  refine ok0 F sc_Reader_word_here (fun _ => rfl) (fun cdv A outer s H y Q E hr h => ?_)
  obtain ⟨r, S⟩ := y
  obtain ⟨⟨dx, l, xs, h1, hl, hp, htl⟩, hQ⟩ := h
  refine ⟨_, (pss_one (ps_ret (pe_ifExp (pt_cmpR op_lt (pe_fld (pv 0) rfl) (pe_callB call_len_seq (by rfl) T.n_len bt_len (pa_cons (pe_fld (pv 0) rfl) pa_nil)) (nomark _)) (pe_ix ix_tup (pe_ix ix_list (pe_fld (pv 0) rfl) (pe_fld (pv 0) rfl) (fun _ _ => rfl)) pe_int (fun _ _ => rfl)) pe_str))), ?_⟩
  refine ⟨_, rfl, r, CR, _, _, _, rfl, h1, T.clR, T.nPlace, rf_place .., _, rfl, r, CR, _, _, _, rfl, h1, T.clR, T.nTok, rf_tokens .., l, _, rfl, .inl (SqL.of hl), _, _, rfl, rfl, _, rfl, ?_⟩
  cases e : S.cur with
  | none =>
    have n := cur_none hp e
    rw [decide_eq_false (by omega)]
    refine iteF ?_
    exact hQ _ (show WordIs S "" by unfold WordIs; rw [e])
  | some t =>
    obtain ⟨hlt, v, h2, a, z, rfl, h3, h4⟩ := cur_some (CR := CR) (r := r) (dx := dx) (l := l) hp e
    rw [decide_eq_true (by omega)]
    refine iteT ⟨_, rfl, r, CR, _, _, _, rfl, h1, T.clR, T.nTok, rf_tokens .., _, rfl, r, CR, _, _, _, rfl, h1, T.clR, T.nPlace, rf_place .., l, _, _, _, rfl, rfl, SqL.of hl, atI_nat h2, a, _, _, _, rfl, rfl, SqT.of h3, rfl, ?_⟩
    exact hQ _ (show WordIs S z by unfold WordIs; rw [e]; exact h4)
theorem ok_line (F : FnP K "line_here" "Reader.line_here" s_Reader_line_here f fd) (T : Txt K mg CC CR CE RES) : FnOk P w K mg base CX0 1 f fd ["self"] (spLine CR) := by
  refine ok0 F sc_Reader_line_here (fun _ => rfl) (fun cdv A outer s H y Q E hr h => ?_)
  obtain ⟨r, S⟩ := y
  obtain ⟨⟨dx, l, xs, h1, hl, hp, htl⟩, hQ⟩ := h
  refine ⟨_, (pss_one (ps_ret (pe_ifExp (pt_cmpR op_lt (pe_fld (pv 0) rfl) (pe_callB call_len_seq (by rfl) T.n_len bt_len (pa_cons (pe_fld (pv 0) rfl) pa_nil)) (nomark _)) (pe_ix ix_tup (pe_ix ix_list (pe_fld (pv 0) rfl) (pe_fld (pv 0) rfl) (fun _ _ => rfl)) pe_int (fun _ _ => rfl)) (pe_fld (pv 0) rfl)))), ?_⟩
  refine ⟨_, rfl, r, CR, _, _, _, rfl, h1, T.clR, T.nPlace, rf_place .., _, rfl, r, CR, _, _, _, rfl, h1, T.clR, T.nTok, rf_tokens .., l, _, rfl, .inl (SqL.of hl), _, _, rfl, rfl, _, rfl, ?_⟩
  cases e : S.cur with
  | none =>
    have n := cur_none hp e
    rw [decide_eq_false (by omega)]
    refine iteF ⟨_, rfl, r, CR, _, _, _, rfl, h1, T.clR, T.nLast, rf_last .., ?_⟩
    have : S.line = S.last := by unfold PS.line; rw [e]
    rw [this] at hQ
    exact hQ
  | some t =>
    obtain ⟨hlt, v, h2, a, z, rfl, h3, h4⟩ := cur_some (CR := CR) (r := r) (dx := dx) (l := l) hp e
    rw [decide_eq_true (by omega)]
    refine iteT ⟨_, rfl, r, CR, _, _, _, rfl, h1, T.clR, T.nTok, rf_tokens .., _, rfl, r, CR, _, _, _, rfl, h1, T.clR, T.nPlace, rf_place .., l, _, _, _, rfl, rfl, SqL.of hl, atI_nat h2, a, _, _, _, rfl, rfl, SqT.of h3, rfl, ?_⟩
    have : S.line = t.1 := by unfold PS.line; rw [e]
    rw [this] at hQ
    exact hQ
theorem rd_upd {r dx l : Addr} {H : Hp} {S : PS} {fs : List (Str × V)} {xs : List V} (h1 : H r = some (.ins CR dx fs)) (hl : H l = some (.lst xs)) (hp : Paired (TokAt H) xs S.toks) (S' : PS) (ht : S'.toks = S.toks) (htl : l = S'.tl) :
    RdAt CR (upd H r (.ins CR dx (rf l S'.last S'.place S'.depth S'.used))) r S' := by
  have nl : l ≠ r := ne_of hl h1 (by intro z; cases z)
  refine ⟨dx, l, xs, upd_same, by rw [upd_ne nl]; exact hl, ?_, htl⟩
  rw [ht]
  exact PMono (fun _ _ q => q.mono (XE.upd.tup h1)) hp
/-! ### one token -/
def spSkip (CR : Addr) : Sp := spOf (fun x : Addr × PS × PS => [.ref x.1]) fun x H Q => RdAt CR H x.1 x.2.1 ∧ x.2.1.skip = some x.2.2 ∧ ∀ H' z, XE x.1 H H' → RdAt CR H' x.1 x.2.2 → WordIs x.2.1 z → Q (.str z) H'
def Tok.isFin : Tok → Bool
  | .fin _ => true
  | _ => false
theorem kd_end {t : Tok} : decide (V.str t.kd = V.str "end") = t.isFin := by
  cases t with
  | name s => exact (by decide +kernel : decide (V.str "name" = V.str "end") = false)
  | num n => exact (by decide +kernel : decide (V.str "number" = V.str "end") = false)
  | sym s => exact (by decide +kernel : decide (V.str "symbol" = V.str "end") = false)
  | fin s => exact (by decide +kernel : decide (V.str "end" = V.str "end") = true)
theorem kd_empty {t : Tok} : decide (V.str t.kd = V.str "") = false := by
  cases t with
  | name s => exact (by decide +kernel : decide (V.str "name" = V.str "") = false)
  | num n => exact (by decide +kernel : decide (V.str "number" = V.str "") = false)
  | sym s => exact (by decide +kernel : decide (V.str "symbol" = V.str "") = false)
  | fin s => exact (by decide +kernel : decide (V.str "end" = V.str "") = false)
theorem ok_skip (F : FnP K "skip" "Reader.skip" s_Reader_skip f fd) (T : Txt K mg CC CR CE RES) (c_kind_here : C8.Met P w K mg base 1 CR "kind_here" (spKind CR) []) : FnOk P w K mg base CX0 2 f fd ["self"] (spSkip CR) := by
  refine ok0 F sc_Reader_skip (fun _ => rfl) (fun cdv A outer s H y Q E hr h => ?_)
  obtain ⟨r, S, S'⟩ := y
  dsimp only at h
  obtain ⟨hR, hS, hQ⟩ := h
  obtain ⟨dx, l, xs, h1, hl, hp, htl⟩ := id hR
  refine ⟨_, (pss_cons (ps_if (pt_cmpR op_eq (pe_mt0 c_kind_here hr (by omega) (pv 0)) pe_str (nomark _))
      (pss_one ps_never)
      pss_nil)
      (pss_cons (ps_if (pt_cmpR op_ne (pe_mt0 c_kind_here hr (by omega) (pv 0)) pe_str (nomark _))
      (pss_cons (ps_fldaug (pv 0) pe_int in_add)
      (pss_one (ps_if (pt_cmpR op_gt (pe_fld (pv 0) rfl) (pe_gc rfl T.g_MAX_TOKENS) (nomark _))
      (pss_one ps_never)
      pss_nil)))
      pss_nil)
      (pss_cons (ps_fldaug (pv 0) pe_int in_add)
      (pss_one (ps_ret (pe_ix ix_tup (pe_ix ix_list (pe_fld (pv 0) rfl) (pe_op op_sub (pe_fld (pv 0) rfl) pe_int) (fun _ _ => rfl)) pe_int (fun _ _ => rfl))))))), ?_⟩
  unfold PS.skip at hS
  cases e : S.cur with
  | none =>
    rw [e] at hS
    cases hS
  | some t =>
    obtain ⟨ln, t⟩ := t
    obtain ⟨hlt, v, h2, a, z, rfl, h3, h4⟩ := cur_some (CR := CR) (r := r) (dx := dx) (l := l) hp e
    have hk : S.kind = t.kd := by unfold PS.kind; rw [e]
    have hw : WordIs S z := by unfold WordIs; rw [e]; exact h4
    have nl : l ≠ r := ne_of hl h1 (by intro z; cases z)
    have na : a ≠ r := ne_of h3 h1 (by intro z; cases z)
    have hix : atI xs ((S.place : Int) + 1 - 1) = some (V.ref a) := by
      rw [show (S.place : Int) + 1 - 1 = (S.place : Int) by omega]
      exact atI_nat h2
    refine ⟨_, rfl, r, _, _, rfl, h1, (by kernel_rfl), (r, S), rfl, hR, rfl, _, rfl, ?_⟩
    rw [hk, kd_empty]
    refine iteF ?_
    refine ⟨_, rfl, r, _, _, rfl, h1, (by kernel_rfl), (r, S), rfl, hR, rfl, _, rfl, ?_⟩
    rw [hk, kd_end]
    rw [e] at hS
    cases hf : t.isFin with
    | true =>
      obtain ⟨z', rfl⟩ : ∃ z, t = .fin z := by
        cases t with
        | fin z => exact ⟨z, rfl⟩
        | _ => cases hf
      cases hS
      refine iteF ?_
      refine ⟨_, rfl, r, CR, _, _, _, rfl, h1, T.clR, T.nPlace, rf_place .., _, _, rfl, rfl, dx, _, h1, rf_len .., ?_⟩
      rw [rf_put_place]
      refine ⟨_, rfl, r, CR, _, _, _, rfl, upd_same, T.clR, T.nTok, rf_tokens .., _, rfl, r, CR, _, _, _, rfl, upd_same, T.clR, T.nPlace, rf_place .., _, _, rfl, rfl, l, _, _, _, rfl, rfl, SqL.of (by rw [upd_ne nl]; exact hl), (hix), a, _, _, _, rfl, rfl, SqT.of (by rw [upd_ne na]; exact h3), rfl, ?_⟩

      exact hQ _ z XE.upd (rd_upd h1 hl hp ⟨S.toks, S.last, S.place + 1, S.depth, S.used, S.tl⟩ rfl htl) hw
    | false =>
      have hS2 : S.used + 1 ≤ 200 ∧ { S with used := S.used + 1, place := S.place + 1 } = S' := by
        cases t with
        | fin z => cases hf
        | _ =>
          dsimp only at hS
          split at hS
          · cases hS
          · exact ⟨by omega, Option.some.inj hS⟩
      obtain ⟨hu, rfl⟩ := hS2
      refine iteT ?_
      refine ⟨_, rfl, r, CR, _, _, _, rfl, h1, T.clR, T.nUsed, rf_used .., _, _, rfl, rfl, dx, _, h1, rf_len .., ?_⟩
      rw [rf_put_used]
      refine ⟨_, rfl, r, CR, _, _, _, rfl, upd_same, T.clR, T.nUsed, rf_used .., _, _, rfl, rfl, _, rfl, ?_⟩
      rw [decide_eq_false (by omega)]
      refine iteF ?_
      refine ⟨_, rfl, r, CR, _, _, _, rfl, upd_same, T.clR, T.nPlace, rf_place .., _, _, rfl, rfl, dx, _, upd_same, rf_len .., ?_⟩
      rw [rf_put_place]
      refine ⟨_, rfl, r, CR, _, _, _, rfl, upd_same, T.clR, T.nTok, rf_tokens .., _, rfl, r, CR, _, _, _, rfl, upd_same, T.clR, T.nPlace, rf_place .., _, _, rfl, rfl, l, _, _, _, rfl, rfl, SqL.of (by rw [upd_ne nl, upd_ne nl]; exact hl), (hix), a, _, _, _, rfl, rfl, SqT.of (by rw [upd_ne na, upd_ne na]; exact h3), rfl, ?_⟩

      rw [upd_upd]
      exact hQ _ z XE.upd (rd_upd h1 hl hp ⟨S.toks, S.last, S.place + 1, S.depth, S.used + 1, S.tl⟩ rfl htl) hw

theorem kind_name {S : PS} : decide (V.str S.kind = V.str "name") = S.isName := by
  unfold PS.kind PS.isName
  cases S.cur with
  | none => exact (by decide +kernel : decide (V.str "" = V.str "name") = false)
  | some t =>
    obtain ⟨l, t⟩ := t
    cases t with
    | name s => exact (by decide +kernel : decide (V.str "name" = V.str "name") = true)
    | num n => exact (by decide +kernel : decide (V.str "number" = V.str "name") = false)
    | sym s => exact (by decide +kernel : decide (V.str "symbol" = V.str "name") = false)
    | fin s => exact (by decide +kernel : decide (V.str "end" = V.str "name") = false)
theorem kind_num {S : PS} : decide (V.str S.kind = V.str "number") = S.isNum := by
  unfold PS.kind PS.isNum
  cases S.cur with
  | none => exact (by decide +kernel : decide (V.str "" = V.str "number") = false)
  | some t =>
    obtain ⟨l, t⟩ := t
    cases t with
    | name s => exact (by decide +kernel : decide (V.str "name" = V.str "number") = false)
    | num n => exact (by decide +kernel : decide (V.str "number" = V.str "number") = true)
    | sym s => exact (by decide +kernel : decide (V.str "symbol" = V.str "number") = false)
    | fin s => exact (by decide +kernel : decide (V.str "end" = V.str "number") = false)
theorem kind_fin {S : PS} : decide (V.str S.kind = V.str "end") = S.isFin := by
  unfold PS.kind PS.isFin
  cases S.cur with
  | none => exact (by decide +kernel : decide (V.str "" = V.str "end") = false)
  | some t =>
    obtain ⟨l, t⟩ := t
    cases t with
    | name s => exact (by decide +kernel : decide (V.str "name" = V.str "end") = false)
    | num n => exact (by decide +kernel : decide (V.str "number" = V.str "end") = false)
    | sym s => exact (by decide +kernel : decide (V.str "symbol" = V.str "end") = false)
    | fin s => exact (by decide +kernel : decide (V.str "end" = V.str "end") = true)
theorem kind_non {S : PS} : decide (V.str S.kind = V.str "") = S.cur.isNone := by
  unfold PS.kind
  cases S.cur with
  | none => exact (by decide +kernel : decide (V.str "" = V.str "") = true)
  | some t => exact kd_empty
/-! ### a token that must be there -/
def spWordIn (CR : Addr) (pf : Str → PS → Option PS) : Sp := spOf (fun x : Addr × PS × PS × Str => [.ref x.1, .str x.2.2.2]) fun x H Q => RdAt CR H x.1 x.2.1 ∧ Word x.2.2.2 = true ∧ pf x.2.2.2 x.2.1 = some x.2.2.1 ∧ ∀ H', XE x.1 H H' → RdAt CR H' x.1 x.2.2.1 → Q .non H'
theorem ok_expect (F : FnP K "expect" "Reader.expect" s_Reader_expect f fd) (c_kind_here : C8.Met P w K mg base 1 CR "kind_here" (spKind CR) []) (c_word_here : C8.Met P w K mg base 1 CR "word_here" (spWord CR) []) (c_skip : C8.Met P w K mg base 2 CR "skip" (spSkip CR) []) :
    FnOk P w K mg base CX0 3 f fd ["self", "word"] (spWordIn CR fun wd S => S.expect wd) := by
  refine ok0 F sc_Reader_expect (fun _ => rfl) (fun cdv A outer s H y Q E hr h => ?_)
  obtain ⟨r, S, S', wd⟩ := y
  dsimp only at h
  obtain ⟨hR, hW, hS, hQ⟩ := h
  obtain ⟨dx, l, xs, h1, hl, hp, htl⟩ := id hR
  refine ⟨_, (pss_cons (ps_if (PW.pt (pw_or (pt_cmpR op_ne (pe_mt0 c_word_here hr (by omega) (pv 0)) (pv 1) (nomark _)) (pw_or1 (pt_cmpR op_eq (pe_mt0 c_kind_here hr (by omega) (pv 0)) pe_str (nomark _)))))
      (pss_one ps_never)
      pss_nil)
      (pss_one (ps_expr (pe_mt0 c_skip hr (by omega) (pv 0))))), ?_⟩
  unfold PS.expect at hS
  split at hS
  · rename_i hc
    rw [Bool.and_eq_true, Bool.not_eq_true'] at hc
    obtain ⟨c1, c2⟩ := hc
    refine ⟨_, rfl, r, _, _, rfl, h1, (by kernel_rfl), (r, S), rfl, hR, fun z hz => ⟨_, rfl, rfl, _, rfl, ?_⟩⟩
    rw [hz.is hW, c1]
    refine iteF ⟨_, rfl, r, _, _, rfl, h1, (by kernel_rfl), (r, S), rfl, hR, rfl, _, rfl, ?_⟩
    rw [kind_name, c2]
    refine iteF ⟨_, rfl, r, _, _, rfl, h1, (by kernel_rfl), (r, S, S'), rfl, hR, hS, fun H1 z e1 hR1 _ => ?_⟩
    exact hQ H1 e1 hR1
  · cases hS
theorem rd_depth {r : Addr} {H : Hp} {S : PS} (hR : RdAt CR H r S) (d : Int) : ∃ dx l, H r = some (.ins CR dx (rf l S.last S.place S.depth S.used)) ∧ RdAt CR (upd H r (.ins CR dx (rf l S.last S.place d S.used))) r { S with depth := d } := by
  obtain ⟨dx, l, xs, h1, hl, hp, htl⟩ := id hR
  exact ⟨dx, l, h1, rd_upd h1 hl hp { S with depth := d } rfl htl⟩
theorem rd_used {r : Addr} {H : Hp} {S : PS} (hR : RdAt CR H r S) (d : Int) : ∃ dx l, H r = some (.ins CR dx (rf l S.last S.place S.depth S.used)) ∧ RdAt CR (upd H r (.ins CR dx (rf l S.last S.place S.depth d))) r { S with used := d } := by
  obtain ⟨dx, l, xs, h1, hl, hp, htl⟩ := id hR
  exact ⟨dx, l, h1, rd_upd h1 hl hp { S with used := d } rfl htl⟩
theorem RdAt.new {r p : Addr} {H : Hp} {S : PS} {o : HO} (hR : RdAt CR H r S) (np : H p = none) : RdAt CR (upd H p o) r S := by
  obtain ⟨dx, l, xs, h1, hl, hp, htl⟩ := hR
  exact ⟨dx, l, xs, by rw [upd_ne (ne_of_none h1 np)]; exact h1, by rw [upd_ne (ne_of_none hl np)]; exact hl, PMono (fun _ _ q => q.mono (TupE.of (Same.upd np))) hp, htl⟩
theorem ok_enter (F : FnP K "enter" "Reader.enter" s_Reader_enter f fd) (T : Txt K mg CC CR CE RES) (c_expect : C8.Met P w K mg base 3 CR "expect" (spWordIn CR fun wd S => S.expect wd) []) :
    FnOk P w K mg base CX0 4 f fd ["self", "bracket"] (spWordIn CR fun wd S => S.enter wd) := by
  refine ok0 F sc_Reader_enter (fun _ => rfl) (fun cdv A outer s H y Q E hr h => ?_)
  obtain ⟨r, S, S', wd⟩ := y
  dsimp only at h
  obtain ⟨hR, hW, hS, hQ⟩ := h
  obtain ⟨dx, l, xs, h1, hl, hp, htl⟩ := id hR
  refine ⟨_, (pss_cons (ps_if (pt_cmpR op_eq (pe_fld (pv 0) rfl) (pe_gc rfl T.g_MAX_DEPTH) (nomark _))
      (pss_one ps_never)
      pss_nil)
      (pss_cons (ps_expr (pe_mt c_expect hr (by omega) (pv 0) (pa_cons (pv 1) pa_nil)))
      (pss_one (ps_fldaug (pv 0) pe_int in_add)))), ?_⟩
  unfold PS.enter at hS
  split at hS
  · cases hS
  · rename_i hd
    obtain ⟨S1, hS1, hS2⟩ := Option.bind_eq_some_iff.mp hS
    cases hS2
    refine ⟨_, rfl, r, CR, _, _, _, rfl, h1, T.clR, T.nDepth, rf_depth .., rfl, _, rfl, ?_⟩
    rw [decide_eq_false (fun q => hd (V.int.inj q))]
    refine iteF ⟨_, rfl, r, _, _, rfl, h1, (by kernel_rfl), _, rfl, (r, S, S1, wd), rfl, hR, hW, hS1, fun H1 (e1 : XE r H H1) (hR1 : RdAt CR H1 r S1) => ?_⟩
    obtain ⟨dx1, l1, h1', hR2⟩ := rd_depth hR1 (S1.depth + 1)
    refine ⟨_, rfl, r, CR, _, _, _, rfl, h1', T.clR, T.nDepth, rf_depth .., _, _, rfl, rfl, dx1, _, h1', rf_len .., ?_⟩
    rw [rf_put_depth]
    exact hQ _ (e1.trans XE.upd) hR2
theorem ok_leave (F : FnP K "leave" "Reader.leave" s_Reader_leave f fd) (T : Txt K mg CC CR CE RES) (c_expect : C8.Met P w K mg base 3 CR "expect" (spWordIn CR fun wd S => S.expect wd) []) :
    FnOk P w K mg base CX0 4 f fd ["self", "bracket"] (spWordIn CR fun wd S => S.leave wd) := by
  refine ok0 F sc_Reader_leave (fun _ => rfl) (fun cdv A outer s H y Q E hr h => ?_)
  obtain ⟨r, S, S', wd⟩ := y
  dsimp only at h
  obtain ⟨hR, hW, hS, hQ⟩ := h
  obtain ⟨dx, l, xs, h1, hl, hp, htl⟩ := id hR
  refine ⟨_, (pss_cons (ps_expr (pe_mt c_expect hr (by omega) (pv 0) (pa_cons (pv 1) pa_nil)))
      (pss_one (ps_fldaug (pv 0) pe_int in_sub))), ?_⟩
  unfold PS.leave at hS
  obtain ⟨S1, hS1, hS2⟩ := Option.bind_eq_some_iff.mp hS
  cases hS2
  refine ⟨_, rfl, r, _, _, rfl, h1, (by kernel_rfl), _, rfl, (r, S, S1, wd), rfl, hR, hW, hS1, fun H1 (e1 : XE r H H1) (hR1 : RdAt CR H1 r S1) => ?_⟩
  obtain ⟨dx1, l1, h1', hR2⟩ := rd_depth hR1 (S1.depth - 1)
  refine ⟨_, rfl, r, CR, _, _, _, rfl, h1', T.clR, T.nDepth, rf_depth .., _, _, rfl, rfl, dx1, _, h1', rf_len .., ?_⟩
  rw [rf_put_depth]
  exact hQ _ (e1.trans XE.upd) hR2
/-! ### numbers -/
def spNum (CR : Addr) (pf : PS → Option (Int × PS)) : Sp := spOf (fun x : Addr × PS × Int × PS => [.ref x.1]) fun x H Q => RdAt CR H x.1 x.2.1 ∧ pf x.2.1 = some x.2.2 ∧ ∀ H', XE x.1 H H' → RdAt CR H' x.1 x.2.2.2 → Q (.int x.2.2.1) H'
theorem ok_number (F : FnP K "number" "Reader.number" s_Reader_number f fd) (T : Txt K mg CC CR CE RES) (c_kind_here : C8.Met P w K mg base 1 CR "kind_here" (spKind CR) []) (c_skip : C8.Met P w K mg base 2 CR "skip" (spSkip CR) []) :
    FnOk P w K mg base CX0 3 f fd ["self"] (spNum CR PS.number) := by
  refine ok0 F sc_Reader_number (fun _ => rfl) (fun cdv A outer s H y Q E hr h => ?_)
  obtain ⟨r, S, n, S'⟩ := y
  dsimp only at h
  obtain ⟨hR, hS, hQ⟩ := h
  obtain ⟨dx, l, xs, h1, hl, hp, htl⟩ := id hR
  refine ⟨_, (pss_cons (ps_if (pt_cmpR op_ne (pe_mt0 c_kind_here hr (by omega) (pv 0)) pe_str (nomark _))
      (pss_one ps_never)
      pss_nil)
      (pss_one (ps_ret (pe_callTy call_int_str (by rfl) T.n_int bt_int (pa_cons (pe_mt0 c_skip hr (by omega) (pv 0)) pa_nil))))), ?_⟩
  have hn : ∃ ln, S.cur = some (ln, .num n) ∧ S.skip = some S' := by
    unfold PS.number at hS
    split at hS
    · rename_i ln n' e
      obtain ⟨S1, hS1, hS2⟩ := Option.bind_eq_some_iff.mp hS
      cases hS2
      exact ⟨ln, e, hS1⟩
    · cases hS
  obtain ⟨ln, e, hS1⟩ := hn
  refine ⟨_, rfl, r, _, _, rfl, h1, (by kernel_rfl), (r, S), rfl, hR, rfl, _, rfl, ?_⟩
  rw [kind_num, show S.isNum = true by unfold PS.isNum; rw [e]]
  refine iteF ⟨_, rfl, r, _, _, rfl, h1, (by kernel_rfl), (r, S, S'), rfl, hR, hS1, fun H1 z e1 hR1 hz => ?_⟩
  unfold WordIs at hz
  rw [e] at hz
  exact ⟨z, n, rfl, hz.1, hz.2.1, hQ H1 e1 hR1⟩
theorem ok_signed (F : FnP K "signed" "Reader.signed" s_Reader_signed f fd) (c_word_here : C8.Met P w K mg base 1 CR "word_here" (spWord CR) []) (c_skip : C8.Met P w K mg base 2 CR "skip" (spSkip CR) []) (c_number : C8.Met P w K mg base 3 CR "number" (spNum CR PS.number) []) :
    FnOk P w K mg base CX0 4 f fd ["self"] (spNum CR PS.signed) := by
  refine ok0 F sc_Reader_signed (fun _ => rfl) (fun cdv A outer s H y Q E hr h => ?_)
  obtain ⟨r, S, n, S'⟩ := y
  dsimp only at h
  obtain ⟨hR, hS, hQ⟩ := h
  obtain ⟨dx, l, xs, h1, hl, hp, htl⟩ := id hR
  refine ⟨_, (pss_cons (ps_if (pt_cmpR op_eq (pe_mt0 c_word_here hr (by omega) (pv 0)) pe_str (nomark _))
      (pss_cons (ps_expr (pe_mt0 c_skip hr (by omega) (pv 0)))
      (pss_one (ps_ret (pe_un un_neg (pe_mt0 c_number hr (by omega) (pv 0))))))
      pss_nil)
      (pss_one (ps_ret (pe_mt0 c_number hr (by omega) (pv 0))))), ?_⟩
  unfold PS.signed at hS
  refine ⟨_, rfl, r, _, _, rfl, h1, (by kernel_rfl), (r, S), rfl, hR, fun z hz => ⟨rfl, _, rfl, ?_⟩⟩
  rw [hz.is (by decide +kernel)]
  split at hS
  · rename_i hm
    obtain ⟨S1, hS1, hS2⟩ := Option.bind_eq_some_iff.mp hS
    obtain ⟨⟨n1, S2⟩, hS3, hS4⟩ := Option.bind_eq_some_iff.mp hS2
    cases hS4
    rw [hm]
    refine iteT ⟨_, rfl, r, _, _, rfl, h1, (by kernel_rfl), (r, S, S1), rfl, hR, hS1, fun H1 z (e1 : XE r H H1) (hR1 : RdAt CR H1 r S1) hz => ?_⟩
    obtain ⟨dx1, l1, xs1, h1', _, _⟩ := id hR1
    refine ⟨_, rfl, r, _, _, rfl, h1', (by kernel_rfl), (r, S1, n1, S2), rfl, hR1, hS3, fun H2 (e2 : XE r H1 H2) hR2 => ?_⟩
    exact ⟨_, rfl, hQ H2 (e1.trans e2) hR2⟩
  · rename_i hm
    rw [Bool.not_eq_true] at hm
    rw [hm]
    refine iteF ⟨_, rfl, r, _, _, rfl, h1, (by kernel_rfl), (r, S, n, S'), rfl, hR, hS, fun H1 e1 hR1 => ?_⟩
    exact hQ H1 e1 hR1
/-! ### expressions -/
def spP (CR : Addr) (K : PySem.W.Frag) (pf : PF) : Sp := spOf (fun x : Addr × PS × Tree × PS => [.ref x.1]) fun x H Q => RdAt CR H x.1 x.2.1 ∧ pf x.2.1 = some x.2.2 ∧ ∀ H' v, XE x.1 H H' → RdAt CR H' x.1 x.2.2.2 → Td K H' v x.2.2.1.data → Q v H'
theorem ok_expression {k : Nat} {pf : PF} (hk : 2 ≤ k) (F : FnP K "expression" "Reader.expression" s_Reader_expression f fd) (c_word_here : C8.Met P w K mg base 1 CR "word_here" (spWord CR) []) (c_skip : C8.Met P w K mg base 2 CR "skip" (spSkip CR) [])
    (c_product : C8.Met P w K mg base k CR "product" (spP CR K pf) []) : FnOk P w K mg base CX0 (k + 1) f fd ["self"] (spP CR K fun S => (pf S).bind fun r => sumLoop pf 210 r.2 r.1) := by
  refine ok0 F sc_Reader_expression (fun _ => rfl) (fun cdv A outer s H y Q E hr h => ?_)
  obtain ⟨r, S, t, S'⟩ := y
  dsimp only at h
  obtain ⟨hR, hS, hQ⟩ := h
  obtain ⟨dx, l, xs, h1, hl, hp, htl⟩ := id hR
  refine ⟨_, (pss_cons (ps_set (i := 1) sc_Reader_expression.nd rfl (Or.inl rfl) (pe_mt0 c_product hr (by omega) (pv 0)))
      (pss_cons (ps_while PassesOwn.never (pt_cmpR op_eq (pe_mt0 c_word_here hr (by omega) (pv 0)) pe_str (nomark _))
      (pss_cons (ps_expr (pe_mt0 c_skip hr (by omega) (pv 0)))
      (pss_one (ps_set (i := 1) sc_Reader_expression.nd rfl (Or.inl rfl) (pe_tup (pa_cons pe_str (pa_cons (pv 1) (pa_cons (pe_mt0 c_product hr (by omega) (pv 0)) pa_nil))))))))
      (pss_one (ps_ret (pv 1))))), ?_⟩
  obtain ⟨⟨t0, S0⟩, hS1, hS2⟩ := Option.bind_eq_some_iff.mp hS
  refine ⟨_, rfl, r, _, _, rfl, h1, (by kernel_rfl), (r, S, t0, S0), rfl, hR, hS1, fun H1 v1 (e1 : XE r H H1) (hR1 : RdAt CR H1 r S0) (d1 : Td K H1 v1 t0.data) => ?_⟩
  refine wh (fun m σ H' => ∃ S1 acc v, σ = [some (.ref r), some v] ∧ XE r H H' ∧ RdAt CR H' r S1 ∧ Td K H' v acc.data ∧ sumLoop pf m S1 acc = some (t, S')) 210 ⟨S0, t0, v1, rfl, e1, hR1, d1, hS2⟩ ?_
  rintro m σ H2 ⟨S1, acc, v, rfl, e2, hR2, d2, hL⟩
  cases m with
  | zero => cases hL
  | succ j =>
    unfold sumLoop at hL
    obtain ⟨dx2, l2, xs2, h2, _, _⟩ := id hR2
    refine ⟨_, rfl, r, _, _, rfl, h2, (by kernel_rfl), (r, S1), rfl, hR2, fun z hz => ⟨rfl, _, rfl, ?_⟩⟩
    rw [hz.is (by decide +kernel)]
    split at hL
    · rename_i hm
      obtain ⟨S2, hL1, hL2⟩ := Option.bind_eq_some_iff.mp hL
      obtain ⟨⟨t3, S3⟩, hL3, hL4⟩ := Option.bind_eq_some_iff.mp hL2
      rw [hm]
      refine iteT ⟨_, fun σ' H' q => ⟨j, Nat.lt_succ_self j, q⟩, ?_⟩
      refine ⟨_, rfl, r, _, _, rfl, h2, (by kernel_rfl), (r, S1, S2), rfl, hR2, hL1, fun H3 z (e3 : XE r H2 H3) (hR3 : RdAt CR H3 r S2) _ => ?_⟩
      obtain ⟨dx3, l3, xs3, h3, _, _⟩ := id hR3
      refine ⟨_, rfl, _, rfl, r, _, _, rfl, h3, (by kernel_rfl), (r, S2, t3, S3), rfl, hR3, hL3, fun H4 v4 (e4 : XE r H3 H4) (hR4 : RdAt CR H4 r S3) (d4 : Td K H4 v4 t3.data) => ⟨by show 3 ≤ sizeLine; decide, fun p np => ?_⟩⟩
      have dd := d2.mono ((hR2.tup e3).trans (hR3.tup e4))
      have hR5 := hR4.new np (o := .tup [.str "sum", v, v4])
      refine ⟨S3, .sum acc t3, .ref p, rfl, (e2.trans (e3.trans e4)).upd' np, hR5, Td.new np (.cons (.str _) (.cons dd (.cons d4 .nil))), hL4⟩
    · rename_i hm
      rw [Bool.not_eq_true] at hm
      rw [hm]
      cases hL
      refine iteF ⟨_, rfl, ?_⟩
      exact hQ H2 v e2 hR2 d2
end
end FJ

set_option Elab.async false
set_option linter.all false
set_option maxRecDepth 100000
set_option maxHeartbeats 4000000
/-! the reader: products, operands, atoms, calls, scripts -/
namespace FJ
open PySem PySem.Spec PyProof.Rows L2
open C8 (pe_c pe_mk pe_mt pe_mt0 pe_gc)

/-- the reader's small methods, ready to be called -/
structure Rd (P : Program) (w : World) (K : PySem.W.Frag) (mg : Str → Option Value) (base : Heap) (CR : Addr) : Prop where
  kind : C8.Met P w K mg base 1 CR "kind_here" (spKind CR) []
  word : C8.Met P w K mg base 1 CR "word_here" (spWord CR) []
  line : C8.Met P w K mg base 1 CR "line_here" (spLine CR) []
  skip : C8.Met P w K mg base 2 CR "skip" (spSkip CR) []
  expect : C8.Met P w K mg base 3 CR "expect" (spWordIn CR fun wd S => S.expect wd) []
  enter : C8.Met P w K mg base 4 CR "enter" (spWordIn CR fun wd S => S.enter wd) []
  leave : C8.Met P w K mg base 4 CR "leave" (spWordIn CR fun wd S => S.leave wd) []
  number : C8.Met P w K mg base 3 CR "number" (spNum CR PS.number) []
  signed : C8.Met P w K mg base 4 CR "signed" (spNum CR PS.signed) []

theorem wd_lb : Word "[" = true := by decide +kernel
theorem wd_rb : Word "]" = true := by decide +kernel
theorem wd_lp : Word "(" = true := by decide +kernel
theorem wd_rp : Word ")" = true := by decide +kernel
theorem wd_cm : Word "," = true := by decide +kernel
theorem wd_cl : Word ":" = true := by decide +kernel
theorem wd_sl : Word "/" = true := by decide +kernel
theorem wd_eq : Word "=" = true := by decide +kernel
def ov : Option Int → V
  | none => .non
  | some i => .int i
theorem ov_td {K : PySem.W.Frag} {H : Hp} (o : Option Int) : Td K H (ov o) (oi o) := by
  cases o with
  | none => exact .non
  | some i => exact .int i

section
variable {P : Program} {w : World} {K : PySem.W.Frag} {mg : Str → Option Value} {base : Heap} {CC CR CE RES : Addr} {f : Addr} {fd : FuncData}
theorem ok_product {k : Nat} {pf : PF} (hk : 3 ≤ k) (F : FnP K "product" "Reader.product" s_Reader_product f fd) (R : Rd P w K mg base CR)
    (c_operand : C8.Met P w K mg base k CR "operand" (spP CR K pf) []) : FnOk P w K mg base CX0 (k + 1) f fd ["self"] (spP CR K fun S => (pf S).bind fun r => timesLoop 210 r.2 r.1) := by
  obtain ⟨c_kind_here, c_word_here, c_line_here, c_skip, c_expect, c_enter, c_leave, c_number, c_signed⟩ := R
  refine ok0 F sc_Reader_product (fun _ => rfl) (fun cdv A outer s H y Q E hr h => ?_)
  obtain ⟨r, S, t, S'⟩ := y
  dsimp only at h
  obtain ⟨hR, hS, hQ⟩ := h
  obtain ⟨dx, l, xs, h1, hl, hp, htl⟩ := id hR
  refine ⟨_, (pss_cons (ps_set (i := 1) sc_Reader_product.nd rfl (Or.inl rfl) (pe_mt0 c_operand hr (by omega) (pv 0)))
      (pss_cons (ps_while PassesOwn.never (pt_cmpR op_eq (pe_mt0 c_word_here hr (by omega) (pv 0)) pe_str (nomark _))
      (pss_cons (ps_expr (pe_mt0 c_skip hr (by omega) (pv 0)))
      (pss_one (ps_set (i := 1) sc_Reader_product.nd rfl (Or.inl rfl) (pe_tup (pa_cons pe_str (pa_cons (pv 1) (pa_cons (pe_mt0 c_number hr (by omega) (pv 0)) pa_nil))))))))
      (pss_one (ps_ret (pv 1))))), ?_⟩
  obtain ⟨⟨t0, S0⟩, hS1, hS2⟩ := Option.bind_eq_some_iff.mp hS
  refine ⟨_, rfl, r, _, _, rfl, h1, (by kernel_rfl), (r, S, t0, S0), rfl, hR, hS1, fun H1 v1 (e1 : XE r H H1) (hR1 : RdAt CR H1 r S0) (d1 : Td K H1 v1 t0.data) => ?_⟩
  refine wh (fun m σ H' => ∃ S1 acc v, σ = [some (.ref r), some v] ∧ XE r H H' ∧ RdAt CR H' r S1 ∧ Td K H' v acc.data ∧ timesLoop m S1 acc = some (t, S')) 210 ⟨S0, t0, v1, rfl, e1, hR1, d1, hS2⟩ ?_
  rintro m σ H2 ⟨S1, acc, v, rfl, e2, hR2, d2, hL⟩
  cases m with
  | zero => cases hL
  | succ j =>
    unfold timesLoop at hL
    obtain ⟨dx2, l2, xs2, h2, _, _⟩ := id hR2
    refine ⟨_, rfl, r, _, _, rfl, h2, (by kernel_rfl), (r, S1), rfl, hR2, fun z hz => ⟨rfl, _, rfl, ?_⟩⟩
    rw [hz.is (by decide +kernel)]
    split at hL
    · rename_i hm
      obtain ⟨S2, hL1, hL2⟩ := Option.bind_eq_some_iff.mp hL
      obtain ⟨⟨n3, S3⟩, hL3, hL4⟩ := Option.bind_eq_some_iff.mp hL2
      rw [hm]
      refine iteT ⟨_, fun σ' H' q => ⟨j, Nat.lt_succ_self j, q⟩, ?_⟩
      refine ⟨_, rfl, r, _, _, rfl, h2, (by kernel_rfl), (r, S1, S2), rfl, hR2, hL1, fun H3 z (e3 : XE r H2 H3) (hR3 : RdAt CR H3 r S2) _ => ?_⟩
      obtain ⟨dx3, l3, xs3, h3, _, _⟩ := id hR3
      refine ⟨_, rfl, _, rfl, r, _, _, rfl, h3, (by kernel_rfl), (r, S2, n3, S3), rfl, hR3, hL3, fun H4 (e4 : XE r H3 H4) (hR4 : RdAt CR H4 r S3) => ⟨by show 3 ≤ sizeLine; decide, fun p np => ?_⟩⟩
      have dd := d2.mono ((hR2.tup e3).trans (hR3.tup e4))
      have hR5 := hR4.new np (o := .tup [.str "times", v, .int n3])
      exact ⟨S3, .times acc n3, .ref p, rfl, (e2.trans (e3.trans e4)).upd' np, hR5, Td.new np (.cons (.str _) (.cons dd (.cons (.int _) .nil))), hL4⟩
    · rename_i hm
      rw [Bool.not_eq_true] at hm
      rw [hm]
      cases hL
      refine iteF ⟨_, rfl, ?_⟩
      exact hQ H2 v e2 hR2 d2

/-- a number, or nothing -/
theorem r_opt {r : Addr} {S S' : PS} {o : Option Int} {σ : St} {H : Hp} {Q : VK} (hs : σ[0]? = some (some (.ref r))) (hR : RdAt CR H r S) (hS : S.optNum = some (o, S')) (q : ∀ H', XE r H H' → RdAt CR H' r S' → Q (ov o) H') :
    tIf (tTest (tOp rEq (tMeth CR "kind_here" (spKind CR) [] C8.E0 (tVar 0) tNil) (tC (.str "number")))) (tMeth CR "number" (spNum CR PS.number) [] C8.E0 (tVar 0) tNil) (tC .non) σ H Q := by
  obtain ⟨dx, l, xs, h1, hl, hp, htl⟩ := id hR
  refine ⟨_, hs, r, _, _, rfl, h1, (by kernel_rfl), (r, S), rfl, hR, rfl, _, rfl, ?_⟩
  unfold PS.optNum at hS
  rw [kind_num]
  split at hS
  · rename_i hm
    obtain ⟨⟨n, S1⟩, h3, h4⟩ := Option.bind_eq_some_iff.mp hS
    cases h4
    rw [hm]
    exact iteT ⟨_, hs, r, _, _, rfl, h1, (by kernel_rfl), (r, S, n, _), rfl, hR, h3, fun H' e hR' => q H' e hR'⟩
  · rename_i hm
    rw [Bool.not_eq_true] at hm
    rw [hm]
    cases hS
    exact iteF (q H (XE.refl _ _) hR)
theorem ok_operand {k : Nat} {pf : PF} (hk : 4 ≤ k) (F : FnP K "operand" "Reader.operand" s_Reader_operand f fd) (R : Rd P w K mg base CR)
    (c_atom : C8.Met P w K mg base k CR "atom" (spP CR K pf) []) : FnOk P w K mg base CX0 (k + 1) f fd ["self"] (spP CR K fun S => (pf S).bind fun r => stretchLoop 210 r.2 r.1) := by
  obtain ⟨c_kind_here, c_word_here, c_line_here, c_skip, c_expect, c_enter, c_leave, c_number, c_signed⟩ := R
  refine ok0 F sc_Reader_operand (fun _ => rfl) (fun cdv A outer s H y Q E hr h => ?_)
  obtain ⟨r, S, t, S'⟩ := y
  dsimp only at h
  obtain ⟨hR, hS, hQ⟩ := h
  obtain ⟨dx, l, xs, h1, hl, hp, htl⟩ := id hR
  refine ⟨_, (pss_cons (ps_set (i := 1) sc_Reader_operand.nd rfl (Or.inl rfl) (pe_mt0 c_atom hr (by omega) (pv 0)))
      (pss_cons (ps_while PassesOwn.never (pt_cmpR op_eq (pe_mt0 c_word_here hr (by omega) (pv 0)) pe_str (nomark _))
      (pss_cons (ps_expr (pe_mt c_enter hr (by omega) (pv 0) (pa_cons pe_str pa_nil)))
      (pss_cons (ps_set (i := 2) sc_Reader_operand.nd rfl (Or.inl rfl) (pe_ifExp (pt_cmpR op_eq (pe_mt0 c_kind_here hr (by omega) (pv 0)) pe_str (nomark _)) (pe_mt0 c_number hr (by omega) (pv 0)) pe_non))
      (pss_cons (ps_expr (pe_mt c_expect hr (by omega) (pv 0) (pa_cons pe_str pa_nil)))
      (pss_cons (ps_set (i := 3) sc_Reader_operand.nd rfl (Or.inl rfl) (pe_ifExp (pt_cmpR op_eq (pe_mt0 c_kind_here hr (by omega) (pv 0)) pe_str (nomark _)) (pe_mt0 c_number hr (by omega) (pv 0)) pe_non))
      (pss_cons (ps_expr (pe_mt c_leave hr (by omega) (pv 0) (pa_cons pe_str pa_nil)))
      (pss_one (ps_set (i := 1) sc_Reader_operand.nd rfl (Or.inl rfl) (pe_tup (pa_cons pe_str (pa_cons (pv 1) (pa_cons (pv 2) (pa_cons (pv 3) pa_nil)))))))))))))
      (pss_one (ps_ret (pv 1))))), ?_⟩
  obtain ⟨⟨t0, S0⟩, hS1, hS2⟩ := Option.bind_eq_some_iff.mp hS
  refine ⟨_, rfl, r, _, _, rfl, h1, (by kernel_rfl), (r, S, t0, S0), rfl, hR, hS1, fun H1 v1 (e1 : XE r H H1) (hR1 : RdAt CR H1 r S0) (d1 : Td K H1 v1 t0.data) => ?_⟩
  refine wh (fun m σ H' => ∃ S1 acc v o1 o2, σ = [some (.ref r), some v, o1, o2] ∧ XE r H H' ∧ RdAt CR H' r S1 ∧ Td K H' v acc.data ∧ stretchLoop m S1 acc = some (t, S')) 210 ⟨S0, t0, v1, _, _, rfl, e1, hR1, d1, hS2⟩ ?_
  rintro m σ H2 ⟨S1, acc, v, o1, o2, rfl, e2, hR2, d2, hL⟩
  cases m with
  | zero => cases hL
  | succ j =>
    unfold stretchLoop at hL
    obtain ⟨dx2, l2, xs2, h2, _, _⟩ := id hR2
    refine ⟨_, rfl, r, _, _, rfl, h2, (by kernel_rfl), (r, S1), rfl, hR2, fun z hz => ⟨rfl, _, rfl, ?_⟩⟩
    rw [hz.is (by decide +kernel)]
    split at hL
    · rename_i hm
      obtain ⟨S2, hL1, hL⟩ := Option.bind_eq_some_iff.mp hL
      obtain ⟨⟨n3, S3⟩, hL3, hL⟩ := Option.bind_eq_some_iff.mp hL
      obtain ⟨S4, hL4, hL⟩ := Option.bind_eq_some_iff.mp hL
      obtain ⟨⟨n5, S5⟩, hL5, hL⟩ := Option.bind_eq_some_iff.mp hL
      obtain ⟨S6, hL6, hL⟩ := Option.bind_eq_some_iff.mp hL
      rw [hm]
      refine iteT ⟨_, fun σ' H' q => ⟨j, Nat.lt_succ_self j, q⟩, ?_⟩
      refine ⟨_, rfl, r, _, _, rfl, h2, (by kernel_rfl), (r, S1, S2, ("[" : Str)), rfl, hR2, wd_lb, hL1, fun H3 (e3 : XE r H2 H3) (hR3 : RdAt CR H3 r S2) => ?_⟩
      dsimp only [tSeq, tAsg]
      refine r_opt rfl hR3 hL3 fun H4 e4 hR4 => ?_
      obtain ⟨dx4, l4, xs4, h4, _, _⟩ := id hR4
      refine ⟨_, rfl, r, _, _, rfl, h4, (by kernel_rfl), (r, S3, S4, (":" : Str)), rfl, hR4, wd_cl, hL4, fun H5 (e5 : XE r H4 H5) (hR5 : RdAt CR H5 r S4) => ?_⟩
      dsimp only [tSeq, tAsg]
      refine r_opt rfl hR5 hL5 fun H6 e6 hR6 => ?_
      obtain ⟨dx6, l6, xs6, h6, _, _⟩ := id hR6
      refine ⟨_, rfl, r, _, _, rfl, h6, (by kernel_rfl), (r, S5, S6, ("]" : Str)), rfl, hR6, wd_rb, hL6, fun H7 (e7 : XE r H6 H7) (hR7 : RdAt CR H7 r S6) => ?_⟩
      refine ⟨_, rfl, _, rfl, _, rfl, by show 4 ≤ sizeLine; decide, fun p np => ?_⟩
      have dd := d2.mono ((hR2.tup e3).trans ((hR3.tup e4).trans ((hR4.tup e5).trans ((hR5.tup e6).trans (hR6.tup e7)))))
      have hR8 := hR7.new np (o := .tup [.str "stretch", v, ov n3, ov n5])
      exact ⟨S6, .stretch acc n3 n5, .ref p, _, _, rfl, (e2.trans (e3.trans (e4.trans (e5.trans (e6.trans e7))))).upd' np, hR8, Td.new np (.cons (.str _) (.cons dd (.cons (ov_td _) (.cons (ov_td _) .nil)))), hL⟩
    · rename_i hm
      rw [Bool.not_eq_true] at hm
      rw [hm]
      cases hL
      refine iteF ⟨_, rfl, ?_⟩
      exact hQ H2 v e2 hR2 d2

/-! ### calls -/
def spCallR (CR : Addr) (K : PySem.W.Frag) (ex : PF) : Sp := spOf (fun x : Addr × PS × Str × Tree × PS => [.ref x.1, .str x.2.2.1]) fun x H Q => RdAt CR H x.1 x.2.1 ∧ pCall ex x.2.2.1 x.2.1 = some x.2.2.2 ∧ ∀ H' v, XE x.1 H H' → RdAt CR H' x.1 x.2.2.2.2 → Td K H' v x.2.2.2.1.data → Q v H'
theorem td2 {K : PySem.W.Frag} {H : Hp} {p : Addr} {xs : List V} {ds : List PyData} (n : H p = none) (h : TdAll K H xs ds) : Td K (upd H p (.tup xs)) (.ref p) (.tuple ds) := Td.new n h
theorem ok_call {k : Nat} {ex : PF} (hk : 4 ≤ k) (F : FnP K "call" "Reader.call" s_Reader_call f fd) (R : Rd P w K mg base CR)
    (c_expression : C8.Met P w K mg base k CR "expression" (spP CR K ex) []) : FnOk P w K mg base CX0 (k + 1) f fd ["self", "word"] (spCallR CR K ex) := by
  obtain ⟨c_kind_here, c_word_here, c_line_here, c_skip, c_expect, c_enter, c_leave, c_number, c_signed⟩ := R
  refine ok0 F sc_Reader_call (fun _ => rfl) (fun cdv A outer s H y Q E hr h => ?_)
  obtain ⟨r, S, wd, t, S'⟩ := y
  dsimp only at h
  obtain ⟨hR, hS, hQ⟩ := h
  obtain ⟨dx, l, xs, h1, hl, hp, htl⟩ := id hR
  refine ⟨_, (pss_cons (ps_match (pv 1) (pmc_str (pss_one (ps_ret (pe_tup (pa_cons pe_str (pa_cons (pe_mt0 c_number hr (by omega) (pv 0)) pa_nil)))))
      (pmc_str (pss_cons (ps_set (i := 2) sc_Reader_call.nd rfl (Or.inl rfl) (pe_lst (pa_cons (pe_mt0 c_signed hr (by omega) (pv 0)) pa_nil)))
      (pss_cons (ps_while PassesOwn.never (pt_cmpR op_eq (pe_mt0 c_word_here hr (by omega) (pv 0)) pe_str (nomark _))
      (pss_cons (ps_expr (pe_mt0 c_skip hr (by omega) (pv 0)))
      (pss_one (ps_expr (pe_bm PySem.F.plainAttrs_list PySem.F.slot_list_append PySem.F.type_list_append mt_append (pv 2) (pa_cons (pe_mt0 c_signed hr (by omega) (pv 0)) pa_nil))))))
      (pss_one (ps_ret (pe_tup (pa_cons pe_str (pa_cons (pv 2) pa_nil)))))))
      pmc_nil)))
      (pss_cons (ps_set (i := 3) sc_Reader_call.nd rfl (Or.inl rfl) (pe_mt0 c_expression hr (by omega) (pv 0)))
      (pss_cons (ps_expr (pe_mt c_expect hr (by omega) (pv 0) (pa_cons pe_str pa_nil)))
      (pss_cons (ps_match (pv 1) (pmc_str (pss_cons (ps_set (i := 4) sc_Reader_call.nd rfl (Or.inl rfl) (pe_mt0 c_signed hr (by omega) (pv 0)))
      (pss_cons (ps_expr (pe_mt c_expect hr (by omega) (pv 0) (pa_cons pe_str pa_nil)))
      (pss_one (ps_ret (pe_tup (pa_cons pe_str (pa_cons (pv 3) (pa_cons (pv 4) (pa_cons (pe_mt0 c_number hr (by omega) (pv 0)) pa_nil)))))))))
      (pmc_str (pss_cons (ps_set (i := 5) sc_Reader_call.nd rfl (Or.inl rfl) (pe_mt0 c_number hr (by omega) (pv 0)))
      (pss_cons (ps_expr (pe_mt c_expect hr (by omega) (pv 0) (pa_cons pe_str pa_nil)))
      (pss_one (ps_ret (pe_tup (pa_cons pe_str (pa_cons (pv 3) (pa_cons (pv 5) (pa_cons (pe_mt0 c_expression hr (by omega) (pv 0)) pa_nil)))))))))
      pmc_nil)))
      (pss_cons (ps_set (i := 6) sc_Reader_call.nd rfl (Or.inl rfl) (pe_mt0 c_number hr (by omega) (pv 0)))
      (pss_cons (ps_expr (pe_mt c_expect hr (by omega) (pv 0) (pa_cons pe_str pa_nil)))
      (pss_cons (ps_set (i := 7) sc_Reader_call.nd rfl (Or.inl rfl) (pe_mt0 c_number hr (by omega) (pv 0)))
      (pss_cons (ps_if (pt_cmpR op_eq (pv 1) pe_str (nomark _))
      (pss_one (ps_ret (pe_tup (pa_cons pe_str (pa_cons (pv 3) (pa_cons (pv 6) (pa_cons (pv 7) pa_nil)))))))
      pss_nil)
      (pss_cons (ps_expr (pe_mt c_expect hr (by omega) (pv 0) (pa_cons pe_str pa_nil)))
      (pss_one (ps_ret (pe_tup (pa_cons pe_str (pa_cons (pv 3) (pa_cons (pv 6) (pa_cons (pv 7) (pa_cons (pe_mt0 c_expression hr (by omega) (pv 0)) pa_nil))))))))))))))))), ?_⟩
  unfold pCall at hS
  refine ⟨_, rfl, _, rfl, ?_⟩
  by_cases w1 : wd = "silence"
  · rw [if_pos w1] at hS
    rw [decide_eq_true w1]
    obtain ⟨⟨n, S1⟩, hL1, hL⟩ := Option.bind_eq_some_iff.mp hS
    cases hL
    refine iteT ⟨_, rfl, r, _, _, rfl, h1, (by kernel_rfl), (r, S, n, S1), rfl, hR, hL1, fun H3 (e3 : XE r H H3) (hR3 : RdAt CR H3 r S1) => ⟨by show 2 ≤ sizeLine; decide, fun p np => ?_⟩⟩
    exact hQ _ _ (e3.upd' np) (hR3.new np) (Td.new np (.cons (.str _) (.cons (.int _) .nil)))
  · rw [if_neg w1] at hS
    rw [decide_eq_false w1]
    refine iteF ⟨_, rfl, ?_⟩
    by_cases w2 : wd = "samples"
    · rw [if_pos w2] at hS
      cases hS
    · rw [if_neg w2] at hS
      rw [decide_eq_false w2]
      obtain ⟨⟨a, S1⟩, hL1, hS⟩ := Option.bind_eq_some_iff.mp hS
      obtain ⟨S2, hL2, hS⟩ := Option.bind_eq_some_iff.mp hS
      dsimp only at hL2 hS
      refine iteF ⟨_, rfl, r, _, _, rfl, h1, (by kernel_rfl), (r, S, a, S1), rfl, hR, hL1, fun H1 va (e1 : XE r H H1) (hR1 : RdAt CR H1 r S1) (da : Td K H1 va a.data) => ?_⟩
      obtain ⟨dx1, l1, xs1, h1', _, _⟩ := id hR1
      refine ⟨_, rfl, r, _, _, rfl, h1', (by kernel_rfl), (r, S1, S2, ("," : Str)), rfl, hR1, wd_cm, hL2, fun H2 (e2 : XE r H1 H2) (hR2 : RdAt CR H2 r S2) => ?_⟩
      obtain ⟨dx2, l2, xs2, h2', _, _⟩ := id hR2
      have da := da.mono (hR1.tup e2)
      have e2 := e1.trans e2
      refine ⟨_, rfl, _, rfl, ?_⟩
      by_cases w3 : wd = "gain"
      · rw [if_pos w3] at hS
        rw [decide_eq_true w3]
        obtain ⟨⟨n3, S3⟩, hL3, hS⟩ := Option.bind_eq_some_iff.mp hS
        obtain ⟨S4, hL4, hS⟩ := Option.bind_eq_some_iff.mp hS
        obtain ⟨⟨n5, S5⟩, hL5, hS⟩ := Option.bind_eq_some_iff.mp hS
        cases hS
        refine iteT ⟨_, rfl, r, _, _, rfl, h2', (by kernel_rfl), (r, S2, n3, S3), rfl, hR2, hL3, fun H3 (e3 : XE r H2 H3) (hR3 : RdAt CR H3 r S3) => ?_⟩
        obtain ⟨dx3, l3, xs3, h3', _, _⟩ := id hR3
        refine ⟨_, rfl, r, _, _, rfl, h3', (by kernel_rfl), (r, S3, S4, ("/" : Str)), rfl, hR3, wd_sl, hL4, fun H4 (e4 : XE r H3 H4) (hR4 : RdAt CR H4 r S4) => ?_⟩
        obtain ⟨dx4, l4, xs4, h4', _, _⟩ := id hR4
        refine ⟨_, rfl, _, rfl, _, rfl, r, _, _, rfl, h4', (by kernel_rfl), (r, S4, n5, S5), rfl, hR4, hL5, fun H5 (e5 : XE r H4 H5) (hR5 : RdAt CR H5 r S5) => ⟨by show 4 ≤ sizeLine; decide, fun p np => ?_⟩⟩
        have da := da.mono ((hR2.tup e3).trans ((hR3.tup e4).trans (hR4.tup e5)))
        exact hQ _ _ ((e2.trans (e3.trans (e4.trans e5))).upd' np) (hR5.new np) (Td.new np (.cons (.str _) (.cons da (.cons (.int _) (.cons (.int _) .nil)))))
      · rw [if_neg w3] at hS
        rw [decide_eq_false w3]
        refine iteF ⟨_, rfl, ?_⟩
        by_cases w4 : wd = "insert"
        · rw [if_pos w4] at hS
          rw [decide_eq_true w4]
          obtain ⟨⟨n3, S3⟩, hL3, hS⟩ := Option.bind_eq_some_iff.mp hS
          obtain ⟨S4, hL4, hS⟩ := Option.bind_eq_some_iff.mp hS
          obtain ⟨⟨b, S5⟩, hL5, hS⟩ := Option.bind_eq_some_iff.mp hS
          cases hS
          refine iteT ⟨_, rfl, r, _, _, rfl, h2', (by kernel_rfl), (r, S2, n3, S3), rfl, hR2, hL3, fun H3 (e3 : XE r H2 H3) (hR3 : RdAt CR H3 r S3) => ?_⟩
          obtain ⟨dx3, l3, xs3, h3', _, _⟩ := id hR3
          refine ⟨_, rfl, r, _, _, rfl, h3', (by kernel_rfl), (r, S3, S4, ("," : Str)), rfl, hR3, wd_cm, hL4, fun H4 (e4 : XE r H3 H4) (hR4 : RdAt CR H4 r S4) => ?_⟩
          obtain ⟨dx4, l4, xs4, h4', _, _⟩ := id hR4
          refine ⟨_, rfl, _, rfl, _, rfl, r, _, _, rfl, h4', (by kernel_rfl), (r, S4, b, S5), rfl, hR4, hL5, fun H5 vb (e5 : XE r H4 H5) (hR5 : RdAt CR H5 r S5) (db : Td K H5 vb b.data) => ⟨by show 4 ≤ sizeLine; decide, fun p np => ?_⟩⟩
          have da := da.mono ((hR2.tup e3).trans ((hR3.tup e4).trans (hR4.tup e5)))
          exact hQ _ _ ((e2.trans (e3.trans (e4.trans e5))).upd' np) (hR5.new np) (Td.new np (.cons (.str _) (.cons da (.cons (.int _) (.cons db .nil)))))
        · rw [if_neg w4] at hS
          rw [decide_eq_false w4]
          obtain ⟨⟨n3, S3⟩, hL3, hS⟩ := Option.bind_eq_some_iff.mp hS
          obtain ⟨S4, hL4, hS⟩ := Option.bind_eq_some_iff.mp hS
          obtain ⟨⟨n5, S5⟩, hL5, hS⟩ := Option.bind_eq_some_iff.mp hS
          dsimp only at hL3 hL4 hL5 hS
          refine iteF ⟨_, rfl, r, _, _, rfl, h2', (by kernel_rfl), (r, S2, n3, S3), rfl, hR2, hL3, fun H3 (e3 : XE r H2 H3) (hR3 : RdAt CR H3 r S3) => ?_⟩
          obtain ⟨dx3, l3, xs3, h3', _, _⟩ := id hR3
          refine ⟨_, rfl, r, _, _, rfl, h3', (by kernel_rfl), (r, S3, S4, (":" : Str)), rfl, hR3, wd_cl, hL4, fun H4 (e4 : XE r H3 H4) (hR4 : RdAt CR H4 r S4) => ?_⟩
          obtain ⟨dx4, l4, xs4, h4', _, _⟩ := id hR4
          refine ⟨_, rfl, r, _, _, rfl, h4', (by kernel_rfl), (r, S4, n5, S5), rfl, hR4, hL5, fun H5 (e5 : XE r H4 H5) (hR5 : RdAt CR H5 r S5) => ?_⟩
          obtain ⟨dx5, l5, xs5, h5', _, _⟩ := id hR5
          have da := da.mono ((hR2.tup e3).trans ((hR3.tup e4).trans (hR4.tup e5)))
          have e5 := e2.trans (e3.trans (e4.trans e5))
          refine ⟨_, rfl, rfl, _, rfl, ?_⟩
          by_cases w5 : wd = "cut"
          · rw [if_pos w5] at hS
            rw [decide_eq_true (congrArg V.str w5)]
            cases hS
            refine iteT ⟨_, rfl, _, rfl, _, rfl, by show 4 ≤ sizeLine; decide, fun p np => ?_⟩
            exact hQ _ _ (e5.upd' np) (hR5.new np) (Td.new np (.cons (.str _) (.cons da (.cons (.int _) (.cons (.int _) .nil)))))
          · rw [if_neg w5] at hS
            rw [decide_eq_false (fun q => w5 (V.str.inj q))]
            obtain ⟨S6, hL6, hS⟩ := Option.bind_eq_some_iff.mp hS
            obtain ⟨⟨b, S7⟩, hL7, hS⟩ := Option.bind_eq_some_iff.mp hS
            cases hS
            refine iteF ⟨_, rfl, r, _, _, rfl, h5', (by kernel_rfl), (r, S5, S6, ("," : Str)), rfl, hR5, wd_cm, hL6, fun H6 (e6 : XE r H5 H6) (hR6 : RdAt CR H6 r S6) => ?_⟩
            obtain ⟨dx6, l6, xs6, h6', _, _⟩ := id hR6
            refine ⟨_, rfl, _, rfl, _, rfl, _, rfl, r, _, _, rfl, h6', (by kernel_rfl), (r, S6, b, S7), rfl, hR6, hL7, fun H7 vb (e7 : XE r H6 H7) (hR7 : RdAt CR H7 r S7) (db : Td K H7 vb b.data) => ⟨by show 5 ≤ sizeLine; decide, fun p np => ?_⟩⟩
            have da := da.mono ((hR5.tup e6).trans (hR6.tup e7))
            exact hQ _ _ ((e5.trans (e6.trans e7)).upd' np) (hR7.new np) (Td.new np (.cons (.str _) (.cons da (.cons (.int _) (.cons (.int _) (.cons db .nil))))))
end
end FJ

set_option Elab.async false
set_option linter.all false
set_option maxRecDepth 100000
set_option maxHeartbeats 4000000
/-! the reader: atoms, separators, scripts -/
namespace FJ
open PySem PySem.Spec PyProof.Rows L2
open C8 (pe_c pe_mk pe_mt pe_mt0 pe_gc)

theorem str_eq {a b : Str} : decide (V.str a = V.str b) = decide (a = b) := by
  by_cases e : a = b
  · subst e; simp
  · rw [decide_eq_false e]; exact decide_eq_false fun z => e (V.str.inj z)
theorem inV_str (s : Str) : ∀ l : List Str, inV (.str s) (l.map V.str) = decide (s ∈ l)
  | [] => rfl
  | x :: l => by
    have ih := inV_str s l
    show (eqV (.str x) (.str s) || inV (.str s) (l.map V.str)) = decide (s ∈ x :: l)
    rw [ih]
    show ((x == s) || decide (s ∈ l)) = decide (s ∈ x :: l)
    by_cases e : x = s
    · subst e; simp
    · have e2 : (x == s) = false := beq_eq_false_iff_ne.mpr e
      have e3 : ¬ s = x := fun q => e q.symm
      rw [e2, Bool.false_or]
      simp [e3]
theorem flat_str (l : List Str) : (l.map V.str).all flatV = true := by simp [List.all_map, flatV, Function.comp_def]

section
variable {P : Program} {w : World} {K : PySem.W.Frag} {mg : Str → Option Value} {base : Heap} {CC CR CE RES : Addr} {f : Addr} {fd : FuncData}
theorem ok_atom {k : Nat} {ex : PF} (hk : 4 ≤ k) (F : FnP K "atom" "Reader.atom" s_Reader_atom f fd) (T : Txt K mg CC CR CE RES) (R : Rd P w K mg base CR)
    (c_expression : C8.Met P w K mg base k CR "expression" (spP CR K ex) []) (c_call : C8.Met P w K mg base (k + 1) CR "call" (spCallR CR K ex) []) : FnOk P w K mg base CX0 (k + 2) f fd ["self"] (spP CR K (pAtom ex)) := by
  obtain ⟨c_kind_here, c_word_here, c_line_here, c_skip, c_expect, c_enter, c_leave, c_number, c_signed⟩ := R
  refine ok0 F sc_Reader_atom (fun _ => rfl) (fun cdv A outer s H y Q E hr h => ?_)
  obtain ⟨r, S, t, S'⟩ := y
  dsimp only at h
  obtain ⟨hR, hS, hQ⟩ := h
  obtain ⟨dx, l, xs, h1, hl, hp, htl⟩ := id hR
  refine ⟨_, (pss_cons (ps_if (pt_cmpR op_eq (pe_mt0 c_word_here hr (by omega) (pv 0)) pe_str (nomark _))
      (pss_cons (ps_expr (pe_mt c_enter hr (by omega) (pv 0) (pa_cons pe_str pa_nil)))
      (pss_cons (ps_set (i := 1) sc_Reader_atom.nd rfl (Or.inl rfl) (pe_mt0 c_expression hr (by omega) (pv 0)))
      (pss_cons (ps_expr (pe_mt c_leave hr (by omega) (pv 0) (pa_cons pe_str pa_nil)))
      (pss_one (ps_ret (pv 1))))))
      pss_nil)
      (pss_cons (ps_if (PW.pt (pw_or (pt_cmpR op_ne (pe_mt0 c_kind_here hr (by omega) (pv 0)) pe_str (nomark _)) (pw_or1 (pt_cmpR op_eq (pe_mt0 c_word_here hr (by omega) (pv 0)) pe_str (nomark _)))))
      (pss_one ps_never)
      pss_nil)
      (pss_cons (ps_set (i := 2) sc_Reader_atom.nd rfl (Or.inl rfl) (pe_mt0 c_skip hr (by omega) (pv 0)))
      (pss_cons (ps_if (pt_cmpR op_notIn_seq (pv 2) (pe_gc rfl T.g_RESERVED) rfl)
      (pss_one (ps_ret (pe_tup (pa_cons pe_str (pa_cons (pv 2) pa_nil)))))
      pss_nil)
      (pss_cons (ps_expr (pe_mt c_enter hr (by omega) (pv 0) (pa_cons pe_str pa_nil)))
      (pss_cons (ps_set (i := 1) sc_Reader_atom.nd rfl (Or.inl rfl) (pe_mt c_call hr (by omega) (pv 0) (pa_cons (pv 2) pa_nil)))
      (pss_cons (ps_expr (pe_mt c_leave hr (by omega) (pv 0) (pa_cons pe_str pa_nil)))
      (pss_one (ps_ret (pv 1)))))))))), ?_⟩
  unfold pAtom at hS
  refine ⟨_, rfl, r, _, _, rfl, h1, (by kernel_rfl), (r, S), rfl, hR, fun z hz => ⟨rfl, _, rfl, ?_⟩⟩
  rw [hz.is wd_lp]
  split at hS
  · rename_i hm
    rw [hm]
    obtain ⟨S1, hL1, hS⟩ := Option.bind_eq_some_iff.mp hS
    obtain ⟨⟨a, S2⟩, hL2, hS⟩ := Option.bind_eq_some_iff.mp hS
    obtain ⟨S3, hL3, hS⟩ := Option.bind_eq_some_iff.mp hS
    cases hS
    refine iteT ⟨_, rfl, r, _, _, rfl, h1, (by kernel_rfl), (r, S, S1, ("(" : Str)), rfl, hR, wd_lp, hL1, fun H1 (e1 : XE r H H1) (hR1 : RdAt CR H1 r S1) => ?_⟩
    obtain ⟨dx1, l1, xs1, h1', _, _⟩ := id hR1
    refine ⟨_, rfl, r, _, _, rfl, h1', (by kernel_rfl), (r, S1, a, S2), rfl, hR1, hL2, fun H2 v (e2 : XE r H1 H2) (hR2 : RdAt CR H2 r S2) (da : Td K H2 v a.data) => ?_⟩
    obtain ⟨dx2, l2, xs2, h2', _, _⟩ := id hR2
    refine ⟨_, rfl, r, _, _, rfl, h2', (by kernel_rfl), (r, S2, _, (")" : Str)), rfl, hR2, wd_rp, hL3, fun H3 (e3 : XE r H2 H3) (hR3 : RdAt CR H3 r _) => ?_⟩
    exact ⟨_, rfl, hQ _ _ (e1.trans (e2.trans e3)) hR3 (da.mono (hR2.tup e3))⟩
  · rename_i hm
    rw [Bool.not_eq_true] at hm
    rw [hm]
    split at hS
    · rename_i ln wd e
      split at hS
      · cases hS
      · rename_i hret
        obtain ⟨S1, hL1, hS⟩ := Option.bind_eq_some_iff.mp hS
        have hn : S.isName = true := by unfold PS.isName; rw [e]
        have hzw : ∀ z, WordIs S z → z = wd := fun z hz => by unfold WordIs at hz; rw [e] at hz; exact hz
        refine iteF ⟨_, rfl, r, _, _, rfl, h1, (by kernel_rfl), (r, S), rfl, hR, rfl, _, rfl, ?_⟩
        rw [kind_name, hn]
        refine iteF ⟨_, rfl, r, _, _, rfl, h1, (by kernel_rfl), (r, S), rfl, hR, fun z2 hz2 => ⟨rfl, _, rfl, ?_⟩⟩
        rw [hzw z2 hz2, str_eq, decide_eq_false hret]
        refine iteF ⟨_, rfl, r, _, _, rfl, h1, (by kernel_rfl), (r, S, S1), rfl, hR, hL1, fun H1 z (e1 : XE r H H1) (hR1 : RdAt CR H1 r S1) hz3 => ?_⟩
        have hz4 := hzw z hz3
        subst hz4
        obtain ⟨dx1, l1, xs1, h1', _, _⟩ := id hR1
        refine ⟨_, rfl, RES, _, rfl, .inr (T.res _), rfl, flat_str _, _, rfl, ?_⟩
        rw [inV_str]
        split at hS
        · rename_i hres
          rw [decide_eq_true hres]
          obtain ⟨S2, hL2, hS⟩ := Option.bind_eq_some_iff.mp hS
          obtain ⟨⟨a, S3⟩, hL3, hS⟩ := Option.bind_eq_some_iff.mp hS
          obtain ⟨S4, hL4, hS⟩ := Option.bind_eq_some_iff.mp hS
          cases hS
          refine iteF ⟨_, rfl, r, _, _, rfl, h1', (by kernel_rfl), (r, S1, S2, ("(" : Str)), rfl, hR1, wd_lp, hL2, fun H2 (e2 : XE r H1 H2) (hR2 : RdAt CR H2 r S2) => ?_⟩
          obtain ⟨dx2, l2, xs2, h2', _, _⟩ := id hR2
          refine ⟨_, rfl, r, _, _, rfl, h2', (by kernel_rfl), _, rfl, (r, S2, _, a, S3), rfl, hR2, hL3, fun H3 v (e3 : XE r H2 H3) (hR3 : RdAt CR H3 r S3) (da : Td K H3 v a.data) => ?_⟩
          obtain ⟨dx3, l3, xs3, h3', _, _⟩ := id hR3
          refine ⟨_, rfl, r, _, _, rfl, h3', (by kernel_rfl), (r, S3, _, (")" : Str)), rfl, hR3, wd_rp, hL4, fun H4 (e4 : XE r H3 H4) (hR4 : RdAt CR H4 r _) => ?_⟩
          exact ⟨_, rfl, hQ _ _ (e1.trans (e2.trans (e3.trans e4))) hR4 (da.mono (hR3.tup e4))⟩
        · rename_i hres
          rw [decide_eq_false hres]
          cases hS
          refine iteT ⟨_, rfl, by show 2 ≤ sizeLine; decide, fun p np => ?_⟩
          exact hQ _ _ (e1.upd' np) (hR1.new np) (Td.new np (.cons (.str _) (.cons (.str _) .nil)))
    · cases hS

/-! ### separators -/
def spEnds (CR : Addr) : Sp := spOf (fun x : Addr × PS × PS => [.ref x.1]) fun x H Q => RdAt CR H x.1 x.2.1 ∧ skipEnds 210 x.2.1 = some x.2.2 ∧ ∀ H', XE x.1 H H' → RdAt CR H' x.1 x.2.2 → Q .non H'
theorem ok_skip_ends (F : FnP K "skip_ends" "Reader.skip_ends" s_Reader_skip_ends f fd) (R : Rd P w K mg base CR) : FnOk P w K mg base CX0 3 f fd ["self"] (spEnds CR) := by
  obtain ⟨c_kind_here, c_word_here, c_line_here, c_skip, c_expect, c_enter, c_leave, c_number, c_signed⟩ := R
  refine ok0 F sc_Reader_skip_ends (fun _ => rfl) (fun cdv A outer s H y Q E hr h => ?_)
  obtain ⟨r, S, S'⟩ := y
  dsimp only at h
  obtain ⟨hR, hS, hQ⟩ := h
  refine ⟨_, (pss_one (ps_while PassesOwn.never (pt_cmpR op_eq (pe_mt0 c_kind_here hr (by omega) (pv 0)) pe_str (nomark _))
      (pss_one (ps_expr (pe_mt0 c_skip hr (by omega) (pv 0)))))), ?_⟩
  refine wh (fun m σ H' => ∃ S1, σ = [some (.ref r)] ∧ XE r H H' ∧ RdAt CR H' r S1 ∧ skipEnds m S1 = some S') 210 ⟨S, rfl, XE.refl _ _, hR, hS⟩ ?_
  rintro m σ H2 ⟨S1, rfl, e2, hR2, hL⟩
  cases m with
  | zero => cases hL
  | succ j =>
    unfold skipEnds at hL
    obtain ⟨dx2, l2, xs2, h2, _, _⟩ := id hR2
    refine ⟨_, rfl, r, _, _, rfl, h2, (by kernel_rfl), (r, S1), rfl, hR2, rfl, _, rfl, ?_⟩
    rw [kind_fin]
    split at hL
    · rename_i hm
      rw [hm]
      obtain ⟨S2, hL1, hL⟩ := Option.bind_eq_some_iff.mp hL
      refine iteT ⟨_, fun σ' H' q => ⟨j, Nat.lt_succ_self j, q⟩, ?_⟩
      refine ⟨_, rfl, r, _, _, rfl, h2, (by kernel_rfl), (r, S1, S2), rfl, hR2, hL1, fun H3 z (e3 : XE r H2 H3) (hR3 : RdAt CR H3 r S2) _ => ?_⟩
      exact ⟨S2, rfl, e2.trans e3, hR3, hL⟩
    · rename_i hm
      rw [Bool.not_eq_true] at hm
      rw [hm]
      cases hL
      exact iteF (hQ H2 e2 hR2)

/-! ### the start of a reader -/
def spRInit (CR : Addr) : Sp := spOf (fun x : Addr × Addr × Int × Addr => [.ref x.1, .ref x.2.1, .int x.2.2.1]) fun x H Q => H x.1 = some (.ins CR x.2.2.2 []) ∧ ∀ H', XE x.1 H H' → H' x.1 = some (.ins CR x.2.2.2 (rf x.2.1 x.2.2.1 0 0 0)) → Q .non H'
theorem ok_rinit (F : FnP K "__init__" "Reader.__init__" s_Reader_init f fd) (T : Txt K mg CC CR CE RES) : FnOk P w K mg base CX0 1 f fd ["self", "items", "last"] (spRInit CR) := by
  refine ok0 F sc_Reader_init (fun _ => rfl) (fun cdv A outer s H y Q E hr h => ?_)
  obtain ⟨r, l, la, dx⟩ := y
  dsimp only at h
  obtain ⟨h1, hQ⟩ := h
  refine ⟨_, (pss_cons (ps_fld (pv 0) (pv 1) rfl)
      (pss_cons (ps_fld (pv 0) (pv 2) rfl)
      (pss_cons (ps_fld (pv 0) pe_int rfl)
      (pss_cons (ps_fld (pv 0) pe_int rfl)
      (pss_one (ps_fld (pv 0) pe_int rfl)))))), ?_⟩
  refine ⟨_, rfl, _, rfl, r, CR, dx, _, rfl, h1, T.clR, T.nTok, (by show 0 < 1000; decide), ?_⟩
  refine ⟨_, rfl, _, rfl, r, CR, dx, _, rfl, upd_same, T.clR, T.nLast, (by show 1 < 1000; decide), ?_⟩
  refine ⟨_, rfl, r, CR, dx, _, rfl, upd_same, T.clR, T.nPlace, (by show 2 < 1000; decide), ?_⟩
  refine ⟨_, rfl, r, CR, dx, _, rfl, upd_same, T.clR, T.nDepth, (by show 3 < 1000; decide), ?_⟩
  refine ⟨_, rfl, r, CR, dx, _, rfl, upd_same, T.clR, T.nUsed, (by show 4 < 1000; decide), ?_⟩
  rw [upd_upd, upd_upd, upd_upd, upd_upd]
  refine hQ _ XE.upd ?_
  rw [upd_same]
  have e : putF "used" (V.int 0) (putF "depth" (V.int 0) (putF "place" (V.int 0) (putF "last" (V.int la) (putF "tokens" (V.ref l) [])))) = rf l la 0 0 0 := by kernel_rfl
  rw [e]
end
end FJ

set_option Elab.async false
set_option linter.all false
set_option maxRecDepth 100000
set_option maxHeartbeats 4000000
/-! the reader: a whole script -/
namespace FJ
open PySem PySem.Spec PyProof.Rows L2
open C8 (pe_c pe_mk pe_mt pe_mt0 pe_gc)

theorem wd_ret : Word "return" = true := by decide +kernel
theorem XE.updN {r p : Addr} {H H1 : Hp} {o : HO} (e : XE r H H1) (n : H p = none) : XE r H (L2.upd H1 p o) := fun a u na h => by
  rw [upd_ne (fun q => by rw [q, n] at h; cases h)]
  exact e a u na h
theorem RdAt.app {CR r p : Addr} {H : Hp} {S : PS} {o : HO} (hR : RdAt CR H r S) (n1 : p ≠ r) (n2 : p ≠ S.tl) (hp : ∃ ys, H p = some (.lst ys)) : RdAt CR (upd H p o) r S := by
  obtain ⟨dx, l, xs, h1, hl, hx, htl⟩ := hR
  subst htl
  obtain ⟨ys, hp⟩ := hp
  refine ⟨dx, _, xs, by rw [upd_ne n1.symm]; exact h1, by rw [upd_ne n2.symm]; exact hl, PMono (fun _ _ q => q.mono fun a zs h => ?_) hx, rfl⟩
  rw [upd_ne (ne_of h hp (by intro z; cases z))]
  exact h
theorem tup_upd {p : Addr} {H : Hp} {o : HO} (hp : ∃ ys, H p = some (.lst ys)) : TupE H (upd H p o) := fun a zs h => by
  obtain ⟨ys, hp⟩ := hp
  rw [upd_ne (ne_of h hp (by intro z; cases z))]
  exact h
theorem skipEnds_tl : ∀ {k : Nat} {S S' : PS}, skipEnds k S = some S' → S'.tl = S.tl
  | 0, S, S', h => by cases h
  | k + 1, S, S', h => by
    unfold skipEnds at h
    split at h
    · obtain ⟨S1, h1, h2⟩ := Option.bind_eq_some_iff.mp h
      rw [skipEnds_tl h2]
      unfold PS.skip at h1
      split at h1
      · cases h1
      · cases h1; rfl
      · split at h1
        · cases h1
        · cases h1; rfl
    · cases h; rfl

theorem skip_tl {S S' : PS} (h : S.skip = some S') : S'.tl = S.tl := by
  unfold PS.skip at h
  split at h
  · cases h
  · cases h; rfl
  · split at h
    · cases h
    · cases h; rfl
theorem expect_tl {S S' : PS} {wd : Str} (h : S.expect wd = some S') : S'.tl = S.tl := by
  unfold PS.expect at h
  split at h
  · exact skip_tl h
  · cases h
section
variable {P : Program} {w : World} {K : PySem.W.Frag} {mg : Str → Option Value} {base : Heap} {CC CR CE RES : Addr} {f : Addr} {fd : FuncData}
def spScript (CR : Addr) (K : PySem.W.Frag) (ex : PF) : Sp := spOf (fun x : Addr × List (Int × Tok) × Int × Nat × List Row => [.ref x.1]) fun x H Q => RdAt CR H x.1 ⟨x.2.1, x.2.2.1, 0, 0, 0, x.2.2.2.1⟩ ∧ pScript ex x.2.1 x.2.2.1 x.2.2.2.1 = some x.2.2.2.2 ∧
  ∀ H' p xs, XE x.1 H H' → H p = none → H' p = some (.lst xs) → TdAll K H' xs (x.2.2.2.2.map Row.data) → Q (.ref p) H'
theorem ok_script {k : Nat} {ex : PF} (hk : 3 ≤ k) (hex : ∀ S t S', ex S = some (t, S') → S'.tl = S.tl) (F : FnP K "script" "Reader.script" s_Reader_script f fd) (T : Txt K mg CC CR CE RES) (R : Rd P w K mg base CR)
    (c_skip_ends : C8.Met P w K mg base 3 CR "skip_ends" (spEnds CR) []) (c_expression : C8.Met P w K mg base k CR "expression" (spP CR K ex) []) : FnOk P w K mg base CX0 (k + 1) f fd ["self"] (spScript CR K ex) := by
  obtain ⟨c_kind_here, c_word_here, c_line_here, c_skip, c_expect, c_enter, c_leave, c_number, c_signed⟩ := R
  refine ok0 F sc_Reader_script (fun _ => rfl) (fun cdv A outer s H y Q E hr h => ?_)
  obtain ⟨r, toks, last, tl, rows⟩ := y
  dsimp only at h
  obtain ⟨hR, hS, hQ⟩ := h
  obtain ⟨dx, l, xs, h1, hl, hp, htl⟩ := id hR
  refine ⟨_, (pss_cons (ps_set (i := 1) sc_Reader_script.nd rfl (Or.inl rfl) (pe_lst pa_nil))
      (pss_cons (ps_expr (pe_mt0 c_skip_ends hr (by omega) (pv 0)))
      (pss_cons (ps_while PassesOwn.never (pt_cmpR op_ne (pe_mt0 c_word_here hr (by omega) (pv 0)) pe_str (nomark _))
      (pss_cons (ps_fld (pv 0) pe_int rfl)
      (pss_cons (ps_set (i := 2) sc_Reader_script.nd rfl (Or.inl rfl) (pe_mt0 c_line_here hr (by omega) (pv 0)))
      (pss_cons (ps_if (PW.pt (pw_or (pt_cmpR op_ne (pe_mt0 c_kind_here hr (by omega) (pv 0)) pe_str (nomark _)) (pw_or1 (pt_cmpR op_in_seq (pe_mt0 c_word_here hr (by omega) (pv 0)) (pe_gc rfl T.g_RESERVED) rfl))))
      (pss_one ps_never)
      pss_nil)
      (pss_cons (ps_set (i := 3) sc_Reader_script.nd rfl (Or.inl rfl) (pe_mt0 c_skip hr (by omega) (pv 0)))
      (pss_cons (ps_expr (pe_mt c_expect hr (by omega) (pv 0) (pa_cons pe_str pa_nil)))
      (pss_cons (ps_expr (pe_bm PySem.F.plainAttrs_list PySem.F.slot_list_append PySem.F.type_list_append mt_append (pv 1) (pa_cons (pe_tup (pa_cons pe_str (pa_cons (pv 2) (pa_cons (pv 3) (pa_cons (pe_mt0 c_expression hr (by omega) (pv 0)) pa_nil))))) pa_nil)))
      (pss_cons (ps_if (pt_cmpR op_ne (pe_mt0 c_kind_here hr (by omega) (pv 0)) pe_str (nomark _))
      (pss_one ps_never)
      pss_nil)
      (pss_one (ps_expr (pe_mt0 c_skip_ends hr (by omega) (pv 0))))))))))))
      (pss_cons (ps_fld (pv 0) pe_int rfl)
      (pss_cons (ps_set (i := 2) sc_Reader_script.nd rfl (Or.inl rfl) (pe_mt0 c_line_here hr (by omega) (pv 0)))
      (pss_cons (ps_expr (pe_mt0 c_skip hr (by omega) (pv 0)))
      (pss_cons (ps_expr (pe_bm PySem.F.plainAttrs_list PySem.F.slot_list_append PySem.F.type_list_append mt_append (pv 1) (pa_cons (pe_tup (pa_cons pe_str (pa_cons (pv 2) (pa_cons (pe_mt0 c_expression hr (by omega) (pv 0)) pa_nil)))) pa_nil)))
      (pss_cons (ps_expr (pe_mt0 c_skip_ends hr (by omega) (pv 0)))
      (pss_cons (ps_if (pt_cmpR op_ne (pe_mt0 c_kind_here hr (by omega) (pv 0)) pe_str (nomark _))
      (pss_one ps_never)
      pss_nil)
      (pss_one (ps_ret (pv 1)))))))))))), ?_⟩
  unfold pScript at hS
  obtain ⟨S1, hS1, hS⟩ := Option.bind_eq_some_iff.mp hS
  obtain ⟨⟨acc2, S2⟩, hS2, hS⟩ := Option.bind_eq_some_iff.mp hS
  refine ⟨Nat.zero_le _, fun p np => ?_⟩
  have npr : p ≠ r := fun q => by rw [q, h1] at np; cases np
  have npl : p ≠ tl := fun q => by
    have htl : l = tl := htl
    rw [q, ← htl, hl] at np; cases np
  have h1p : (upd H p (.lst [])) r = some (.ins CR dx (rf l last 0 0 0)) := by rw [upd_ne npr.symm]; exact h1
  have hR0 := hR.new np (o := .lst [])
  refine ⟨_, rfl, r, _, _, rfl, h1p, (by kernel_rfl), (r, _, S1), rfl, hR0, hS1, fun H1 (e1 : XE r _ H1) (hR1 : RdAt CR H1 r S1) => ?_⟩
  have t1 : S1.tl = tl := skipEnds_tl hS1
  have E1 : XE r H H1 := ((XE.refl r H).upd' np).trans e1
  have hp1 : H1 p = some (.lst []) := e1 p _ npr upd_same
  refine wh (fun m σ H' => ∃ S3 acc xs o1 o2, σ = [some (.ref r), some (.ref p), o1, o2] ∧ XE r H H' ∧ RdAt CR H' r S3 ∧ S3.tl = tl ∧ H' p = some (.lst xs) ∧ TdAll K H' xs (acc.map Row.data) ∧ acc.length + m ≤ 210 ∧ pDefs ex m S3 acc = some (acc2, S2)) 210
    ⟨S1, [], [], _, _, rfl, E1, hR1, t1, hp1, .nil, by simp, hS2⟩ ?_
  rintro m σ H2 ⟨S3, acc, ys, o1, o2, rfl, e2, hR2, t2, hp2, d2, hlen, hL⟩
  cases m with
  | zero => cases hL
  | succ j =>
    unfold pDefs at hL
    obtain ⟨dx2, l2, xs2, h2, _, _⟩ := id hR2
    refine ⟨_, rfl, r, _, _, rfl, h2, (by kernel_rfl), (r, S3), rfl, hR2, fun z hz => ⟨rfl, _, rfl, ?_⟩⟩
    rw [hz.is wd_ret]
    split at hL
    · -- the last statement
      rename_i hm
      rw [hm]
      refine iteF ?_
      cases hL
      dsimp only at hS
      obtain ⟨S4, hS4, hS⟩ := Option.bind_eq_some_iff.mp hS
      obtain ⟨⟨t5, S5⟩, hS5, hS⟩ := Option.bind_eq_some_iff.mp hS
      obtain ⟨S6, hS6, hS⟩ := Option.bind_eq_some_iff.mp hS
      dsimp only at hS6 hS
      split at hS
      · rename_i hnone
        cases hS
        obtain ⟨dx3, l3, h3, hR3⟩ := rd_used hR2 0
        refine ⟨_, rfl, r, CR, _, _, rfl, h3, T.clR, T.nUsed, rf_len .., ?_⟩
        rw [rf_put_used]
        obtain ⟨dx4, l4, xs4, h4, _, _⟩ := id hR3
        refine ⟨_, rfl, r, _, _, rfl, h4, (by kernel_rfl), (r, _), rfl, hR3, ?_⟩
        refine ⟨_, rfl, r, _, _, rfl, h4, (by kernel_rfl), (r, _, S4), rfl, hR3, hS4, fun H5 z (e5 : XE r _ H5) (hR5 : RdAt CR H5 r S4) _ => ?_⟩
        obtain ⟨dx5, l5, xs5, h5, _, _⟩ := id hR5
        have hp5 : H5 p = some (.lst ys) := e5 p _ npr (by rw [upd_ne npr]; exact hp2)
        have d5 := d2.mono ((XE.upd.tup h3).trans (hR3.tup e5))
        have E5 := e2.trans (XE.upd.trans e5)
        refine ⟨_, rfl, .inl ⟨rfl, _, SqL.of hp5⟩, _, rfl, _, rfl, r, _, _, rfl, h5, (by kernel_rfl), (r, S4, t5, S5), rfl, hR5, hS5, fun H6 v6 (e6 : XE r H5 H6) (hR6 : RdAt CR H6 r S5) (d6 : Td K H6 v6 t5.data) => ⟨by show 3 ≤ sizeLine; decide, fun q nq => ?_⟩⟩
        have hp6 : H6 p = some (.lst ys) := e6 p _ npr hp5
        have npq : p ≠ q := ne_of_none hp6 nq
        have hp7 : (upd H6 q (.tup [.str "return", .int (({ S2 with used := 0 } : PS).line), v6])) p = some (.lst ys) := by rw [upd_ne npq]; exact hp6
        refine ⟨p, ys, _, rfl, rfl, hp7, by rw [d2.len, List.length_map, sizeLine_eq]; omega, ?_⟩
        have hR7 := (hR6.new nq (o := .tup [.str "return", .int (({ S2 with used := 0 } : PS).line), v6])).app (o := .lst (ys ++ [.ref q])) npr (by
          rw [hex _ _ _ hS5]
          have : S4.tl = S2.tl := by
            unfold PS.skip at hS4
            split at hS4
            · cases hS4
            · cases hS4; rfl
            · split at hS4
              · cases hS4
              · cases hS4; rfl
          rw [this, t2]; exact npl) ⟨ys, hp7⟩
        obtain ⟨dx7, l7, xs7, h7, _, _⟩ := id hR7
        refine ⟨_, rfl, r, _, _, rfl, h7, (by kernel_rfl), (r, S5, S6), rfl, hR7, hS6, fun H8 (e8 : XE r _ H8) (hR8 : RdAt CR H8 r S6) => ?_⟩
        obtain ⟨dx8, l8, xs8, h8, _, _⟩ := id hR8
        refine ⟨_, rfl, r, _, _, rfl, h8, (by kernel_rfl), (r, S6), rfl, hR8, rfl, _, rfl, ?_⟩
        rw [kind_non, hnone]
        refine iteF ⟨_, rfl, ?_⟩
        have dq : Td K (upd H6 q (.tup [.str "return", .int (({ S2 with used := 0 } : PS).line), v6])) (.ref q) (Row.data (.ret S2.line t5)) := Td.new nq (.cons (.str _) (.cons (.int _) (.cons d6 .nil)))
        have d8 : TdAll K H8 (ys ++ [.ref q]) ((acc2 ++ [Row.ret S2.line t5]).map Row.data) := by
          rw [List.map_append]
          have up := (tup_upd (o := .lst (ys ++ [.ref q])) ⟨ys, hp7⟩).trans (hR7.tup e8)
          exact ((d5.mono ((hR5.tup e6).trans (TupE.of (Same.upd nq)))).mono up).app (.cons (dq.mono up) .nil)
        refine hQ H8 p _ ?_ np (e8 p _ npr upd_same) d8
        exact (((E5.trans e6).upd' nq).updN np).trans e8
      · cases hS
    · rename_i hm
      rw [Bool.not_eq_true] at hm
      rw [hm]
      split at hL
      · rename_i ln wd e
        split at hL
        · cases hL
        · rename_i hres
          obtain ⟨S4, hS4, hL⟩ := Option.bind_eq_some_iff.mp hL
          obtain ⟨S5, hS5, hL⟩ := Option.bind_eq_some_iff.mp hL
          obtain ⟨⟨t6, S6⟩, hS6, hL⟩ := Option.bind_eq_some_iff.mp hL
          dsimp only at hL
          split at hL
          · rename_i hfin
            obtain ⟨S7, hS7, hL⟩ := Option.bind_eq_some_iff.mp hL
            refine iteT ⟨_, fun σ' H' q => ⟨j, Nat.lt_succ_self j, q⟩, ?_⟩
            obtain ⟨dx3, l3, h3, hR3⟩ := rd_used hR2 0
            refine ⟨_, rfl, r, CR, _, _, rfl, h3, T.clR, T.nUsed, rf_len .., ?_⟩
            rw [rf_put_used]
            obtain ⟨dx4, l4, xs4, h4, _, _⟩ := id hR3
            have hcur : ({ S3 with used := 0 } : PS).cur = some (ln, .name wd) := e
            have hline : ({ S3 with used := 0 } : PS).line = ln := by unfold PS.line; rw [hcur]
            have hnm : ({ S3 with used := 0 } : PS).isName = true := by unfold PS.isName; rw [hcur]
            have hzw : ∀ z, WordIs ({ S3 with used := 0 } : PS) z → z = wd := fun z hz => by unfold WordIs at hz; rw [hcur] at hz; exact hz
            refine ⟨_, rfl, r, _, _, rfl, h4, (by kernel_rfl), (r, _), rfl, hR3, ?_⟩
            dsimp only
            rw [hline]
            refine ⟨_, rfl, r, _, _, rfl, h4, (by kernel_rfl), (r, _), rfl, hR3, rfl, _, rfl, ?_⟩
            rw [kind_name, hnm]
            refine iteF ⟨_, rfl, r, _, _, rfl, h4, (by kernel_rfl), (r, _), rfl, hR3, fun z hz => ⟨RES, _, rfl, .inr (T.res _), rfl, flat_str _, _, rfl, ?_⟩⟩
            rw [hzw z hz, inV_str, decide_eq_false hres]
            refine iteF ⟨_, rfl, r, _, _, rfl, h4, (by kernel_rfl), (r, _, S4), rfl, hR3, hS4, fun H5 z (e5 : XE r _ H5) (hR5 : RdAt CR H5 r S4) hz5 => ?_⟩
            have hz6 := hzw z hz5
            subst hz6
            obtain ⟨dx5, l5, xs5, h5, _, _⟩ := id hR5
            have hp5 : H5 p = some (.lst ys) := e5 p _ npr (by rw [upd_ne npr]; exact hp2)
            have d5 := d2.mono ((XE.upd.tup h3).trans (hR3.tup e5))
            have E5 := e2.trans (XE.upd.trans e5)
            refine ⟨_, rfl, r, _, _, rfl, h5, (by kernel_rfl), (r, S4, S5, ("=" : Str)), rfl, hR5, wd_eq, hS5, fun H6 (e6 : XE r H5 H6) (hR6 : RdAt CR H6 r S5) => ?_⟩
            obtain ⟨dx6, l6, xs6, h6, _, _⟩ := id hR6
            have hp6 : H6 p = some (.lst ys) := e6 p _ npr hp5
            refine ⟨_, rfl, .inl ⟨rfl, _, SqL.of hp6⟩, _, rfl, _, rfl, _, rfl, r, _, _, rfl, h6, (by kernel_rfl), (r, S5, t6, S6), rfl, hR6, hS6, fun H7 v7 (e7 : XE r H6 H7) (hR7 : RdAt CR H7 r S6) (d7 : Td K H7 v7 t6.data) => ⟨by show 4 ≤ sizeLine; decide, fun q nq => ?_⟩⟩
            have hp7 : H7 p = some (.lst ys) := e7 p _ npr hp6
            have npq : p ≠ q := ne_of_none hp7 nq
            have hp8 : (upd H7 q (.tup [.str "define", .int ln, .str z, v7])) p = some (.lst ys) := by rw [upd_ne npq]; exact hp7
            refine ⟨p, ys, _, rfl, rfl, hp8, by rw [d2.len, List.length_map, sizeLine_eq]; omega, ?_⟩
            have t6l : S6.tl = tl := by rw [hex _ _ _ hS6, expect_tl hS5, skip_tl hS4]; exact t2
            have hR8 := (hR7.new nq (o := .tup [.str "define", .int ln, .str z, v7])).app (o := .lst (ys ++ [.ref q])) npr (by rw [t6l]; exact npl) ⟨ys, hp8⟩
            obtain ⟨dx8, l8, xs8, h8, _, _⟩ := id hR8
            refine ⟨_, rfl, r, _, _, rfl, h8, (by kernel_rfl), (r, S6), rfl, hR8, rfl, _, rfl, ?_⟩
            rw [kind_fin, hfin]
            refine iteF ⟨_, rfl, r, _, _, rfl, h8, (by kernel_rfl), (r, S6, S7), rfl, hR8, hS7, fun H9 (e9 : XE r _ H9) (hR9 : RdAt CR H9 r S7) => ?_⟩
            have dq : Td K (upd H7 q (.tup [.str "define", .int ln, .str z, v7])) (.ref q) (Row.data (.define ln z t6)) := Td.new nq (.cons (.str _) (.cons (.int _) (.cons (.str _) (.cons d7 .nil))))
            have d9 : TdAll K H9 (ys ++ [.ref q]) ((acc ++ [Row.define ln z t6]).map Row.data) := by
              rw [List.map_append]
              have up := (tup_upd (o := .lst (ys ++ [.ref q])) ⟨ys, hp8⟩).trans (hR8.tup e9)
              exact ((d5.mono ((hR5.tup e6).trans ((hR6.tup e7).trans (TupE.of (Same.upd nq))))).mono up).app (.cons (dq.mono up) .nil)
            exact ⟨S7, acc ++ [.define ln z t6], _, _, _, rfl, ((((E5.trans e6).trans e7).upd' nq).updN np).trans e9, hR9, (by rw [skipEnds_tl hS7, t6l]), e9 p _ npr upd_same, d9, (by rw [List.length_append, List.length_singleton]; omega), hL⟩
          · cases hL
      · cases hL
end
end FJ

set_option Elab.async false
set_option linter.all false
set_option maxRecDepth 100000
set_option maxHeartbeats 4000000
/-! the tokenizer -/
namespace FJ
open PySem PySem.Spec PyProof.Rows L2
open C8 (pe_c pe_mk pe_mt pe_mt0 pe_gc)
abbrev S (l : List Nat) : Str := SX.S l
theorem S_list (l : List Nat) : (S l).cps.toList = l := by simp [S, SX.S]
theorem S_len (l : List Nat) : (S l).length = l.length := SX.S_len l

theorem Same.updN {p : Addr} {H H1 : Hp} {o : HO} (e : Same H H1) (n : H p = none) : Same H (L2.upd H1 p o) := fun a u h => by
  rw [upd_ne (fun q => by rw [q, n] at h; cases h)]
  exact e a u h
/-! ### parts of a line -/
inductive Seg where
  | name (s : List Nat) | num (ds : List Nat) (n : Int) | sym (c : Nat) | fin | blank
def Seg.codes : Seg → List Nat
  | .name s => s
  | .num ds _ => ds
  | .sym c => [c]
  | .fin => [59]
  | .blank => [32]
def Seg.toks : Seg → List Tok
  | .name s => [.name (S s)]
  | .num _ n => [.num n]
  | .sym c => [.sym (S [c])]
  | .fin => [.fin (S [59])]
  | .blank => []
def isLet (c : Nat) : Bool := decide (97 ≤ c) && decide (c ≤ 122)
def isDig (c : Nat) : Bool := decide (48 ≤ c) && decide (c ≤ 57)
def symC : List Nat := [43, 45, 42, 47, 40, 41, 91, 93, 44, 58, 61]
/-- what stands behind does not lengthen it -/
def headNot (p : Nat → Bool) : List Nat → Prop
  | [] => True
  | c :: _ => p c = false
def Seg.Ok (g : Seg) (post : List Nat) : Prop := match g with
  | .name s => s ≠ [] ∧ s.length ≤ 8 ∧ (∀ c ∈ s, isLet c = true) ∧ headNot isLet post
  | .num ds n => ds ≠ [] ∧ ds.length ≤ 30 ∧ (∀ c ∈ ds, isDig c = true) ∧ intText? (S ds) = some n ∧ headNot isDig post
  | .sym c => c ∈ symC
  | .fin => True
  | .blank => True
def render (gs : List Seg) : List Nat := (gs.map Seg.codes).flatten
theorem render_cons (g : Seg) (gs : List Seg) : render (g :: gs) = g.codes ++ render gs := rfl
theorem render_app (a b : List Seg) : render (a ++ b) = render a ++ render b := by simp [render]
def SegsOk (tail : List Nat) : List Seg → Prop
  | [] => tail = [] ∨ ∃ r, tail = 35 :: r
  | g :: gs => g.Ok (render gs ++ tail) ∧ SegsOk tail gs
def toksOf (n : Int) (gs : List Seg) : List (Int × Tok) := (gs.map Seg.toks).flatten.map fun t => (n, t)
theorem toksOf_app (n : Int) (a b : List Seg) : toksOf n (a ++ b) = toksOf n a ++ toksOf n b := by simp [toksOf]
theorem letters : ("abcdefghijklmnopqrstuvwxyz" : Str).cps.toList = List.range' 97 26 := by decide +kernel
theorem digits : ("0123456789" : Str).cps.toList = List.range' 48 10 := by decide +kernel
theorem symbols : ("+-*/()[],:=" : Str).cps.toList = symC := by decide +kernel
theorem ends : (";\n" : Str).cps.toList = [59, 10] := by decide +kernel
theorem let_mem (c : Nat) : decide (c ∈ ("abcdefghijklmnopqrstuvwxyz" : Str).cps.toList) = isLet c := by
  rw [letters]
  unfold isLet
  rw [← Bool.decide_and]
  refine decide_eq_decide.mpr ?_
  rw [List.mem_range'_1]; omega
theorem dig_mem (c : Nat) : decide (c ∈ ("0123456789" : Str).cps.toList) = isDig c := by
  rw [digits]
  unfold isDig
  rw [← Bool.decide_and]
  refine decide_eq_decide.mpr ?_
  rw [List.mem_range'_1]; omega
theorem small {l : List Nat} (h : l.length ≤ 8000) : (S l).length ≤ sizeLine := by rw [S_len, sizeLine_eq]; omega
theorem at_code {l : List Nat} {i : Nat} {c : Nat} (h : l[i]? = some c) : atI (S l).cps.toList (i : Int) = some c := by
  rw [S_list]; exact atI_nat h

section
variable {P : Program} {w : World} {K : PySem.W.Frag} {mg : Str → Option Value} {base : Heap} {CC CR CE RES : Addr} {f : Addr} {fd : FuncData}
/-! ### a run of signs -/
/-- p tells the signs -/
def spRun : Sp := spOf (fun x : List Nat × List Nat × List Nat × Str × Nat × (Nat → Bool) => [.str (S (x.1 ++ (x.2.1 ++ x.2.2.1))), .int x.1.length, .str x.2.2.2.1, .int x.2.2.2.2.1]) fun x H Q =>
  (∀ c, decide (c ∈ x.2.2.2.1.cps.toList) = x.2.2.2.2.2 c) ∧ (∀ c ∈ x.2.1, x.2.2.2.2.2 c = true) ∧ x.2.1.length ≤ x.2.2.2.2.1 ∧ headNot x.2.2.2.2.2 x.2.2.1 ∧ (x.1 ++ (x.2.1 ++ x.2.2.1)).length ≤ 8000 ∧ Q (.int x.2.1.length) H
theorem ok_run (F : FnP K "run_length" "run_length" s_run_length f fd) (T : Txt K mg CC CR CE RES) : FnOk P w K mg base CX0 1 f fd ["line", "at", "signs", "most"] spRun := by
  refine ok0 F sc_run_length (fun _ => rfl) (fun cdv A outer s H y Q E hr h => ?_)
  obtain ⟨pre, run, post, signs, most, p⟩ := y
  dsimp only at h
  obtain ⟨hsg, hrun, hmost, hpost, hlen, hQ⟩ := h
  refine ⟨_, (pss_cons (ps_set (i := 4) sc_run_length.nd rfl (Or.inl rfl) (pv 1))
      (pss_cons (ps_while PassesOwn.never (PW.pt (pw_and (pt_cmpR op_lt (pv 4) (pe_callB call_len_str (by rfl) T.n_len bt_len (pa_cons (pv 0) pa_nil)) (nomark _)) (pw_and (pt_cmpR op_lt (pe_op op_sub (pv 4) (pv 1)) (pv 3) (nomark _)) (pw_and1 (pt_cmpR op_in_sign (pe_ix ix_str (pv 0) (pv 4) (fun _ _ => rfl)) (pv 2) rfl)))))
      (pss_one (ps_aug (i := 4) sc_run_length.nd rfl (Or.inl rfl) pe_int ip_add)))
      (pss_one (ps_ret (pe_op op_sub (pv 4) (pv 1)))))), ?_⟩
  have hl : (pre ++ (run ++ post)).length = pre.length + (run.length + post.length) := by simp
  refine ⟨_, rfl, ?_⟩
  refine wh (fun m σ H' => ∃ i : Nat, H' = H ∧ i ≤ run.length ∧ m = run.length - i ∧ σ = [some (.str (S (pre ++ (run ++ post)))), some (.int pre.length), some (.str signs), some (.int most), some (.int ((pre.length + i : Nat) : Int))]) run.length ⟨0, rfl, Nat.zero_le _, rfl, rfl⟩ ?_
  rintro m σ H1 ⟨i, rfl, hi, rfl, rfl⟩
  refine ⟨_, rfl, _, rfl, _, rfl, small hlen, _, _, rfl, rfl, _, rfl, ?_⟩
  rw [S_len]
  by_cases h1 : pre.length + i < (pre ++ (run ++ post)).length
  · rw [decide_eq_true (by exact_mod_cast h1)]
    refine iteT ⟨_, rfl, _, rfl, _, _, rfl, rfl, _, rfl, _, _, rfl, rfl, _, rfl, ?_⟩
    by_cases h2 : i < most
    · rw [decide_eq_true (by push_cast; omega)]
      obtain ⟨c, hc⟩ : ∃ c, (pre ++ (run ++ post))[pre.length + i]? = some c := ⟨_, List.getElem?_eq_getElem h1⟩
      refine iteT ⟨_, rfl, _, rfl, _, _, c, rfl, rfl, small hlen, at_code hc, _, rfl, c, _, rfl, rfl, _, rfl, ?_⟩
      rw [hsg]
      rw [List.getElem?_append_right (by omega), show pre.length + i - pre.length = i by omega] at hc
      by_cases h3 : i < run.length
      · rw [List.getElem?_append_left h3] at hc
        rw [hrun c (List.mem_of_getElem? hc)]
        refine iteT ⟨fun σ' H' => ∃ i' : Nat, H' = H1 ∧ i' = i + 1 ∧ σ' = [some (.str (S (pre ++ (run ++ post)))), some (.int pre.length), some (.str signs), some (.int most), some (.int ((pre.length + i' : Nat) : Int))], ?_, ?_⟩
        · rintro σ' H' ⟨i', rfl, rfl, rfl⟩
          exact ⟨run.length - (i + 1), by omega, i + 1, rfl, by omega, rfl, rfl⟩
        · exact ⟨_, rfl, _, _, rfl, rfl, i + 1, rfl, rfl, by push_cast; rw [Int.add_assoc]; rfl⟩
      · have hi' : i = run.length := by omega
        rw [List.getElem?_append_right (by omega)] at hc
        subst hi'
        rw [Nat.sub_self] at hc
        cases post with
        | nil => simp at hc
        | cons d ds =>
          have : d = c := by simpa using hc
          subst this
          rw [show p d = false from hpost]
          refine iteF ⟨_, rfl, _, rfl, _, _, rfl, rfl, ?_⟩
          have e : ((pre.length + run.length : Nat) : Int) - (pre.length : Int) = (run.length : Int) := by push_cast; omega
          dsimp only; rw [e]; exact hQ
    · rw [decide_eq_false (by push_cast; omega)]
      have hi' : i = run.length := by omega
      refine iteF (iteF ⟨_, rfl, _, rfl, _, _, rfl, rfl, ?_⟩)
      have e : ((pre.length + i : Nat) : Int) - (pre.length : Int) = (run.length : Int) := by push_cast; omega
      dsimp only; rw [e]; exact hQ
  · rw [decide_eq_false (by exact_mod_cast h1)]
    have hi' : i = run.length := by omega
    refine iteF (iteF ⟨_, rfl, _, rfl, _, _, rfl, rfl, ?_⟩)
    have e : ((pre.length + i : Nat) : Int) - (pre.length : Int) = (run.length : Int) := by push_cast; omega
    dsimp only; rw [e]; exact hQ

/-! ### one token -/
def Seg.kd : Seg → Str
  | .name _ => "name"
  | .num _ _ => "number"
  | .sym _ => "symbol"
  | .fin => "end"
  | .blank => ""
theorem symC_ok : ∀ c ∈ symC, isLet c = false ∧ isDig c = false ∧ decide (c ∈ ([59, 10] : List Nat)) = false := by decide
def spTok : Sp := spOf (fun x : List Nat × Seg × List Nat => [.str (S (x.1 ++ (x.2.1.codes ++ x.2.2))), .int x.1.length]) fun x H Q =>
  x.2.1.Ok x.2.2 ∧ x.2.1 ≠ .blank ∧ (x.1 ++ (x.2.1.codes ++ x.2.2)).length ≤ 8000 ∧ ∀ p, H p = none → Q (.ref p) (upd H p (.tup [.str x.2.1.kd, .int x.2.1.codes.length]))
theorem ok_token (F : FnP K "token_at" "token_at" s_token_at f fd) (T : Txt K mg CC CR CE RES) (c_run_length : C8.Cal P w K mg base 1 "run_length" spRun []) : FnOk P w K mg base CX0 2 f fd ["line", "at"] spTok := by
  refine ok0 F sc_token_at (fun _ => rfl) (fun cdv A outer s H y Q E hr h => ?_)
  obtain ⟨pre, g, post⟩ := y
  dsimp only at h
  obtain ⟨hok, hbl, hlen, hQ⟩ := h
  refine ⟨_, (pss_cons (ps_if (pt_cmpR op_in_sign (pe_ix ix_str (pv 0) (pv 1) (fun _ _ => rfl)) (pe_gc rfl T.g_LETTERS_reader) rfl)
      (pss_one (ps_ret (pe_tup (pa_cons pe_str (pa_cons (pe_c c_run_length hr (by omega) rfl (pa_cons (pv 0) (pa_cons (pv 1) (pa_cons (pe_gc rfl T.g_LETTERS_reader) (pa_cons (pe_gc rfl T.g_MAX_NAME_reader) pa_nil))))) pa_nil)))))
      pss_nil)
      (pss_cons (ps_if (pt_cmpR op_in_sign (pe_ix ix_str (pv 0) (pv 1) (fun _ _ => rfl)) (pe_gc rfl T.g_DIGITS) rfl)
      (pss_one (ps_ret (pe_tup (pa_cons pe_str (pa_cons (pe_c c_run_length hr (by omega) rfl (pa_cons (pv 0) (pa_cons (pv 1) (pa_cons (pe_gc rfl T.g_DIGITS) (pa_cons (pe_gc rfl T.g_MAX_DIGITS) pa_nil))))) pa_nil)))))
      pss_nil)
      (pss_cons (ps_if (pt_cmpR op_in_sign (pe_ix ix_str (pv 0) (pv 1) (fun _ _ => rfl)) (pe_gc rfl T.g_ENDS) rfl)
      (pss_one (ps_ret (pe_tup (pa_cons pe_str (pa_cons pe_int pa_nil)))))
      pss_nil)
      (pss_one (ps_ret (pe_ifExp (pt_cmpR op_in_sign (pe_ix ix_str (pv 0) (pv 1) (fun _ _ => rfl)) (pe_gc rfl T.g_SYMBOLS) rfl) (pe_tup (pa_cons pe_str (pa_cons pe_int pa_nil))) pe_non)))))), ?_⟩
  cases g with
  | name l =>
    obtain ⟨h1, h2, h3, h4⟩ := hok
    obtain ⟨c, l', rfl⟩ := List.exists_cons_of_ne_nil h1
    have hc : (pre ++ ((Seg.name (c :: l')).codes ++ post))[pre.length]? = some c := by simp [Seg.codes]
    refine ⟨_, rfl, _, rfl, _, _, _, rfl, rfl, small hlen, at_code hc, _, _, rfl, rfl, _, rfl, ?_⟩
    rw [let_mem, h3 c (List.mem_cons_self ..)]
    refine iteT ⟨_, rfl, _, rfl, (pre, c :: l', post, _, 8, isLet), rfl, let_mem, h3, h2, h4, hlen, by show 2 ≤ sizeLine; decide, fun p np => hQ p np⟩
  | num ds n =>
    obtain ⟨h1, h2, h3, _, h4⟩ := hok
    obtain ⟨c, l', rfl⟩ := List.exists_cons_of_ne_nil h1
    have hc : (pre ++ ((Seg.num (c :: l') n).codes ++ post))[pre.length]? = some c := by simp [Seg.codes]
    have hd := h3 c (List.mem_cons_self ..)
    have hl : isLet c = false := by
      unfold isDig at hd
      unfold isLet
      simp only [Bool.and_eq_true, decide_eq_true_eq] at hd
      rw [decide_eq_false (by omega : ¬ 97 ≤ c)]; rfl
    refine ⟨_, rfl, _, rfl, _, _, _, rfl, rfl, small hlen, at_code hc, _, _, rfl, rfl, _, rfl, ?_⟩
    rw [let_mem, hl]
    refine iteF ⟨_, rfl, _, rfl, _, _, _, rfl, rfl, small hlen, at_code hc, _, _, rfl, rfl, _, rfl, ?_⟩
    rw [dig_mem, hd]
    refine iteT ⟨_, rfl, _, rfl, (pre, c :: l', post, _, 30, isDig), rfl, dig_mem, h3, h2, h4, hlen, by show 2 ≤ sizeLine; decide, fun p np => hQ p np⟩
  | sym c =>
    have hc : (pre ++ ((Seg.sym c).codes ++ post))[pre.length]? = some c := by simp [Seg.codes]
    obtain ⟨h1, h2, h3⟩ := symC_ok c hok
    refine ⟨_, rfl, _, rfl, _, _, _, rfl, rfl, small hlen, at_code hc, _, _, rfl, rfl, _, rfl, ?_⟩
    rw [let_mem, h1]
    refine iteF ⟨_, rfl, _, rfl, _, _, _, rfl, rfl, small hlen, at_code hc, _, _, rfl, rfl, _, rfl, ?_⟩
    rw [dig_mem, h2]
    refine iteF ⟨_, rfl, _, rfl, _, _, _, rfl, rfl, small hlen, at_code hc, _, _, rfl, rfl, _, rfl, ?_⟩
    rw [ends, h3]
    refine iteF ⟨_, rfl, _, rfl, _, _, _, rfl, rfl, small hlen, at_code hc, _, _, rfl, rfl, _, rfl, ?_⟩
    rw [symbols, decide_eq_true (show c ∈ symC from hok)]
    exact iteT ⟨by show 2 ≤ sizeLine; decide, fun p np => hQ p np⟩
  | fin =>
    have hc : (pre ++ (Seg.fin.codes ++ post))[pre.length]? = some 59 := by simp [Seg.codes]
    refine ⟨_, rfl, _, rfl, _, _, _, rfl, rfl, small hlen, at_code hc, _, _, rfl, rfl, _, rfl, ?_⟩
    rw [let_mem, show isLet 59 = false by decide]
    refine iteF ⟨_, rfl, _, rfl, _, _, _, rfl, rfl, small hlen, at_code hc, _, _, rfl, rfl, _, rfl, ?_⟩
    rw [dig_mem, show isDig 59 = false by decide]
    refine iteF ⟨_, rfl, _, rfl, _, _, _, rfl, rfl, small hlen, at_code hc, _, _, rfl, rfl, _, rfl, ?_⟩
    rw [ends, show decide (59 ∈ ([59, 10] : List Nat)) = true by decide]
    exact iteT ⟨by show 2 ≤ sizeLine; decide, fun p np => hQ p np⟩
  | blank => exact absurd rfl hbl

/-! ### the tokens of a line -/
theorem seg_pos {g : Seg} {post : List Nat} (h : g.Ok post) : ∃ c l, g.codes = c :: l ∧ c ≠ 35 ∧ (g ≠ .blank → c ≠ 32) ∧ c ≠ 10 ∧ (g = .blank → c = 32) := by
  cases g with
  | name l =>
    obtain ⟨h1, h2, h3, h4⟩ := h
    obtain ⟨c, l', rfl⟩ := List.exists_cons_of_ne_nil h1
    have h := h3 c (List.mem_cons_self ..)
    simp only [isLet, Bool.and_eq_true, decide_eq_true_eq] at h
    exact ⟨c, l', rfl, by omega, fun _ => by omega, by omega, fun q => by cases q⟩
  | num ds n =>
    obtain ⟨h1, h2, h3, _, h4⟩ := h
    obtain ⟨c, l', rfl⟩ := List.exists_cons_of_ne_nil h1
    have h := h3 c (List.mem_cons_self ..)
    simp only [isDig, Bool.and_eq_true, decide_eq_true_eq] at h
    exact ⟨c, l', rfl, by omega, fun _ => by omega, by omega, fun q => by cases q⟩
  | sym c =>
    have : ∀ c ∈ symC, c ≠ 35 ∧ c ≠ 32 ∧ c ≠ 10 := by decide
    obtain ⟨h1, h2, h3⟩ := this c h
    exact ⟨c, [], rfl, h1, fun _ => h2, h3, fun q => by cases q⟩
  | fin => exact ⟨59, [], rfl, by decide, fun _ => by decide, by decide, fun q => by cases q⟩
  | blank => exact ⟨32, [], rfl, by decide, fun q => absurd rfl q, by decide, fun _ => rfl⟩
theorem segs_len {tail : List Nat} : ∀ {gs : List Seg}, SegsOk tail gs → gs.length ≤ (render gs).length
  | [], _ => Nat.le_refl _
  | g :: gs, h => by
    obtain ⟨h1, h2⟩ := h
    obtain ⟨c, l, e, _⟩ := seg_pos h1
    have := segs_len h2
    rw [render_cons, List.length_append, e, List.length_cons, List.length_cons]; omega
theorem toks_len (n : Int) : ∀ gs : List Seg, (toksOf n gs).length ≤ gs.length
  | [] => Nat.le_refl _
  | g :: gs => by
    have ih := toks_len n gs
    have e : toksOf n (g :: gs) = (g.toks.map fun t => (n, t)) ++ toksOf n gs := by simp [toksOf]
    rw [e, List.length_append, List.length_map, List.length_cons]
    have : g.toks.length ≤ 1 := by cases g <;> simp [Seg.toks]
    omega
theorem sign_eq {c d : Nat} {z : Str} (hz : z = S [d]) : decide (V.str ⟨#[c]⟩ = V.str z) = decide (c = d) := by
  subst hz
  refine decide_eq_decide.mpr ⟨fun h => ?_, fun h => by subst h; rfl⟩
  have h1 : (⟨#[c]⟩ : Str) = S [d] := V.str.inj h
  have h2 : (⟨#[c]⟩ : Str).cps.toList = (S [d]).cps.toList := by rw [h1]
  simpa [S, SX.S] using h2
theorem hash_S : ("#" : Str) = S [35] := by decide +kernel
theorem blank_S : (" " : Str) = S [32] := by decide +kernel
theorem nl_S : ("\n" : Str) = S [10] := by decide +kernel
theorem cut_mid (a b c : List Nat) : cutS (S (a ++ (b ++ c))) (some (a.length : Int)) (some ((a.length : Int) + (b.length : Int))) = S b := by
  unfold cutS
  rw [S_len, S_list]
  have e : (a.length : Int) + (b.length : Int) = ((a.length + b.length : Nat) : Int) := by push_cast; rfl
  rw [e, HT.sIx_nat, HT.sIx_nat]
  have h1 : min a.length (a ++ (b ++ c)).length = a.length := by simp
  have h2 : min (a.length + b.length) (a ++ (b ++ c)).length = a.length + b.length := by simp <;> omega
  rw [h1, h2, List.drop_left, Nat.add_sub_cancel_left, List.take_left]
theorem seg_word {g : Seg} {post : List Nat} (h : g.Ok post) (hb : g ≠ .blank) : ∃ t, g.toks = [t] ∧ t.kd = g.kd ∧ WordOf t (S g.codes) := by
  cases g with
  | name l => exact ⟨_, rfl, rfl, rfl⟩
  | num ds n =>
    obtain ⟨h1, h2, h3, h5, h4⟩ := h
    refine ⟨_, rfl, rfl, h5, by rw [S_len]; show ds.length ≤ 640; omega, ?_, by rw [S_list]; exact h1⟩
    intro c hc
    rw [S_list] at hc
    have := h3 c hc
    simpa [isDig] using this
  | sym c => exact ⟨_, rfl, rfl, rfl⟩
  | fin => exact ⟨_, rfl, rfl, rfl⟩
  | blank => exact absurd rfl hb
def spLineT : Sp := spOf (fun x : Int × List Seg × List Nat => [.int x.1, .str (S (render x.2.1 ++ x.2.2))]) fun x H Q => SegsOk x.2.2 x.2.1 ∧ (render x.2.1 ++ x.2.2).length ≤ 8000 ∧
  ∀ H' p xs, Same H H' → H p = none → H' p = some (.lst xs) → Paired (TokAt H') xs (toksOf x.1 x.2.1) → Q (.ref p) H'
theorem ok_line_tokens (F : FnP K "line_tokens" "line_tokens" s_line_tokens f fd) (T : Txt K mg CC CR CE RES) (c_token_at : C8.Cal P w K mg base 2 "token_at" spTok []) : FnOk P w K mg base CX0 3 f fd ["number", "line"] spLineT := by
  refine ok0 F sc_line_tokens (fun _ => rfl) (fun cdv A outer s H y Q E hr h => ?_)
  obtain ⟨n, segs, tail⟩ := y
  dsimp only at h
  obtain ⟨hok, hlen, hQ⟩ := h
  refine ⟨_, (pss_cons (ps_set (i := 2) sc_line_tokens.nd rfl (Or.inl rfl) (pe_lst pa_nil))
      (pss_cons (ps_set (i := 3) sc_line_tokens.nd rfl (Or.inl rfl) pe_int)
      (pss_cons (ps_while PassesOwn.never (PW.pt (pw_and (pt_cmpR op_lt (pv 3) (pe_callB call_len_str (by rfl) T.n_len bt_len (pa_cons (pv 1) pa_nil)) (nomark _)) (pw_and1 (pt_cmpR op_ne (pe_ix ix_str (pv 1) (pv 3) (fun _ _ => rfl)) pe_str (nomark _)))))
      (pss_cons (ps_if (pt_cmpR op_eq (pe_ix ix_str (pv 1) (pv 3) (fun _ _ => rfl)) pe_str (nomark _))
      (pss_cons (ps_aug (i := 3) sc_line_tokens.nd rfl (Or.inl rfl) pe_int ip_add)
      (pss_one ps_continue))
      pss_nil)
      (pss_cons (ps_set (i := 4) sc_line_tokens.nd rfl (Or.inl rfl) (pe_c c_token_at hr (by omega) rfl (pa_cons (pv 1) (pa_cons (pv 3) pa_nil))))
      (pss_cons (ps_if (pt_cmpR op_isN (pv 4) pe_non (nomark _))
      (pss_one ps_never)
      pss_nil)
      (pss_cons (ps_expr (pe_bm PySem.F.plainAttrs_list PySem.F.slot_list_append PySem.F.type_list_append mt_append (pv 2) (pa_cons (pe_tup (pa_cons (pv 0) (pa_cons (pe_ix ix_tup (pv 4) pe_int (fun _ _ => rfl)) (pa_cons (pe_slice sl_str (pv 1) (po_some (pv 3)) (po_some (pe_op op_add (pv 3) (pe_ix ix_tup (pv 4) pe_int (fun _ _ => rfl))))) pa_nil)))) pa_nil)))
      (pss_one (ps_aug (i := 3) sc_line_tokens.nd rfl (Or.inl rfl) (pe_ix ix_tup (pv 4) pe_int (fun _ _ => rfl)) ip_add)))))))
      (pss_one (ps_ret (pv 2)))))), ?_⟩
  generalize hL : render segs ++ tail = L at hlen
  refine ⟨Nat.zero_le _, fun p np => ?_⟩
  refine wh (fun m σ H' => ∃ done rest xs o, segs = done ++ rest ∧ SegsOk tail rest ∧ m = rest.length ∧ σ = [some (.int n), some (.str (S L)), some (.ref p), some (.int (render done).length), o] ∧ Same H H' ∧ H' p = some (.lst xs) ∧ Paired (TokAt H') xs (toksOf n done)) segs.length
    ⟨[], segs, [], none, rfl, hok, rfl, rfl, Same.upd np, upd_same, .nil⟩ ?_
  rintro m σ H2 ⟨done, rest, xs, o, hseg, hok2, rfl, rfl, e2, hp2, d2⟩
  have hLr : L = render done ++ (render rest ++ tail) := by rw [← hL, hseg, render_app, List.append_assoc]
  have hxl : xs.length < sizeLine := by
    have a1 := PLen d2
    have a2 := toks_len n done
    have a3 := segs_len hok
    have a4 : done.length ≤ segs.length := by rw [hseg, List.length_append]; omega
    have a5 : (render segs).length ≤ L.length := by rw [← hL, List.length_append]; omega
    rw [sizeLine_eq]; omega
  refine ⟨_, rfl, _, rfl, _, rfl, small hlen, _, _, rfl, rfl, _, rfl, ?_⟩
  rw [S_len]
  cases rest with
  | nil =>
    have fin : Q (.ref p) H2 := by
      rw [List.append_nil] at hseg
      subst hseg
      exact hQ H2 p xs e2 np hp2 d2
    rcases hok2 with rfl | ⟨r, rfl⟩
    · rw [decide_eq_false (by rw [hLr]; simp [render])]
      exact iteF (iteF ⟨_, rfl, fin⟩)
    · rw [decide_eq_true (by rw [hLr]; simp [render] <;> omega)]
      have hc : L[(render done).length]? = some 35 := by rw [hLr]; simp [render]
      refine iteT ⟨_, rfl, _, rfl, _, _, _, rfl, rfl, small hlen, at_code hc, rfl, _, rfl, ?_⟩
      rw [sign_eq hash_S, decide_eq_true rfl]
      exact iteF ⟨_, rfl, fin⟩
  | cons g gs =>
    obtain ⟨hg, hok3⟩ := hok2
    obtain ⟨c, l, hcl, h35, h32, _, hb32⟩ := seg_pos hg
    have hLg : L = render done ++ (g.codes ++ (render gs ++ tail)) := by rw [hLr, render_cons, List.append_assoc]
    have hc : L[(render done).length]? = some c := by rw [hLg, hcl]; simp
    have hlt : ((render done).length : Int) < (L.length : Int) := by rw [hLg, hcl]; simp <;> omega
    rw [decide_eq_true hlt]
    refine iteT ⟨_, rfl, _, rfl, _, _, _, rfl, rfl, small hlen, at_code hc, rfl, _, rfl, ?_⟩
    rw [sign_eq hash_S, decide_eq_false h35]
    have hren : render (done ++ [g]) = render done ++ g.codes := by rw [render_app]; simp [render]
    refine iteT ⟨fun σ' H' => ∃ xs' o', σ' = [some (.int n), some (.str (S L)), some (.ref p), some (.int (render (done ++ [g])).length), o'] ∧ Same H H' ∧ H' p = some (.lst xs') ∧ Paired (TokAt H') xs' (toksOf n (done ++ [g])), ?_, ?_⟩
    · rintro σ' H' ⟨xs', o', rfl, e', hp', d'⟩
      exact ⟨gs.length, by simp, done ++ [g], gs, xs', o', by rw [hseg, List.append_assoc]; rfl, hok3, rfl, rfl, e', hp', d'⟩
    · refine ⟨_, rfl, _, rfl, _, _, _, rfl, rfl, small hlen, at_code hc, rfl, _, rfl, ?_⟩
      rw [sign_eq blank_S]
      by_cases hb : g = .blank
      · rw [decide_eq_true (hb32 hb)]
        subst hb
        refine iteT ⟨_, rfl, _, _, rfl, rfl, xs, o, ?_, e2, hp2, ?_⟩
        · rw [hren, List.length_append]; rfl
        · rw [toksOf_app]
          have : toksOf n [Seg.blank] = [] := rfl
          rw [this, List.append_nil]; exact d2
      · rw [decide_eq_false (h32 hb)]
        refine iteF ?_
        refine ⟨_, rfl, _, rfl, (render done, g, render gs ++ tail), (by show [V.str (S L), _] = _; rw [hLg]), hg, hb, (by rw [← hLg]; exact hlen), fun q nq => ?_⟩
        have npq : p ≠ q := ne_of_none hp2 nq
        refine ⟨_, rfl, rfl, _, rfl, ?_⟩
        rw [decide_eq_false (by intro z; cases z)]
        refine iteF ?_
        have hpq : (upd H2 q (.tup [.str g.kd, .int g.codes.length])) p = some (.lst xs) := by rw [upd_ne npq]; exact hp2
        refine ⟨_, rfl, .inl ⟨rfl, _, SqL.of hpq⟩, _, rfl, _, rfl, q, _, _, _, rfl, rfl, SqT.of upd_same, rfl, _, rfl, _, rfl, _, rfl, _, rfl, _, rfl, q, _, _, _, rfl, rfl, SqT.of upd_same, rfl, _, _, rfl, rfl, _, rfl, _, rfl, small hlen, by show 3 ≤ sizeLine; decide, fun q2 nq2 => ?_⟩
        have hcut : cutS (S L) (some ((render done).length : Int)) (some (((render done).length : Int) + (g.codes.length : Int))) = S g.codes := by rw [hLg]; exact cut_mid _ _ _
        dsimp only
        rw [hcut]
        obtain ⟨t, ht, hkd, hwd⟩ := seg_word hg hb
        have nq2 : (upd H2 q (.tup [.str g.kd, .int g.codes.length])) q2 = none := nq2
        have npq2 : p ≠ q2 := ne_of_none hpq nq2
        have hpq2 : (upd (upd H2 q (.tup [.str g.kd, .int g.codes.length])) q2 (.tup [.int n, .str g.kd, .str (S g.codes)])) p = some (.lst xs) := by rw [upd_ne npq2]; exact hpq
        have nqq : q ≠ q2 := ne_of_none upd_same nq2
        refine ⟨p, xs, _, rfl, rfl, hpq2, hxl, ?_⟩
        refine ⟨_, rfl, _, rfl, q, _, _, _, rfl, rfl, SqT.of (by rw [upd_ne npq.symm, upd_ne nqq]; exact upd_same), rfl, _, _, rfl, rfl, _, some (.ref q), ?_, ?_, upd_same, ?_⟩
        · rw [hren, List.length_append]; rfl
        · exact Same.updN (Same.upd' (Same.upd' e2 nq) nq2) np
        · rw [toksOf_app]
          have up : TupE H2 (upd (upd (upd H2 q (.tup [.str g.kd, .int g.codes.length])) q2 (.tup [.int n, .str g.kd, .str (S g.codes)])) p (.lst (xs ++ [.ref q2]))) :=
            (TupE.of (Same.upd' (Same.upd nq) nq2)).trans (tup_upd ⟨xs, hpq2⟩)
          refine PApp (PMono (fun _ _ h => h.mono up) d2) ?_
          have : toksOf n [g] = [(n, t)] := by simp [toksOf, ht]
          rw [this]
          exact .cons ⟨q2, S g.codes, rfl, by rw [upd_ne npq2.symm, hkd]; exact upd_same, hwd⟩ .nil
end
end FJ

set_option Elab.async false
set_option linter.all false
set_option maxRecDepth 100000
set_option maxHeartbeats 4000000
/-! the tokens of a text; parse_script -/
namespace FJ
open PySem PySem.Spec PyProof.Rows L2
open C8 (pe_c pe_mk pe_mt pe_mt0 pe_gc)

abbrev Ln := List Seg × List Nat
def Ln.codes (l : Ln) : List Nat := render l.1 ++ l.2
def Ln.Ok (l : Ln) : Prop := SegsOk l.2 l.1 ∧ (10 : Nat) ∉ l.codes
def tt (total : Nat) : Nat → List Ln → List (Int × Tok)
  | _, [] => []
  | i, l :: r => toksOf ((i : Int) + 1) l.1 ++ ((if i + 1 < total then [((i : Int) + 1, .fin (S [10]))] else []) ++ tt total (i + 1) r)
def txtOf (lns : List Ln) : List Nat := TL.joinL [10] (lns.map Ln.codes)
theorem join_len : ∀ {ps : List (List Nat)} {l : List Nat}, l ∈ ps → l.length ≤ (TL.joinL [10] ps).length
  | [], _, h => by cases h
  | [p], l, h => by
    rcases List.mem_cons.mp h with rfl | h
    · exact Nat.le_refl _
    · cases h
  | p :: q :: r, l, h => by
    rcases List.mem_cons.mp h with rfl | h
    · show _ ≤ (_ ++ ([10] ++ TL.joinL [10] (q :: r))).length
      simp
    · have := join_len h
      show _ ≤ (_ ++ ([10] ++ TL.joinL [10] (q :: r))).length
      simp; omega
section
variable {P : Program} {w : World} {K : PySem.W.Frag} {mg : Str → Option Value} {base : Heap} {CC CR CE RES : Addr} {f : Addr} {fd : FuncData}
def TxtOk (lns : List Ln) : Prop := lns ≠ [] ∧ (∀ l ∈ lns, Ln.Ok l) ∧ (txtOf lns).length ≤ 8000 ∧ (tt lns.length 0 lns).length ≤ 20000
def spText : Sp := spOf (fun lns : List Ln => [.str (S (txtOf lns))]) fun lns H Q => TxtOk lns ∧ ∀ H' p xs, Same H H' → H p = none → H' p = some (.lst xs) → Paired (TokAt H') xs (tt lns.length 0 lns) → Q (.ref p) H'
theorem ok_text_tokens (F : FnP K "text_tokens" "text_tokens" s_text_tokens f fd) (T : Txt K mg CC CR CE RES) (c_line_tokens : C8.Cal P w K mg base 3 "line_tokens" spLineT []) : FnOk P w K mg base CX0 4 f fd ["text"] spText := by
  refine ok0 F sc_text_tokens (fun _ => rfl) (fun cdv A outer s H lns Q E hr h => ?_)
  obtain ⟨⟨hne, hok, hlen, htt⟩, hQ⟩ := h
  refine ⟨_, (pss_cons (ps_set (i := 1) sc_text_tokens.nd rfl (Or.inl rfl) (pe_split (pv 0) pe_str))
      (pss_cons (ps_set (i := 2) sc_text_tokens.nd rfl (Or.inl rfl) (pe_lst pa_nil))
      (pss_cons (ps_for PassesOwn.never rfl (pi_enum (by rfl) T.n_enumerate (pa_cons (pv 1) pa_nil)) (pg_tup rfl (pgs_cons (pg_name (i := 3) sc_text_tokens.nd rfl (Or.inl rfl)) (pgs_cons (pg_name (i := 4) sc_text_tokens.nd rfl (Or.inl rfl)) pgs_nil)))
      (pss_cons (ps_expr (pe_bm PySem.F.plainAttrs_list PySem.F.slot_list_extend PySem.F.type_list_extend mt_extend (pv 2) (pa_cons (pe_c c_line_tokens hr (by omega) rfl (pa_cons (pe_op op_add (pv 3) pe_int) (pa_cons (pv 4) pa_nil))) pa_nil)))
      (pss_one (ps_if (pt_cmpR op_lt (pe_op op_add (pv 3) pe_int) (pe_callB call_len_seq (by rfl) T.n_len bt_len (pa_cons (pv 1) pa_nil)) (nomark _))
      (pss_one (ps_expr (pe_bm PySem.F.plainAttrs_list PySem.F.slot_list_append PySem.F.type_list_append mt_append (pv 2) (pa_cons (pe_tup (pa_cons (pe_op op_add (pv 3) pe_int) (pa_cons pe_str (pa_cons pe_str pa_nil)))) pa_nil))))
      pss_nil))))
      (pss_one (ps_ret (pv 2)))))), ?_⟩
  have hspl : Txt.split (S (txtOf lns)) ("\n" : Str) = (lns.map Ln.codes).map S := by
    rw [nl_S]
    show Txt.split (SX.S _) (SX.S [10]) = _
    rw [SX.split_S (by simp) (by decide)]
    unfold txtOf
    rw [SX.spl_join (by simpa using hne) (fun p hp => by
      obtain ⟨l, hl, rfl⟩ := List.mem_map.mp hp
      exact (hok l hl).2)]
  refine ⟨_, rfl, ⟨_, rfl⟩, _, _, rfl, rfl, (by decide +kernel), (by rw [S_len, sizeLine_eq]; omega), fun l nl => ?_⟩
  rw [hspl]
  refine ⟨Nat.zero_le _, fun p np => ?_⟩
  have nlp : l ≠ p := ne_of_none upd_same np
  generalize hH1 : upd H l (.lst (((lns.map Ln.codes).map S).map V.str)) = H1 at np
  have hl1 : H1 l = some (.lst (((lns.map Ln.codes).map S).map V.str)) := by rw [← hH1]; exact upd_same
  have e0 : Same H H1 := by rw [← hH1]; exact Same.upd nl
  have npH : H p = none := Same.free e0 np
  have hlist : ∀ H', Same H1 H' → SqL K H' l (((lns.map Ln.codes).map S).map V.str) := fun H' e => SqL.of (e _ _ hl1)
  refine ⟨_, rfl, l, _, rfl, hlist _ (Same.upd np), for_it (walk_enum (K := K) (xs := ((lns.map Ln.codes).map S).map V.str)) (fun i σ H' => ∃ done rest acc xs o1 o2, lns = done ++ rest ∧ done.length = i ∧ σ = [some (.str (S (txtOf lns))), some (.ref l), some (.ref p), o1, o2] ∧ Same H1 H' ∧
      H' p = some (.lst xs) ∧ Paired (TokAt H') xs acc ∧ tt lns.length 0 lns = acc ++ tt lns.length i rest)
    ⟨[], lns, [], [], _, _, rfl, rfl, rfl, Same.upd np, upd_same, .nil, rfl⟩ (fun i σ H' _ ⟨_, _, _, _, _, _, _, _, _, e, _⟩ => hlist H' e) ?_ ?_⟩
  · rintro i x σ H2 H3 hi ⟨done, rest, acc, xs, o1, o2, hd, hdl, rfl, e2, hp2, d2, ht⟩ ⟨T', x1, y1, rfl, nT, rfl, hx1, hy1⟩
    obtain rfl : x1 = .int i := by cases hx1; rfl
    cases rest with
    | nil =>
      exfalso
      rw [List.length_map, List.length_map, List.length_map, hd, List.append_nil, hdl] at hi
      omega
    | cons ln rest =>
      have hln : ln ∈ lns := by rw [hd]; simp
      have hy : y1 = .str (S ln.codes) := by
        rw [hd] at hy1
        simp only [List.map_append, List.map_cons] at hy1
        rw [List.getElem?_append_right (by simp [hdl])] at hy1
        simp [hdl] at hy1
        exact hy1.symm
      subst hy
      have npT : p ≠ T' := ne_of_none hp2 nT
      refine ⟨T', _, rfl, SqT.of upd_same, rfl, _, _, rfl, _, _, rfl, rfl, ?_⟩
      have hpT : (upd H2 T' (.tup [.int (i : Nat), .str (S ln.codes)])) p = some (.lst xs) := by rw [upd_ne npT]; exact hp2
      have hxs : xs.length ≤ 20000 := by
        have a := PLen d2
        have b : (tt lns.length 0 lns).length = acc.length + (tt lns.length i (ln :: rest)).length := by rw [ht, List.length_append]
        omega
      have hll : ln.codes.length ≤ 8000 := Nat.le_trans (join_len (List.mem_map.mpr ⟨ln, hln, rfl⟩)) hlen
      refine ⟨_, rfl, .inl ⟨rfl, _, SqL.of hpT⟩, _, rfl, _, _, rfl, rfl, _, rfl, ((i : Int) + 1, ln.1, ln.2), rfl, (hok ln hln).1, hll, fun H4 q zs (e4 : Same _ H4) nq (hq : H4 q = _) (dq : Paired (TokAt H4) zs (toksOf ((i : Int) + 1) ln.1)) => ?_⟩
      have npq : p ≠ q := fun z => by rw [z, nq] at hpT; cases hpT
      have hp4 := e4 _ _ hpT
      have hzs : zs.length ≤ 20000 := by
        have a := PLen dq
        have b : (tt lns.length 0 lns).length = acc.length + (tt lns.length i (ln :: rest)).length := by rw [ht, List.length_append]
        have c : (tt lns.length i (ln :: rest)).length ≥ (toksOf ((i : Int) + 1) ln.1).length := by
          unfold tt; rw [List.length_append]; omega
        omega
      refine ⟨p, q, xs, zs, rfl, rfl, hp4, hq, (by rw [sizeLine_eq]; omega), ?_⟩
      have E4 : Same H1 H4 := e2.trans ((Same.upd nT).trans e4)
      have E5 : Same H1 (upd H4 p (.lst (xs ++ zs))) := Same.updN E4 np
      have up5 : TupE H4 (upd H4 p (.lst (xs ++ zs))) := tup_upd ⟨xs, hp4⟩
      have d5 : Paired (TokAt (upd H4 p (.lst (xs ++ zs)))) (xs ++ zs) (acc ++ toksOf ((i : Int) + 1) ln.1) :=
        PApp (PMono (fun _ _ h => h.mono ((TupE.of ((Same.upd nT).trans e4)).trans up5)) d2) (PMono (fun _ _ h => h.mono up5) dq)
      refine ⟨_, rfl, _, _, rfl, rfl, _, rfl, l, _, rfl, .inl (hlist _ E5), _, _, rfl, rfl, _, rfl, ?_⟩
      have hlen2 : (((lns.map Ln.codes).map S).map V.str).length = lns.length := by simp
      rw [hlen2]
      have hdr : lns = (done ++ [ln]) ++ rest := by rw [hd, List.append_assoc]; rfl
      have htt2 : tt lns.length i (ln :: rest) = toksOf ((i : Int) + 1) ln.1 ++ ((if i + 1 < lns.length then [((i : Int) + 1, .fin (S [10]))] else []) ++ tt lns.length (i + 1) rest) := rfl
      by_cases hlt : i + 1 < lns.length
      · rw [decide_eq_true (by exact_mod_cast hlt)]
        rw [if_pos hlt] at htt2
        refine iteT ⟨_, rfl, .inl ⟨rfl, _, SqL.of upd_same⟩, _, rfl, _, _, rfl, rfl, by show 3 ≤ sizeLine; decide, fun q2 nq2 => ?_⟩
        have npq2 : p ≠ q2 := ne_of_none upd_same nq2
        have hp6 : (upd (upd H4 p (.lst (xs ++ zs))) q2 (.tup [.int ((i : Int) + 1), .str "end", .str "\n"])) p = some (.lst (xs ++ zs)) := by rw [upd_ne npq2]; exact upd_same
        refine ⟨p, _, _, rfl, rfl, hp6, (by rw [List.length_append, sizeLine_eq]; omega), ?_⟩
        refine ⟨done ++ [ln], rest, acc ++ toksOf ((i : Int) + 1) ln.1 ++ [((i : Int) + 1, .fin (S [10]))], _, _, _, hdr, (by rw [List.length_append, hdl]; rfl), rfl, Same.updN (Same.upd' E5 nq2) np, upd_same, ?_, ?_⟩
        · have up7 : TupE (upd H4 p (.lst (xs ++ zs))) (upd (upd (upd H4 p (.lst (xs ++ zs))) q2 (.tup [.int ((i : Int) + 1), .str "end", .str "\n"])) p (.lst ((xs ++ zs) ++ [.ref q2]))) := (TupE.of (Same.upd nq2)).trans (tup_upd ⟨_, hp6⟩)
          refine PApp (PMono (fun _ _ h => h.mono up7) d5) (.cons ⟨q2, "\n", rfl, by rw [upd_ne npq2.symm]; exact upd_same, nl_S⟩ .nil)
        · rw [ht, htt2]; simp [List.append_assoc]
      · rw [decide_eq_false (by exact_mod_cast hlt)]
        rw [if_neg hlt] at htt2
        refine iteF ⟨done ++ [ln], rest, acc ++ toksOf ((i : Int) + 1) ln.1, _, _, _, hdr, (by rw [List.length_append, hdl]; rfl), rfl, E5, upd_same, d5, ?_⟩
        rw [ht, htt2]; simp [List.append_assoc]
  · rintro σ H2 ⟨done, rest, acc, xs, o1, o2, hd, hdl, rfl, e2, hp2, d2, ht⟩
    have hr0 : rest = [] := by
      have a : (((lns.map Ln.codes).map S).map V.str).length = lns.length := by simp
      rw [a] at hdl
      have b : lns.length = done.length + rest.length := by rw [← List.length_append, ← hd]
      exact List.eq_nil_of_length_eq_zero (by omega)
    subst hr0
    rw [show tt lns.length _ ([] : List Ln) = [] from by cases lns.length <;> rfl, List.append_nil] at ht
    refine ⟨_, rfl, ?_⟩
    rw [← ht] at d2
    exact hQ H2 p xs (e0.trans e2) npH hp2 d2

/-! ### parse_script -/
def spParse (K : PySem.W.Frag) (ex : PF) : Sp := spOf (fun x : List Ln × List Row => [.str (S (txtOf x.1))]) fun x H Q => TxtOk x.1 ∧ (∀ last tl, pScript ex (tt x.1.length 0 x.1) last tl = some x.2) ∧
  ∀ H' p xs, Same H H' → H p = none → H' p = some (.lst xs) → TdAll K H' xs (x.2.map Row.data) → Q (.ref p) H'
theorem ok_parse {k : Nat} {ex : PF} (hk : 4 ≤ k) (F : FnP K "parse_script" "parse_script" s_parse_script f fd) (T : Txt K mg CC CR CE RES) (c_text_tokens : C8.Cal P w K mg base 4 "text_tokens" spText []) (c_Reader : C8.Mak P w K mg base 1 "Reader" CR (spRInit CR) [])
    (c_script : C8.Met P w K mg base k CR "script" (spScript CR K ex) []) : FnOk P w K mg base CX0 (k + 1) f fd ["text"] (spParse K ex) := by
  refine ok0 F sc_parse_script (fun _ => rfl) (fun cdv A outer s H y Q E hr h => ?_)
  obtain ⟨lns, rows⟩ := y
  dsimp only at h
  obtain ⟨hok, hrows, hQ⟩ := h
  refine ⟨_, (pss_cons (ps_if (PW.pt (pw_or (pt_not (pt_val (pe_callB call_isi (by rfl) T.n_isinstance bt_isinstance (pa_cons (pv 0) (pa_cons (pe_bltn (v := .ty "str") (by rfl) T.n_str bt_str rfl) pa_nil))))) (pw_or1 (pt_cmpR op_gt (pe_callB call_len_str (by rfl) T.n_len bt_len (pa_cons (pv 0) pa_nil)) (pe_gc rfl T.g_MAX_TEXT) (nomark _)))))
      (pss_one ps_never)
      pss_nil)
      (pss_one (ps_ret (pe_mt0 c_script hr (by omega) (pe_mk c_Reader hr (by omega) rfl (pa_cons (pe_c c_text_tokens hr (by omega) rfl (pa_cons (pv 0) pa_nil)) (pa_cons (pe_op op_add (pe_m1 PySem.F.slot_str_count PySem.F.type_str_count mt_count (pv 0) pe_str) pe_int) pa_nil))))))), ?_⟩
  have hS : (S (txtOf lns)).length ≤ 8000 := by rw [S_len]; exact hok.2.2.1
  dsimp only
  refine ⟨_, rfl, _, _, _, _, true, rfl, .ty "str", .base (.str _), kit_ty (by decide +kernel), _, rfl, ?_⟩
  refine iteF ⟨_, rfl, _, rfl, (by rw [sizeLine_eq]; omega), _, _, rfl, rfl, _, rfl, ?_⟩
  rw [decide_eq_false (by omega)]
  refine iteF ?_
  refine ⟨_, rfl, lns, rfl, hok, fun H1 l xs (e1 : Same H H1) nl hl dl => ?_⟩
  refine ⟨_, rfl, ⟨_, rfl⟩, _, _, rfl, rfl, _, _, rfl, rfl, ?_⟩
  intro r dx nr ndx nrd
  have nr : H1 r = none := nr
  have ndx : H1 dx = none := ndx
  refine ⟨(r, l, _, dx), rfl, upd_same, fun H2 (e2 : XE r (upd (upd H1 dx (.own r)) r (.ins CR dx [])) H2) (hr2 : H2 r = some (.ins CR dx (rf l _ 0 0 0))) => ⟨rfl, ?_⟩⟩
  have keep : ∀ a o, H1 a = some o → H2 a = some o := fun a o h => e2 a o (ne_of_none h nr) (by rw [upd_ne (ne_of_none h nr), upd_ne (ne_of_none h ndx)]; exact h)
  refine ⟨r, dx, _, rfl, hr2, (by kernel_rfl), (r, tt lns.length 0 lns, (Txt.count (S (txtOf lns)) ("\n" : Str)) + 1, l, rows), rfl, ?_, hrows _ _, fun H3 p ys (e3 : XE r H2 H3) np hp d3 => ?_⟩
  · exact ⟨dx, l, xs, hr2, keep _ _ hl, PMono (fun _ _ h => h.mono fun a zs q => keep _ _ q) dl, rfl⟩
  · have k2 : ∀ a o, H a = some o → H2 a = some o := fun a o h => keep a o (e1 a o h)
    refine hQ H3 p ys (fun a o h => e3 a o (fun z => ?_) (k2 a o h)) ?_ hp d3
    · rw [z] at h; rw [e1 _ _ h] at nr; cases nr
    · cases e : H p with
      | none => rfl
      | some o => rw [k2 _ _ e] at np; cases np
end
end FJ

set_option Elab.async false
set_option linter.all false
set_option maxRecDepth 100000
set_option maxHeartbeats 4000000
/-! numbers, names, pieces: lengths, counts, joining -/
namespace FJ
open PySem PySem.Spec PyProof.Rows L2
open C8 (pe_c pe_mk pe_mt pe_mt0 pe_gc)

section
variable {P : Program} {w : World} {K : PySem.W.Frag} {mg : Str → Option Value} {base : Heap} {CC CR CE RES : Addr} {f : Addr} {fd : FuncData}
def spIsInt : Sp := spOf (fun i : Int => [.int i]) fun i H Q => Q (.bl true) H
theorem ok_is_integer (F : FnP K "is_integer" "is_integer" s_is_integer f fd) (T : Txt K mg CC CR CE RES) : FnOk P w K mg base CX0 1 f fd ["value"] spIsInt := by
  refine ok0 F sc_is_integer (fun _ => rfl) (fun cdv A outer s H i Q E hr h => ?_)
  refine ⟨_, (pss_one (ps_ret (pe_and (pe_callB call_isi (by rfl) T.n_isinstance bt_isinstance (pa_cons (pv 0) (pa_cons (pe_bltn (v := .ty "int") (by rfl) T.n_int bt_int rfl) pa_nil))) (pe_one (pe_not (pe_callB call_isi (by rfl) T.n_isinstance bt_isinstance (pa_cons (pv 0) (pa_cons (pe_bltn (v := .ty "bool") (by rfl) T.n_bool bt_bool rfl) pa_nil)))))))), ?_⟩
  refine ⟨_, rfl, _, _, _, _, true, rfl, .ty "int", .base (.int _), kit_ty (by decide +kernel), _, rfl, iteT ?_⟩
  exact ⟨_, rfl, _, _, _, _, false, rfl, .ty "bool", .base (.int _), kit_ty (by decide +kernel), _, rfl, h⟩
def spBetween : Sp := spOf (fun x : Int × Int × Int => [.int x.1, .int x.2.1, .int x.2.2]) fun x H Q => x.2.1 ≤ x.1 ∧ x.1 ≤ x.2.2 ∧ Q (.bl true) H
theorem ok_is_between (F : FnP K "is_between" "is_between" s_is_between f fd) (T : Txt K mg CC CR CE RES) (c_is_integer : C8.Cal P w K mg base 1 "is_integer" spIsInt []) : FnOk P w K mg base CX0 2 f fd ["value", "least", "most"] spBetween := by
  refine ok0 F sc_is_between (fun _ => rfl) (fun cdv A outer s H x Q E hr h => ?_)
  obtain ⟨v, lo, hi⟩ := x
  obtain ⟨h1, h2, h⟩ := h
  refine ⟨_, (pss_one (ps_ret (pe_and (pe_c c_is_integer hr (by omega) rfl (pa_cons (pv 0) pa_nil)) (pe_one (pe_chain op_le op_le (pv 1) (pv 0) (pv 2)))))), ?_⟩
  refine ⟨_, rfl, v, rfl, _, rfl, iteT ?_⟩
  refine ⟨_, rfl, _, rfl, _, _, rfl, rfl, _, rfl, ?_⟩
  rw [decide_eq_true h1]
  refine iteT ⟨_, rfl, _, _, rfl, rfl, ?_⟩
  dsimp only
  rw [decide_eq_true h2]
  exact h
def spIsName : Sp := spOf (fun l : List Nat => [.str (S l)]) fun l H Q => 1 ≤ l.length ∧ l.length ≤ 8 ∧ (∀ c ∈ l, isLet c = true) ∧ ∀ H', Same H H' → Q (.bl true) H'
theorem ok_is_name (F : FnP K "is_name" "is_name" s_is_name f fd) (T : Txt K mg CC CR CE RES) : FnOk P w K mg base CX0 1 f fd ["value"] spIsName := by
  refine ok0 F sc_is_name (fun _ => rfl) (fun cdv A outer s H l Q E hr h => ?_)
  obtain ⟨h1, h2, h3, hQ⟩ := h
  refine ⟨_, (pss_one (ps_ret (pe_and (pe_callB call_isi (by rfl) T.n_isinstance bt_isinstance (pa_cons (pv 0) (pa_cons (pe_bltn (v := .ty "str") (by rfl) T.n_str bt_str rfl) pa_nil))) (pe_and (pe_chain op_le op_le pe_int (pe_callB call_len_str (by rfl) T.n_len bt_len (pa_cons (pv 0) pa_nil)) (pe_gc rfl T.g_MAX_NAME_clips)) (pe_one (pe_callB (cr_all rfl) (by rfl) T.n_all bt_all (pa_cons (pe_lc (own := [("sign", 1)]) (g := gName 1) (tt := tYes) rfl sc_is_name.nd (pi_str (pv 0)) (blkOk_by (own := [("sign", 1)]) (N := ["value", "sign"]) (sc := defScope s_is_name) (by decide +kernel)) (fun _ _ _ _ _ => pg_name (i := 1) sc_is_name.nd rfl (Or.inl rfl)) (fun _ _ _ _ _ => pts_nil) (fun _ _ _ _ _ => (pe_cmpR op_in_sign (pv 1) (pe_gc rfl T.g_LETTERS_clips) rfl))) pa_nil))))))), ?_⟩
  refine ⟨_, rfl, _, _, _, _, true, rfl, .ty "str", .base (.str _), kit_ty (by decide +kernel), _, rfl, iteT ?_⟩
  refine ⟨_, rfl, _, rfl, (by rw [S_len, sizeLine_eq]; omega), _, _, rfl, rfl, _, rfl, ?_⟩
  rw [S_len, decide_eq_true (by omega)]
  refine iteT ⟨_, _, rfl, rfl, _, rfl, ?_⟩
  rw [decide_eq_true (by omega)]
  refine iteT ?_
  refine ⟨_, rfl, _, rfl, fun D nD => lc_it (walk_str (z := S l)) (fun i H' => Same H H' ∧ H' D = some (.lst ((List.replicate i true).map V.bl))) ⟨Same.upd nD, upd_same⟩ (fun _ _ _ _ => trivial) ?_ ?_⟩
  · rintro i x H2 H3 hi ⟨e2, hD⟩ ⟨rfl, c, hc, rfl⟩
    have hc2 : l[i]? = some c := by
      have : (S l).cps[i]? = (S l).cps.toList[i]? := by simp
      rw [this, S_list] at hc
      exact hc
    refine ⟨rfl, _, rfl, c, _, rfl, rfl, ?_⟩
    rw [let_mem, h3 c (List.mem_of_getElem? hc2)]
    refine ⟨_, hD, ?_, Same.updN e2 nD, ?_⟩
    · have : (S l).cps.size = l.length := S_len l
      simp; rw [sizeLine_eq]; omega
    · rw [upd_same, List.replicate_succ', List.map_append]; rfl
  · rintro H2 ⟨e2, hD⟩
    refine ⟨D, List.replicate (S l).cps.size true, rfl, SqL.of hD, ?_⟩
    have : (List.replicate (S l).cps.size true).all id = true := by simp
    rw [this]
    exact hQ H2 e2

theorem ix_tupK (K : PySem.W.Frag) {X : Cx} (h : X.K = K) : IxR X (rIxT K) := h ▸ ix_tup
/-! ### heads of pieces -/
theorem d_ss : decide (V.str ("silence" : Str) = V.str ("silence" : Str)) = true := by decide +kernel
theorem d_sp : decide (V.str ("silence" : Str) = V.str ("part" : Str)) = false := by decide +kernel
theorem d_sm : decide (V.str ("silence" : Str) = V.str ("samples" : Str)) = false := by decide +kernel
theorem d_sr : decide (V.str ("silence" : Str) = V.str ("repeat" : Str)) = false := by decide +kernel
theorem d_ps : decide (V.str ("part" : Str) = V.str ("silence" : Str)) = false := by decide +kernel
theorem d_pp : decide (V.str ("part" : Str) = V.str ("part" : Str)) = true := by decide +kernel
theorem d_pm : decide (V.str ("part" : Str) = V.str ("samples" : Str)) = false := by decide +kernel
theorem d_pr : decide (V.str ("part" : Str) = V.str ("repeat" : Str)) = false := by decide +kernel
theorem d_rs : decide (V.str ("repeat" : Str) = V.str ("silence" : Str)) = false := by decide +kernel
theorem d_rp : decide (V.str ("repeat" : Str) = V.str ("part" : Str)) = false := by decide +kernel
theorem d_rm : decide (V.str ("repeat" : Str) = V.str ("samples" : Str)) = false := by decide +kernel
theorem d_rr : decide (V.str ("repeat" : Str) = V.str ("repeat" : Str)) = true := by decide +kernel
theorem td_part {H : Hp} {v : V} {x : Str} {lo hi : Int} {gs : List (Int × Int)} (h : Td K H v (Piece.data (.fl (.part x lo hi gs)))) : ∃ a g, v = .ref a ∧ TqT K H a [.str "part", .str x, .int lo, .int hi, g] ∧ Td K H g (gsData gs) := by
  obtain ⟨a, x1, x2, x3, x4, x5, rfl, q, h1, h2, h3, h4, h5⟩ := Td.t5 h
  cases h1.s; cases h2.s; cases h3.i; cases h4.i
  exact ⟨a, x5, rfl, q, h5⟩
theorem td_sil {H : Hp} {v : V} {n : Int} (h : Td K H v (Piece.data (.fl (.sil n)))) : ∃ a, v = .ref a ∧ TqT K H a [.str "silence", .int n] := by
  obtain ⟨a, x1, x2, rfl, q, h1, h2⟩ := Td.t2 h
  cases h1.s; cases h2.i
  exact ⟨a, rfl, q⟩
theorem td_rep {H : Hp} {v : V} {n : Int} {fs : List Flat} (h : Td K H v (Piece.data (.rep n fs))) : ∃ a g, v = .ref a ∧ TqT K H a [.str "repeat", .int n, g] ∧ Td K H g (psData (fs.map Piece.fl)) := by
  obtain ⟨a, x1, x2, x3, rfl, q, h1, h2, h3⟩ := Td.t3 h
  cases h1.s; cases h2.i
  refine ⟨a, x3, rfl, q, ?_⟩
  have : psData (fs.map Piece.fl) = .tuple (fs.map Flat.data) := by unfold psData; rw [List.map_map]; rfl
  rw [this]; exact h3

/-! ### lengths -/
def spPL (K : PySem.W.Frag) (Ok : Piece → Prop) : Sp := spOf (fun x : V × Piece => [x.1]) fun x H Q => Td K H x.1 x.2.data ∧ Ok x.2 ∧ ∀ H', Same H H' → Q (.int x.2.len) H'
def spTL (K : PySem.W.Frag) (Ok : Piece → Prop) : Sp := spOf (fun x : V × List Piece => [x.1]) fun x H Q => Td K H x.1 (psData x.2) ∧ (∀ p ∈ x.2, Ok p) ∧ x.2.length ≤ 1000 ∧ ∀ H', Same H H' → Q (.int (psLen x.2)) H'
theorem psLen_fl (fs : List Flat) : psLen (fs.map Piece.fl) = fsLen fs := by
  unfold psLen fsLen
  rw [List.map_map]; rfl
theorem ok_piece_length {k : Nat} {Ok : Piece → Prop} {sp : Sp} (F : FnP K "piece_length" "piece_length" s_piece_length f fd) (T : Txt K mg CC CR CE RES) (c_total_length : C8.Cal P w K mg base k "total_length" sp [])
    (hrel : ∀ n fs, Ok (.rep n fs) → Sm n ∧ Sm (fsLen fs) ∧ ∀ v H Q E, Td K H v (psData (fs.map Piece.fl)) → (∀ H', Same H H' → Q (.int (fsLen fs)) H') → sp [v] H Q E) : FnOk P w K mg base CX0 (k + 1) f fd ["piece"] (spPL K Ok) := by
  refine ok0 F sc_piece_length (fun _ => rfl) (fun cdv A outer s H y Q E hr h => ?_)
  obtain ⟨v, p⟩ := y
  obtain ⟨h1, hok, hQ⟩ := h
  dsimp only at h1 hok hQ ⊢
  refine ⟨_, (pss_cons (ps_if (pt_cmpR op_eq (pe_ix ix_tup (pv 0) pe_int (fun _ _ => rfl)) pe_str (nomark _))
      (pss_one (ps_ret (pe_op op_sub (pe_ix ix_tup (pv 0) pe_int (fun _ _ => rfl)) (pe_ix ix_tup (pv 0) pe_int (fun _ _ => rfl)))))
      pss_nil)
      (pss_cons (ps_if (pt_cmpR op_eq (pe_ix ix_tup (pv 0) pe_int (fun _ _ => rfl)) pe_str (nomark _))
      (pss_one (ps_ret (pe_ix ix_tup (pv 0) pe_int (fun _ _ => rfl))))
      pss_nil)
      (pss_cons (ps_if (pt_cmpR op_eq (pe_ix ix_tup (pv 0) pe_int (fun _ _ => rfl)) pe_str (nomark _))
      (pss_one (ps_ret (pe_callB call_len_seq (by rfl) T.n_len bt_len (pa_cons (pe_ix ix_tup (pv 0) pe_int (fun _ _ => rfl)) pa_nil))))
      pss_nil)
      (pss_one (ps_ret (pe_op op_mulW (pe_ix ix_tup (pv 0) pe_int (fun _ _ => rfl)) (pe_c c_total_length hr (by omega) rfl (pa_cons (pe_ix ix_tup (pv 0) pe_int (fun _ _ => rfl)) pa_nil)))))))), ?_⟩
  cases p with
  | fl p =>
    cases p with
    | part x lo hi gs =>
      obtain ⟨a, g, rfl, q, _⟩ := td_part h1
      refine ⟨_, rfl, _, _, _, _, rfl, rfl, q.sq, rfl, rfl, _, rfl, ?_⟩
      rw [d_pp]
      exact iteT ⟨_, rfl, _, _, _, _, rfl, rfl, q.sq, rfl, _, rfl, _, _, _, _, rfl, rfl, q.sq, rfl, _, _, rfl, rfl, hQ H (Same.refl _)⟩
    | sil n =>
      obtain ⟨a, rfl, q⟩ := td_sil h1
      refine ⟨_, rfl, _, _, _, _, rfl, rfl, q.sq, rfl, rfl, _, rfl, ?_⟩
      rw [d_sp]
      refine iteF ⟨_, rfl, _, _, _, _, rfl, rfl, q.sq, rfl, rfl, _, rfl, ?_⟩
      rw [d_ss]
      exact iteT ⟨_, rfl, _, _, _, _, rfl, rfl, q.sq, rfl, hQ H (Same.refl _)⟩
  | rep n fs =>
    obtain ⟨a, g, rfl, q, hg⟩ := td_rep h1
    obtain ⟨s1, s2, hsp⟩ := hrel n fs hok
    refine ⟨_, rfl, _, _, _, _, rfl, rfl, q.sq, rfl, rfl, _, rfl, ?_⟩
    rw [d_rp]
    refine iteF ⟨_, rfl, _, _, _, _, rfl, rfl, q.sq, rfl, rfl, _, rfl, ?_⟩
    rw [d_rs]
    refine iteF ⟨_, rfl, _, _, _, _, rfl, rfl, q.sq, rfl, rfl, _, rfl, ?_⟩
    rw [d_rm]
    refine iteF ⟨_, rfl, _, _, _, _, rfl, rfl, q.sq, rfl, _, rfl, _, _, _, _, rfl, rfl, q.sq, rfl, hsp g H _ _ hg fun H' e => ⟨_, _, rfl, rfl, wide_mul s1 s2 (by decide) (by decide) (by decide), hQ H' e⟩⟩
theorem ok_total_length {k : Nat} {Ok : Piece → Prop} (F : FnP K "total_length" "total_length" s_total_length f fd) (T : Txt K mg CC CR CE RES) (c_piece_length : C8.Cal P w K mg base k "piece_length" (spPL K Ok) []) :
    FnOk P w K mg base CX0 (k + 1) f fd ["pieces"] (spTL K Ok) := by
  refine ok0 F sc_total_length (fun _ => rfl) (fun cdv A outer s H y Q E hr h => ?_)
  obtain ⟨v, ps⟩ := y
  obtain ⟨h1, hok, hlen, hQ⟩ := h
  dsimp only at h1 hok hQ hlen ⊢
  obtain ⟨a, xs, rfl, q, hd⟩ := Td.tn h1
  have hxl : xs.length = ps.length := by rw [hd.len, List.length_map]
  refine ⟨_, (pss_one (ps_ret (pe_callB (cr_sum rfl) (by rfl) T.n_sum bt_sum (pa_cons (pe_lc (own := [("piece", 1)]) (g := gName 1) (tt := tYes) rfl sc_total_length.nd (pi_tup (pv 0)) (blkOk_by (own := [("piece", 1)]) (N := ["pieces", "piece"]) (sc := defScope s_total_length) (by decide +kernel)) (fun _ _ _ _ _ => pg_name (i := 1) sc_total_length.nd rfl (Or.inl rfl)) (fun _ _ _ _ _ => pts_nil) (fun _ _ _ _ _ => (pe_c c_piece_length hr (by omega) rfl (pa_cons (pv 1) pa_nil)))) pa_nil)))), ?_⟩
  refine ⟨_, rfl, a, rfl, ⟨_, q.sq⟩, fun D nD => lc_tup (K := K) (a := a) (xs := xs) (fun i H' => Same H H' ∧ H' D = some (.lst (((ps.take i).map Piece.len).map V.int))) ⟨Same.upd nD, upd_same⟩ (fun i H' _ e => (q.mono (TupE.of e.1)).sq) ?_ ?_⟩
  · rintro i x H2 hx ⟨e2, hD⟩
    have hi : i < ps.length := by
      have := (List.getElem?_eq_some_iff.mp hx).1
      omega
    have hp : ps[i]? = some ps[i] := List.getElem?_eq_getElem hi
    obtain ⟨x', hx', hdx⟩ := hd.get (i := i) (d := ps[i].data) (by rw [List.getElem?_map, hp]; rfl)
    rw [hx] at hx'; cases hx'
    refine ⟨rfl, ?_⟩
    refine ⟨_, rfl, (x, ps[i]), rfl, hdx.mono (TupE.of e2), hok _ (List.getElem_mem hi), fun H3 e3 => ⟨_, e3 _ _ hD, ?_, Same.updN (e2.trans e3) nD, ?_⟩⟩
    · simp; rw [sizeLine_eq]; omega
    · rw [upd_same, List.take_succ_eq_append_getElem hi, List.map_append, List.map_append]; rfl
  · rintro H2 ⟨e2, hD⟩
    rw [hxl, List.take_length] at hD
    exact ⟨D, ps.map Piece.len, rfl, SqL.of hD, hQ H2 e2⟩

/-! ### counts -/
def spPC (K : PySem.W.Frag) (Ok : Piece → Prop) : Sp := spOf (fun x : V × List Piece => [x.1]) fun x H Q => Td K H x.1 (psData x.2) ∧ (∀ p ∈ x.2, Ok p) ∧ x.2.length ≤ 1000 ∧ ∀ H', Same H H' → Q (.int (psCnt x.2)) H'
theorem ok_piece_count {k : Nat} {Ok : Piece → Prop} {sp : Sp} (F : FnP K "piece_count" "piece_count" s_piece_count f fd) (T : Txt K mg CC CR CE RES) (c_piece_count : C8.Cal P w K mg base k "piece_count" sp [])
    (hrel : ∀ n fs, Ok (.rep n fs) → ∀ v H Q E, Td K H v (psData (fs.map Piece.fl)) → (∀ H', Same H H' → Q (.int (fs.length : Int)) H') → sp [v] H Q E) : FnOk P w K mg base CX0 (k + 1) f fd ["pieces"] (spPC K Ok) := by
  refine ok0 F sc_piece_count (fun _ => rfl) (fun cdv A outer s H y Q E hr h => ?_)
  obtain ⟨v, ps⟩ := y
  obtain ⟨h1, hok, hlen, hQ⟩ := h
  dsimp only at h1 hok hQ hlen ⊢
  obtain ⟨a, xs, rfl, q, hd⟩ := Td.tn h1
  have hxl : xs.length = ps.length := by rw [hd.len, List.length_map]
  refine ⟨_, (pss_one (ps_ret (pe_callB (cr_sum rfl) (by rfl) T.n_sum bt_sum (pa_cons (pe_lc (own := [("piece", 1)]) (g := gName 1) (tt := tYes) rfl sc_piece_count.nd (pi_tup (pv 0)) (blkOk_by (own := [("piece", 1)]) (N := ["pieces", "piece"]) (sc := defScope s_piece_count) (by decide +kernel)) (fun _ _ _ _ _ => pg_name (i := 1) sc_piece_count.nd rfl (Or.inl rfl)) (fun _ _ _ _ _ => pts_nil) (fun _ _ _ _ _ => (pe_op op_add pe_int (pe_ifExp (pt_cmpR op_eq (pe_ix (ix_tupK K rfl) (pv 1) pe_int (fun _ _ => rfl)) pe_str (nomark _)) (pe_c c_piece_count hr (by omega) rfl (pa_cons (pe_ix (ix_tupK K rfl) (pv 1) pe_int (fun _ _ => rfl)) pa_nil)) pe_int)))) pa_nil)))), ?_⟩
  refine ⟨_, rfl, a, rfl, ⟨_, q.sq⟩, fun D nD => lc_tup (K := K) (a := a) (xs := xs) (fun i H' => Same H H' ∧ H' D = some (.lst (((ps.take i).map Piece.cnt).map V.int))) ⟨Same.upd nD, upd_same⟩ (fun i H' _ e => (q.mono (TupE.of e.1)).sq) ?_ ?_⟩
  · rintro i x H2 hx ⟨e2, hD⟩
    have hi : i < ps.length := by
      have := (List.getElem?_eq_some_iff.mp hx).1
      omega
    have hp : ps[i]? = some ps[i] := List.getElem?_eq_getElem hi
    obtain ⟨x', hx', hdx⟩ := hd.get (i := i) (d := ps[i].data) (by rw [List.getElem?_map, hp]; rfl)
    rw [hx] at hx'; cases hx'
    refine ⟨rfl, ?_⟩
    have hdx := hdx.mono (TupE.of e2)
    have hokp := hok _ (List.getElem_mem hi)
    have fin : ∀ H3, Same H2 H3 → ∃ acc, H3 D = some (.lst acc) ∧ acc.length < sizeLine ∧ (Same H (upd H3 D (.lst (acc ++ [.int ps[i].cnt]))) ∧ (upd H3 D (.lst (acc ++ [.int ps[i].cnt]))) D = some (.lst (((ps.take (i + 1)).map Piece.cnt).map V.int))) := fun H3 e3 => by
      refine ⟨_, e3 _ _ hD, ?_, Same.updN (e2.trans e3) nD, ?_⟩
      · simp; rw [sizeLine_eq]; omega
      · rw [upd_same, List.take_succ_eq_append_getElem hi, List.map_append, List.map_append]; rfl
    generalize ps[i] = p at hdx hokp fin
    dsimp only [tYes]
    rw [if_pos rfl]
    cases p with
    | fl p =>
      cases p with
      | part x lo hi gs =>
        obtain ⟨a, g, rfl, q, _⟩ := td_part hdx
        refine ⟨_, rfl, _, _, _, _, rfl, rfl, q.sq, rfl, rfl, _, rfl, ?_⟩
        rw [d_pr]
        exact iteF ⟨_, _, rfl, rfl, fin H2 (Same.refl _)⟩
      | sil n =>
        obtain ⟨a, rfl, q⟩ := td_sil hdx
        refine ⟨_, rfl, _, _, _, _, rfl, rfl, q.sq, rfl, rfl, _, rfl, ?_⟩
        rw [d_sr]
        exact iteF ⟨_, _, rfl, rfl, fin H2 (Same.refl _)⟩
    | rep n fs =>
      obtain ⟨a, g, rfl, q, hg⟩ := td_rep hdx
      refine ⟨_, rfl, _, _, _, _, rfl, rfl, q.sq, rfl, rfl, _, rfl, ?_⟩
      rw [d_rr]
      refine iteT ⟨_, rfl, _, _, _, _, rfl, rfl, q.sq, rfl, hrel n fs hokp g H2 _ _ hg fun H3 e3 => ⟨_, _, rfl, rfl, fin H3 e3⟩⟩
  · rintro H2 ⟨e2, hD⟩
    rw [hxl, List.take_length] at hD
    exact ⟨D, ps.map Piece.cnt, rfl, SqL.of hD, hQ H2 e2⟩
end
end FJ

set_option Elab.async false
set_option linter.all false
set_option maxRecDepth 100000
set_option maxHeartbeats 4000000
/-! pieces: merged, both, repeated, cut, gained -/
namespace FJ
open PySem PySem.Spec PyProof.Rows L2
open C8 (pe_c pe_mk pe_mt pe_mt0 pe_gc)

/-! ### equality of data -/
theorem gs_canLay : ∀ gs : List (Int × Int), PyData.canLayAll0 (gs.map fun g => PyData.tuple [.int g.1, .int g.2]) = true
  | [] => rfl
  | g :: gs => by
    show (PyData.canLay0 (.tuple [.int g.1, .int g.2]) && PyData.canLayAll0 (gs.map fun g => PyData.tuple [.int g.1, .int g.2])) = true
    rw [gs_canLay gs]; rfl
theorem gs_depth : ∀ gs : List (Int × Int), PyData.depthAll (gs.map fun g => PyData.tuple [.int g.1, .int g.2]) ≤ 10
  | [] => by show PyData.depthAll [] ≤ 10; simp [PyData.depthAll]
  | g :: gs => by
    have ih := gs_depth gs
    show PyData.depthAll (PyData.tuple [.int g.1, .int g.2] :: (gs.map fun g => PyData.tuple [.int g.1, .int g.2])) ≤ 10
    simp only [PyData.depthAll, PyData.depth] at ih ⊢
    omega
theorem gs_shaped (gs : List (Int × Int)) : SeqAt.shaped (gsData gs) = true := by
  unfold SeqAt.shaped
  rw [Bool.and_eq_true]
  refine ⟨gs_canLay gs, decide_eq_true ?_⟩
  have := gs_depth gs
  show PyData.depth (.tuple _) ≤ 64
  simp only [PyData.depth]
  omega
theorem gs_eqv : ∀ g g' : List (Int × Int), PyData.eqv (gsData g) (gsData g') = decide (g = g')
  | [], [] => rfl
  | [], _ :: _ => rfl
  | _ :: _, [] => rfl
  | a :: g, b :: g' => by
    have ih := gs_eqv g g'
    show ((PyData.eqv (.tuple [.int a.1, .int a.2]) (.tuple [.int b.1, .int b.2])) && PyData.eqv (gsData g) (gsData g')) = decide (a :: g = b :: g')
    rw [ih]
    show ((((a.1 == b.1) && ((a.2 == b.2) && true)) && decide (g = g'))) = decide (a :: g = b :: g')
    obtain ⟨a1, a2⟩ := a
    obtain ⟨b1, b2⟩ := b
    rw [Bool.eq_iff_iff]
    simp [and_assoc]
theorem ps_empty (ps : List Piece) : PyData.eqv (psData ps) (.tuple []) = ps.isEmpty := by
  cases ps with
  | nil => rfl
  | cons p r => rfl
theorem nil_shaped : SeqAt.shaped (.tuple []) = true := by decide
abbrev Shp (ps : List Piece) : Prop := SeqAt.shaped (psData ps) = true

section
variable {P : Program} {w : World} {K : PySem.W.Frag} {mg : Str → Option Value} {base : Heap} {CC CR CE RES : Addr} {f : Addr} {fd : FuncData}
/-! ### readings of tuples that are data -/
theorem r_cat {H : Hp} {v1 v2 : V} {d1 d2 : List PyData} {Q : VK} (h1 : Td K H v1 (.tuple d1)) (h2 : Td K H v2 (.tuple d2)) (hl : d1.length + d2.length ≤ 100000) (q : ∀ H' v, Same H H' → Td K H' v (.tuple (d1 ++ d2)) → Q v H') : rCatA K v1 v2 H Q := by
  obtain ⟨a, xs, rfl, q1, t1⟩ := Td.tn h1
  obtain ⟨b, ys, rfl, q2, t2⟩ := Td.tn h2
  refine ⟨a, b, xs, ys, rfl, rfl, q1.sq, q2.sq, (by rw [t1.len, t2.len, sizeLine_eq]; omega), fun e => ?_, fun _ e => ?_, fun _ _ p np => ?_⟩
  · subst e
    cases d1 with
    | nil => exact q H _ (Same.refl _) h2
    | cons d ds => cases t1
  · subst e
    cases d2 with
    | nil => rw [List.append_nil] at q; exact q H _ (Same.refl _) h1
    | cons d ds => cases t2
  · exact q _ _ (Same.upd np) (Td.new np (t1.app t2))
theorem r_sl {H : Hp} {v : V} {ds : List PyData} {lo hi : Option Int} {Q : VK} (h : Td K H v (.tuple ds))
    (q : ∀ H' v', Same H H' → Td K H' v' (.tuple ((ds.drop (HT.sIx ds.length 0 lo)).take (HT.sIx ds.length ds.length hi - HT.sIx ds.length 0 lo))) → Q v' H') : rSlA K v lo hi H Q := by
  obtain ⟨a, xs, rfl, q1, t1⟩ := Td.tn h
  have e := t1.len
  refine ⟨a, xs, rfl, q1.sq, fun hw => ?_, fun _ p np => ?_⟩
  · rw [e] at hw
    refine q H _ (Same.refl _) ?_
    rw [hw.1, hw.2, List.drop_zero, Nat.sub_zero, List.take_length]
    exact h
  · refine q _ _ (Same.upd np) ?_
    refine Td.new np ?_
    unfold cutV
    rw [e]
    exact (t1.drop _).take _

/-! ### one piece of two -/
def spMerged (K : PySem.W.Frag) : Sp := spOf (fun x : V × V × Piece × Piece => [x.1, x.2.1]) fun x H Q => Td K H x.1 x.2.2.1.data ∧ Td K H x.2.1 x.2.2.2.data ∧
  (mergedP x.2.2.1 x.2.2.2 = none → ∀ H', Same H H' → Q .non H') ∧ ∀ g, mergedP x.2.2.1 x.2.2.2 = some g → ∀ H' v, Same H H' → Td K H' v g.data → Q v H'
theorem ok_merged (F : FnP K "merged" "merged" s_merged f fd) (T : Txt K mg CC CR CE RES) : FnOk P w K mg base CX0 1 f fd ["first", "second"] (spMerged K) := by
  refine ok0 F sc_merged (fun _ => rfl) (fun cdv A outer s H y Q E hr h => ?_)
  obtain ⟨v1, v2, p1, p2⟩ := y
  obtain ⟨h1, h2, hN, hS⟩ := h
  dsimp only at h1 h2 hN hS ⊢
  refine ⟨_, (pss_cons (ps_if (PW.pt (pw_and (pt_cmpR op_eq (pe_ix ix_tup (pv 0) pe_int (fun _ _ => rfl)) pe_str (nomark _)) (pw_and1 (pt_cmpR op_eq (pe_ix ix_tup (pv 1) pe_int (fun _ _ => rfl)) pe_str (nomark _)))))
      (pss_one (ps_ret (pe_tup (pa_cons pe_str (pa_cons (pe_op op_add (pe_ix ix_tup (pv 0) pe_int (fun _ _ => rfl)) (pe_ix ix_tup (pv 1) pe_int (fun _ _ => rfl))) pa_nil)))))
      pss_nil)
      (pss_cons (ps_if (PW.pt (pw_and (pt_cmpR op_eq (pe_ix ix_tup (pv 0) pe_int (fun _ _ => rfl)) pe_str (nomark _)) (pw_and (pt_cmpR op_eq (pe_ix ix_tup (pv 1) pe_int (fun _ _ => rfl)) pe_str (nomark _)) (pw_and (pt_cmpR op_eq (pe_ix ix_tup (pv 0) pe_int (fun _ _ => rfl)) (pe_ix ix_tup (pv 1) pe_int (fun _ _ => rfl)) (nomark _)) (pw_and1 (pt_cmpR op_eq (pe_ix ix_tup (pv 0) pe_int (fun _ _ => rfl)) (pe_ix ix_tup (pv 1) pe_int (fun _ _ => rfl)) (nomark _)))))))
      (pss_one (ps_if (pt_cmpR (op_eqD hr.units) (pe_ix ix_tup (pv 0) pe_int (fun _ _ => rfl)) (pe_ix ix_tup (pv 1) pe_int (fun _ _ => rfl)) (nomark _))
      (pss_one (ps_ret (pe_tup (pa_cons pe_str (pa_cons (pe_ix ix_tup (pv 0) pe_int (fun _ _ => rfl)) (pa_cons (pe_ix ix_tup (pv 0) pe_int (fun _ _ => rfl)) (pa_cons (pe_ix ix_tup (pv 1) pe_int (fun _ _ => rfl)) (pa_cons (pe_ix ix_tup (pv 0) pe_int (fun _ _ => rfl)) pa_nil))))))))
      pss_nil))
      pss_nil)
      (pss_one (ps_ret pe_non)))), ?_⟩
  have N0 : mergedP p1 p2 = none → Q .non H := fun e => hN e H (Same.refl _)
  cases p1 with
  | rep n fs =>
    obtain ⟨a, g, rfl, q, _⟩ := td_rep h1
    refine ⟨_, rfl, _, _, _, _, rfl, rfl, q.sq, rfl, rfl, _, rfl, ?_⟩
    rw [d_rs]
    refine iteF (iteF ⟨_, rfl, _, _, _, _, rfl, rfl, q.sq, rfl, rfl, _, rfl, ?_⟩)
    rw [d_rp]
    exact iteF (iteF (N0 rfl))
  | fl p1 =>
    cases p1 with
    | sil n =>
      obtain ⟨a, rfl, q⟩ := td_sil h1
      refine ⟨_, rfl, _, _, _, _, rfl, rfl, q.sq, rfl, rfl, _, rfl, ?_⟩
      rw [d_ss]
      have fin : mergedP (.fl (.sil n)) p2 = none → _ := fun e => N0 e
      cases p2 with
      | rep m fs =>
        obtain ⟨b, g, rfl, q2, _⟩ := td_rep h2
        refine iteT ⟨_, rfl, _, _, _, _, rfl, rfl, q2.sq, rfl, rfl, _, rfl, ?_⟩
        rw [d_rs]
        refine iteF ⟨_, rfl, _, _, _, _, rfl, rfl, q.sq, rfl, rfl, _, rfl, ?_⟩
        rw [d_sp]
        exact iteF (iteF (N0 rfl))
      | fl p2 =>
        cases p2 with
        | sil m =>
          obtain ⟨b, rfl, q2⟩ := td_sil h2
          refine iteT ⟨_, rfl, _, _, _, _, rfl, rfl, q2.sq, rfl, rfl, _, rfl, ?_⟩
          rw [d_ss]
          refine iteT ⟨_, rfl, _, _, _, _, rfl, rfl, q.sq, rfl, _, rfl, _, _, _, _, rfl, rfl, q2.sq, rfl, _, _, rfl, rfl, by show 2 ≤ sizeLine; decide, fun p np => ?_⟩
          exact hS _ rfl _ _ (Same.upd np) (Td.new np (.cons (.str _) (.cons (.int _) .nil)))
        | part x lo hi gs =>
          obtain ⟨b, g, rfl, q2, _⟩ := td_part h2
          refine iteT ⟨_, rfl, _, _, _, _, rfl, rfl, q2.sq, rfl, rfl, _, rfl, ?_⟩
          rw [d_ps]
          refine iteF ⟨_, rfl, _, _, _, _, rfl, rfl, q.sq, rfl, rfl, _, rfl, ?_⟩
          rw [d_sp]
          exact iteF (iteF (N0 rfl))
    | part x lo hi gs =>
      obtain ⟨a, g, rfl, q, hg⟩ := td_part h1
      refine ⟨_, rfl, _, _, _, _, rfl, rfl, q.sq, rfl, rfl, _, rfl, ?_⟩
      rw [d_ps]
      refine iteF (iteF ⟨_, rfl, _, _, _, _, rfl, rfl, q.sq, rfl, rfl, _, rfl, ?_⟩)
      rw [d_pp]
      cases p2 with
      | rep m fs =>
        obtain ⟨b, g, rfl, q2, _⟩ := td_rep h2
        refine iteT ⟨_, rfl, _, _, _, _, rfl, rfl, q2.sq, rfl, rfl, _, rfl, ?_⟩
        rw [d_rp]
        exact iteF (iteF (N0 rfl))
      | fl p2 =>
        cases p2 with
        | sil m =>
          obtain ⟨b, rfl, q2⟩ := td_sil h2
          refine iteT ⟨_, rfl, _, _, _, _, rfl, rfl, q2.sq, rfl, rfl, _, rfl, ?_⟩
          rw [d_sp]
          exact iteF (iteF (N0 rfl))
        | part x' lo' hi' gs' =>
          obtain ⟨b, g', rfl, q2, hg'⟩ := td_part h2
          refine iteT ⟨_, rfl, _, _, _, _, rfl, rfl, q2.sq, rfl, rfl, _, rfl, ?_⟩
          rw [d_pp]
          refine iteT ⟨_, rfl, _, _, _, _, rfl, rfl, q.sq, rfl, _, rfl, _, _, _, _, rfl, rfl, q2.sq, rfl, rfl, _, rfl, ?_⟩
          rw [str_eq]
          by_cases e1 : x = x'
          · rw [decide_eq_true e1]
            refine iteT ⟨_, rfl, _, _, _, _, rfl, rfl, q.sq, rfl, _, rfl, _, _, _, _, rfl, rfl, q2.sq, rfl, rfl, _, rfl, ?_⟩
            by_cases e2 : hi = lo'
            · rw [decide_eq_true (congrArg V.int e2)]
              refine iteT ⟨_, rfl, _, _, _, _, rfl, rfl, q.sq, rfl, _, rfl, _, _, _, _, rfl, rfl, q2.sq, rfl, gsData gs, gsData gs', hg.dp, hg'.dp, gs_shaped _, gs_shaped _, _, rfl, ?_⟩
              rw [gs_eqv]
              by_cases e3 : gs = gs'
              · rw [decide_eq_true e3]
                refine iteT ⟨_, rfl, _, _, _, _, rfl, rfl, q.sq, rfl, _, rfl, _, _, _, _, rfl, rfl, q.sq, rfl, _, rfl, _, _, _, _, rfl, rfl, q2.sq, rfl, _, rfl, _, _, _, _, rfl, rfl, q.sq, rfl, by show 5 ≤ sizeLine; decide, fun p np => ?_⟩
                refine hS (.part x lo hi' gs) ?_ _ _ (Same.upd np) (Td.new np (.cons (.str _) (.cons (.str _) (.cons (.int _) (.cons (.int _) (.cons hg .nil))))))
                show (if x = x' ∧ hi = lo' ∧ gs = gs' then some (Flat.part x lo hi' gs) else none) = _
                rw [if_pos ⟨e1, e2, e3⟩]
              · rw [decide_eq_false e3]
                refine iteF (N0 ?_)
                show (if x = x' ∧ hi = lo' ∧ gs = gs' then some (Flat.part x lo hi' gs) else none) = _
                rw [if_neg fun z => e3 z.2.2]
            · rw [decide_eq_false (fun z => e2 (V.int.inj z))]
              refine iteF (N0 ?_)
              show (if x = x' ∧ hi = lo' ∧ gs = gs' then some (Flat.part x lo hi' gs) else none) = _
              rw [if_neg fun z => e2 z.2.1]
          · rw [decide_eq_false e1]
            refine iteF (iteF (N0 ?_))
            show (if x = x' ∧ hi = lo' ∧ gs = gs' then some (Flat.part x lo hi' gs) else none) = _
            rw [if_neg fun z => e1 z.1]

/-! ### two rows of pieces -/
theorem both_nil (ps : List Piece) : both ps [] = ps := by
  unfold both
  cases h : ps.getLast? with
  | none => simp
  | some p => simp
theorem both_nil' (qs : List Piece) : both [] qs = qs := rfl
theorem both_cons (ps : List Piece) (p q : Piece) (r : List Piece) : both (ps ++ [p]) (q :: r) = match mergedP p q with
    | some f => ps ++ .fl f :: r
    | none => (ps ++ [p]) ++ q :: r := by
  unfold both
  rw [List.getLast?_append]
  simp only [List.getLast?_singleton, Option.some_or, List.dropLast_concat]
  all_goals (cases mergedP p q <;> rfl)
def spBoth (K : PySem.W.Frag) : Sp := spOf (fun x : V × V × List Piece × List Piece => [x.1, x.2.1]) fun x H Q => Td K H x.1 (psData x.2.2.1) ∧ Td K H x.2.1 (psData x.2.2.2) ∧ Shp x.2.2.1 ∧ Shp x.2.2.2 ∧ x.2.2.1.length ≤ 1000 ∧ x.2.2.2.length ≤ 1000 ∧
  ∀ H' v, Same H H' → Td K H' v (psData (both x.2.2.1 x.2.2.2)) → Q v H'
theorem atI_neg {v : V} {xs : List V} (h : xs ≠ []) : ∃ ys y, xs = ys ++ [y] ∧ atI xs (-1) = some y := by
  obtain ⟨ys, y, rfl⟩ : ∃ ys y, xs = ys ++ [y] := ⟨xs.dropLast, xs.getLast h, (List.dropLast_concat_getLast h).symm⟩
  exact ⟨ys, y, rfl, atI_last ys y⟩
theorem td_last {H : Hp} {v : V} {ds : List PyData} {d : PyData} (h : Td K H v (.tuple (ds ++ [d]))) : ∃ a xs y, v = .ref a ∧ TqT K H a xs ∧ atI xs (-1) = some y ∧ Td K H y d := by
  obtain ⟨a, xs, rfl, q, t⟩ := Td.tn h
  have hl : xs.length = ds.length + 1 := by rw [t.len, List.length_append]; rfl
  obtain ⟨ys, y, rfl, e⟩ := atI_neg (v := .non) (xs := xs) (by intro z; rw [z] at hl; simp at hl)
  have hl2 : ys.length = ds.length := by rw [List.length_append] at hl; simp at hl; exact hl
  obtain ⟨z, hz, hd⟩ := t.get (i := ds.length) (d := d) (by simp)
  rw [← hl2] at hz
  have : z = y := by simpa using hz.symm
  subst this
  exact ⟨a, _, z, rfl, q, e, hd⟩
theorem ok_both (F : FnP K "both_pieces" "both_pieces" s_both_pieces f fd) (T : Txt K mg CC CR CE RES) (c_merged : C8.Cal P w K mg base 1 "merged" (spMerged K) []) : FnOk P w K mg base CX0 2 f fd ["first", "second"] (spBoth K) := by
  refine ok0 F sc_both_pieces (fun _ => rfl) (fun cdv A outer s H y Q E hr h => ?_)
  obtain ⟨v1, v2, ps, qs⟩ := y
  obtain ⟨h1, h2, s1, s2, l1, l2, hQ⟩ := h
  dsimp only at h1 h2 s1 s2 l1 l2 hQ ⊢
  refine ⟨_, (pss_cons (ps_set (i := 2) sc_both_pieces.nd rfl (Or.inl rfl) (pe_ifExp (PW.pt (pw_and (pt_cmpR (op_neD hr.units) (pv 0) (pe_tup pa_nil) (nomark _)) (pw_and1 (pt_cmpR (op_neD hr.units) (pv 1) (pe_tup pa_nil) (nomark _))))) (pe_c c_merged hr (by omega) rfl (pa_cons (pe_ix ix_tup (pv 0) (pe_un un_neg pe_int) (fun _ _ => rfl)) (pa_cons (pe_ix ix_tup (pv 1) pe_int (fun _ _ => rfl)) pa_nil))) pe_non))
      (pss_cons (ps_if (pt_cmpR op_isN (pv 2) pe_non (nomark _))
      (pss_one (ps_ret (pe_op op_catA (pv 0) (pv 1))))
      pss_nil)
      (pss_one (ps_ret (pe_op op_catA (pe_op op_catA (pe_slice sl_tupA (pv 0) po_none (po_some (pe_un un_neg pe_int))) (pe_tup (pa_cons (pv 2) pa_nil))) (pe_slice sl_tupA (pv 1) (po_some pe_int) po_none)))))), ?_⟩
  have lp : (ps.map Piece.data).length ≤ 1000 := by rw [List.length_map]; exact l1
  have lq : (qs.map Piece.data).length ≤ 1000 := by rw [List.length_map]; exact l2
  have cat : ∀ H2, Same H H2 → both ps qs = ps ++ qs → ∀ H' v, Same H2 H' → Td K H' v (.tuple (ps.map Piece.data ++ qs.map Piece.data)) → Q v H' := fun H2 e2 eb H' v e d => by
    refine hQ H' v (e2.trans e) ?_
    rw [eb]
    unfold psData
    rw [List.map_append]
    exact d
  refine ⟨_, rfl, Nat.zero_le _, fun p np => ⟨psData ps, .tuple [], (h1.mono (TupE.of (Same.upd np))).dp, (Td.new np .nil).dp, s1, nil_shaped, _, rfl, ?_⟩⟩
  rw [ps_empty]
  have E1 : Same H (upd H p (.tup [])) := Same.upd np
  generalize upd H p (.tup []) = H1 at E1
  cases hps : ps with
  | nil =>
    subst hps
    refine iteF (iteF ⟨_, rfl, rfl, _, rfl, iteT ?_⟩)
    exact ⟨_, rfl, _, rfl, r_cat (h1.mono (TupE.of E1)) (h2.mono (TupE.of E1)) (by omega) (cat H1 E1 (both_nil' qs))⟩
  | cons p0 ps0 =>
    refine iteT ⟨_, rfl, Nat.zero_le _, fun p2 np2 => ⟨psData qs, .tuple [], ((h2.mono (TupE.of E1)).mono (TupE.of (Same.upd np2))).dp, (Td.new np2 .nil).dp, s2, nil_shaped, _, rfl, ?_⟩⟩
    rw [ps_empty]
    have E2 : Same H (upd H1 p2 (.tup [])) := Same.upd' E1 np2
    generalize upd H1 p2 (.tup []) = H2 at E2
    cases hqs : qs with
    | nil =>
      subst hqs
      refine iteF ⟨_, rfl, rfl, _, rfl, iteT ?_⟩
      exact ⟨_, rfl, _, rfl, r_cat (h1.mono (TupE.of E2)) (h2.mono (TupE.of E2)) (by omega) (cat H2 E2 (by rw [both_nil, List.append_nil]))⟩
    | cons q qs' =>
      refine iteT ?_
      obtain ⟨ps', pl, hpl⟩ : ∃ ps' pl, ps = ps' ++ [pl] := ⟨ps.dropLast, ps.getLast (by rw [hps]; simp), (List.dropLast_concat_getLast _).symm⟩
      have h1' := h1.mono (TupE.of E2)
      have h2' := h2.mono (TupE.of E2)
      have h1d : Td K H2 v1 (.tuple (ps'.map Piece.data ++ [pl.data])) := by rw [hpl] at h1'; unfold psData at h1'; rw [List.map_append] at h1'; exact h1'
      have h2d : Td K H2 v2 (.tuple (q.data :: qs'.map Piece.data)) := by rw [hqs] at h2'; exact h2'
      obtain ⟨a, xs, y, ea, qa, hat, dy⟩ := td_last h1d
      obtain ⟨b, ys, eb, qb, tb⟩ := Td.tn h2d
      cases tb with
      | @cons z zs _ _ dz tz =>
        subst ea eb
        have hbc := both_cons ps' pl q qs'
        rw [← hpl, ← hqs] at hbc
        refine ⟨_, rfl, _, rfl, a, xs, _, _, rfl, rfl, qa.sq, hat, _, rfl, b, _, _, _, rfl, rfl, qb.sq, atI_nat (j := 0) rfl, (y, z, pl, q), rfl, dy, dz, fun hm H3 e3 => ?_, fun g hm H3 v e3 dg => ?_⟩
        · refine ⟨_, rfl, rfl, _, rfl, iteT ?_⟩
          have E3 := E2.trans e3
          rw [hm] at hbc
          exact ⟨_, rfl, _, rfl, r_cat (h1.mono (TupE.of E3)) (h2.mono (TupE.of E3)) (by omega) (cat H3 E3 hbc)⟩
        · refine ⟨_, rfl, rfl, _, rfl, ?_⟩
          have nv : v ≠ .non := by
            intro z; subst z
            cases g <;> cases dg
          rw [decide_eq_false nv]
          refine iteF ?_
          have E3 := E2.trans e3
          rw [hm] at hbc
          have h13 := h1d.mono (TupE.of e3)
          have h23 := h2d.mono (TupE.of e3)
          refine ⟨_, rfl, _, rfl, _, rfl, r_sl h13 fun H4 v4 e4 d4 => ?_⟩
          refine ⟨_, rfl, by show 1 ≤ sizeLine; decide, fun p5 np5 => ?_⟩
          have d5 := d4.mono (TupE.of (Same.upd np5 (o := .tup [v])))
          have dg5 : Td K (upd H4 p5 (.tup [v])) (.ref p5) (.tuple [g.data]) := Td.new np5 (.cons (dg.mono (TupE.of e4)) .nil)
          refine r_cat d5 dg5 ?_ fun H6 v6 e6 d6 => ?_
          · rw [List.length_take, List.length_drop]
            have : (ps'.map Piece.data ++ [pl.data]).length = (ps.map Piece.data).length := by rw [hpl, List.map_append]; rfl
            simp only [List.length_singleton]
            omega
          · have e36 : Same H3 H6 := e4.trans ((Same.upd np5).trans e6)
            refine ⟨_, rfl, _, rfl, ?_⟩
            dsimp only [tNoPart]
            refine r_sl (h23.mono (TupE.of e36)) fun H7 v7 e7 d7 => ?_
            refine r_cat (d6.mono (TupE.of e7)) d7 ?_ fun H8 v8 e8 d8 => ?_
            · rw [List.length_append, List.length_take, List.length_take, List.length_drop, List.length_drop]
              have a1 : (ps'.map Piece.data ++ [pl.data]).length = (ps.map Piece.data).length := by rw [hpl, List.map_append]; rfl
              have a2 : (q.data :: qs'.map Piece.data).length = (qs.map Piece.data).length := by rw [hqs]; rfl
              simp only [List.length_singleton]
              omega
            · refine hQ H8 v8 (E3.trans (e36.trans (e7.trans e8))) ?_
              rw [hbc]
              have c1 : ((ps'.map Piece.data ++ [pl.data]).drop (HT.sIx (ps'.map Piece.data ++ [pl.data]).length 0 none)).take (HT.sIx (ps'.map Piece.data ++ [pl.data]).length (ps'.map Piece.data ++ [pl.data]).length (some (-1)) - HT.sIx (ps'.map Piece.data ++ [pl.data]).length 0 none) = ps'.map Piece.data := by
                have e1 : HT.sIx (ps'.map Piece.data ++ [pl.data]).length 0 none = 0 := rfl
                have e2 : HT.sIx (ps'.map Piece.data ++ [pl.data]).length (ps'.map Piece.data ++ [pl.data]).length (some (-1)) = (ps'.map Piece.data).length := by
                  unfold HT.sIx
                  dsimp only
                  rw [if_pos (by decide), List.length_append, List.length_singleton]
                  omega
                rw [e1, e2, List.drop_zero, Nat.sub_zero, List.take_left]
              have c2 : ((q.data :: qs'.map Piece.data).drop (HT.sIx (q.data :: qs'.map Piece.data).length 0 (some 1))).take (HT.sIx (q.data :: qs'.map Piece.data).length (q.data :: qs'.map Piece.data).length none - HT.sIx (q.data :: qs'.map Piece.data).length 0 (some 1)) = qs'.map Piece.data := by
                have e1 : HT.sIx (q.data :: qs'.map Piece.data).length 0 (some 1) = 1 := by
                  unfold HT.sIx
                  simp
                have e2 : HT.sIx (q.data :: qs'.map Piece.data).length (q.data :: qs'.map Piece.data).length none = (q.data :: qs'.map Piece.data).length := rfl
                rw [e1, e2, List.drop_one, List.tail_cons]
                exact List.take_of_length_le (by simp)
              rw [c1, c2] at d8
              unfold psData
              rw [List.map_append, List.map_cons]
              rw [List.append_assoc] at d8
              exact d8

/-! ### copies -/
def spRep (K : PySem.W.Frag) : Sp := spOf (fun x : V × Int × List Piece × List Piece => [x.1, .int x.2.1]) fun x H Q => Td K H x.1 (psData x.2.2.1) ∧ Shp x.2.2.1 ∧ Sm x.2.1 ∧ (∀ p ∈ x.2.2.1, match p with | .fl (.sil m) => Sm m | .rep m _ => Sm m | _ => True) ∧
  repeated x.2.2.1 x.2.1 = some x.2.2.2 ∧ ∀ H' v, Same H H' → Td K H' v (psData x.2.2.2) → Q v H'
theorem flats_fl : ∀ fs : List Flat, flats (fs.map Piece.fl) = some fs
  | [] => rfl
  | f :: fs => by
    show (flats (fs.map Piece.fl)).bind (fun gs => some (f :: gs)) = _
    rw [flats_fl fs]; rfl
theorem fl_flats : ∀ {ps : List Piece} {fs : List Flat}, flats ps = some fs → ps = fs.map Piece.fl
  | [], fs, h => by cases h; rfl
  | .fl f :: r, fs, h => by
    obtain ⟨gs, h1, h2⟩ := Option.bind_eq_some_iff.mp h
    cases h2
    rw [fl_flats h1]; rfl
  | .rep n gs :: r, fs, h => by cases h
theorem fl_data (fs : List Flat) : psData (fs.map Piece.fl) = .tuple (fs.map Flat.data) := by unfold psData; rw [List.map_map]; rfl
theorem ok_repeated (F : FnP K "repeated_pieces" "repeated_pieces" s_repeated_pieces f fd) (T : Txt K mg CC CR CE RES) : FnOk P w K mg base CX0 1 f fd ["pieces", "count"] (spRep K) := by
  refine ok0 F sc_repeated_pieces (fun _ => rfl) (fun cdv A outer s H y Q E hr h => ?_)
  obtain ⟨v, n, ps, qs⟩ := y
  obtain ⟨h1, s1, sn, sm, hrep, hQ⟩ := h
  dsimp only at h1 s1 sn sm hrep hQ ⊢
  refine ⟨_, (pss_cons (ps_if (PW.pt (pw_or (pt_cmpR op_eq (pv 1) pe_int (nomark _)) (pw_or1 (pt_cmpR (op_eqD hr.units) (pv 0) (pe_tup pa_nil) (nomark _)))))
      (pss_one (ps_ret (pe_tup pa_nil)))
      pss_nil)
      (pss_cons (ps_if (pt_cmpR op_eq (pv 1) pe_int (nomark _))
      (pss_one (ps_ret (pv 0)))
      pss_nil)
      (pss_cons (ps_if (PW.pt (pw_and (pt_cmpR op_eq (pe_callB call_len_seq (by rfl) T.n_len bt_len (pa_cons (pv 0) pa_nil)) pe_int (nomark _)) (pw_and1 (pt_cmpR op_eq (pe_ix ix_tup (pe_ix ix_tup (pv 0) pe_int (fun _ _ => rfl)) pe_int (fun _ _ => rfl)) pe_str (nomark _)))))
      (pss_one (ps_ret (pe_tup (pa_cons (pe_tup (pa_cons pe_str (pa_cons (pe_op op_mulW (pe_ix ix_tup (pe_ix ix_tup (pv 0) pe_int (fun _ _ => rfl)) pe_int (fun _ _ => rfl)) (pv 1)) pa_nil))) pa_nil))))
      pss_nil)
      (pss_cons (ps_if (PW.pt (pw_and (pt_cmpR op_eq (pe_callB call_len_seq (by rfl) T.n_len bt_len (pa_cons (pv 0) pa_nil)) pe_int (nomark _)) (pw_and1 (pt_cmpR op_eq (pe_ix ix_tup (pe_ix ix_tup (pv 0) pe_int (fun _ _ => rfl)) pe_int (fun _ _ => rfl)) pe_str (nomark _)))))
      (pss_one (ps_ret (pe_tup (pa_cons (pe_tup (pa_cons pe_str (pa_cons (pe_op op_mulW (pe_ix ix_tup (pe_ix ix_tup (pv 0) pe_int (fun _ _ => rfl)) pe_int (fun _ _ => rfl)) (pv 1)) (pa_cons (pe_ix ix_tup (pe_ix ix_tup (pv 0) pe_int (fun _ _ => rfl)) pe_int (fun _ _ => rfl)) pa_nil)))) pa_nil))))
      pss_nil)
      (pss_one (ps_ret (pe_tup (pa_cons (pe_tup (pa_cons pe_str (pa_cons (pv 1) (pa_cons (pv 0) pa_nil)))) pa_nil)))))))), ?_⟩
  unfold repeated at hrep
  have ret0 : ∀ H1, Same H H1 → qs = [] → ∀ p, H1 p = none → Q (.ref p) (upd H1 p (.tup [])) := fun H1 e hq p np => hQ _ _ (Same.upd' e np) (by subst hq; exact Td.new np .nil)
  refine ⟨_, rfl, rfl, _, rfl, ?_⟩
  by_cases hn0 : n = 0
  · rw [if_pos (.inl hn0)] at hrep
    rw [decide_eq_true (congrArg V.int hn0)]
    exact iteT (iteT ⟨Nat.zero_le _, ret0 H (Same.refl _) (by cases hrep; rfl)⟩)
  · rw [decide_eq_false (fun z => hn0 (V.int.inj z))]
    refine iteF ⟨_, rfl, Nat.zero_le _, fun p np => ⟨psData ps, .tuple [], (h1.mono (TupE.of (Same.upd np))).dp, (Td.new np .nil).dp, s1, nil_shaped, _, rfl, ?_⟩⟩
    rw [ps_empty]
    have E1 : Same H (upd H p (.tup [])) := Same.upd np
    generalize upd H p (.tup []) = H1 at E1
    by_cases hemp : ps.isEmpty = true
    · rw [if_pos (.inr hemp)] at hrep
      rw [hemp]
      exact iteT ⟨Nat.zero_le _, ret0 H1 E1 (by cases hrep; rfl)⟩
    · rw [if_neg (fun z => z.elim hn0 hemp)] at hrep
      rw [Bool.not_eq_true] at hemp
      rw [hemp]
      refine iteF ⟨_, rfl, rfl, _, rfl, ?_⟩
      have h1' := h1.mono (TupE.of E1)
      by_cases hn1 : n = 1
      · rw [if_pos hn1] at hrep
        rw [decide_eq_true (congrArg V.int hn1)]
        cases hrep
        exact iteT ⟨_, rfl, hQ H1 v E1 h1'⟩
      · rw [if_neg hn1] at hrep
        rw [decide_eq_false (fun z => hn1 (V.int.inj z))]
        obtain ⟨a, xs, rfl, q, hd⟩ := Td.tn h1'
        have hxl : xs.length = ps.length := by rw [hd.len, List.length_map]
        refine iteF ⟨_, rfl, a, _, rfl, .inr q.sq, rfl, _, rfl, ?_⟩
        -- the general end
        have fin : (flats ps).bind (fun fs => some [Piece.rep n fs]) = some qs → ∀ p, H1 p = none → ∀ p2, (upd H1 p (.tup [.str "repeat", .int n, .ref a])) p2 = none → Q (.ref p2) (upd (upd H1 p (.tup [.str "repeat", .int n, .ref a])) p2 (.tup [.ref p])) := fun e p np p2 np2 => by
          obtain ⟨fs, h3, h4⟩ := Option.bind_eq_some_iff.mp e
          cases h4
          refine hQ _ _ (Same.upd' (Same.upd' E1 np) np2) (Td.new np2 (.cons (Td.new np (.cons (.str _) (.cons (.int _) (.cons ?_ .nil)))) .nil))
          rw [← fl_data, ← fl_flats h3]
          exact h1'
        by_cases hl1 : xs.length = 1
        · rw [hxl] at hl1
          obtain ⟨p1, rfl⟩ := List.length_eq_one_iff.mp hl1
          cases hd with
          | @cons y ys _ _ dy ty =>
            cases ty
            have e1 : decide (V.int (([y] : List V).length : Int) = V.int 1) = true := decide_eq_true rfl
            rw [e1]
            cases p1 with
            | rep m fs =>
              obtain ⟨b, g, rfl, q2, hg⟩ := td_rep dy
              cases hrep
              refine iteT ⟨_, rfl, a, _, _, _, rfl, rfl, q.sq, rfl, b, _, _, _, rfl, rfl, q2.sq, rfl, rfl, _, rfl, ?_⟩
              rw [d_rs]
              refine iteF ⟨_, rfl, a, _, rfl, .inr q.sq, rfl, _, rfl, ?_⟩
              rw [e1]
              refine iteT ⟨_, rfl, a, _, _, _, rfl, rfl, q.sq, rfl, b, _, _, _, rfl, rfl, q2.sq, rfl, rfl, _, rfl, ?_⟩
              rw [d_rr]
              refine iteT ⟨_, rfl, a, _, _, _, rfl, rfl, q.sq, rfl, b, _, _, _, rfl, rfl, q2.sq, rfl, _, rfl, _, _, rfl, rfl, wide_mul (sm _ (List.mem_singleton.mpr rfl)) sn (by decide) (by decide) (by decide),
                _, rfl, a, _, _, _, rfl, rfl, q.sq, rfl, b, _, _, _, rfl, rfl, q2.sq, rfl, by show 3 ≤ sizeLine; decide, fun p np => ⟨by show 1 ≤ sizeLine; decide, fun p2 np2 => ?_⟩⟩
              refine hQ _ _ (Same.upd' (Same.upd' E1 np) np2) (Td.new np2 (.cons (Td.new np (.cons (.str _) (.cons (.int _) (.cons ?_ .nil)))) .nil))
              rw [← fl_data]
              exact hg
            | fl f =>
              cases f with
              | sil m =>
                obtain ⟨b, rfl, q2⟩ := td_sil dy
                cases hrep
                refine iteT ⟨_, rfl, a, _, _, _, rfl, rfl, q.sq, rfl, b, _, _, _, rfl, rfl, q2.sq, rfl, rfl, _, rfl, ?_⟩
                rw [d_ss]
                refine iteT ⟨_, rfl, a, _, _, _, rfl, rfl, q.sq, rfl, b, _, _, _, rfl, rfl, q2.sq, rfl, _, rfl, _, _, rfl, rfl, wide_mul (sm _ (List.mem_singleton.mpr rfl)) sn (by decide) (by decide) (by decide), by show 2 ≤ sizeLine; decide, fun p np => ⟨by show 1 ≤ sizeLine; decide, fun p2 np2 => ?_⟩⟩
                exact hQ _ _ (Same.upd' (Same.upd' E1 np) np2) (Td.new np2 (.cons (Td.new np (.cons (.str _) (.cons (.int _) .nil))) .nil))
              | part x lo hi gs =>
                obtain ⟨b, g, rfl, q2, hg⟩ := td_part dy
                refine iteT ⟨_, rfl, a, _, _, _, rfl, rfl, q.sq, rfl, b, _, _, _, rfl, rfl, q2.sq, rfl, rfl, _, rfl, ?_⟩
                rw [d_ps]
                refine iteF ⟨_, rfl, a, _, rfl, .inr q.sq, rfl, _, rfl, ?_⟩
                rw [e1]
                refine iteT ⟨_, rfl, a, _, _, _, rfl, rfl, q.sq, rfl, b, _, _, _, rfl, rfl, q2.sq, rfl, rfl, _, rfl, ?_⟩
                rw [d_pr]
                exact iteF ⟨_, rfl, _, rfl, by show 3 ≤ sizeLine; decide, fun p np => ⟨by show 1 ≤ sizeLine; decide, fun p2 np2 => fin hrep p np p2 np2⟩⟩
        · have e1 : decide (V.int (xs.length : Int) = V.int 1) = false := decide_eq_false fun z => hl1 (by have := V.int.inj z; omega)
          rw [e1]
          refine iteF (iteF ⟨_, rfl, a, _, rfl, .inr q.sq, rfl, _, rfl, ?_⟩)
          rw [e1]
          refine iteF (iteF ⟨_, rfl, _, rfl, by show 3 ≤ sizeLine; decide, fun p np => ⟨by show 1 ≤ sizeLine; decide, fun p2 np2 => fin ?_ p np p2 np2⟩⟩)
          cases ps with
          | nil => cases hemp
          | cons p1 r =>
            cases r with
            | nil => exact absurd (by rw [hxl]; rfl) hl1
            | cons p2 r =>
              cases p1 with
              | rep m fs => exact hrep
              | fl f => cases f <;> exact hrep
end
end FJ

set_option Elab.async false
set_option linter.all false
set_option maxRecDepth 100000
set_option maxHeartbeats 4000000
/-! pieces: cut, gained -/
namespace FJ
open PySem PySem.Spec PyProof.Rows L2
open C8 (pe_c pe_mk pe_mt pe_mt0 pe_gc)
section
variable {P : Program} {w : World} {K : PySem.W.Frag} {mg : Str → Option Value} {base : Heap} {CC CR CE RES : Addr} {f : Addr} {fd : FuncData}
def spCutP (K : PySem.W.Frag) : Sp := spOf (fun x : V × Flat × Int × Int => [x.1, .int x.2.2.1, .int x.2.2.2]) fun x H Q => Td K H x.1 (Piece.data (.fl x.2.1)) ∧ x.2.2.1 ≠ x.2.2.2 ∧ ∀ H' v, Same H H' → Td K H' v (psData [.fl (cutF x.2.1 x.2.2.1 x.2.2.2)]) → Q v H'
theorem ok_cut_piece (F : FnP K "cut_piece" "cut_piece" s_cut_piece f fd) (T : Txt K mg CC CR CE RES) {sp : Sp} (c_cut_repeat : C8.Cal P w K mg base 0 "cut_repeat" sp []) : FnOk P w K mg base CX0 1 f fd ["piece", "start", "end"] (spCutP K) := by
  refine ok0 F sc_cut_piece (fun _ => rfl) (fun cdv A outer s H y Q E hr h => ?_)
  obtain ⟨v, p, st, en⟩ := y
  obtain ⟨h1, hne, hQ⟩ := h
  dsimp only at h1 hne hQ ⊢
  refine ⟨_, (pss_cons (ps_if (pt_cmpR op_eq (pv 1) (pv 2) (nomark _))
      (pss_one (ps_ret (pe_tup pa_nil)))
      pss_nil)
      (pss_cons (ps_if (pt_cmpR op_eq (pe_ix ix_tup (pv 0) pe_int (fun _ _ => rfl)) pe_str (nomark _))
      (pss_one (ps_ret (pe_tup (pa_cons (pe_tup (pa_cons pe_str (pa_cons (pe_ix ix_tup (pv 0) pe_int (fun _ _ => rfl)) (pa_cons (pe_op op_add (pe_ix ix_tup (pv 0) pe_int (fun _ _ => rfl)) (pv 1)) (pa_cons (pe_op op_add (pe_ix ix_tup (pv 0) pe_int (fun _ _ => rfl)) (pv 2)) (pa_cons (pe_ix ix_tup (pv 0) pe_int (fun _ _ => rfl)) pa_nil)))))) pa_nil))))
      pss_nil)
      (pss_cons (ps_if (pt_cmpR op_eq (pe_ix ix_tup (pv 0) pe_int (fun _ _ => rfl)) pe_str (nomark _))
      (pss_one (ps_ret (pe_tup (pa_cons (pe_tup (pa_cons pe_str (pa_cons (pe_op op_sub (pv 2) (pv 1)) pa_nil))) pa_nil))))
      pss_nil)
      (pss_cons (ps_if (pt_cmpR op_eq (pe_ix ix_tup (pv 0) pe_int (fun _ _ => rfl)) pe_str (nomark _))
      (pss_one (ps_ret (pe_tup (pa_cons (pe_tup (pa_cons pe_str (pa_cons (pe_slice sl_str (pe_ix ix_tup (pv 0) pe_int (fun _ _ => rfl)) (po_some (pv 1)) (po_some (pv 2))) (pa_cons (pe_ix ix_tup (pv 0) pe_int (fun _ _ => rfl)) pa_nil)))) pa_nil))))
      pss_nil)
      (pss_one (ps_ret (pe_c c_cut_repeat hr (by omega) rfl (pa_cons (pv 0) (pa_cons (pv 1) (pa_cons (pv 2) pa_nil)))))))))), ?_⟩
  refine ⟨_, rfl, _, rfl, rfl, _, rfl, ?_⟩
  rw [decide_eq_false (fun z => hne (V.int.inj z))]
  refine iteF ?_
  cases p with
  | part x lo hi gs =>
    obtain ⟨a, g, rfl, q, hg⟩ := td_part h1
    refine ⟨_, rfl, _, _, _, _, rfl, rfl, q.sq, rfl, rfl, _, rfl, ?_⟩
    rw [d_pp]
    refine iteT ⟨_, rfl, _, _, _, _, rfl, rfl, q.sq, rfl, _, rfl, _, _, _, _, rfl, rfl, q.sq, rfl, _, rfl, _, _, rfl, rfl, _, rfl, _, _, _, _, rfl, rfl, q.sq, rfl, _, rfl, _, _, rfl, rfl, _, rfl, _, _, _, _, rfl, rfl, q.sq, rfl, by show 5 ≤ sizeLine; decide, fun p np => ⟨by show 1 ≤ sizeLine; decide, fun p2 np2 => ?_⟩⟩
    exact hQ _ _ (Same.upd' (Same.upd np) np2) (Td.new np2 (.cons (Td.new np (.cons (.str _) (.cons (.str _) (.cons (.int _) (.cons (.int _) (.cons hg .nil)))))) .nil))
  | sil n =>
    obtain ⟨a, rfl, q⟩ := td_sil h1
    refine ⟨_, rfl, _, _, _, _, rfl, rfl, q.sq, rfl, rfl, _, rfl, ?_⟩
    rw [d_sp]
    refine iteF ⟨_, rfl, _, _, _, _, rfl, rfl, q.sq, rfl, rfl, _, rfl, ?_⟩
    rw [d_ss]
    refine iteT ⟨_, rfl, _, rfl, _, _, rfl, rfl, by show 2 ≤ sizeLine; decide, fun p np => ⟨by show 1 ≤ sizeLine; decide, fun p2 np2 => ?_⟩⟩
    exact hQ _ _ (Same.upd' (Same.upd np) np2) (Td.new np2 (.cons (Td.new np (.cons (.str _) (.cons (.int _) .nil))) .nil))
theorem shp_cut {p : Flat} (s e : Int) (h : Shp [.fl p]) : Shp [.fl (cutF p s e)] := by
  cases p with
  | part x lo hi gs => exact h
  | sil n => exact h
def spCutPs (K : PySem.W.Frag) : Sp := spOf (fun x : V × List Flat × Int × Int => [x.1, .int x.2.2.1, .int x.2.2.2]) fun x H Q => Td K H x.1 (psData (x.2.1.map Piece.fl)) ∧ x.2.1.length ≤ 1 ∧ Shp (x.2.1.map Piece.fl) ∧ ∀ H' v, Same H H' → Td K H' v (psData (cutGo x.2.2.1 x.2.2.2 x.2.1 0 [])) → Q v H'
theorem ok_cut_pieces {k : Nat} {Ok : Piece → Prop} (hk : 2 ≤ k) (hOk : ∀ g, Ok (.fl g)) (F : FnP K "cut_pieces" "cut_pieces" s_cut_pieces f fd) (T : Txt K mg CC CR CE RES) (c_piece_length : C8.Cal P w K mg base k "piece_length" (spPL K Ok) [])
    (c_both_pieces : C8.Cal P w K mg base 2 "both_pieces" (spBoth K) []) (c_cut_piece : C8.Cal P w K mg base 1 "cut_piece" (spCutP K) []) : FnOk P w K mg base CX0 (k + 1) f fd ["pieces", "start", "end"] (spCutPs K) := by
  refine ok0 F sc_cut_pieces (fun _ => rfl) (fun cdv A outer s H y Q E hr h => ?_)
  obtain ⟨v, fs, st, en⟩ := y
  obtain ⟨h1, hlen, hshp, hQ⟩ := h
  dsimp only at h1 hlen hshp hQ ⊢
  refine ⟨_, (pss_cons (ps_set (i := 3) sc_cut_pieces.nd rfl (Or.inl rfl) (pe_tup pa_nil))
      (pss_cons (ps_set (i := 4) sc_cut_pieces.nd rfl (Or.inl rfl) pe_int)
      (pss_cons (ps_for PassesOwn.never rfl (pi_tup (pv 0)) (pg_name (i := 5) sc_cut_pieces.nd rfl (Or.inl rfl))
      (pss_cons (ps_set (i := 6) sc_cut_pieces.nd rfl (Or.inl rfl) (pe_c c_piece_length hr (by omega) rfl (pa_cons (pv 5) pa_nil)))
      (pss_cons (ps_par (i := 7) (j := 8) (by rfl) sc_cut_pieces.nd rfl rfl (by decide) rfl rfl (pa_cons (pe_callB (call_max2 rfl) (by rfl) T.n_max bt_max (pa_cons (pe_op op_sub (pv 1) (pv 4)) (pa_cons pe_int pa_nil))) (pa_cons (pe_callB (call_min2 rfl) (by rfl) T.n_min bt_min (pa_cons (pe_op op_sub (pv 2) (pv 4)) (pa_cons (pv 6) pa_nil))) pa_nil)) (by rfl))
      (pss_cons (ps_if (pt_cmpR op_lt (pv 7) (pv 8) (nomark _))
      (pss_one (ps_set (i := 3) sc_cut_pieces.nd rfl (Or.inl rfl) (pe_c c_both_pieces hr (by omega) rfl (pa_cons (pv 3) (pa_cons (pe_c c_cut_piece hr (by omega) rfl (pa_cons (pv 5) (pa_cons (pv 7) (pa_cons (pv 8) pa_nil)))) pa_nil)))))
      pss_nil)
      (pss_one (ps_aug (i := 4) sc_cut_pieces.nd rfl (Or.inl rfl) (pv 6) ip_add))))))
      (pss_one (ps_ret (pv 3)))))), ?_⟩
  obtain ⟨a, xs, rfl, q, hd⟩ := Td.tn h1
  have hxl : xs.length = fs.length := by rw [hd.len, List.length_map, List.length_map]
  refine ⟨Nat.zero_le _, fun p np => ?_⟩
  refine ⟨_, rfl, a, rfl, ⟨_, (q.mono (TupE.of (Same.upd np))).sq⟩, for_tup (K := K) (a := a) (xs := xs) (fun i σ H' => ∃ vf pl fnd o5 o6 o7 o8, σ = [some (.ref a), some (.int st), some (.int en), some vf, some (.int pl), o5, o6, o7, o8] ∧ Same H H' ∧ Td K H' vf (psData fnd) ∧ (i = 0 → fnd = [] ∧ pl = 0) ∧ (1 ≤ i → fnd = cutGo st en fs 0 []))
    ⟨.ref p, 0, [], _, _, _, _, rfl, Same.upd np, Td.new np .nil, fun _ => ⟨rfl, rfl⟩, fun z => by omega⟩ (fun i σ H' _ ⟨_, _, _, _, _, _, _, _, e, _⟩ => (q.mono (TupE.of e)).sq) ?_ ?_⟩
  · rintro i x σ H2 hx ⟨vf, pl, fnd, o5, o6, o7, o8, rfl, e2, d2, i0, i1⟩
    have hi : i = 0 := by
      have := (List.getElem?_eq_some_iff.mp hx).1
      omega
    subst hi
    obtain ⟨rfl, rfl⟩ := i0 rfl
    cases fs with
    | nil => exfalso; have := (List.getElem?_eq_some_iff.mp hx).1; rw [hxl] at this; exact absurd this (by simp)
    | cons g r =>
      have hr0 : r = [] := by
        cases r with
        | nil => rfl
        | cons _ _ => simp at hlen
      subst hr0
      cases hd with
      | @cons y ys _ _ dy ty =>
        obtain rfl : y = x := by simpa using hx
        have dy2 := dy.mono (TupE.of e2)
        refine ⟨_, rfl, (y, .fl g), rfl, dy2, hOk g, fun H3 e3 => ?_⟩
        have d3 := d2.mono (TupE.of e3)
        have dy3 := dy2.mono (TupE.of e3)
        refine ⟨_, rfl, _, rfl, _, _, rfl, rfl, _, _, rfl, _, rfl, _, rfl, _, _, rfl, rfl, _, rfl, _, _, rfl, _, _, rfl, ?_⟩
        refine ⟨_, rfl, _, rfl, _, _, rfl, rfl, _, rfl, ?_⟩
        have hgo : cutGo st en [g] 0 [] = if (if 0 > st - 0 then 0 else st - 0) < (if (Piece.fl g).len < en - 0 then (Piece.fl g).len else en - 0) then both [] [.fl (cutF g (if 0 > st - 0 then 0 else st - 0) (if (Piece.fl g).len < en - 0 then (Piece.fl g).len else en - 0))] else [] := rfl
        dsimp only
        generalize (if 0 > st - 0 then 0 else st - 0) = fi at hgo
        generalize (if (Piece.fl g).len < en - 0 then (Piece.fl g).len else en - 0) = la at hgo
        by_cases hlt : fi < la
        · rw [decide_eq_true hlt]
          rw [if_pos hlt] at hgo
          refine iteT ⟨_, rfl, _, rfl, _, rfl, _, rfl, (y, g, fi, la), rfl, dy3, by dsimp only; omega, fun H4 v4 e4 d4 => ⟨(vf, v4, [], [.fl (cutF g fi la)]), rfl, d3.mono (TupE.of e4), d4, nil_shaped, shp_cut _ _ hshp, Nat.zero_le _, (by show 1 ≤ 1000; decide), fun H5 v5 e5 d5 => ?_⟩⟩
          refine ⟨_, rfl, _, rfl, _, _, rfl, rfl, v5, _, _, _, _, _, _, rfl, e2.trans (e3.trans (e4.trans e5)), d5, fun z => by omega, fun _ => hgo.symm⟩
        · rw [decide_eq_false hlt]
          rw [if_neg hlt] at hgo
          exact iteF ⟨_, rfl, _, rfl, _, _, rfl, rfl, vf, _, _, _, _, _, _, rfl, e2.trans e3, d3, fun z => by omega, fun _ => hgo.symm⟩
  · rintro σ H2 ⟨vf, pl, fnd, o5, o6, o7, o8, rfl, e2, d2, i0, i1⟩
    refine ⟨_, rfl, ?_⟩
    have : fnd = cutGo st en fs 0 [] := by
      cases fs with
      | nil => exact (i0 (by rw [hxl]; rfl)).1
      | cons g r => exact i1 (by rw [hxl]; simp)
    rw [this] at d2
    exact hQ H2 vf e2 d2

/-! ### gains -/
def spGain (K : PySem.W.Frag) : Sp := spOf (fun x : V × V × List Flat × Int × Int => [x.1, x.2.1]) fun x H Q => Td K H x.1 (psData (x.2.2.1.map Piece.fl)) ∧ Td K H x.2.1 (.tuple [.int x.2.2.2.1, .int x.2.2.2.2]) ∧ x.2.2.1.length ≤ 1000 ∧ (∀ p ∈ x.2.2.1, match p with | .part _ _ _ gs => gs.length ≤ 1000 | _ => True) ∧
  ∀ H' v, Same H H' → Td K H' v (psData (x.2.2.1.map fun g => .fl (gainF x.2.2.2 g))) → Q v H'
theorem ok_gained {sp : Sp} (F : FnP K "gained_pieces" "gained_pieces" s_gained_pieces f fd) (T : Txt K mg CC CR CE RES) (c_gained_pieces : C8.Cal P w K mg base 0 "gained_pieces" sp []) : FnOk P w K mg base CX0 1 f fd ["pieces", "gain"] (spGain K) := by
  refine ok0 F sc_gained_pieces (fun _ => rfl) (fun cdv A outer s H y Q E hr h => ?_)
  obtain ⟨v, vg, fs, t, b⟩ := y
  obtain ⟨h1, hg, hlen, hgs, hQ⟩ := h
  dsimp only at h1 hg hlen hgs hQ ⊢
  refine ⟨_, (pss_cons (ps_set (i := 2) sc_gained_pieces.nd rfl (Or.inl rfl) (pe_lst pa_nil))
      (pss_cons (ps_for PassesOwn.never rfl (pi_tup (pv 0)) (pg_name (i := 3) sc_gained_pieces.nd rfl (Or.inl rfl))
      (pss_one (ps_if (pt_cmpR op_eq (pe_ix ix_tup (pv 3) pe_int (fun _ _ => rfl)) pe_str (nomark _))
      (pss_one (ps_expr (pe_bm PySem.F.plainAttrs_list PySem.F.slot_list_append PySem.F.type_list_append mt_append (pv 2) (pa_cons (pe_tup (pa_cons pe_str (pa_cons (pe_ix ix_tup (pv 3) pe_int (fun _ _ => rfl)) (pa_cons (pe_c c_gained_pieces hr (by omega) rfl (pa_cons (pe_ix ix_tup (pv 3) pe_int (fun _ _ => rfl)) (pa_cons (pv 1) pa_nil))) pa_nil)))) pa_nil))))
      (pss_one (ps_if (pt_cmpR op_eq (pe_ix ix_tup (pv 3) pe_int (fun _ _ => rfl)) pe_str (nomark _))
      (pss_one (ps_expr (pe_bm PySem.F.plainAttrs_list PySem.F.slot_list_append PySem.F.type_list_append mt_append (pv 2) (pa_cons (pv 3) pa_nil))))
      (pss_cons (ps_asg (pv 3) (pg_star1 rfl (pgs_cons (pg_name (i := 4) sc_gained_pieces.nd rfl (Or.inl rfl)) (pgs_cons (pg_name (i := 5) sc_gained_pieces.nd rfl (Or.inl rfl)) pgs_nil))))
      (pss_one (ps_expr (pe_bm PySem.F.plainAttrs_list PySem.F.slot_list_append PySem.F.type_list_append mt_append (pv 2) (pa_cons (pe_op op_catA (pe_tupleOf (by rfl) T.n_tuple (pv 4)) (pe_tup (pa_cons (pe_op op_catA (pv 5) (pe_tup (pa_cons (pv 1) pa_nil))) pa_nil))) pa_nil))))))))))
      (pss_one (ps_ret (pe_tupleOf (by rfl) T.n_tuple (pv 2)))))), ?_⟩
  obtain ⟨a, xs, rfl, q, hd⟩ := Td.tn h1
  have hxl : xs.length = fs.length := by rw [hd.len, List.length_map, List.length_map]
  refine ⟨Nat.zero_le _, fun p np => ?_⟩
  refine ⟨_, rfl, a, rfl, ⟨_, (q.mono (TupE.of (Same.upd np))).sq⟩, for_tup (K := K) (a := a) (xs := xs) (fun i σ H' => ∃ ys o3 o4 o5, σ = [some (.ref a), some vg, some (.ref p), o3, o4, o5] ∧ Same H H' ∧ H' p = some (.lst ys) ∧ TdAll K H' ys ((fs.take i).map fun g => Piece.data (.fl (gainF (t, b) g))) ∧ i ≤ fs.length)
    ⟨[], _, _, _, rfl, Same.upd np, upd_same, .nil, Nat.zero_le _⟩ (fun i σ H' _ ⟨_, _, _, _, _, e, _⟩ => (q.mono (TupE.of e)).sq) ?_ ?_⟩
  · rintro i x σ H2 hx ⟨ys, o3, o4, o5, rfl, e2, hp2, d2, hle⟩
    have hi : i < fs.length := by
      have := (List.getElem?_eq_some_iff.mp hx).1
      omega
    have hp : fs[i]? = some fs[i] := List.getElem?_eq_getElem hi
    obtain ⟨x', hx', hdx⟩ := hd.get (i := i) (d := Piece.data (.fl fs[i])) (by rw [List.getElem?_map, List.getElem?_map, hp]; rfl)
    rw [hx] at hx'; cases hx'
    have hdx := hdx.mono (TupE.of e2)
    have hgg := hgs _ (List.getElem_mem hi)
    have hyl : ys.length < sizeLine := by rw [d2.len, List.length_map, List.length_take, sizeLine_eq]; omega
    -- the end of a turn: y is the new piece
    have fin : ∀ H3 y o3 o4 o5, Same H2 H3 → H3 p = some (.lst ys) → Td K H3 y (Piece.data (.fl (gainF (t, b) fs[i]))) → ∃ ys' o3' o4' o5', [some (V.ref a), some vg, some (V.ref p), o3, o4, o5] = [some (.ref a), some vg, some (.ref p), o3', o4', o5'] ∧ Same H (upd H3 p (.lst (ys ++ [y]))) ∧ (upd H3 p (.lst (ys ++ [y]))) p = some (.lst ys') ∧
        TdAll K (upd H3 p (.lst (ys ++ [y]))) ys' ((fs.take (i + 1)).map fun g => Piece.data (.fl (gainF (t, b) g))) ∧ i + 1 ≤ fs.length := fun H3 y o3 o4 o5 e3 hp3 dy => by
      refine ⟨_, o3, o4, o5, rfl, Same.updN (e2.trans e3) np, upd_same, ?_, hi⟩
      rw [List.take_succ_eq_append_getElem hi, List.map_append]
      have up := tup_upd (o := .lst (ys ++ [y])) ⟨ys, hp3⟩
      exact ((d2.mono (TupE.of e3)).mono up).app (.cons (dy.mono up) .nil)
    generalize fs[i] = g at hdx hgg fin
    cases g with
    | sil n =>
      have hdx' := hdx
      obtain ⟨c, rfl, q2⟩ := td_sil hdx
      refine ⟨_, rfl, _, _, _, _, rfl, rfl, q2.sq, rfl, rfl, _, rfl, ?_⟩
      rw [d_sr]
      refine iteF ⟨_, rfl, _, _, _, _, rfl, rfl, q2.sq, rfl, rfl, _, rfl, ?_⟩
      rw [d_ss]
      refine iteT ⟨_, rfl, .inl ⟨rfl, _, SqL.of hp2⟩, _, rfl, p, ys, _, rfl, rfl, hp2, hyl, fin H2 _ _ _ _ (Same.refl _) hp2 hdx'⟩
    | part x0 lo hi0 gs =>
      obtain ⟨c, gv, rfl, q2, hgv⟩ := td_part hdx
      refine ⟨_, rfl, _, _, _, _, rfl, rfl, q2.sq, rfl, rfl, _, rfl, ?_⟩
      rw [d_pr]
      refine iteF ⟨_, rfl, _, _, _, _, rfl, rfl, q2.sq, rfl, rfl, _, rfl, ?_⟩
      rw [d_ps]
      refine iteF ⟨_, rfl, c, [.str "part", .str x0, .int lo, .int hi0], gv, rfl, q2.sq, by show 4 ≤ 1000; decide, fun p3 np3 => ⟨_, _, rfl, _, _, rfl, rfl, ?_⟩⟩
      have hp3 : (upd H2 p3 (.lst [.str "part", .str x0, .int lo, .int hi0])) p = some (.lst ys) := by rw [upd_ne (ne_of_none hp2 np3)]; exact hp2
      have E3 : Same H2 (upd H2 p3 (.lst [.str "part", .str x0, .int lo, .int hi0])) := Same.upd np3
      refine ⟨_, rfl, .inl ⟨rfl, _, SqL.of hp3⟩, _, rfl, .inl ⟨p3, _, rfl, SqL.of upd_same, fun p4 np4 => ?_⟩⟩
      have E4 := Same.upd' E3 np4 (o := .tup [.str "part", .str x0, .int lo, .int hi0])
      have hp4 : Td K (upd (upd H2 p3 (.lst [.str "part", .str x0, .int lo, .int hi0])) p4 (.tup [.str "part", .str x0, .int lo, .int hi0])) (.ref p4) (.tuple [.str "part", .str x0, .int lo, .int hi0]) := Td.new np4 (.cons (.str _) (.cons (.str _) (.cons (.int _) (.cons (.int _) .nil))))
      have hpp4 : (upd (upd H2 p3 (.lst [.str "part", .str x0, .int lo, .int hi0])) p4 (.tup [.str "part", .str x0, .int lo, .int hi0])) p = some (.lst ys) := by rw [upd_ne (ne_of_none hp3 np4)]; exact hp3
      generalize upd (upd H2 p3 (.lst [.str "part", .str x0, .int lo, .int hi0])) p4 (.tup [.str "part", .str x0, .int lo, .int hi0]) = H4 at E4 hp4 hpp4
      refine ⟨_, rfl, _, rfl, by show 1 ≤ sizeLine; decide, fun p5 np5 => ?_⟩
      have E5 := Same.upd' E4 np5 (o := .tup [vg])
      have dg5 : Td K (upd H4 p5 (.tup [vg])) (.ref p5) (.tuple [.tuple [.int t, .int b]]) := Td.new np5 (.cons ((hg.mono (TupE.of e2)).mono (TupE.of E4)) .nil)
      refine r_cat (hgv.mono (TupE.of E5)) dg5 (by rw [List.length_map]; simp only [List.length_singleton]; dsimp only at hgg; omega) fun H6 v6 e6 d6 => ?_
      refine ⟨by show 1 ≤ sizeLine; decide, fun p7 np7 => ?_⟩
      have d7 : Td K (upd H6 p7 (.tup [v6])) (.ref p7) (.tuple [gsData (gs ++ [(t, b)])]) := Td.new np7 (.cons (by unfold gsData; rw [List.map_append]; exact d6) .nil)
      have E7 : Same H4 (upd H6 p7 (.tup [v6])) := (Same.upd np5).trans (Same.upd' e6 np7)
      refine r_cat (hp4.mono (TupE.of E7)) d7 (by show 4 + 1 ≤ 100000; decide) fun H8 v8 e8 d8 => ?_
      have hp8 := e8 _ _ (E7 _ _ hpp4)
      exact ⟨p, ys, _, rfl, rfl, hp8, hyl, fin H8 _ _ _ _ (E4.trans (E7.trans e8)) hp8 d8⟩
  · rintro σ H2 ⟨ys, o3, o4, o5, rfl, e2, hp2, d2, hle⟩
    refine ⟨_, rfl, .inl ⟨p, ys, rfl, SqL.of hp2, fun p3 np3 => ?_⟩⟩
    rw [hxl, List.take_length] at d2
    refine hQ _ _ (Same.upd' e2 np3) ?_
    unfold psData
    rw [List.map_map]
    exact Td.new np3 d2
end
end FJ

set_option Elab.async false
set_option linter.all false
set_option maxRecDepth 100000
set_option maxHeartbeats 4000000
/-! the class Clip -/
namespace FJ
open PySem PySem.Spec PyProof.Rows L2
open C8 (pe_c pe_mk pe_mt pe_mt0 pe_gc)

def cf (t : V) (n : Int) : List (Str × V) := [(("own_pieces" : Str), t), ("own_length", .int n)]
theorem cf_pieces (t : V) (n : Int) : (cf t n).lookup ("own_pieces" : Str) = some t := by kernel_rfl
theorem cf_len (t : V) (n : Int) : (cf t n).lookup ("own_length" : Str) = some (.int n) := by kernel_rfl
/-- v is a clip of these pieces -/
def ClipAt (K : PySem.W.Frag) (CC : Addr) (H : Hp) (v : V) (ps : List Piece) : Prop := Wf ps ∧ ∃ a dx t, v = .ref a ∧ H a = some (.ins CC dx (cf t (psLen ps))) ∧ Td K H t (psData ps)
theorem ClipAt.mono {K : PySem.W.Frag} {CC : Addr} {H H' : Hp} {v : V} {ps : List Piece} (e : Same H H') (h : ClipAt K CC H v ps) : ClipAt K CC H' v ps := by
  obtain ⟨hw, a, dx, t, hv, h1, h2⟩ := h
  exact ⟨hw, a, dx, t, hv, e _ _ h1, h2.mono (TupE.of e)⟩
theorem mkC_wf {ps qs : List Piece} (h : mkC ps = some qs) : qs = ps ∧ Wf ps := by
  unfold mkC at h
  split at h
  · rename_i hw
    cases h
    exact ⟨rfl, hw⟩
  · cases h

section
variable {P : Program} {w : World} {K : PySem.W.Frag} {mg : Str → Option Value} {base : Heap} {CC CR CE RES : Addr} {f : Addr} {fd : FuncData}
/-! ### making -/
def spCInit (K : PySem.W.Frag) (CC : Addr) : Sp := spOf (fun x : Addr × Addr × V × List Piece => [.ref x.1, x.2.2.1]) fun x H Q => H x.1 = some (.ins CC x.2.1 []) ∧ Td K H x.2.2.1 (psData x.2.2.2) ∧ Wf x.2.2.2 ∧
  ∀ H', XE x.1 H H' → H' x.1 = some (.ins CC x.2.1 (cf x.2.2.1 (psLen x.2.2.2))) → Q .non H'
theorem wf_Ok {ps : List Piece} (h : Wf ps) : ∀ p ∈ ps, p.Ok := h.2.1
theorem ok_cinit {dvs : List V} (F : FunD K "__init__" "Clip.__init__" (defArgs s_Clip_init) (defBody s_Clip_init) (defScope s_Clip_init) dvs [] f fd) (T : Txt K mg CC CR CE RES) (c_total_length : C8.Cal P w K mg base 4 "total_length" (spTL K Piece.Ok) [])
    (c_piece_count : C8.Cal P w K mg base 2 "piece_count" (spPC K Piece.Ok) []) : FnOk P w K mg base CX0 5 f fd ["self", "pieces"] (spCInit K CC) := by
  refine ok0 (ps := ["self", "pieces"]) F sc_Clip_init (fun _ => rfl) (fun cdv A outer s H y Q E hr h => ?_)
  obtain ⟨x, dx, v, ps⟩ := y
  obtain ⟨hx, hd, hw, hQ⟩ := h
  dsimp only at hx hd hw hQ ⊢
  refine ⟨_, (pss_cons (ps_fld (pv 0) (pe_tupleOf (by rfl) T.n_tuple (pv 1)) rfl)
      (pss_cons (ps_fld (pv 0) (pe_c c_total_length hr (by omega) rfl (pa_cons (pe_fld (pv 0) rfl) pa_nil)) rfl)
      (pss_cons (ps_if (pt_cmpR op_gt (pe_fld (pv 0) rfl) (pe_gc rfl T.g_MAX_LENGTH) (nomark _))
      (pss_one ps_never)
      pss_nil)
      (pss_one (ps_if (pt_cmpR op_gt (pe_c c_piece_count hr (by omega) rfl (pa_cons (pe_fld (pv 0) rfl) pa_nil)) (pe_gc rfl T.g_MAX_PIECES) (nomark _))
      (pss_one ps_never)
      pss_nil))))), ?_⟩
  obtain ⟨a, xs, rfl, q, t⟩ := Td.tn hd
  have U1 : XE x H (upd H x (.ins CC dx [(("own_pieces" : Str), .ref a)])) := XE.upd
  have td : ∀ H', XE x H H' → Td K H' (.ref a) (psData ps) := fun H' e => hd.mono (e.tup hx)
  refine ⟨_, rfl, .inr ⟨a, xs, rfl, q.sq, _, rfl, x, CC, dx, _, rfl, hx, T.clC, T.nPieces, (by show 0 < 1000; decide), ?_⟩⟩
  refine ⟨_, rfl, x, CC, dx, _, _, rfl, upd_same, T.clC, T.nPieces, (by kernel_rfl : _ = some (V.ref a)), (.ref a, ps), rfl, td _ U1, hw.2.1, Nat.le_trans hw.1 (by decide), fun H2 (e2 : Same _ H2) => ?_⟩
  refine ⟨_, rfl, x, CC, dx, _, rfl, e2 _ _ upd_same, T.clC, T.nLen, (by show 1 < 1000; decide), ?_⟩
  have ecf : putF "own_length" (V.int (psLen ps)) (putF "own_pieces" (V.ref a) []) = cf (.ref a) (psLen ps) := by kernel_rfl
  have U2 : XE x H (upd H2 x (.ins CC dx (cf (.ref a) (psLen ps)))) := fun b o nb h => by
    rw [upd_ne nb]
    exact e2 b o (by rw [upd_ne nb]; exact h)
  dsimp only
  rw [ecf]
  refine ⟨_, rfl, x, CC, dx, _, _, rfl, upd_same, T.clC, T.nLen, cf_len .., _, _, rfl, rfl, _, rfl, ?_⟩
  rw [decide_eq_false (by have h9 : psLen ps ≤ 10 ^ 40 := hw.2.2.2.1; omega)]
  refine iteF ⟨_, rfl, x, CC, dx, _, _, rfl, upd_same, T.clC, T.nPieces, cf_pieces .., (.ref a, ps), rfl, td _ U2, hw.2.1, Nat.le_trans hw.1 (by decide), fun H3 (e3 : Same _ H3) => ?_⟩
  refine ⟨_, _, rfl, rfl, _, rfl, ?_⟩
  rw [decide_eq_false (by have h9 : psCnt ps ≤ 200 := hw.2.2.2.2; dsimp only; omega)]
  exact iteF (hQ H3 (fun b o nb h => e3 b o (U2 b o nb h)) (e3 _ _ upd_same))
/-- Clip(v) -/
theorem r_mkc {H : Hp} {v : V} {ps : List Piece} {Q : VK} {E : XK} (hd : Td K H v (psData ps)) (hw : Wf ps) (q : ∀ H' u, Same H H' → ClipAt K CC H' u ps → Q u H') (x dx : Addr) (nx : H x = none) (ndx : H dx = none) (ne : dx ≠ x) :
    spCInit K CC [.ref x, v] (upd (upd H dx (.own x)) x (.ins CC dx [])) (fun u H2 => u = .non ∧ Q (.ref x) H2) E := by
  have e0 : ∀ b o, H b = some o → (upd (upd H dx (.own x)) x (.ins CC dx [])) b = some o := fun b o h => by rw [upd_ne (ne_of_none h nx), upd_ne (ne_of_none h ndx)]; exact h
  refine ⟨(x, dx, v, ps), rfl, upd_same, hd.mono fun a xs h => e0 _ _ h, hw, fun H' (e : XE x _ H') (hx : H' x = _) => ⟨rfl, ?_⟩⟩
  have e1 : Same H H' := fun b o h => e b o (ne_of_none h nx) (e0 b o h)
  exact q H' _ e1 ⟨hw, x, dx, v, rfl, hx, hd.mono (TupE.of e1)⟩
/-! ### parts, silences -/
def spPart (K : PySem.W.Frag) (CC : Addr) : Sp := spOf (fun x : Str × Int × Int => [.str x.1, .int x.2.1, .int x.2.2]) fun x H Q => NameOk x.1 ∧ 0 ≤ x.2.1 ∧ x.2.1 ≤ x.2.2 ∧ Wf (partC x.1 x.2.1 x.2.2) ∧ ∀ H' v, Same H H' → ClipAt K CC H' v (partC x.1 x.2.1 x.2.2) → Q v H'
theorem ok_part (F : FnP K "part" "Clip.part" s_Clip_part f fd) (T : Txt K mg CC CR CE RES) (c_is_name : C8.Cal P w K mg base 1 "is_name" spIsName []) (c_is_integer : C8.Cal P w K mg base 1 "is_integer" spIsInt []) (c_Clip : C8.Mak P w K mg base 5 "Clip" CC (spCInit K CC) []) :
    FnOk P w K mg base CX0 7 f fd ["name", "start", "end"] (spPart K CC) := by
  refine ok0 F sc_Clip_part (fun _ => rfl) (fun cdv A outer s H y Q E hr h => ?_)
  obtain ⟨x, lo, hi⟩ := y
  obtain ⟨hn, h0, hle, hw, hQ⟩ := h
  dsimp only at hn h0 hle hw hQ ⊢
  refine ⟨_, (pss_cons (ps_if (pt_not (pt_val (pe_c c_is_name hr (by omega) rfl (pa_cons (pv 0) pa_nil))))
      (pss_one ps_never)
      pss_nil)
      (pss_cons (ps_for PassesOwn.never rfl (pi_tup (pe_tup (pa_cons (pv 1) (pa_cons (pv 2) pa_nil)))) (pg_name (i := 3) sc_Clip_part.nd rfl (Or.inl rfl))
      (pss_one (ps_if (PW.pt (pw_or (pt_not (pt_val (pe_c c_is_integer hr (by omega) rfl (pa_cons (pv 3) pa_nil)))) (pw_or1 (pt_cmpR op_lt (pv 3) pe_int (nomark _)))))
      (pss_one ps_never)
      pss_nil)))
      (pss_cons (ps_if (pt_cmpR op_lt (pv 2) (pv 1) (nomark _))
      (pss_one ps_never)
      pss_nil)
      (pss_one (ps_ret (pe_mk c_Clip hr (by omega) rfl (pa_cons (pe_ifExp (pt_cmpR op_lt (pv 1) (pv 2) (nomark _)) (pe_tup (pa_cons (pe_tup (pa_cons pe_str (pa_cons (pv 0) (pa_cons (pv 1) (pa_cons (pv 2) (pa_cons (pe_tup pa_nil) pa_nil)))))) pa_nil)) (pe_tup pa_nil)) pa_nil))))))), ?_⟩
  obtain ⟨n1, n2, n3⟩ := hn
  have hx : S x.cps.toList = x := by simp [S, SX.S]
  refine ⟨_, rfl, x.cps.toList, (by show [V.str x] = [V.str (S x.cps.toList)]; rw [hx]), n1, n2, (fun c hc => List.all_eq_true.mp n3 c hc), fun H1 (e1 : Same H H1) => ⟨_, rfl, ?_⟩⟩
  refine iteF ⟨_, rfl, _, rfl, by show 2 ≤ sizeLine; decide, fun p np => ?_⟩
  refine ⟨p, rfl, ⟨_, SqT.of upd_same⟩, for_tup (K := K) (a := p) (xs := [.int lo, .int hi]) (fun i σ H' => ∃ o, σ = [some (.str x), some (.int lo), some (.int hi), o] ∧ Same H H' ∧ H' p = some (.tup [.int lo, .int hi])) ⟨none, rfl, Same.upd' e1 np, upd_same⟩ (fun i σ H' _ ⟨_, _, _, e⟩ => SqT.of e) ?_ ?_⟩
  · rintro i z σ H2 hz ⟨o, rfl, e2, hp2⟩
    have hv : ∃ v : Int, z = .int v ∧ 0 ≤ v := by
      match i, hz with
      | 0, hz => exact ⟨lo, by simpa using hz.symm, h0⟩
      | 1, hz => exact ⟨hi, by simpa using hz.symm, by omega⟩
      | n + 2, hz => simp at hz
    obtain ⟨v, rfl, hv0⟩ := hv
    refine ⟨_, rfl, v, rfl, _, rfl, ?_⟩
    refine iteF ⟨_, rfl, _, _, rfl, rfl, _, rfl, ?_⟩
    rw [decide_eq_false (by omega)]
    exact iteF ⟨_, rfl, e2, hp2⟩
  · rintro σ H2 ⟨o, rfl, e2, hp2⟩
    refine ⟨_, rfl, _, rfl, _, _, rfl, rfl, _, rfl, ?_⟩
    rw [decide_eq_false (by omega)]
    refine iteF ⟨_, rfl, _, rfl, _, _, rfl, rfl, _, rfl, ?_⟩
    unfold partC at hw hQ
    by_cases hlt : lo < hi
    · rw [decide_eq_true hlt]
      rw [if_pos hlt] at hw hQ
      refine iteT ⟨_, rfl, _, rfl, _, rfl, Nat.zero_le _, fun p3 np3 => ⟨by show 5 ≤ sizeLine; decide, fun p4 np4 => ⟨by show 1 ≤ sizeLine; decide, fun p5 np5 => ?_⟩⟩⟩
      have d5 := Td.new (K := K) np5 (.cons (Td.new np4 (.cons (.str "part") (.cons (.str x) (.cons (.int lo) (.cons (.int hi) (.cons (Td.new np3 .nil) .nil)))))) .nil)
      exact r_mkc (ps := [.fl (.part x lo hi [])]) d5 hw fun H' u e c => hQ H' u ((Same.upd' (Same.upd' (Same.upd' e2 np3) np4) np5).trans e) c
    · rw [decide_eq_false hlt]
      rw [if_neg hlt] at hw hQ
      refine iteF ⟨Nat.zero_le _, fun p3 np3 => ?_⟩
      exact r_mkc (ps := []) (Td.new np3 .nil) hw fun H' u e c => hQ H' u ((Same.upd' e2 np3).trans e) c
def spSil (K : PySem.W.Frag) (CC : Addr) : Sp := spOf (fun x : Int => [.int x]) fun n H Q => 0 ≤ n ∧ n ≤ 10 ^ 30 ∧ Wf (silC n) ∧ ∀ H' v, Same H H' → ClipAt K CC H' v (silC n) → Q v H'
theorem ok_silence (F : FnP K "silence" "Clip.silence" s_Clip_silence f fd) (T : Txt K mg CC CR CE RES) (c_is_between : C8.Cal P w K mg base 2 "is_between" spBetween []) (c_Clip : C8.Mak P w K mg base 5 "Clip" CC (spCInit K CC) []) :
    FnOk P w K mg base CX0 7 f fd ["count"] (spSil K CC) := by
  refine ok0 F sc_Clip_silence (fun _ => rfl) (fun cdv A outer s H n Q E hr h => ?_)
  obtain ⟨h0, hle, hw, hQ⟩ := h
  refine ⟨_, (pss_cons (ps_if (pt_not (pt_val (pe_c c_is_between hr (by omega) rfl (pa_cons (pv 0) (pa_cons pe_int (pa_cons (pe_gc rfl T.g_MAX_COUNT) pa_nil))))))
      (pss_one ps_never)
      pss_nil)
      (pss_one (ps_ret (pe_mk c_Clip hr (by omega) rfl (pa_cons (pe_ifExp (pt_cmpR op_gt (pv 0) pe_int (nomark _)) (pe_tup (pa_cons (pe_tup (pa_cons pe_str (pa_cons (pv 0) pa_nil))) pa_nil)) (pe_tup pa_nil)) pa_nil))))), ?_⟩
  refine ⟨_, rfl, (n, 0, 10 ^ 30), rfl, h0, hle, ⟨_, rfl, ?_⟩⟩
  refine iteF ⟨_, rfl, _, _, rfl, rfl, _, rfl, ?_⟩
  unfold silC at hw hQ
  by_cases hlt : n > 0
  · rw [decide_eq_true hlt]
    rw [if_pos hlt] at hw hQ
    refine iteT ⟨_, rfl, by show 2 ≤ sizeLine; decide, fun p4 np4 => ⟨by show 1 ≤ sizeLine; decide, fun p5 np5 => ?_⟩⟩
    have d5 := Td.new (K := K) np5 (.cons (Td.new np4 (.cons (.str "silence") (.cons (.int n) .nil))) .nil)
    exact r_mkc (ps := [.fl (.sil n)]) d5 hw fun H' u e c => hQ H' u ((Same.upd' (Same.upd np4) np5).trans e) c
  · rw [decide_eq_false hlt]
    rw [if_neg hlt] at hw hQ
    refine iteF ⟨Nat.zero_le _, fun p3 np3 => ?_⟩
    exact r_mkc (ps := []) (Td.new np3 .nil) hw fun H' u e c => hQ H' u ((Same.upd np3).trans e) c

/-! ### reading -/
def spLen (K : PySem.W.Frag) (CC : Addr) : Sp := spOf (fun x : V × List Piece => [x.1]) fun x H Q => ClipAt K CC H x.1 x.2 ∧ Q (.int (psLen x.2)) H
theorem ok_length (F : FnP K "length" "Clip.length" s_Clip_length f fd) (T : Txt K mg CC CR CE RES) : FnOk P w K mg base CX0 1 f fd ["self"] (spLen K CC) := by
  refine ok0 F sc_Clip_length (fun _ => rfl) (fun cdv A outer s H y Q E hr h => ?_)
  obtain ⟨v, ps⟩ := y
  obtain ⟨⟨hw, a, dx, t, rfl, h1, h2⟩, hQ⟩ := h
  refine ⟨_, (pss_one (ps_ret (pe_fld (pv 0) rfl))), ?_⟩
  exact ⟨_, rfl, _, _, _, _, _, rfl, h1, T.clC, T.nLen, cf_len .., hQ⟩
def spStre (K : PySem.W.Frag) (CC : Addr) : Sp := spOf (fun x : V × List Piece × Int × Int => [x.1, .int x.2.2.1, .int x.2.2.2]) fun x H Q => ClipAt K CC H x.1 x.2.1 ∧ Stre x.2.1 x.2.2.1 x.2.2.2 ∧ ∀ H', Same H H' → Q .non H'
theorem ok_stretch (F : FnP K "require_stretch" "Clip.require_stretch" s_Clip_require_stretch f fd) (T : Txt K mg CC CR CE RES) (c_is_between : C8.Cal P w K mg base 2 "is_between" spBetween []) : FnOk P w K mg base CX0 3 f fd ["self", "start", "end"] (spStre K CC) := by
  refine ok0 F sc_Clip_require_stretch (fun _ => rfl) (fun cdv A outer s H y Q E hr h => ?_)
  obtain ⟨v, ps, lo, hi⟩ := y
  obtain ⟨⟨hw, a, dx, t, ev, h1, h2⟩, ⟨g1, g2, g3, g4, g5⟩, hQ⟩ := h
  dsimp only at ev h1 g1 g2 g3 g4 g5 hQ ⊢
  subst ev
  refine ⟨_, (pss_cons (ps_for PassesOwn.never rfl (pi_tup (pe_tup (pa_cons (pv 1) (pa_cons (pv 2) pa_nil)))) (pg_name (i := 3) sc_Clip_require_stretch.nd rfl (Or.inl rfl))
      (pss_one (ps_if (pt_not (pt_val (pe_c c_is_between hr (by omega) rfl (pa_cons (pv 3) (pa_cons pe_int (pa_cons (pe_fld (pv 0) rfl) pa_nil))))))
      (pss_one ps_never)
      pss_nil)))
      (pss_one (ps_if (pt_cmpR op_lt (pv 2) (pv 1) (nomark _))
      (pss_one ps_never)
      pss_nil))), ?_⟩
  refine ⟨_, rfl, _, rfl, by show 2 ≤ sizeLine; decide, fun p np => ?_⟩
  refine ⟨p, rfl, ⟨_, SqT.of upd_same⟩, for_tup (K := K) (a := p) (xs := [.int lo, .int hi]) (fun i σ H' => ∃ o, σ = [some (.ref a), some (.int lo), some (.int hi), o] ∧ Same H H' ∧ H' p = some (.tup [.int lo, .int hi])) ⟨none, rfl, Same.upd np, upd_same⟩ (fun i σ H' _ ⟨_, _, _, e⟩ => SqT.of e) ?_ ?_⟩
  · rintro i z σ H2 hz ⟨o, rfl, e2, hp2⟩
    have hv : ∃ v : Int, z = .int v ∧ 0 ≤ v ∧ v ≤ psLen ps := by
      match i, hz with
      | 0, hz => exact ⟨lo, by simpa using hz.symm, g1, g2⟩
      | 1, hz => exact ⟨hi, by simpa using hz.symm, g3, g4⟩
      | n + 2, hz => simp at hz
    obtain ⟨v, rfl, hv0, hv1⟩ := hv
    have h1' := e2 _ _ h1
    refine ⟨_, rfl, _, rfl, _, _, _, _, _, rfl, h1', T.clC, T.nLen, cf_len .., (v, 0, psLen ps), rfl, hv0, hv1, ⟨_, rfl, ?_⟩⟩
    exact iteF ⟨_, rfl, e2, hp2⟩
  · rintro σ H2 ⟨o, rfl, e2, hp2⟩
    refine ⟨_, rfl, _, rfl, _, _, rfl, rfl, _, rfl, ?_⟩
    rw [decide_eq_false (by omega)]
    exact iteF (hQ H2 e2)
def spCut (K : PySem.W.Frag) (CC : Addr) : Sp := spOf (fun x : V × List Piece × Int × Int × List Piece => [x.1, .int x.2.2.1, .int x.2.2.2.1]) fun x H Q => ClipAt K CC H x.1 x.2.1 ∧ cutC x.2.1 x.2.2.1 x.2.2.2.1 = some x.2.2.2.2 ∧ ∀ H' v, Same H H' → ClipAt K CC H' v x.2.2.2.2 → Q v H'
theorem ok_cut (F : FnP K "cut" "Clip.cut" s_Clip_cut f fd) (T : Txt K mg CC CR CE RES) (c_require_stretch : C8.Met P w K mg base 3 CC "require_stretch" (spStre K CC) []) (c_cut_pieces : C8.Cal P w K mg base 4 "cut_pieces" (spCutPs K) []) (c_Clip : C8.Mak P w K mg base 5 "Clip" CC (spCInit K CC) []) :
    FnOk P w K mg base CX0 7 f fd ["self", "start", "end"] (spCut K CC) := by
  refine ok0 F sc_Clip_cut (fun _ => rfl) (fun cdv A outer s H y Q E hr h => ?_)
  obtain ⟨v, ps, lo, hi, qs⟩ := y
  obtain ⟨hc, hcut, hQ⟩ := h
  dsimp only at hc hcut hQ ⊢
  have hc0 := hc
  obtain ⟨hw, a, dx, t, rfl, h1, h2⟩ := hc
  refine ⟨_, (pss_cons (ps_expr (pe_mt c_require_stretch hr (by omega) (pv 0) (pa_cons (pv 1) (pa_cons (pv 2) pa_nil))))
      (pss_one (ps_ret (pe_mk c_Clip hr (by omega) rfl (pa_cons (pe_c c_cut_pieces hr (by omega) rfl (pa_cons (pe_fld (pv 0) rfl) (pa_cons (pv 1) (pa_cons (pv 2) pa_nil)))) pa_nil))))), ?_⟩
  unfold cutC at hcut
  split at hcut
  · rename_i hst
    obtain ⟨fs, hfs, hcut⟩ := Option.bind_eq_some_iff.mp hcut
    split at hcut
    · rename_i hl1
      obtain ⟨rfl, hwq⟩ := mkC_wf hcut
      have hps := fl_flats hfs
      refine ⟨_, rfl, a, _, _, rfl, h1, (by kernel_rfl), _, rfl, _, rfl, (.ref a, ps, lo, hi), rfl, hc0, hst, fun H1 (e1 : Same H H1) => ?_⟩
      have h1' := e1 _ _ h1
      refine ⟨_, rfl, _, _, _, _, _, rfl, h1', T.clC, T.nPieces, cf_pieces .., _, rfl, _, rfl, (t, fs, lo, hi), rfl, (by rw [← hps]; exact h2.mono (TupE.of e1)), hl1, (by rw [← hps]; exact hw.2.2.1), fun H2 v2 (e2 : Same H1 H2) d2 => ?_⟩
      exact r_mkc d2 hwq fun H' u e c => hQ H' u (e1.trans (e2.trans e)) c
    · cases hcut
  · cases hcut
def spGained (K : PySem.W.Frag) (CC : Addr) : Sp := spOf (fun x : V × List Flat × Int × Int => [x.1, .int x.2.2.1, .int x.2.2.2]) fun x H Q => ClipAt K CC H x.1 (x.2.1.map Piece.fl) ∧ (-1000 ≤ x.2.2.1 ∧ x.2.2.1 ≤ 1000 ∧ 1 ≤ x.2.2.2 ∧ x.2.2.2 ≤ 1000) ∧ Wf (x.2.1.map fun g => .fl (gainF (x.2.2.1, x.2.2.2) g)) ∧
  ∀ H' v, Same H H' → ClipAt K CC H' v (x.2.1.map fun g => .fl (gainF (x.2.2.1, x.2.2.2) g)) → Q v H'
theorem ok_gainedC (F : FnP K "gained" "Clip.gained" s_Clip_gained f fd) (T : Txt K mg CC CR CE RES) (c_is_between : C8.Cal P w K mg base 2 "is_between" spBetween []) (c_gained_pieces : C8.Cal P w K mg base 1 "gained_pieces" (spGain K) []) (c_Clip : C8.Mak P w K mg base 5 "Clip" CC (spCInit K CC) []) :
    FnOk P w K mg base CX0 7 f fd ["self", "top", "bottom"] (spGained K CC) := by
  refine ok0 F sc_Clip_gained (fun _ => rfl) (fun cdv A outer s H y Q E hr h => ?_)
  obtain ⟨v, fs, t, b⟩ := y
  obtain ⟨⟨hw, a, dx, tv, ev, h1, h2⟩, ⟨g1, g2, g3, g4⟩, hwq, hQ⟩ := h
  dsimp only at hw ev h1 h2 g1 g2 g3 g4 hwq hQ ⊢
  subst ev
  refine ⟨_, (pss_cons (ps_if (pt_not (pt_val (pe_c c_is_between hr (by omega) rfl (pa_cons (pv 1) (pa_cons (pe_un un_neg (pe_gc rfl T.g_MAX_GAIN)) (pa_cons (pe_gc rfl T.g_MAX_GAIN) pa_nil))))))
      (pss_one ps_never)
      pss_nil)
      (pss_cons (ps_if (pt_not (pt_val (pe_c c_is_between hr (by omega) rfl (pa_cons (pv 2) (pa_cons pe_int (pa_cons (pe_gc rfl T.g_MAX_GAIN) pa_nil))))))
      (pss_one ps_never)
      pss_nil)
      (pss_one (ps_ret (pe_mk c_Clip hr (by omega) rfl (pa_cons (pe_c c_gained_pieces hr (by omega) rfl (pa_cons (pe_fld (pv 0) rfl) (pa_cons (pe_tup (pa_cons (pv 1) (pa_cons (pv 2) pa_nil))) pa_nil))) pa_nil)))))), ?_⟩
  refine ⟨_, rfl, _, rfl, (t, -1000, 1000), rfl, g1, g2, ⟨_, rfl, ?_⟩⟩
  refine iteF ⟨_, rfl, (b, 1, 1000), rfl, g3, g4, ⟨_, rfl, ?_⟩⟩
  refine iteF ⟨_, rfl, _, _, _, _, _, rfl, h1, T.clC, T.nPieces, cf_pieces .., _, rfl, _, rfl, by show 2 ≤ sizeLine; decide, fun p np => ?_⟩
  refine ⟨(tv, .ref p, fs, t, b), rfl, h2.mono (TupE.of (Same.upd np)), Td.new np (.cons (.int _) (.cons (.int _) .nil)), (by have := hw.1; rw [List.length_map] at this; exact Nat.le_trans this (by decide)), (fun g hg => ?_), fun H2 v2 (e2 : Same _ H2) d2 => ?_⟩
  · have := hw.2.1 (.fl g) (List.mem_map.mpr ⟨g, hg, rfl⟩)
    cases g with
    | part x lo hi gs => exact this
    | sil n => trivial
  · exact r_mkc d2 hwq fun H' u e c => hQ H' u ((Same.upd np).trans (e2.trans e)) c

/-! ### operators -/
def spAdd (K : PySem.W.Frag) (CC : Addr) : Sp := spOf (fun x : V × V × List Piece × List Piece => [x.1, x.2.1]) fun x H Q => ClipAt K CC H x.1 x.2.2.1 ∧ ClipAt K CC H x.2.1 x.2.2.2 ∧ Wf (both x.2.2.1 x.2.2.2) ∧ ∀ H' v, Same H H' → ClipAt K CC H' v (both x.2.2.1 x.2.2.2) → Q v H'
theorem ok_add (F : FnP K "__add__" "Clip.__add__" s_Clip_add f fd) (T : Txt K mg CC CR CE RES) (c_both_pieces : C8.Cal P w K mg base 2 "both_pieces" (spBoth K) []) (c_Clip : C8.Mak P w K mg base 5 "Clip" CC (spCInit K CC) []) :
    FnOk P w K mg base CX0 7 f fd ["self", "other"] (spAdd K CC) := by
  refine ok0 F sc_Clip_add (fun _ => rfl) (fun cdv A outer s H y Q E hr h => ?_)
  obtain ⟨v1, v2, ps, qs⟩ := y
  obtain ⟨⟨hw, a, dx, t, e1, h1, h2⟩, ⟨hw', a', dx', t', e1', h1', h2'⟩, hwq, hQ⟩ := h
  dsimp only at hw e1 h1 h2 hw' e1' h1' h2' hwq hQ ⊢
  subst e1 e1'
  refine ⟨_, (pss_one (ps_ret (pe_mk c_Clip hr (by omega) rfl (pa_cons (pe_c c_both_pieces hr (by omega) rfl (pa_cons (pe_fld (pv 0) rfl) (pa_cons (pe_fld (pv 1) rfl) pa_nil))) pa_nil)))), ?_⟩
  refine ⟨_, rfl, _, _, _, _, _, rfl, h1, T.clC, T.nPieces, cf_pieces .., _, rfl, _, _, _, _, _, rfl, h1', T.clC, T.nPieces, cf_pieces .., (t, t', ps, qs), rfl, h2, h2', hw.2.2.1, hw'.2.2.1, Nat.le_trans hw.1 (by decide), Nat.le_trans hw'.1 (by decide), fun H2 v2 (e2 : Same H H2) d2 => ?_⟩
  exact r_mkc d2 hwq fun H' u e c => hQ H' u (e2.trans e) c
def spMul (K : PySem.W.Frag) (CC : Addr) : Sp := spOf (fun x : V × Int × List Piece × List Piece => [x.1, .int x.2.1]) fun x H Q => ClipAt K CC H x.1 x.2.2.1 ∧ 0 ≤ x.2.1 ∧ x.2.1 ≤ 10 ^ 30 ∧ repeated x.2.2.1 x.2.1 = some x.2.2.2 ∧ Wf x.2.2.2 ∧ ∀ H' v, Same H H' → ClipAt K CC H' v x.2.2.2 → Q v H'
theorem sm30 {n : Int} (h0 : 0 ≤ n) (h : n ≤ 10 ^ 30) : Sm n := by
  unfold Sm
  have e : (10 : Int) ^ 30 < 2 ^ 200 := by decide
  omega
theorem ok_mul (F : FnP K "__mul__" "Clip.__mul__" s_Clip_mul f fd) (T : Txt K mg CC CR CE RES) (c_is_between : C8.Cal P w K mg base 2 "is_between" spBetween []) (c_repeated_pieces : C8.Cal P w K mg base 1 "repeated_pieces" (spRep K) []) (c_Clip : C8.Mak P w K mg base 5 "Clip" CC (spCInit K CC) []) :
    FnOk P w K mg base CX0 7 f fd ["self", "other"] (spMul K CC) := by
  refine ok0 F sc_Clip_mul (fun _ => rfl) (fun cdv A outer s H y Q E hr h => ?_)
  obtain ⟨v, n, ps, qs⟩ := y
  obtain ⟨⟨hw, a, dx, t, e1, h1, h2⟩, g0, g1, hrep, hwq, hQ⟩ := h
  dsimp only at hw e1 h1 h2 g0 g1 hrep hwq hQ ⊢
  subst e1
  refine ⟨_, (pss_cons (ps_if (pt_not (pt_val (pe_c c_is_between hr (by omega) rfl (pa_cons (pv 1) (pa_cons pe_int (pa_cons (pe_gc rfl T.g_MAX_COUNT) pa_nil))))))
      (pss_one ps_never)
      pss_nil)
      (pss_one (ps_ret (pe_mk c_Clip hr (by omega) rfl (pa_cons (pe_c c_repeated_pieces hr (by omega) rfl (pa_cons (pe_fld (pv 0) rfl) (pa_cons (pv 1) pa_nil))) pa_nil))))), ?_⟩
  refine ⟨_, rfl, (n, 0, 10 ^ 30), rfl, g0, g1, ⟨_, rfl, ?_⟩⟩
  refine iteF ⟨_, rfl, _, _, _, _, _, rfl, h1, T.clC, T.nPieces, cf_pieces .., _, rfl, (t, n, ps, qs), rfl, h2, hw.2.2.1, sm30 g0 g1, (fun p hp => ?_), hrep, fun H2 v2 (e2 : Same H H2) d2 => ?_⟩
  · have := hw.2.1 p hp
    cases p with
    | fl f =>
      cases f with
      | part x lo hi gs => trivial
      | sil m => exact this
    | rep m fs => exact this.1
  · exact r_mkc d2 hwq fun H' u e c => hQ H' u (e2.trans e) c
def EqR (K : PySem.W.Frag) (CC : Addr) (a b : Addr) (H : Hp) : Prop := ∃ ps, ClipAt K CC H (.ref a) ps ∧ ClipAt K CC H (.ref b) ps
theorem ok_eq (isC : C8.InsC K CC) (F : FnP K "__eq__" "Clip.__eq__" s_Clip_eq f fd) (T : Txt K mg CC CR CE RES) : FnOk P w K mg base CX0 1 f fd ["self", "other"] (spEq (EqR K CC)) := by
  refine FnOk.imp (sp := spOf (fun x : Addr × Addr => [.ref x.1, .ref x.2]) fun x H Q => EqR K CC x.1 x.2 H ∧ ∀ H', Ext H H' → Q (.bl true) H') (ok0 F sc_Clip_eq (fun _ => rfl) (fun cdv A outer s H y Q E hr h => ?_)) (fun vs H Q E ⟨a, b, h1, h2, h3⟩ => ⟨(a, b), h1, h2, h3⟩)
  obtain ⟨a, b⟩ := y
  obtain ⟨⟨ps, ⟨hw, a1, dx, t, e1, h1, h2⟩, ⟨hw', a1', dx', t', e1', h1', h2'⟩⟩, hQ⟩ := h
  dsimp only at e1 h1 h2 e1' h1' h2' hQ ⊢
  cases e1
  cases e1'
  refine ⟨_, (pss_cons (ps_if (pt_not (pt_val (pe_callB call_isi (by rfl) T.n_isinstance bt_isinstance (pa_cons (pv 1) (pa_cons (pe_glob (v := .ref CC) rfl T.mg_Clip rfl) pa_nil)))))
      (pss_one (ps_ret pe_bl))
      pss_nil)
      (pss_one (ps_ret (pe_cmpR (op_eqD hr.units) (pe_fld (pv 0) rfl) (pe_fld (pv 1) rfl) (nomark _))))), ?_⟩
  refine ⟨_, rfl, _, _, _, _, true, rfl, .own CC, .base (.ins h1' isC.cl isC.ha isC.hn isC.htk isC.hm), isC.me, _, rfl, ?_⟩
  refine iteF ⟨_, rfl, _, _, _, _, _, rfl, h1, T.clC, T.nPieces, cf_pieces .., _, rfl, _, _, _, _, _, rfl, h1', T.clC, T.nPieces, cf_pieces .., psData ps, psData ps, h2.dp, h2'.dp, hw.2.2.1, hw.2.2.1, ?_⟩
  rw [SeqAt.eqv_refl _ (SeqAt.canLay_of_shaped hw.2.2.1)]
  exact hQ H fun _ _ h => h
end
end FJ

set_option Elab.async false
set_option linter.all false
set_option maxRecDepth 100000
set_option maxHeartbeats 4000000
/-! evaluation -/
namespace FJ
open PySem PySem.Spec PyProof.Rows L2
open C8 (pe_c pe_mk pe_mt pe_mt0 pe_gc)
def Tree.dep : Tree → Nat
  | .name _ => 1
  | .silence _ => 1
  | .sum l r => max l.dep r.dep + 1
  | .times t _ => t.dep + 1
  | .stretch t _ _ => t.dep + 1
  | .gain t _ _ => t.dep + 1
  | .insert a _ b => max a.dep b.dep + 1
  | .replace a _ _ b => max a.dep b.dep + 1
  | .cut a _ _ => a.dep + 1
def Row.dep : Row → Nat
  | .define _ _ t => t.dep
  | .ret _ t => t.dep
def ef (ld dd : Addr) : List (Str × V) := [(("lengths" : Str), .ref ld), ("defined", .ref dd)]
theorem ef_l (ld dd : Addr) : (ef ld dd).lookup ("lengths" : Str) = some (.ref ld) := by kernel_rfl
theorem ef_d (ld dd : Addr) : (ef ld dd).lookup ("defined" : Str) = some (.ref dd) := by kernel_rfl
def LensAt (H : Hp) (ld : Addr) (sizes : Str → Option Int) : Prop := ∃ lk : List (Key × V), H ld = some (.dK lk) ∧ ∀ x, valV lk (.inr x) = (sizes x).map V.int
def DefsAt (K : PySem.W.Frag) (CC : Addr) (H : Hp) (kvs : List (Key × V)) (d : List (Str × List Piece)) : Prop := ∀ x, match d.lookup x, valV kvs (.inr x) with
  | none, none => True
  | some ps, some v => ClipAt K CC H v ps
  | _, _ => False
/-- at r stands an evaluator -/
def EvAt (K : PySem.W.Frag) (CC CE : Addr) (H : Hp) (r : Addr) (sizes : Str → Option Int) (d : List (Str × List Piece)) : Prop := ∃ dx ld dd kvs, H r = some (.ins CE dx (ef ld dd)) ∧ LensAt H ld sizes ∧ H dd = some (.dK kvs) ∧ DefsAt K CC H kvs d
theorem DefsAt.mono {K : PySem.W.Frag} {CC : Addr} {H H' : Hp} {kvs : List (Key × V)} {d : List (Str × List Piece)} (f : ∀ v ps, ClipAt K CC H v ps → ClipAt K CC H' v ps) (h : DefsAt K CC H kvs d) : DefsAt K CC H' kvs d := fun x => by
  have := h x
  revert this
  cases d.lookup x with
  | none =>
    cases valV kvs (Sum.inr x) with
    | none => exact fun t => t
    | some v => exact fun t => t
  | some ps =>
    cases valV kvs (Sum.inr x) with
    | none => exact fun t => t
    | some v => exact f v ps
theorem EvAt.mono {K : PySem.W.Frag} {CC CE : Addr} {H H' : Hp} {r : Addr} {sizes : Str → Option Int} {d : List (Str × List Piece)} (e : Same H H') (h : EvAt K CC CE H r sizes d) : EvAt K CC CE H' r sizes d := by
  obtain ⟨dx, ld, dd, kvs, h1, ⟨lk, h2, h2'⟩, h3, h4⟩ := h
  exact ⟨dx, ld, dd, kvs, e _ _ h1, ⟨lk, e _ _ h2, h2'⟩, e _ _ h3, h4.mono fun v ps c => c.mono e⟩

section
variable {P : Program} {w : World} {K : PySem.W.Frag} {mg : Str → Option Value} {base : Heap} {CC CR CE RES : Addr} {f : Addr} {fd : FuncData}
/-- the methods of Clip, ready to be called -/
structure Cm (P : Program) (w : World) (K : PySem.W.Frag) (mg : Str → Option Value) (base : Heap) (CC : Addr) (EMP : Addr) : Prop where
  part : Sta P w K mg base 7 CC "part" (spPart K CC) []
  silence : Sta P w K mg base 7 CC "silence" (spSil K CC) []
  length : Prp P w K mg base 1 CC "length" (spLen K CC)
  stretch : C8.Met P w K mg base 3 CC "require_stretch" (spStre K CC) []
  cut : C8.Met P w K mg base 7 CC "cut" (spCut K CC) []
  gained : C8.Met P w K mg base 7 CC "gained" (spGained K CC) []
  add : Opr2 P w K mg base 7 CC .Add (spAdd K CC)
  mul : OprI P w K mg base 7 CC .Mult (spMul K CC)
  make0 : C8.Mak P w K mg base 5 "Clip" CC (spCInit K CC) [.ref EMP]
  emp : ∀ H, SqT K H EMP []

/-! ### replaced -/
def spRepl (K : PySem.W.Frag) (CC : Addr) : Sp := spOf (fun x : V × V × List Piece × List Piece × Int × Int × List Piece => [x.1, .int x.2.2.2.2.1, .int x.2.2.2.2.2.1, x.2.1]) fun x H Q => ClipAt K CC H x.1 x.2.2.1 ∧ ClipAt K CC H x.2.1 x.2.2.2.1 ∧
  replC x.2.2.1 x.2.2.2.2.1 x.2.2.2.2.2.1 x.2.2.2.1 = some x.2.2.2.2.2.2 ∧ ∀ H' v, Same H H' → ClipAt K CC H' v x.2.2.2.2.2.2 → Q v H'
theorem ok_replaced {EMP : Addr} (F : FnP K "replaced" "replaced" s_replaced f fd) (T : Txt K mg CC CR CE RES) (C : Cm P w K mg base CC EMP) : FnOk P w K mg base CX0 8 f fd ["clip", "start", "end", "other"] (spRepl K CC) := by
  obtain ⟨c_part, c_silence, c_length, c_require_stretch, c_cut, c_gained, c_add, c_mul, c_Clip0, hEmp⟩ := C
  refine ok0 F sc_replaced (fun _ => rfl) (fun cdv A outer s H y Q E hr h => ?_)
  obtain ⟨v, vo, ps, os, lo, hi, rs⟩ := y
  obtain ⟨hc, ho, hrep, hQ⟩ := h
  dsimp only at hc ho hrep hQ ⊢
  have hc0 := hc
  obtain ⟨hw, a, dx, t, rfl, h1, h2⟩ := hc
  refine ⟨_, (pss_cons (ps_expr (pe_mt c_require_stretch hr (by omega) (pv 0) (pa_cons (pv 1) (pa_cons (pv 2) pa_nil))))
      (pss_one (ps_ret (pe_op (op_o2 c_add hr (by omega)) (pe_op (op_o2 c_add hr (by omega)) (pe_mt c_cut hr (by omega) (pv 0) (pa_cons pe_int (pa_cons (pv 1) pa_nil))) (pv 3)) (pe_mt c_cut hr (by omega) (pv 0) (pa_cons (pv 2) (pa_cons (pe_prp c_length hr (by omega) (pv 0)) pa_nil))))))), ?_⟩
  unfold replC at hrep
  split at hrep
  · rename_i hst
    obtain ⟨q1, e1, hrep⟩ := Option.bind_eq_some_iff.mp hrep
    obtain ⟨q2, e2, hrep⟩ := Option.bind_eq_some_iff.mp hrep
    obtain ⟨q3, e3, hrep⟩ := Option.bind_eq_some_iff.mp hrep
    obtain ⟨rfl, hw2⟩ := mkC_wf e2
    obtain ⟨rfl, hw4⟩ := mkC_wf hrep
    refine ⟨_, rfl, a, _, _, rfl, h1, (by kernel_rfl), _, rfl, _, rfl, (.ref a, ps, lo, hi), rfl, hc0, hst, fun H1 (s1 : Same H H1) => ?_⟩
    refine ⟨_, rfl, a, _, _, rfl, s1 _ _ h1, (by kernel_rfl), _, rfl, (.ref a, ps, 0, lo, q1), rfl, hc0.mono s1, e1, fun H2 v2 (s2 : Same H1 H2) c2 => ?_⟩
    have c2' := c2
    obtain ⟨hw2', a2, dx2, t2, rfl, hh2, _⟩ := c2'
    have co2 := ho.mono (s1.trans s2)
    have co2' := co2
    obtain ⟨hwo', ao, dxo, to, rfl, hho, _⟩ := co2'
    refine ⟨_, rfl, a2, ao, _, _, _, _, rfl, rfl, hh2, hho, (.ref a2, .ref ao, q1, os), rfl, c2, co2, hw2, fun H3 v3 (s3 : Same H2 H3) c3 => ?_⟩
    have s13 := s1.trans (s2.trans s3)
    have c3' := c3
    obtain ⟨hw3', a3, dx3, t3, rfl, hh3, _⟩ := c3'
    refine ⟨_, rfl, a, _, _, rfl, s13 _ _ h1, (by kernel_rfl), _, rfl, _, rfl, a, _, _, rfl, s13 _ _ h1, (.ref a, ps), rfl, hc0.mono s13, (.ref a, ps, hi, psLen ps, q3), rfl, hc0.mono s13, e3, fun H4 v4 (s4 : Same H3 H4) c4 => ?_⟩
    have c4' := c4
    obtain ⟨hw4', a4, dx4, t4, rfl, hh4, _⟩ := c4'
    exact ⟨a3, a4, _, _, _, _, rfl, rfl, s4 _ _ hh3, hh4, (.ref a3, .ref a4, _, q3), rfl, c3.mono s4, c4, hw4, fun H5 v5 (s5 : Same H4 H5) c5 => hQ H5 v5 (s13.trans (s4.trans s5)) c5⟩
  · cases hrep

/-! ### an evaluator -/
def spEInit (CE : Addr) : Sp := spOf (fun x : Addr × Addr × Addr => [.ref x.1, .ref x.2.2]) fun x H Q => H x.1 = some (.ins CE x.2.1 []) ∧ ∀ H' dd, XE x.1 H H' → H dd = none → H' x.1 = some (.ins CE x.2.1 (ef x.2.2 dd)) → H' dd = some (.dK []) → Q .non H'
theorem ok_einit (F : FnP K "__init__" "Evaluator.__init__" s_Evaluator_init f fd) (T : Txt K mg CC CR CE RES) : FnOk P w K mg base CX0 1 f fd ["self", "lengths"] (spEInit CE) := by
  refine ok0 F sc_Evaluator_init (fun _ => rfl) (fun cdv A outer s H y Q E hr h => ?_)
  obtain ⟨r, dx, ld⟩ := y
  obtain ⟨h1, hQ⟩ := h
  dsimp only at h1 hQ ⊢
  refine ⟨_, (pss_cons (ps_fld (pv 0) (pv 1) rfl)
      (pss_one (ps_fld (pv 0) pe_dnewK rfl))), ?_⟩
  refine ⟨_, rfl, _, rfl, r, CE, dx, _, rfl, h1, T.clE, T.nLens, (by show 0 < 1000; decide), ?_⟩
  intro dd nd
  have ndr : dd ≠ r := fun z => by rw [z, upd_same] at nd; cases nd
  have ndH : H dd = none := by rw [upd_ne ndr] at nd; exact nd
  refine ⟨_, rfl, r, CE, dx, _, rfl, by rw [upd_ne ndr.symm]; exact upd_same, T.clE, T.nDef, (by show 1 < 1000; decide), ?_⟩
  have e : putF "defined" (V.ref dd) (putF "lengths" (V.ref ld) []) = ef ld dd := by kernel_rfl
  rw [e]
  refine hQ _ dd (fun a o na h => ?_) ndH upd_same (by rw [upd_ne ndr]; exact upd_same)
  rw [upd_ne na, upd_ne (fun z => by rw [z, ndH] at h; cases h), upd_ne na]
  exact h
def spNamed (K : PySem.W.Frag) (CC CE : Addr) : Sp := spOf (fun x : Addr × Str × (Str → Option Int) × List (Str × List Piece) × List Piece => [.ref x.1, .str x.2.1]) fun x H Q => EvAt K CC CE H x.1 x.2.2.1 x.2.2.2.1 ∧ envOf x.2.2.1 x.2.2.2.1 x.2.1 = some x.2.2.2.2 ∧ ∀ H' v, Same H H' → ClipAt K CC H' v x.2.2.2.2 → Q v H'
theorem ok_named {EMP : Addr} (F : FnP K "named" "Evaluator.named" s_Evaluator_named f fd) (T : Txt K mg CC CR CE RES) (C : Cm P w K mg base CC EMP) : FnOk P w K mg base CX0 8 f fd ["self", "name"] (spNamed K CC CE) := by
  obtain ⟨c_part, c_silence, c_length, c_require_stretch, c_cut, c_gained, c_add, c_mul, c_Clip0, hEmp⟩ := C
  refine ok0 F sc_Evaluator_named (fun _ => rfl) (fun cdv A outer s H y Q E hr h => ?_)
  obtain ⟨r, x, sizes, d, ps⟩ := y
  obtain ⟨⟨dx, ld, dd, kvs, h1, ⟨lk, h2, h2'⟩, h3, h4⟩, henv, hQ⟩ := h
  dsimp only at h1 h2 h2' h3 h4 henv hQ ⊢
  refine ⟨_, (pss_cons (ps_if (pt_cmp (pc_din (hu_of hr) (pv 1) (pe_fld (pv 0) rfl)))
      (pss_one (ps_ret (pe_dget (hu_of hr) (pe_fld (pv 0) rfl) (pv 1) (fun _ _ => rfl))))
      pss_nil)
      (pss_cons (ps_if (pt_cmp (pc_dnotin (hu_of hr) (pv 1) (pe_fld (pv 0) rfl)))
      (pss_one ps_never)
      pss_nil)
      (pss_one (ps_ret (pe_sta c_part hr (by omega) (pe_glob (v := .ref CC) rfl T.mg_Clip rfl) (pa_cons (pv 1) (pa_cons pe_int (pa_cons (pe_dget (hu_of hr) (pe_fld (pv 0) rfl) (pv 1) (fun _ _ => rfl)) pa_nil)))))))), ?_⟩
  refine ⟨_, rfl, _, rfl, r, CE, dx, _, _, rfl, h1, T.clE, T.nDef, ef_d .., dd, _, rfl, DGet.k (k := Sum.inr x) h3, _, rfl, ?_⟩
  have hx := h4 x
  unfold envOf at henv
  cases hd : d.lookup x with
  | some qs =>
    rw [hd] at hx henv
    cases henv
    cases hv : valV kvs (Sum.inr x) with
    | none => rw [hv] at hx; exact hx.elim
    | some v =>
      rw [hv] at hx
      refine iteT ⟨_, rfl, r, CE, dx, _, _, rfl, h1, T.clE, T.nDef, ef_d .., _, rfl, dd, v, rfl, ?_, hQ H v (Same.refl _) hx⟩
      have := DGet.k (k := Sum.inr x) h3
      rw [hv] at this
      exact this
  | none =>
    rw [hd] at hx henv
    cases hv : valV kvs (Sum.inr x) with
    | some v => rw [hv] at hx; exact hx.elim
    | none =>
      obtain ⟨n, hn, henv⟩ := Option.bind_eq_some_iff.mp henv
      split at henv
      · rename_i hok
        obtain ⟨rfl, hw⟩ := mkC_wf henv
        have hg := DGet.k (k := Sum.inr x) h2
        rw [h2' x, hn] at hg
        refine iteF ⟨_, rfl, _, rfl, r, CE, dx, _, _, rfl, h1, T.clE, T.nLens, ef_l .., ld, _, rfl, hg, _, rfl, ?_⟩
        refine iteF ⟨rfl, _, rfl, _, rfl, r, CE, dx, _, _, rfl, h1, T.clE, T.nLens, ef_l .., _, rfl, ld, _, rfl, hg, (x, 0, n), rfl, hok.2, Int.le_refl 0, hok.1, hw, fun H' v e c => hQ H' v e c⟩
      · cases henv

theorem wf0 : Wf ([] : List Piece) := ⟨by decide, (fun p hp => by cases hp), nil_shaped, by decide, by decide⟩
/-- Clip() -/
theorem r_mk0 {EMP : Addr} {σ : St} {H : Hp} {Q : VK} {E : XK} (hE : ∀ H, SqT K H EMP []) (q : ∀ H' u, Same H H' → ClipAt K CC H' u [] → Q u H') : tMake CC (spCInit K CC) [.ref EMP] E tNil σ H Q := fun x dx nx ndx ne =>
  r_mkc (v := .ref EMP) (ps := []) (.tup (.inr hE) .nil) wf0 q x dx nx ndx ne
/-! ### evaluation of a tree -/
def spEval (K : PySem.W.Frag) (CC CE : Addr) (n : Nat) : Sp := spOf (fun x : Addr × V × Tree × (Str → Option Int) × List (Str × List Piece) × List Piece => [.ref x.1, x.2.1]) fun x H Q => EvAt K CC CE H x.1 x.2.2.2.1 x.2.2.2.2.1 ∧ Td K H x.2.1 x.2.2.1.data ∧ x.2.2.1.dep ≤ n ∧
  evalT (envOf x.2.2.2.1 x.2.2.2.2.1) x.2.2.1 = some x.2.2.2.2.2 ∧ ∀ H' v, Same H H' → ClipAt K CC H' v x.2.2.2.2.2 → Q v H'
theorem ok_eval {EMP : Addr} {k n : Nat} (hk : 8 ≤ k) (F : FnP K "clip" "Evaluator.clip" s_Evaluator_clip f fd) (T : Txt K mg CC CR CE RES) (C : Cm P w K mg base CC EMP)
    (c_named : C8.Met P w K mg base 8 CE "named" (spNamed K CC CE) []) (c_replaced : C8.Cal P w K mg base 8 "replaced" (spRepl K CC) []) (c_clip : C8.Met P w K mg base k CE "clip" (spEval K CC CE n) []) :
    FnOk P w K mg base CX0 (k + 1) f fd ["self", "tree"] (spEval K CC CE (n + 1)) := by
  obtain ⟨c_part, c_silence, c_length, c_require_stretch, c_cut, c_gained, c_add, c_mul, c_Clip0, hEmp⟩ := C
  refine ok0 F sc_Evaluator_clip (fun _ => rfl) (fun cdv A outer s H y Q E hr h => ?_)
  obtain ⟨r, v, t, sizes, d, ps⟩ := y
  obtain ⟨hE, hd, hdep, hev, hQ⟩ := h
  dsimp only at hE hd hdep hev hQ ⊢
  obtain ⟨dx, ld, dd, kvs, h1, _⟩ := id hE
  refine ⟨_, (pss_cons (ps_match (pe_ix ix_tup (pv 1) pe_int (fun _ _ => rfl)) (pmc_str (pss_one (ps_ret (pe_mt c_named hr (by omega) (pv 0) (pa_cons (pe_ix ix_tup (pv 1) pe_int (fun _ _ => rfl)) pa_nil))))
      (pmc_str (pss_one (ps_ret (pe_sta c_silence hr (by omega) (pe_glob (v := .ref CC) rfl T.mg_Clip rfl) (pa_cons (pe_ix ix_tup (pv 1) pe_int (fun _ _ => rfl)) pa_nil))))
      (pmc_str pss_never
      pmc_nil))))
      (pss_cons (ps_set (i := 2) sc_Evaluator_clip.nd rfl (Or.inl rfl) (pe_mt c_clip hr (by omega) (pv 0) (pa_cons (pe_ix ix_tup (pv 1) pe_int (fun _ _ => rfl)) pa_nil)))
      (pss_cons (ps_match (pe_ix ix_tup (pv 1) pe_int (fun _ _ => rfl)) (pmc_str (pss_one (ps_ret (pe_op (op_o2 c_add hr (by omega)) (pv 2) (pe_mt c_clip hr (by omega) (pv 0) (pa_cons (pe_ix ix_tup (pv 1) pe_int (fun _ _ => rfl)) pa_nil)))))
      (pmc_str (pss_one (ps_ret (pe_op (op_oI c_mul hr (by omega)) (pv 2) (pe_ix ix_tup (pv 1) pe_int (fun _ _ => rfl)))))
      (pmc_str (pss_cons (ps_set (i := 3) sc_Evaluator_clip.nd rfl (Or.inl rfl) (pe_ifExp (pt_cmpR op_isN (pe_ix ix_tup (pv 1) pe_int (fun _ _ => rfl)) pe_non (nomark _)) pe_int (pe_ix ix_tup (pv 1) pe_int (fun _ _ => rfl))))
      (pss_one (ps_ret (pe_mt c_cut hr (by omega) (pv 2) (pa_cons (pv 3) (pa_cons (pe_ifExp (pt_cmpR op_isN (pe_ix ix_tup (pv 1) pe_int (fun _ _ => rfl)) pe_non (nomark _)) (pe_prp c_length hr (by omega) (pv 2)) (pe_ix ix_tup (pv 1) pe_int (fun _ _ => rfl))) pa_nil))))))
      (pmc_str (pss_one (ps_ret (pe_mt c_gained hr (by omega) (pv 2) (pa_cons (pe_ix ix_tup (pv 1) pe_int (fun _ _ => rfl)) (pa_cons (pe_ix ix_tup (pv 1) pe_int (fun _ _ => rfl)) pa_nil)))))
      (pmc_str (pss_one (ps_ret (pe_c c_replaced hr (by omega) rfl (pa_cons (pv 2) (pa_cons (pe_ix ix_tup (pv 1) pe_int (fun _ _ => rfl)) (pa_cons (pe_ix ix_tup (pv 1) pe_int (fun _ _ => rfl)) (pa_cons (pe_mt c_clip hr (by omega) (pv 0) (pa_cons (pe_ix ix_tup (pv 1) pe_int (fun _ _ => rfl)) pa_nil)) pa_nil)))))))
      (pmc_str (pss_one (ps_ret (pe_c c_replaced hr (by omega) rfl (pa_cons (pv 2) (pa_cons (pe_ix ix_tup (pv 1) pe_int (fun _ _ => rfl)) (pa_cons (pe_ix ix_tup (pv 1) pe_int (fun _ _ => rfl)) (pa_cons (pe_mk0 c_Clip0 hr (by omega) rfl) pa_nil)))))))
      pmc_nil)))))))
      (pss_one (ps_ret (pe_c c_replaced hr (by omega) rfl (pa_cons (pv 2) (pa_cons (pe_ix ix_tup (pv 1) pe_int (fun _ _ => rfl)) (pa_cons (pe_ix ix_tup (pv 1) pe_int (fun _ _ => rfl)) (pa_cons (pe_mt c_clip hr (by omega) (pv 0) (pa_cons (pe_ix ix_tup (pv 1) pe_int (fun _ _ => rfl)) pa_nil)) pa_nil)))))))))), ?_⟩
  cases t with
  | name x =>
    obtain ⟨a, x1, x2, rfl, q, t1, t2⟩ := Td.t2 hd
    cases t1.s; cases t2.s
    refine ⟨_, rfl, _, _, _, _, rfl, rfl, q.sq, rfl, ?_⟩
    refine ⟨_, rfl, ?_⟩
    rw [show decide (("name" : Str) = "name") = true by decide +kernel]
    refine iteT ?_
    exact ⟨_, rfl, r, _, _, rfl, h1, (by kernel_rfl), _, rfl, _, _, _, _, rfl, rfl, q.sq, rfl, (r, x, sizes, d, ps), rfl, hE, hev, hQ⟩
  | silence n0 =>
    obtain ⟨a, x1, x2, rfl, q, t1, t2⟩ := Td.t2 hd
    cases t1.s; cases t2.i
    unfold evalT at hev
    split at hev
    · rename_i hb
      obtain ⟨rfl, hw⟩ := mkC_wf hev
      refine ⟨_, rfl, _, _, _, _, rfl, rfl, q.sq, rfl, ?_⟩
      refine ⟨_, rfl, ?_⟩
      rw [show decide (("silence" : Str) = "name") = false by decide +kernel]
      refine iteF ?_
      refine ⟨_, rfl, ?_⟩
      rw [show decide (("silence" : Str) = "silence") = true by decide +kernel]
      refine iteT ?_
      exact ⟨rfl, _, rfl, _, _, _, _, rfl, rfl, q.sq, rfl, n0, rfl, hb.1, hb.2, hw, hQ⟩
    · cases hev
  | sum l rt =>
    obtain ⟨a, x1, x2, x3, rfl, q, t1, t2, t3⟩ := Td.t3 hd
    cases t1.s
    unfold evalT at hev
    obtain ⟨p1, e1, hev⟩ := Option.bind_eq_some_iff.mp hev
    obtain ⟨p2, e2, hev⟩ := Option.bind_eq_some_iff.mp hev
    obtain ⟨rfl, hw⟩ := mkC_wf hev
    have hdl : l.dep ≤ n ∧ rt.dep ≤ n := by simp only [Tree.dep] at hdep; omega
    refine ⟨_, rfl, _, _, _, _, rfl, rfl, q.sq, rfl, ?_⟩
    refine ⟨_, rfl, ?_⟩
    rw [show decide (("sum" : Str) = "name") = false by decide +kernel]
    refine iteF ?_
    refine ⟨_, rfl, ?_⟩
    rw [show decide (("sum" : Str) = "silence") = false by decide +kernel]
    refine iteF ?_
    refine ⟨_, rfl, ?_⟩
    rw [show decide (("sum" : Str) = "samples") = false by decide +kernel]
    refine iteF ?_
    refine ⟨_, rfl, r, _, _, rfl, h1, (by kernel_rfl), _, rfl, _, _, _, _, rfl, rfl, q.sq, rfl, (r, x2, l, sizes, d, p1), rfl, hE, t2, hdl.1, e1, fun H1 u1 (s1 : Same H H1) c1 => ?_⟩
    refine ⟨_, rfl, a, _, _, _, rfl, rfl, (q.mono (TupE.of s1)).sq, rfl, ?_⟩
    refine ⟨_, rfl, ?_⟩
    rw [show decide (("sum" : Str) = "sum") = true by decide +kernel]
    refine iteT ?_
    refine ⟨_, rfl, _, rfl, r, _, _, rfl, s1 _ _ h1, (by kernel_rfl), _, rfl, a, _, _, _, rfl, rfl, (q.mono (TupE.of s1)).sq, rfl, (r, x3, rt, sizes, d, p2), rfl, hE.mono s1, t3.mono (TupE.of s1), hdl.2, e2, fun H2 u2 (s2 : Same H1 H2) c2 => ?_⟩
    have c1' := c1.mono s2
    obtain ⟨hw1, a1, dx1, tt1, rfl, hh1, _⟩ := id c1'
    obtain ⟨hw2, a2, dx2, tt2, rfl, hh2, _⟩ := id c2
    exact ⟨a1, a2, _, _, _, _, rfl, rfl, hh1, hh2, (.ref a1, .ref a2, p1, p2), rfl, c1', c2, hw, fun H3 u3 (s3 : Same H2 H3) c3 => hQ H3 u3 (s1.trans (s2.trans s3)) c3⟩
  | times t m =>
    obtain ⟨a, x1, x2, x3, rfl, q, t1, t2, t3⟩ := Td.t3 hd
    cases t1.s; cases t3.i
    unfold evalT at hev
    obtain ⟨p1, e1, hev⟩ := Option.bind_eq_some_iff.mp hev
    split at hev
    · rename_i hb
      obtain ⟨p2, e2, hev⟩ := Option.bind_eq_some_iff.mp hev
      obtain ⟨rfl, hw⟩ := mkC_wf hev
      have hdl : t.dep ≤ n := by simp only [Tree.dep] at hdep; omega
      refine ⟨_, rfl, _, _, _, _, rfl, rfl, q.sq, rfl, ?_⟩
      refine ⟨_, rfl, ?_⟩
      rw [show decide (("times" : Str) = "name") = false by decide +kernel]
      refine iteF ?_
      refine ⟨_, rfl, ?_⟩
      rw [show decide (("times" : Str) = "silence") = false by decide +kernel]
      refine iteF ?_
      refine ⟨_, rfl, ?_⟩
      rw [show decide (("times" : Str) = "samples") = false by decide +kernel]
      refine iteF ?_
      refine ⟨_, rfl, r, _, _, rfl, h1, (by kernel_rfl), _, rfl, _, _, _, _, rfl, rfl, q.sq, rfl, (r, x2, t, sizes, d, p1), rfl, hE, t2, hdl, e1, fun H1 u1 (s1 : Same H H1) c1 => ?_⟩
      refine ⟨_, rfl, a, _, _, _, rfl, rfl, (q.mono (TupE.of s1)).sq, rfl, ?_⟩
      refine ⟨_, rfl, ?_⟩
      rw [show decide (("times" : Str) = "sum") = false by decide +kernel]
      refine iteF ?_
      refine ⟨_, rfl, ?_⟩
      rw [show decide (("times" : Str) = "times") = true by decide +kernel]
      refine iteT ?_
      obtain ⟨hw1, a1, dx1, tt1, rfl, hh1, _⟩ := id c1
      exact ⟨_, rfl, _, rfl, a, _, _, _, rfl, rfl, (q.mono (TupE.of s1)).sq, rfl, a1, m, _, _, rfl, rfl, hh1, (.ref a1, m, p1, ps), rfl, c1, hb.1, hb.2, e2, hw, fun H3 u3 (s3 : Same H1 H3) c3 => hQ H3 u3 (s1.trans s3) c3⟩
    · cases hev
  | stretch t i j =>
    obtain ⟨a, x1, x2, x3, x4, rfl, q, t1, t2, t3, t4⟩ := Td.t4 hd
    cases t1.s
    unfold evalT at hev
    obtain ⟨p1, e1, hev⟩ := Option.bind_eq_some_iff.mp hev
    have hdl : t.dep ≤ n := by simp only [Tree.dep] at hdep; omega
    refine ⟨_, rfl, _, _, _, _, rfl, rfl, q.sq, rfl, ?_⟩
    refine ⟨_, rfl, ?_⟩
    rw [show decide (("stretch" : Str) = "name") = false by decide +kernel]
    refine iteF ?_
    refine ⟨_, rfl, ?_⟩
    rw [show decide (("stretch" : Str) = "silence") = false by decide +kernel]
    refine iteF ?_
    refine ⟨_, rfl, ?_⟩
    rw [show decide (("stretch" : Str) = "samples") = false by decide +kernel]
    refine iteF ?_
    refine ⟨_, rfl, r, _, _, rfl, h1, (by kernel_rfl), _, rfl, _, _, _, _, rfl, rfl, q.sq, rfl, (r, x2, t, sizes, d, p1), rfl, hE, t2, hdl, e1, fun H1 u1 (s1 : Same H H1) c1 => ?_⟩
    refine ⟨_, rfl, a, _, _, _, rfl, rfl, (q.mono (TupE.of s1)).sq, rfl, ?_⟩
    refine ⟨_, rfl, ?_⟩
    rw [show decide (("stretch" : Str) = "sum") = false by decide +kernel]
    refine iteF ?_
    refine ⟨_, rfl, ?_⟩
    rw [show decide (("stretch" : Str) = "times") = false by decide +kernel]
    refine iteF ?_
    refine ⟨_, rfl, ?_⟩
    rw [show decide (("stretch" : Str) = "stretch") = true by decide +kernel]
    refine iteT ?_
    obtain ⟨hw1, a1, dx1, tt1, rfl, hh1, _⟩ := id c1
    refine ⟨_, rfl, a, _, _, _, rfl, rfl, (q.mono (TupE.of s1)).sq, rfl, rfl, _, rfl, ?_⟩
    cases i with
    | none =>
      cases t3.n
      rw [decide_eq_true rfl]
      refine iteT ?_
      cases j with
      | none =>
        cases t4.n
        refine ⟨_, rfl, a1, _, _, rfl, hh1, (by kernel_rfl), _, rfl, _, rfl, a, _, _, _, rfl, rfl, (q.mono (TupE.of s1)).sq, rfl, rfl, _, rfl, ?_⟩
        rw [decide_eq_true rfl]
        refine iteT ⟨_, rfl, a1, _, _, rfl, hh1, (.ref a1, p1), rfl, c1, (.ref a1, p1, 0, psLen p1, ps), rfl, c1, hev, fun H3 u3 (s3 : Same H1 H3) c3 => hQ H3 u3 (s1.trans s3) c3⟩
      | some j =>
        cases t4.i
        refine ⟨_, rfl, a1, _, _, rfl, hh1, (by kernel_rfl), _, rfl, _, rfl, a, _, _, _, rfl, rfl, (q.mono (TupE.of s1)).sq, rfl, rfl, _, rfl, ?_⟩
        rw [decide_eq_false (by intro z; cases z)]
        refine iteF ⟨_, rfl, a, _, _, _, rfl, rfl, (q.mono (TupE.of s1)).sq, rfl, (.ref a1, p1, 0, j, ps), rfl, c1, hev, fun H3 u3 (s3 : Same H1 H3) c3 => hQ H3 u3 (s1.trans s3) c3⟩
    | some i =>
      cases t3.i
      rw [decide_eq_false (by intro z; cases z)]
      refine iteF ⟨_, rfl, a, _, _, _, rfl, rfl, (q.mono (TupE.of s1)).sq, rfl, ?_⟩
      cases j with
      | none =>
        cases t4.n
        refine ⟨_, rfl, a1, _, _, rfl, hh1, (by kernel_rfl), _, rfl, _, rfl, a, _, _, _, rfl, rfl, (q.mono (TupE.of s1)).sq, rfl, rfl, _, rfl, ?_⟩
        rw [decide_eq_true rfl]
        refine iteT ⟨_, rfl, a1, _, _, rfl, hh1, (.ref a1, p1), rfl, c1, (.ref a1, p1, i, psLen p1, ps), rfl, c1, hev, fun H3 u3 (s3 : Same H1 H3) c3 => hQ H3 u3 (s1.trans s3) c3⟩
      | some j =>
        cases t4.i
        refine ⟨_, rfl, a1, _, _, rfl, hh1, (by kernel_rfl), _, rfl, _, rfl, a, _, _, _, rfl, rfl, (q.mono (TupE.of s1)).sq, rfl, rfl, _, rfl, ?_⟩
        rw [decide_eq_false (by intro z; cases z)]
        refine iteF ⟨_, rfl, a, _, _, _, rfl, rfl, (q.mono (TupE.of s1)).sq, rfl, (.ref a1, p1, i, j, ps), rfl, c1, hev, fun H3 u3 (s3 : Same H1 H3) c3 => hQ H3 u3 (s1.trans s3) c3⟩
  | gain t m b =>
    obtain ⟨a, x1, x2, x3, x4, rfl, q, t1, t2, t3, t4⟩ := Td.t4 hd
    cases t1.s; cases t3.i; cases t4.i
    unfold evalT at hev
    obtain ⟨p1, e1, hev⟩ := Option.bind_eq_some_iff.mp hev
    split at hev
    · rename_i hb
      obtain ⟨fs, e2, hev⟩ := Option.bind_eq_some_iff.mp hev
      obtain ⟨rfl, hw⟩ := mkC_wf hev
      have hdl : t.dep ≤ n := by simp only [Tree.dep] at hdep; omega
      have hps := fl_flats e2
      subst hps
      refine ⟨_, rfl, _, _, _, _, rfl, rfl, q.sq, rfl, ?_⟩
      refine ⟨_, rfl, ?_⟩
      rw [show decide (("gain" : Str) = "name") = false by decide +kernel]
      refine iteF ?_
      refine ⟨_, rfl, ?_⟩
      rw [show decide (("gain" : Str) = "silence") = false by decide +kernel]
      refine iteF ?_
      refine ⟨_, rfl, ?_⟩
      rw [show decide (("gain" : Str) = "samples") = false by decide +kernel]
      refine iteF ?_
      refine ⟨_, rfl, r, _, _, rfl, h1, (by kernel_rfl), _, rfl, _, _, _, _, rfl, rfl, q.sq, rfl, (r, x2, t, sizes, d, _), rfl, hE, t2, hdl, e1, fun H1 u1 (s1 : Same H H1) c1 => ?_⟩
      refine ⟨_, rfl, a, _, _, _, rfl, rfl, (q.mono (TupE.of s1)).sq, rfl, ?_⟩
      refine ⟨_, rfl, ?_⟩
      rw [show decide (("gain" : Str) = "sum") = false by decide +kernel]
      refine iteF ?_
      refine ⟨_, rfl, ?_⟩
      rw [show decide (("gain" : Str) = "times") = false by decide +kernel]
      refine iteF ?_
      refine ⟨_, rfl, ?_⟩
      rw [show decide (("gain" : Str) = "stretch") = false by decide +kernel]
      refine iteF ?_
      refine ⟨_, rfl, ?_⟩
      rw [show decide (("gain" : Str) = "gain") = true by decide +kernel]
      refine iteT ?_
      obtain ⟨hw1, a1, dx1, tt1, rfl, hh1, _⟩ := id c1
      exact ⟨_, rfl, a1, _, _, rfl, hh1, (by kernel_rfl), _, rfl, a, _, _, _, rfl, rfl, (q.mono (TupE.of s1)).sq, rfl, _, rfl, a, _, _, _, rfl, rfl, (q.mono (TupE.of s1)).sq, rfl, (.ref a1, fs, m, b), rfl, c1, hb, hw, fun H3 u3 (s3 : Same H1 H3) c3 => hQ H3 u3 (s1.trans s3) c3⟩
    · cases hev
  | insert t i b =>
    obtain ⟨a, x1, x2, x3, x4, rfl, q, t1, t2, t3, t4⟩ := Td.t4 hd
    cases t1.s; cases t3.i
    unfold evalT at hev
    obtain ⟨p1, e1, hev⟩ := Option.bind_eq_some_iff.mp hev
    obtain ⟨p2, e2, hev⟩ := Option.bind_eq_some_iff.mp hev
    have hdl : t.dep ≤ n ∧ b.dep ≤ n := by simp only [Tree.dep] at hdep; omega
    refine ⟨_, rfl, _, _, _, _, rfl, rfl, q.sq, rfl, ?_⟩
    refine ⟨_, rfl, ?_⟩
    rw [show decide (("insert" : Str) = "name") = false by decide +kernel]
    refine iteF ?_
    refine ⟨_, rfl, ?_⟩
    rw [show decide (("insert" : Str) = "silence") = false by decide +kernel]
    refine iteF ?_
    refine ⟨_, rfl, ?_⟩
    rw [show decide (("insert" : Str) = "samples") = false by decide +kernel]
    refine iteF ?_
    refine ⟨_, rfl, r, _, _, rfl, h1, (by kernel_rfl), _, rfl, _, _, _, _, rfl, rfl, q.sq, rfl, (r, x2, t, sizes, d, p1), rfl, hE, t2, hdl.1, e1, fun H1 u1 (s1 : Same H H1) c1 => ?_⟩
    refine ⟨_, rfl, a, _, _, _, rfl, rfl, (q.mono (TupE.of s1)).sq, rfl, ?_⟩
    refine ⟨_, rfl, ?_⟩
    rw [show decide (("insert" : Str) = "sum") = false by decide +kernel]
    refine iteF ?_
    refine ⟨_, rfl, ?_⟩
    rw [show decide (("insert" : Str) = "times") = false by decide +kernel]
    refine iteF ?_
    refine ⟨_, rfl, ?_⟩
    rw [show decide (("insert" : Str) = "stretch") = false by decide +kernel]
    refine iteF ?_
    refine ⟨_, rfl, ?_⟩
    rw [show decide (("insert" : Str) = "gain") = false by decide +kernel]
    refine iteF ?_
    refine ⟨_, rfl, ?_⟩
    rw [show decide (("insert" : Str) = "insert") = true by decide +kernel]
    refine iteT ?_
    refine ⟨_, rfl, _, rfl, a, _, _, _, rfl, rfl, (q.mono (TupE.of s1)).sq, rfl, _, rfl, a, _, _, _, rfl, rfl, (q.mono (TupE.of s1)).sq, rfl, _, rfl, r, _, _, rfl, s1 _ _ h1, (by kernel_rfl), _, rfl, a, _, _, _, rfl, rfl, (q.mono (TupE.of s1)).sq, rfl, (r, x4, b, sizes, d, p2), rfl, hE.mono s1, t4.mono (TupE.of s1), hdl.2, e2, fun H2 u2 (s2 : Same H1 H2) c2 => ?_⟩
    exact ⟨(u1, u2, p1, p2, i, i, ps), rfl, c1.mono s2, c2, hev, fun H3 u3 (s3 : Same H2 H3) c3 => hQ H3 u3 (s1.trans (s2.trans s3)) c3⟩
  | cut t i j =>
    obtain ⟨a, x1, x2, x3, x4, rfl, q, t1, t2, t3, t4⟩ := Td.t4 hd
    cases t1.s; cases t3.i; cases t4.i
    unfold evalT at hev
    obtain ⟨p1, e1, hev⟩ := Option.bind_eq_some_iff.mp hev
    have hdl : t.dep ≤ n := by simp only [Tree.dep] at hdep; omega
    refine ⟨_, rfl, _, _, _, _, rfl, rfl, q.sq, rfl, ?_⟩
    refine ⟨_, rfl, ?_⟩
    rw [show decide (("cut" : Str) = "name") = false by decide +kernel]
    refine iteF ?_
    refine ⟨_, rfl, ?_⟩
    rw [show decide (("cut" : Str) = "silence") = false by decide +kernel]
    refine iteF ?_
    refine ⟨_, rfl, ?_⟩
    rw [show decide (("cut" : Str) = "samples") = false by decide +kernel]
    refine iteF ?_
    refine ⟨_, rfl, r, _, _, rfl, h1, (by kernel_rfl), _, rfl, _, _, _, _, rfl, rfl, q.sq, rfl, (r, x2, t, sizes, d, p1), rfl, hE, t2, hdl, e1, fun H1 u1 (s1 : Same H H1) c1 => ?_⟩
    refine ⟨_, rfl, a, _, _, _, rfl, rfl, (q.mono (TupE.of s1)).sq, rfl, ?_⟩
    refine ⟨_, rfl, ?_⟩
    rw [show decide (("cut" : Str) = "sum") = false by decide +kernel]
    refine iteF ?_
    refine ⟨_, rfl, ?_⟩
    rw [show decide (("cut" : Str) = "times") = false by decide +kernel]
    refine iteF ?_
    refine ⟨_, rfl, ?_⟩
    rw [show decide (("cut" : Str) = "stretch") = false by decide +kernel]
    refine iteF ?_
    refine ⟨_, rfl, ?_⟩
    rw [show decide (("cut" : Str) = "gain") = false by decide +kernel]
    refine iteF ?_
    refine ⟨_, rfl, ?_⟩
    rw [show decide (("cut" : Str) = "insert") = false by decide +kernel]
    refine iteF ?_
    refine ⟨_, rfl, ?_⟩
    rw [show decide (("cut" : Str) = "cut") = true by decide +kernel]
    refine iteT ?_
    refine ⟨_, rfl, _, rfl, a, _, _, _, rfl, rfl, (q.mono (TupE.of s1)).sq, rfl, _, rfl, a, _, _, _, rfl, rfl, (q.mono (TupE.of s1)).sq, rfl, ?_⟩
    refine r_mk0 hEmp fun H2 u2 (s2 : Same H1 H2) c2 => ?_
    exact ⟨(u1, u2, p1, [], i, j, ps), rfl, c1.mono s2, c2, hev, fun H3 u3 (s3 : Same H2 H3) c3 => hQ H3 u3 (s1.trans (s2.trans s3)) c3⟩
  | replace t i j b =>
    obtain ⟨a, x1, x2, x3, x4, x5, rfl, q, t1, t2, t3, t4, t5⟩ := Td.t5 hd
    cases t1.s; cases t3.i; cases t4.i
    unfold evalT at hev
    obtain ⟨p1, e1, hev⟩ := Option.bind_eq_some_iff.mp hev
    obtain ⟨p2, e2, hev⟩ := Option.bind_eq_some_iff.mp hev
    have hdl : t.dep ≤ n ∧ b.dep ≤ n := by simp only [Tree.dep] at hdep; omega
    refine ⟨_, rfl, _, _, _, _, rfl, rfl, q.sq, rfl, ?_⟩
    refine ⟨_, rfl, ?_⟩
    rw [show decide (("replace" : Str) = "name") = false by decide +kernel]
    refine iteF ?_
    refine ⟨_, rfl, ?_⟩
    rw [show decide (("replace" : Str) = "silence") = false by decide +kernel]
    refine iteF ?_
    refine ⟨_, rfl, ?_⟩
    rw [show decide (("replace" : Str) = "samples") = false by decide +kernel]
    refine iteF ?_
    refine ⟨_, rfl, r, _, _, rfl, h1, (by kernel_rfl), _, rfl, _, _, _, _, rfl, rfl, q.sq, rfl, (r, x2, t, sizes, d, p1), rfl, hE, t2, hdl.1, e1, fun H1 u1 (s1 : Same H H1) c1 => ?_⟩
    refine ⟨_, rfl, a, _, _, _, rfl, rfl, (q.mono (TupE.of s1)).sq, rfl, ?_⟩
    refine ⟨_, rfl, ?_⟩
    rw [show decide (("replace" : Str) = "sum") = false by decide +kernel]
    refine iteF ?_
    refine ⟨_, rfl, ?_⟩
    rw [show decide (("replace" : Str) = "times") = false by decide +kernel]
    refine iteF ?_
    refine ⟨_, rfl, ?_⟩
    rw [show decide (("replace" : Str) = "stretch") = false by decide +kernel]
    refine iteF ?_
    refine ⟨_, rfl, ?_⟩
    rw [show decide (("replace" : Str) = "gain") = false by decide +kernel]
    refine iteF ?_
    refine ⟨_, rfl, ?_⟩
    rw [show decide (("replace" : Str) = "insert") = false by decide +kernel]
    refine iteF ?_
    refine ⟨_, rfl, ?_⟩
    rw [show decide (("replace" : Str) = "cut") = false by decide +kernel]
    refine iteF ?_
    refine ⟨_, rfl, _, rfl, a, _, _, _, rfl, rfl, (q.mono (TupE.of s1)).sq, rfl, _, rfl, a, _, _, _, rfl, rfl, (q.mono (TupE.of s1)).sq, rfl, _, rfl, r, _, _, rfl, s1 _ _ h1, (by kernel_rfl), _, rfl, a, _, _, _, rfl, rfl, (q.mono (TupE.of s1)).sq, rfl, (r, x5, b, sizes, d, p2), rfl, hE.mono s1, t5.mono (TupE.of s1), hdl.2, e2, fun H2 u2 (s2 : Same H1 H2) c2 => ?_⟩
    exact ⟨(u1, u2, p1, p2, i, j, ps), rfl, c1.mono s2, c2, hev, fun H3 u3 (s3 : Same H2 H3) c3 => hQ H3 u3 (s1.trans (s2.trans s3)) c3⟩

/-! ### a whole script -/
theorem ClipAt.updD {H : Hp} {v : V} {ps : List Piece} {dd : Addr} {o : HO} {kvs : List (Key × V)} (hd : H dd = some (.dK kvs)) (h : ClipAt K CC H v ps) : ClipAt K CC (upd H dd o) v ps := by
  obtain ⟨hw, a, dx, t, hv, h1, h2⟩ := h
  refine ⟨hw, a, dx, t, hv, by rw [upd_ne (ne_of h1 hd (by intro z; cases z))]; exact h1, h2.mono fun b xs q => ?_⟩
  rw [upd_ne (ne_of q hd (by intro z; cases z))]
  exact q
theorem put_len {kvs : List (Key × V)} {k : Key} {v : V} : (putK kvs k v).length ≤ kvs.length + 1 := by
  unfold putK
  split
  · rw [List.length_map]; omega
  · rw [List.length_append]; exact Nat.le_refl _
abbrev ClipOfIn := List Ln × List Row × Addr × (Str → Option Int) × List Piece
def spClipOf (K : PySem.W.Frag) (CC : Addr) (ex : PF) (n : Nat) : Sp := spOf (fun x : ClipOfIn => [.str (S (txtOf x.1)), .ref x.2.2.1]) fun x H Q => TxtOk x.1 ∧ (∀ last tl, pScript ex (tt x.1.length 0 x.1) last tl = some x.2.1) ∧ x.2.1.length ≤ 1000 ∧ (∀ row ∈ x.2.1, row.dep ≤ n) ∧
  LensAt H x.2.2.1 x.2.2.2.1 ∧ runRows x.2.2.2.1 x.2.1 [] = some x.2.2.2.2 ∧ ∀ H' v, Same H H' → ClipAt K CC H' v x.2.2.2.2 → Q v H'
theorem ok_clip_of {k n : Nat} {ex : PF} (hk : 2 ≤ k) (F : FnP K "clip_of" "clip_of" s_clip_of f fd) (T : Txt K mg CC CR CE RES) (c_Evaluator : C8.Mak P w K mg base 1 "Evaluator" CE (spEInit CE) []) (c_parse_script : C8.Cal P w K mg base k "parse_script" (spParse K ex) [])
    (c_clip : C8.Met P w K mg base k CE "clip" (spEval K CC CE n) []) : FnOk P w K mg base CX0 (k + 1) f fd ["text", "lengths"] (spClipOf K CC ex n) := by
  refine ok0 F sc_clip_of (fun _ => rfl) (fun cdv A outer s H y Q E hr h => ?_)
  obtain ⟨lns, rows, ld, sizes, ps⟩ := y
  obtain ⟨hok, hrows, hlen, hdep, hL, hrun, hQ⟩ := h
  dsimp only at hok hrows hlen hdep hL hrun hQ ⊢
  refine ⟨_, (pss_cons (ps_set (i := 2) sc_clip_of.nd rfl (Or.inl rfl) (pe_mk c_Evaluator hr (by omega) rfl (pa_cons (pv 1) pa_nil)))
      (pss_one (ps_for PassesOwn.never rfl (pi_list (pe_c c_parse_script hr (by omega) rfl (pa_cons (pv 0) pa_nil))) (pg_name (i := 3) sc_clip_of.nd rfl (Or.inl rfl))
      (pss_cons (ps_if (pt_cmpR op_eq (pe_ix ix_tup (pv 3) pe_int (fun _ _ => rfl)) pe_str (nomark _))
      (pss_one (ps_ret (pe_mt c_clip hr (by omega) (pv 2) (pa_cons (pe_ix ix_tup (pv 3) pe_int (fun _ _ => rfl)) pa_nil))))
      pss_nil)
      (pss_one (ps_dput (hu_of hr) (pe_fld (pv 2) rfl) (pe_ix ix_tup (pv 3) pe_int (fun _ _ => rfl)) (pe_mt c_clip hr (by omega) (pv 2) (pa_cons (pe_ix ix_tup (pv 3) pe_int (fun _ _ => rfl)) pa_nil)) rfl)))))), ?_⟩
  refine ⟨_, rfl, ?_⟩
  intro r dx nr ndx nrd
  refine ⟨(r, dx, ld), rfl, upd_same, fun H1 dd (e1 : XE r _ H1) ndd (h1 : H1 r = some (.ins CE dx (ef ld dd))) hdd => ⟨rfl, ?_⟩⟩
  have nr : H r = none := nr
  have ndx : H dx = none := ndx
  have ndrr : dd ≠ r := fun z => by rw [z, upd_same] at ndd; cases ndd
  have nddH : H dd = none := by
    by_cases z : dd = dx
    · rw [z]; exact ndx
    · have ndd' : (upd (upd H dx (.own r)) r (.ins CE dx [])) dd = none := ndd
      rw [upd_ne ndrr, upd_ne z] at ndd'
      exact ndd'
  have k1 : Same H H1 := fun b o h => e1 b o (ne_of_none h nr) (by rw [upd_ne (ne_of_none h nr), upd_ne (ne_of_none h ndx)]; exact h)
  refine ⟨_, rfl, (lns, rows), rfl, hok, hrows, fun H2 p xs (e2 : Same H1 H2) np hp d2 => ?_⟩
  have hxl : xs.length = rows.length := by rw [d2.len, List.length_map]
  have npdd : p ≠ dd := fun z => by rw [z] at np; rw [hdd] at np; cases np
  refine ⟨p, rfl, ⟨_, SqL.of hp⟩, for_list (K := K) (a := p) (xs := xs) (fun i σ H' => ∃ o d kvs, σ = [some (.str (S (txtOf lns))), some (.ref ld), some (.ref r), o] ∧ Same H H' ∧ H' p = some (.lst xs) ∧ TdAll K H' xs (rows.map Row.data) ∧ H' r = some (.ins CE dx (ef ld dd)) ∧ H' dd = some (.dK kvs) ∧ kvs.length ≤ i ∧ DefsAt K CC H' kvs d ∧ runRows sizes (rows.drop i) d = some ps)
    ⟨none, [], [], rfl, k1.trans e2, hp, d2, e2 _ _ h1, e2 _ _ hdd, Nat.le_refl _, (fun x => trivial), hrun⟩ (fun i σ H' _ ⟨_, _, _, _, _, e, _⟩ => SqL.of e) ?_ ?_⟩
  · rintro i x σ H3 hx ⟨o, d, kvs, rfl, e3, hp3, d3, hr3, hdd3, hkl, hdf, hrun3⟩
    have hi : i < rows.length := by
      have := (List.getElem?_eq_some_iff.mp hx).1
      omega
    have hp' : rows[i]? = some rows[i] := List.getElem?_eq_getElem hi
    obtain ⟨x', hx', hdx⟩ := d3.get (i := i) (d := rows[i].data) (by rw [List.getElem?_map, hp']; rfl)
    rw [hx] at hx'; cases hx'
    rw [List.drop_eq_getElem_cons hi] at hrun3
    have hdp := hdep _ (List.getElem_mem hi)
    have hE : EvAt K CC CE H3 r sizes d := ⟨dx, ld, dd, kvs, hr3, (by obtain ⟨lk, l1, l2⟩ := hL; exact ⟨lk, e3 _ _ l1, l2⟩), hdd3, hdf⟩
    generalize rows[i] = row at hdx hrun3 hdp
    cases row with
    | ret ln t =>
      obtain ⟨a, x1, x2, x3, rfl, q, t1, t2, t3⟩ := Td.t3 hdx
      cases t1.s
      refine ⟨_, rfl, a, _, _, _, rfl, rfl, q.sq, rfl, rfl, _, rfl, ?_⟩
      rw [show decide (V.str ("return" : Str) = V.str "return") = true by decide +kernel]
      exact iteT ⟨_, rfl, r, _, _, rfl, hr3, (by kernel_rfl), _, rfl, a, _, _, _, rfl, rfl, q.sq, rfl, (r, x3, t, sizes, d, ps), rfl, hE, t3, hdp, hrun3, fun H4 u4 (s4 : Same H3 H4) c4 => hQ H4 u4 (e3.trans s4) c4⟩
    | define ln nm t =>
      obtain ⟨a, x1, x2, x3, x4, rfl, q, t1, t2, t3, t4⟩ := Td.t4 hdx
      cases t1.s; cases t3.s
      obtain ⟨c, hc, hrun4⟩ := Option.bind_eq_some_iff.mp hrun3
      refine ⟨_, rfl, a, _, _, _, rfl, rfl, q.sq, rfl, rfl, _, rfl, ?_⟩
      rw [show decide (V.str ("define" : Str) = V.str "return") = false by decide +kernel]
      refine iteF ⟨_, rfl, r, _, _, rfl, hr3, (by kernel_rfl), _, rfl, a, _, _, _, rfl, rfl, q.sq, rfl, (r, x4, t, sizes, d, c), rfl, hE, t4, hdp, hc, fun H4 u4 (s4 : Same H3 H4) c4 => ?_⟩
      have hdd4 := s4 _ _ hdd3
      have hr4 := s4 _ _ hr3
      refine ⟨_, rfl, r, CE, dx, _, _, rfl, hr4, T.clE, T.nDef, ef_d .., _, rfl, a, _, _, _, rfl, rfl, (q.mono (TupE.of s4)).sq, rfl, dd, _, rfl, DPut.k (k := Sum.inr nm) hdd4 (by rw [sizeLine_eq]; omega), ?_⟩
      have upT : TupE H4 (upd H4 dd (.dK (putK kvs (Sum.inr nm) u4))) := fun b zs h => by rw [upd_ne (ne_of h hdd4 (by intro z; cases z))]; exact h
      refine ⟨_, (nm, c) :: d, _, rfl, Same.updN (e3.trans s4) nddH, (by rw [upd_ne npdd]; exact s4 _ _ hp3), (d3.mono (TupE.of s4)).mono upT, (by rw [upd_ne ndrr.symm]; exact hr4), upd_same, Nat.le_trans put_len (by omega), fun x => ?_, hrun4⟩
      rw [valV_put]
      by_cases hx0 : x = nm
      · subst hx0
        rw [if_pos rfl, List.lookup_cons_self]
        exact c4.updD hdd4
      · rw [if_neg (fun z => hx0 (Sum.inr.inj z))]
        have el : List.lookup x ((nm, c) :: d) = List.lookup x d := by
          rw [List.lookup_cons]
          have : (x == nm) = false := beq_eq_false_iff_ne.mpr hx0
          rw [this]
        rw [el]
        exact (hdf.mono fun v ps cc => (cc.mono s4).updD hdd4) x
  · rintro σ H3 ⟨o, d, kvs, rfl, e3, hp3, d3, hr3, hdd3, hkl, hdf, hrun3⟩
    rw [hxl, List.drop_length] at hrun3
    cases hrun3
end
end FJ

set_option Elab.async false
set_option linter.all false
set_option maxRecDepth 100000
set_option maxHeartbeats 4000000
/-! the law's own numbers -/
namespace FJ
open PySem PySem.Spec PyProof.Rows L2
open C8 (pe_c pe_mk pe_mt pe_mt0 pe_gc)
section
variable {P : Program} {w : World} {K : PySem.W.Frag} {mg : Str → Option Value} {base : Heap} {CC CR CE RES : Addr} {f : Addr} {fd : FuncData}
def spPool (K : PySem.W.Frag) : Sp := spOf (fun x : Addr × List Int × Nat => [.ref x.1, .int x.2.2]) fun x H Q => SqL K H x.1 (x.2.1.map V.int) ∧ x.2.1.length ≤ 1000 ∧ x.2.2 ≤ 10 ∧ ∀ p g s, H p = none → 0 ≤ g → 0 ≤ s → s < 2147483647 → Q (.ref p) (upd H p (.lst [.int g, .int s]))
theorem ok_pool (F : FnP K "_law_pool" "_law_pool" s__law_pool f fd) (T : Txt K mg CC CR CE RES) : FnOk P w K mg base CX0 1 f fd ["_law_script", "_law_k"] (spPool K) := by
  refine ok0 F sc__law_pool (fun _ => rfl) (fun cdv A outer s H y Q E hr h => ?_)
  obtain ⟨l, xs, k⟩ := y
  obtain ⟨hl, hn, hk, hQ⟩ := h
  dsimp only at hl hn hk hQ ⊢
  refine ⟨_, (pss_cons (ps_set (i := 2) sc__law_pool.nd rfl (Or.inl rfl) pe_int)
      (pss_cons (ps_if (pt_cmpR op_lt (pv 1) (pe_callB call_len_seq (by rfl) T.n_len bt_len (pa_cons (pv 0) pa_nil)) (nomark _))
      (pss_one (ps_set (i := 2) sc__law_pool.nd rfl (Or.inl rfl) (pe_callTy call_int1 (by rfl) T.n_int bt_int (pa_cons (pe_ix ix_list (pv 0) (pv 1) (fun _ _ => rfl)) pa_nil))))
      pss_nil)
      (pss_cons (ps_set (i := 3) sc__law_pool.nd rfl (Or.inl rfl) (pe_callB call_abs (by rfl) T.n_abs bt_abs (pa_cons (pv 2) pa_nil)))
      (pss_cons (ps_set (i := 4) sc__law_pool.nd rfl (Or.inl rfl) (pe_op op_add (pe_op op_add (pe_op op_mod (pe_callTy call_int1 (by rfl) T.n_int bt_int (pa_cons (pv 2) pa_nil)) pe_int) (pe_op op_mul pe_int (pv 1))) pe_int))
      (pss_one (ps_ret (pe_lst (pa_cons (pe_op op_mul (pv 3) (pe_callTy call_int1 (by rfl) T.n_int bt_int (pa_cons (pe_cmpR op_ge (pv 3) (pe_op op_pow pe_int pe_int) (nomark _)) pa_nil))) (pa_cons (pe_op op_mod (pe_callTy call_int1 (by rfl) T.n_int bt_int (pa_cons (pe_op op_add (pe_op op_mul (pe_op op_mul (pv 4) (pv 4)) (pv 4)) (pe_op op_mul pe_int (pv 1))) pa_nil)) pe_int) pa_nil))))))))), ?_⟩
  refine ⟨_, rfl, _, rfl, l, _, rfl, .inl hl, _, _, rfl, rfl, _, rfl, ?_⟩
  rw [List.length_map]
  have hs : ∀ c : Int, 0 ≤ c % 2147483629 ∧ c % 2147483629 < 2147483629 := fun c => ⟨Int.emod_nonneg _ (by decide), Int.emod_lt_of_pos _ (by decide)⟩
  have hs' : ∀ c : Int, 0 ≤ c % 2147483647 ∧ c % 2147483647 < 2147483647 := fun c => ⟨Int.emod_nonneg _ (by decide), Int.emod_lt_of_pos _ (by decide)⟩
  by_cases hlt : k < xs.length
  · rw [decide_eq_true (by exact_mod_cast hlt)]
    refine iteT ⟨_, rfl, _, rfl, l, _, _, V.int xs[k], rfl, rfl, hl, (by refine atI_nat ?_; rw [List.getElem?_map, List.getElem?_eq_getElem hlt]; rfl), .inl ⟨_, rfl, ?_⟩⟩
    generalize xs[k] = c
    have h1 := hs c
    refine ⟨_, rfl, _, rfl, ?_⟩
    generalize hG : (if c < 0 then -c else c) = G
    have hG0 : 0 ≤ G := by rw [← hG]; split <;> omega
    refine ⟨_, rfl, .inl ⟨_, rfl, _, _, rfl, rfl, (show (0 : Int) < 2147483629 by decide), _, rfl, _, _, rfl, rfl, .inl (by decide), _, _, rfl, rfl, _, _, rfl, rfl, ?_⟩⟩
    have hC : ∀ x : Int, CMul x (c % 2147483629 + 48271 * (k : Int) + 11) := fun x => by
      have : (2 : Int) ^ 64 = 18446744073709551616 := by decide
      exact .inr ⟨by omega, by omega⟩
    refine ⟨_, rfl, _, rfl, _, _, rfl, rfl, ⟨by decide, by decide, by decide⟩, _, _, rfl, rfl, .inr ⟨_, rfl, _, _, rfl, rfl, .inr ?_, _, rfl, _, rfl, _, _, rfl, rfl, hC _, _, rfl, _, _, rfl, rfl, hC _, _, rfl, _, _, rfl, rfl, .inl (by decide), _, _, rfl, rfl, .inl ⟨_, rfl, _, _, rfl, rfl, (show (0 : Int) < 2147483647 by decide), by show 2 ≤ sizeLine; decide, fun p np => ?_⟩⟩⟩
    · split <;> decide
    · refine hQ p _ _ np ?_ (hs' _).1 (hs' _).2
      split <;> omega

  · rw [decide_eq_false (by exact_mod_cast hlt)]
    refine iteF ?_
    have h1 := hs (0 : Int)
    refine ⟨_, rfl, _, rfl, ?_⟩
    generalize hG : (if (0 : Int) < 0 then -(0 : Int) else (0 : Int)) = G
    have hG0 : 0 ≤ G := by rw [← hG]; split <;> omega
    refine ⟨_, rfl, .inl ⟨_, rfl, _, _, rfl, rfl, (show (0 : Int) < 2147483629 by decide), _, rfl, _, _, rfl, rfl, .inl (by decide), _, _, rfl, rfl, _, _, rfl, rfl, ?_⟩⟩
    have hC : ∀ x : Int, CMul x ((0 : Int) % 2147483629 + 48271 * (k : Int) + 11) := fun x => by
      have : (2 : Int) ^ 64 = 18446744073709551616 := by decide
      exact .inr ⟨by omega, by omega⟩
    refine ⟨_, rfl, _, rfl, _, _, rfl, rfl, ⟨by decide, by decide, by decide⟩, _, _, rfl, rfl, .inr ⟨_, rfl, _, _, rfl, rfl, .inr ?_, _, rfl, _, rfl, _, _, rfl, rfl, hC _, _, rfl, _, _, rfl, rfl, hC _, _, rfl, _, _, rfl, rfl, .inl (by decide), _, _, rfl, rfl, .inl ⟨_, rfl, _, _, rfl, rfl, (show (0 : Int) < 2147483647 by decide), by show 2 ≤ sizeLine; decide, fun p np => ?_⟩⟩⟩
    · split <;> decide
    · refine hQ p _ _ np ?_ (hs' _).1 (hs' _).2
      split <;> omega

def spTake : Sp := spOf (fun x : Addr × Int × Int × Int => [.ref x.1, .int x.2.1]) fun x H Q => H x.1 = some (.lst [.int x.2.2.1, .int x.2.2.2]) ∧ 0 ≤ x.2.2.1 ∧ 0 ≤ x.2.2.2 ∧ x.2.2.2 < 2147483647 ∧ 1 ≤ x.2.1 ∧ x.2.1 ≤ 10 ^ 20 ∧
  ∀ v g s, 0 ≤ v → v < x.2.1 → 0 ≤ g → 0 ≤ s → s < 2147483647 → Q (.int v) (upd H x.1 (.lst [.int g, .int s]))
theorem ok_take (F : FnP K "_law_take" "_law_take" s__law_take f fd) (T : Txt K mg CC CR CE RES) : FnOk P w K mg base CX0 1 f fd ["_law_pool_here", "_law_many"] spTake := by
  refine ok0 F sc__law_take (fun _ => rfl) (fun cdv A outer s H y Q E hr h => ?_)
  obtain ⟨p, m, g, t⟩ := y
  obtain ⟨hp, hg, ht0, ht1, hm0, hm1, hQ⟩ := h
  dsimp only at hp hg ht0 ht1 hm0 hm1 hQ ⊢
  refine ⟨_, (pss_cons (ps_if (pt_cmpR op_gt (pe_ix ix_list (pv 0) pe_int (fun _ _ => rfl)) pe_int (nomark _))
      (pss_cons (ps_set (i := 2) sc__law_take.nd rfl (Or.inl rfl) (pe_op op_mod (pe_callTy call_int1 (by rfl) T.n_int bt_int (pa_cons (pe_ix ix_list (pv 0) pe_int (fun _ _ => rfl)) pa_nil)) (pv 1)))
      (pss_cons (ps_asg (pe_op op_fdivW (pe_callTy call_int1 (by rfl) T.n_int bt_int (pa_cons (pe_ix ix_list (pv 0) pe_int (fun _ _ => rfl)) pa_nil)) (pv 1)) (pg_sub (pv 0) pe_int set_list))
      (pss_one (ps_ret (pv 2)))))
      pss_nil)
      (pss_cons (ps_asg (pe_op op_mod (pe_callTy call_int1 (by rfl) T.n_int bt_int (pa_cons (pe_op op_add (pe_op op_mul (pe_ix ix_list (pv 0) pe_int (fun _ _ => rfl)) pe_int) pe_int) pa_nil)) pe_int) (pg_sub (pv 0) pe_int set_list))
      (pss_one (ps_ret (pe_op op_mod (pe_op op_fdiv (pe_op op_mod (pe_callTy call_int1 (by rfl) T.n_int bt_int (pa_cons (pe_op op_mul (pe_ix ix_list (pv 0) pe_int (fun _ _ => rfl)) (pe_ix ix_list (pv 0) pe_int (fun _ _ => rfl))) pa_nil)) pe_int) pe_int) (pv 1)))))), ?_⟩
  have hs : ∀ c : Int, 0 ≤ c % m ∧ c % m < m := fun c => ⟨Int.emod_nonneg _ (by omega), Int.emod_lt_of_pos _ (by omega)⟩
  have hs' : ∀ c : Int, 0 ≤ c % 2147483647 ∧ c % 2147483647 < 2147483647 := fun c => ⟨Int.emod_nonneg _ (by decide), Int.emod_lt_of_pos _ (by decide)⟩
  refine ⟨_, rfl, p, _, _, _, rfl, rfl, SqL.of hp, rfl, _, _, rfl, rfl, _, rfl, ?_⟩
  by_cases hg0 : 0 < g
  · rw [decide_eq_true hg0]
    refine iteT ⟨_, rfl, p, _, _, _, rfl, rfl, SqL.of hp, rfl, .inl ⟨_, rfl, _, rfl, _, _, rfl, rfl, by omega, ?_⟩⟩
    refine ⟨_, rfl, p, _, _, _, rfl, rfl, SqL.of hp, rfl, .inl ⟨_, rfl, _, rfl, _, _, rfl, rfl, wide_div (b := 100) (by omega) (by omega) (by decide) (by decide), ?_⟩⟩
    refine ⟨_, rfl, p, _, _, 0, rfl, rfl, hp, rfl, _, rfl, ?_⟩
    exact hQ _ _ _ (hs _).1 (hs _).2 (Int.ediv_nonneg hg (by omega)) ht0 ht1
  · rw [decide_eq_false hg0]
    refine iteF ?_
    refine ⟨_, rfl, p, _, _, _, rfl, rfl, SqL.of hp, rfl, _, _, rfl, rfl, .inr (by decide), _, _, rfl, rfl, .inl ⟨_, rfl, _, _, rfl, rfl, (show (0 : Int) < 2147483647 by decide), ?_⟩⟩
    obtain ⟨S1, hS⟩ : ∃ z, (t * 48271 + 11) % 2147483647 = z := ⟨_, rfl⟩
    have hS1 : 0 ≤ S1 ∧ S1 < 2147483647 := by rw [← hS]; exact hs' _
    refine ⟨_, rfl, p, _, _, 1, rfl, rfl, hp, rfl, ?_⟩
    dsimp only [List.set]
    rw [hS]
    have hp1 : (upd H p (.lst [.int g, .int S1])) p = some (.lst [.int g, .int S1]) := upd_same
    refine ⟨_, rfl, p, _, _, _, rfl, rfl, SqL.of hp1, rfl, _, rfl, p, _, _, _, rfl, rfl, SqL.of hp1, rfl, _, _, rfl, rfl, .inr (by have : (2 : Int) ^ 64 = 18446744073709551616 := (by decide); omega), .inl ⟨_, rfl, _, _, rfl, rfl, (show (0 : Int) < 2147483629 by decide), _, _, rfl, rfl, (show CDiv _ 64 from ⟨by decide, by decide⟩), _, rfl, _, _, rfl, rfl, by omega, ?_⟩⟩
    exact hQ _ _ _ (hs _).1 (hs _).2 hg hS1.1 hS1.2
end
end FJ

set_option Elab.async false
set_option linter.all false
set_option maxRecDepth 100000
set_option maxHeartbeats 4000000
/-! the law -/
namespace FJ
open PySem PySem.Spec PyProof.Rows L2
open C8 (pe_c pe_mk pe_mt pe_mt0 pe_gc)
section
variable {X : Cx}
theorem pe_strL {x : Str} {l : List Nat} {j pos} (h : x = S l) : PE X (.Constant (.str x) j pos) (tC (.str (S l))) := by
  subst h; exact pe_str
theorem op_add_strS : OpR X (binaryOp .Add) (fun x y H Q => ∃ a b, x = .str (S a) ∧ y = .str (S b) ∧ a.length + b.length ≤ 8000 ∧ Q (.str (S (a ++ b))) H) := by
  rintro pins s σ H x y v u Q I rx ry ⟨a, b, rfl, rfl, hz, q⟩
  refine op_add_str pins s σ H _ _ v u Q I rx ry ⟨_, _, rfl, rfl, ?_, ?_⟩
  · rw [S_len, S_len, sizeLine_eq]; omega
  · rw [show S a ++ S b = S (a ++ b) from SX.S_cat a b]; exact q
theorem call_strS : CallR X (.type "str") (fun xs H Q => ∃ n : Nat, xs = [.int n] ∧ n < 2 ^ 200 ∧ Q (.str (S (TL.numL n))) H) := by
  rintro pins s σ H xs us Q I r ⟨n, rfl, hz, q⟩
  refine call_str_int pins s σ H _ us Q I r ⟨_, rfl, ?_, ?_⟩
  · have := PySem.Flt.log2_lt_of (n := (n : Int).natAbs) (by decide) (show (n : Int).natAbs < 2 ^ 200 from hz)
    omega
  · rw [show (toString (n : Int) : String) = toString (n : Int) from rfl]
    exact (SX.num_S n) ▸ q
end
def Fine (sizes : Str → Option Int) (n : Nat) (L : List Ln) (r : List Row) (c : List Piece) : Prop := TxtOk L ∧ (∀ last tl, pScript (pExpr 5) (tt L.length 0 L) last tl = some r) ∧ r.length ≤ 1000 ∧ (∀ row ∈ r, row.dep ≤ n) ∧ runRows sizes r [] = some c
structure PairOk (sizes : Str → Option Int) (n : Nat) (one two : List Nat) : Prop where
  l1 : one.length ≤ 1000
  l2 : two.length ≤ 1000
  ex : ∃ (L1 L2 L3 L4 : List Ln) (r1 r2 r3 : List Row) (c : List Piece), ([114, 101, 116, 117, 114, 110, 32] : List Nat) ++ one = txtOf L1 ∧ (([10, 32, 59, 32, 114, 101, 116, 117, 114, 110, 32] : List Nat) ++ two) ++ ([32, 59, 59, 10] : List Nat) = txtOf L2 ∧ (([120, 32, 61, 32] : List Nat) ++ one) ++ ([35, 32, 121, 10, 59, 98, 32, 61, 32, 97, 59, 32, 114, 101, 116, 117, 114, 110, 32, 120] : List Nat) = txtOf L3 ∧ (([32, 114, 101, 116, 117, 114, 110, 32, 32, 40] : List Nat) ++ one) ++ ([41] : List Nat) = txtOf L4 ∧
    Fine sizes n L1 r1 c ∧ Fine sizes n L2 r2 c ∧ Fine sizes n L3 r3 c ∧ TxtOk L4 ∧ (∀ last tl, pScript (pExpr 5) (tt L4.length 0 L4) last tl = some r1) ∧ SeqAt.shaped (.list (r1.map Row.data)) = true
def LastOk (sizes : Str → Option Int) (n : Nat) (size other lo hi : Int) (text : List Nat) : Prop := ∃ (L : List Ln) (r : List Row), text = txtOf L ∧ Fine sizes n L r (both (both (partC "a" 0 lo) (partC "b" 0 other)) (partC "a" hi size)) ∧
  Wf (partC "a" 0 lo) ∧ Wf (partC "b" 0 other) ∧ Wf (partC "a" hi size) ∧ Wf (both (partC "a" 0 lo) (partC "b" 0 other)) ∧ Wf (both (both (partC "a" 0 lo) (partC "b" 0 other)) (partC "a" hi size))
def szF (size other : Int) (x : Str) : Option Int := if x = "a" then some size else if x = "b" then some other else none
def one1 (size other lo hi n : Nat) : List Nat := ((([105, 110, 115, 101, 114, 116, 40, 97, 44, 32] : List Nat) ++ (TL.numL lo)) ++ ([44, 32, 98, 41] : List Nat))
def two1 (size other lo hi n : Nat) : List Nat := ((((([97, 91, 58] : List Nat) ++ (TL.numL lo)) ++ ([93, 32, 43, 32, 98, 32, 43, 32, 97, 91] : List Nat)) ++ (TL.numL lo)) ++ ([58, 93] : List Nat))
def one2 (size other lo hi n : Nat) : List Nat := ((((([114, 101, 112, 108, 97, 99, 101, 40, 97, 44, 32] : List Nat) ++ (TL.numL lo)) ++ ([58] : List Nat)) ++ (TL.numL hi)) ++ ([44, 32, 98, 41] : List Nat))
def two2 (size other lo hi n : Nat) : List Nat := ((((([97, 91, 58] : List Nat) ++ (TL.numL lo)) ++ ([93, 32, 43, 32, 98, 32, 43, 32, 97, 91] : List Nat)) ++ (TL.numL hi)) ++ ([58, 93] : List Nat))
def one3 (size other lo hi n : Nat) : List Nat := ((((([99, 117, 116, 40, 97, 44, 32] : List Nat) ++ (TL.numL lo)) ++ ([58] : List Nat)) ++ (TL.numL hi)) ++ ([41] : List Nat))
def two3 (size other lo hi n : Nat) : List Nat := ((((([97, 91, 58] : List Nat) ++ (TL.numL lo)) ++ ([93, 32, 43, 32, 97, 91] : List Nat)) ++ (TL.numL hi)) ++ ([58, 93] : List Nat))
def one4 (size other lo hi n : Nat) : List Nat := (([97, 32, 43, 32, 98, 32, 42, 32] : List Nat) ++ (TL.numL n))
def two4 (size other lo hi n : Nat) : List Nat := ((([97, 32, 43, 32, 40, 98, 32, 42, 32] : List Nat) ++ (TL.numL n)) ++ ([41] : List Nat))
def one5 (size other lo hi n : Nat) : List Nat := ([97, 91, 58, 93, 32, 43, 32, 40, 98, 41] : List Nat)
def two5 (size other lo hi n : Nat) : List Nat := ((([97, 32, 42, 32, 49, 32, 43, 32, 98, 91, 48, 58] : List Nat) ++ (TL.numL other)) ++ ([93] : List Nat))
def one6 (size other lo hi n : Nat) : List Nat := ((((((([97, 91] : List Nat) ++ (TL.numL lo)) ++ ([58] : List Nat)) ++ (TL.numL hi)) ++ ([93, 32, 42, 32] : List Nat)) ++ (TL.numL n)) ++ ([32, 42, 32, 50] : List Nat))
def two6 (size other lo hi n : Nat) : List Nat := ((((((([40, 40, 97, 91] : List Nat) ++ (TL.numL lo)) ++ ([58] : List Nat)) ++ (TL.numL hi)) ++ ([93, 32, 42, 32] : List Nat)) ++ (TL.numL n)) ++ ([41, 32, 42, 32, 50, 41] : List Nat))
def one7 (size other lo hi n : Nat) : List Nat := ((([103, 97, 105, 110, 40, 97, 44, 32, 45, 49, 47, 50, 41, 32, 43, 32, 115, 105, 108, 101, 110, 99, 101, 40] : List Nat) ++ (TL.numL n)) ++ ([41] : List Nat))
def two7 (size other lo hi n : Nat) : List Nat := ((([103, 97, 105, 110, 40, 32, 97, 32, 44, 45, 49, 32, 47, 32, 48, 50, 32, 41, 43, 115, 105, 108, 101, 110, 99, 101, 40, 32] : List Nat) ++ (TL.numL n)) ++ ([32, 41, 32, 35, 32, 98] : List Nat))
def lastT (size other lo hi n : Nat) : List Nat := ((((([114, 101, 116, 117, 114, 110, 32, 114, 101, 112, 108, 97, 99, 101, 40, 97, 44, 32] : List Nat) ++ (TL.numL lo)) ++ ([58] : List Nat)) ++ (TL.numL hi)) ++ ([44, 32, 98, 41] : List Nat))
structure Seven (d : Nat) (size other lo hi n : Nat) : Prop where
  p1 : PairOk (szF size other) d (one1 size other lo hi n) (two1 size other lo hi n)
  p2 : PairOk (szF size other) d (one2 size other lo hi n) (two2 size other lo hi n)
  p3 : PairOk (szF size other) d (one3 size other lo hi n) (two3 size other lo hi n)
  p4 : PairOk (szF size other) d (one4 size other lo hi n) (two4 size other lo hi n)
  p5 : PairOk (szF size other) d (one5 size other lo hi n) (two5 size other lo hi n)
  p6 : PairOk (szF size other) d (one6 size other lo hi n) (two6 size other lo hi n)
  p7 : PairOk (szF size other) d (one7 size other lo hi n) (two7 size other lo hi n)
  last : LastOk (szF size other) d size other lo hi (lastT size other lo hi n)
def Sevens (d : Nat) : Prop := ∀ size other lo hi n : Nat, 1 ≤ size → size ≤ 10 ^ 6 → other ≤ 10 ^ 6 → lo ≤ hi → hi ≤ size → n < 10 ^ 20 → Seven d size other lo hi n
section
variable {P : Program} {w : World} {K : PySem.W.Frag} {mg : Str → Option Value} {base : Heap} {CC CR CE RES : Addr} {f : Addr} {fd : FuncData}
theorem TdAll.dp {K : PySem.W.Frag} {H : Hp} : ∀ {vs : List V} {ds : List PyData}, TdAll K H vs ds → DpAll K H vs ds
  | _, _, .nil => .nil
  | _, _, .cons h t => .cons h.dp (TdAll.dp t)
/-- the list of pairs as it grows -/
def PLst (sizes : Str → Option Int) (n : Nat) (H : Hp) (xs : List V) : Prop := ∀ v ∈ xs, ∃ a one two, v = .ref a ∧ H a = some (.tup [.str (S one), .str (S two)]) ∧ PairOk sizes n one two
theorem PLst.mono {sizes : Str → Option Int} {n : Nat} {H H' : Hp} {xs : List V} (e : Same H H') (h : PLst sizes n H xs) : PLst sizes n H' xs := fun v hv => by
  obtain ⟨a, one, two, h1, h2, h3⟩ := h v hv
  exact ⟨a, one, two, h1, e _ _ h2, h3⟩
structure PLat (sizes : Str → Option Int) (n : Nat) (H0 H : Hp) (pl : Addr) (xs : List V) : Prop where
  same : Same H0 H
  free : H0 pl = none
  at_ : H pl = some (.lst xs)
  all : PLst sizes n H xs
theorem PLat.mid {sizes : Str → Option Int} {n : Nat} {H0 H : Hp} {pl q : Addr} {xs : List V} {o : HO} (h : PLat sizes n H0 H pl xs) (nq : H q = none) : (upd H q o) pl = some (.lst xs) := by
  rw [upd_ne (ne_of_none h.at_ nq)]; exact h.at_
theorem PLat.step {sizes : Str → Option Int} {n : Nat} {H0 H : Hp} {pl q : Addr} {xs : List V} {one two : List Nat} (h : PLat sizes n H0 H pl xs) (nq : H q = none) (ok : PairOk sizes n one two) :
    PLat sizes n H0 (upd (upd H q (.tup [.str (S one), .str (S two)])) pl (.lst (xs ++ [.ref q]))) pl (xs ++ [.ref q]) := by
  have npq : pl ≠ q := ne_of_none h.at_ nq
  refine ⟨Same.updN (h.same.trans (Same.upd nq)) h.free, h.free, upd_same, fun v hv => ?_⟩
  rcases List.mem_append.mp hv with hv | hv
  · obtain ⟨a, o, t, rfl, h2, h3⟩ := h.all v hv
    refine ⟨a, o, t, rfl, ?_, h3⟩
    rw [upd_ne (ne_of h2 h.at_ (by intro z; cases z)), upd_ne (ne_of_none h2 nq)]; exact h2
  · rw [List.mem_singleton.mp hv]
    exact ⟨q, one, two, rfl, by rw [upd_ne npq.symm]; exact upd_same, ok⟩
theorem pl_new {sizes : Str → Option Int} {n : Nat} {H : Hp} {pl q : Addr} {one two : List Nat} (nq : H q = none) (npl : (upd H q (.tup [.str (S one), .str (S two)])) pl = none) (ok : PairOk sizes n one two) :
    PLat sizes n H (upd (upd H q (.tup [.str (S one), .str (S two)])) pl (.lst [.ref q])) pl [.ref q] := by
  have nqp : q ≠ pl := fun z => by rw [← z, upd_same] at npl; cases npl
  have nplH : H pl = none := by rw [upd_ne nqp.symm] at npl; exact npl
  refine ⟨Same.updN (Same.upd nq) nplH, nplH, upd_same, fun v hv => ?_⟩
  rw [List.mem_singleton.mp hv]
  exact ⟨q, one, two, rfl, by rw [upd_ne nqp]; exact upd_same, ok⟩
theorem ClipAt.ins {K : PySem.W.Frag} {CC : Addr} {H : Hp} {v : V} {ps : List Piece} (h : ClipAt K CC H v ps) : ∃ a dx fs, v = .ref a ∧ H a = some (.ins CC dx fs) := by
  obtain ⟨_, a, dx, t, e, h1, _⟩ := h
  exact ⟨a, dx, _, e, h1⟩
theorem dins {K : PySem.W.Frag} {CC : Addr} {H : Hp} {v u : V} {ps : List Piece} (h : ClipAt K CC H v ps) (g : ClipAt K CC H u ps) : DIns CC (EqR K CC) v u H := by
  obtain ⟨a, dx, fs, rfl, h1⟩ := h.ins
  obtain ⟨b, dy, gs, rfl, g1⟩ := g.ins
  exact ⟨a, b, dx, dy, fs, gs, rfl, rfl, h1, g1, ps, h, g⟩
def spLaw (K : PySem.W.Frag) : Sp := spOf (fun x : Addr × List Int => [.ref x.1]) fun x H Q => SqL K H x.1 (x.2.map V.int) ∧ x.2.length ≤ 1000 ∧ ∀ H', Q (.bl true) H'
theorem ok_law {k n : Nat} (hk : 8 ≤ k) (hS : Sevens n) (F : FnP K "law" "law" s_law f fd) (T : Txt K mg CC CR CE RES) (c__law_pool : C8.Cal P w K mg base 1 "_law_pool" (spPool K) []) (c__law_take : C8.Cal P w K mg base 1 "_law_take" spTake [])
    (c_clip_of : C8.Cal P w K mg base k "clip_of" (spClipOf K CC (pExpr 5) n) []) (c_parse_script : C8.Cal P w K mg base k "parse_script" (spParse K (pExpr 5)) []) (c_part : Sta P w K mg base 7 CC "part" (spPart K CC) []) (c_add : Opr2 P w K mg base 7 CC .Add (spAdd K CC)) (c_eq : OprE P w K mg base 1 CC (EqR K CC)) :
    FnOk P w K mg base CX0 (k + 1) f fd ["_law_script"] (spLaw K) := by
  refine ok0 F sc_law (fun _ => rfl) (fun cdv A outer s H y Q E hr h => ?_)
  obtain ⟨l, ns⟩ := y
  obtain ⟨hl, hn, hQ⟩ := h
  dsimp only at hl hn hQ ⊢
  refine ⟨_, (pss_cons (ps_for PassesOwn.never rfl (pi_range1 (by rfl) T.n_range (pa_cons (pe_callB (call_max2 rfl) (by rfl) T.n_max bt_max (pa_cons pe_int (pa_cons (pe_callB (call_min2 rfl) (by rfl) T.n_min bt_min (pa_cons (pe_callB call_len_seq (by rfl) T.n_len bt_len (pa_cons (pv 0) pa_nil)) (pa_cons pe_int pa_nil))) pa_nil))) pa_nil)) (pg_name (i := 1) sc_law.nd rfl (Or.inl rfl))
      (pss_cons (ps_set (i := 2) sc_law.nd rfl (Or.inl rfl) (pe_c c__law_pool hr (by omega) rfl (pa_cons (pv 0) (pa_cons (pv 1) pa_nil))))
      (pss_cons (ps_par (i := 3) (j := 4) (by rfl) sc_law.nd rfl rfl (by decide) rfl rfl (pa_cons (pe_op op_add pe_int (pe_c c__law_take hr (by omega) rfl (pa_cons (pv 2) (pa_cons (pe_op op_pow pe_int pe_int) pa_nil)))) (pa_cons (pe_c c__law_take hr (by omega) rfl (pa_cons (pv 2) (pa_cons (pe_op op_pow pe_int pe_int) pa_nil))) pa_nil)) (by rfl))
      (pss_cons (ps_set (i := 5) sc_law.nd rfl (Or.inl rfl) (pe_disp (pps_cons pe_str (pv 3) (pps_cons pe_str (pv 4) pps_nil)) (by rfl) (by rfl) (fun z => by cases z) (by decide)))
      (pss_cons (ps_set (i := 6) sc_law.nd rfl (Or.inl rfl) (pe_c c__law_take hr (by omega) rfl (pa_cons (pv 2) (pa_cons (pe_op op_add (pv 3) pe_int) pa_nil))))
      (pss_cons (ps_set (i := 7) sc_law.nd rfl (Or.inl rfl) (pe_op op_add (pv 6) (pe_c c__law_take hr (by omega) rfl (pa_cons (pv 2) (pa_cons (pe_op op_add (pe_op op_sub (pv 3) (pv 6)) pe_int) pa_nil)))))
      (pss_cons (ps_par3 (i := 8) (j := 9) (l := 10) (by rfl) sc_law.nd rfl rfl rfl (by decide) (by decide) (by decide) rfl rfl rfl (pa_cons (pe_callTy call_strS (by rfl) T.n_str bt_str (pa_cons (pv 6) pa_nil)) (pa_cons (pe_callTy call_strS (by rfl) T.n_str bt_str (pa_cons (pv 7) pa_nil)) (pa_cons (pe_callTy call_strS (by rfl) T.n_str bt_str (pa_cons (pe_c c__law_take hr (by omega) rfl (pa_cons (pv 2) (pa_cons (pe_ix ix_list (pe_lst (pa_cons pe_int (pa_cons (pe_op op_pow pe_int pe_int) pa_nil))) (pe_c c__law_take hr (by omega) rfl (pa_cons (pv 2) (pa_cons pe_int pa_nil))) (fun _ _ => rfl)) pa_nil))) pa_nil)) pa_nil))) (by rfl))
      (pss_cons (ps_set (i := 11) sc_law.nd rfl (Or.inl rfl) (pe_lst (pa_cons (pe_tup (pa_cons (pe_op op_add_strS (pe_op op_add_strS (pe_strL (l := [105, 110, 115, 101, 114, 116, 40, 97, 44, 32]) (by decide +kernel)) (pv 8)) (pe_strL (l := [44, 32, 98, 41]) (by decide +kernel))) (pa_cons (pe_op op_add_strS (pe_op op_add_strS (pe_op op_add_strS (pe_op op_add_strS (pe_strL (l := [97, 91, 58]) (by decide +kernel)) (pv 8)) (pe_strL (l := [93, 32, 43, 32, 98, 32, 43, 32, 97, 91]) (by decide +kernel))) (pv 8)) (pe_strL (l := [58, 93]) (by decide +kernel))) pa_nil))) pa_nil)))
      (pss_cons (ps_expr (pe_bm PySem.F.plainAttrs_list PySem.F.slot_list_append PySem.F.type_list_append mt_append (pv 11) (pa_cons (pe_tup (pa_cons (pe_op op_add_strS (pe_op op_add_strS (pe_op op_add_strS (pe_op op_add_strS (pe_strL (l := [114, 101, 112, 108, 97, 99, 101, 40, 97, 44, 32]) (by decide +kernel)) (pv 8)) (pe_strL (l := [58]) (by decide +kernel))) (pv 9)) (pe_strL (l := [44, 32, 98, 41]) (by decide +kernel))) (pa_cons (pe_op op_add_strS (pe_op op_add_strS (pe_op op_add_strS (pe_op op_add_strS (pe_strL (l := [97, 91, 58]) (by decide +kernel)) (pv 8)) (pe_strL (l := [93, 32, 43, 32, 98, 32, 43, 32, 97, 91]) (by decide +kernel))) (pv 9)) (pe_strL (l := [58, 93]) (by decide +kernel))) pa_nil))) pa_nil)))
      (pss_cons (ps_expr (pe_bm PySem.F.plainAttrs_list PySem.F.slot_list_append PySem.F.type_list_append mt_append (pv 11) (pa_cons (pe_tup (pa_cons (pe_op op_add_strS (pe_op op_add_strS (pe_op op_add_strS (pe_op op_add_strS (pe_strL (l := [99, 117, 116, 40, 97, 44, 32]) (by decide +kernel)) (pv 8)) (pe_strL (l := [58]) (by decide +kernel))) (pv 9)) (pe_strL (l := [41]) (by decide +kernel))) (pa_cons (pe_op op_add_strS (pe_op op_add_strS (pe_op op_add_strS (pe_op op_add_strS (pe_strL (l := [97, 91, 58]) (by decide +kernel)) (pv 8)) (pe_strL (l := [93, 32, 43, 32, 97, 91]) (by decide +kernel))) (pv 9)) (pe_strL (l := [58, 93]) (by decide +kernel))) pa_nil))) pa_nil)))
      (pss_cons (ps_expr (pe_bm PySem.F.plainAttrs_list PySem.F.slot_list_append PySem.F.type_list_append mt_append (pv 11) (pa_cons (pe_tup (pa_cons (pe_op op_add_strS (pe_strL (l := [97, 32, 43, 32, 98, 32, 42, 32]) (by decide +kernel)) (pv 10)) (pa_cons (pe_op op_add_strS (pe_op op_add_strS (pe_strL (l := [97, 32, 43, 32, 40, 98, 32, 42, 32]) (by decide +kernel)) (pv 10)) (pe_strL (l := [41]) (by decide +kernel))) pa_nil))) pa_nil)))
      (pss_cons (ps_expr (pe_bm PySem.F.plainAttrs_list PySem.F.slot_list_append PySem.F.type_list_append mt_append (pv 11) (pa_cons (pe_tup (pa_cons (pe_strL (l := [97, 91, 58, 93, 32, 43, 32, 40, 98, 41]) (by decide +kernel)) (pa_cons (pe_op op_add_strS (pe_op op_add_strS (pe_strL (l := [97, 32, 42, 32, 49, 32, 43, 32, 98, 91, 48, 58]) (by decide +kernel)) (pe_callTy call_strS (by rfl) T.n_str bt_str (pa_cons (pv 4) pa_nil))) (pe_strL (l := [93]) (by decide +kernel))) pa_nil))) pa_nil)))
      (pss_cons (ps_expr (pe_bm PySem.F.plainAttrs_list PySem.F.slot_list_append PySem.F.type_list_append mt_append (pv 11) (pa_cons (pe_tup (pa_cons (pe_op op_add_strS (pe_op op_add_strS (pe_op op_add_strS (pe_op op_add_strS (pe_op op_add_strS (pe_op op_add_strS (pe_strL (l := [97, 91]) (by decide +kernel)) (pv 8)) (pe_strL (l := [58]) (by decide +kernel))) (pv 9)) (pe_strL (l := [93, 32, 42, 32]) (by decide +kernel))) (pv 10)) (pe_strL (l := [32, 42, 32, 50]) (by decide +kernel))) (pa_cons (pe_op op_add_strS (pe_op op_add_strS (pe_op op_add_strS (pe_op op_add_strS (pe_op op_add_strS (pe_op op_add_strS (pe_strL (l := [40, 40, 97, 91]) (by decide +kernel)) (pv 8)) (pe_strL (l := [58]) (by decide +kernel))) (pv 9)) (pe_strL (l := [93, 32, 42, 32]) (by decide +kernel))) (pv 10)) (pe_strL (l := [41, 32, 42, 32, 50, 41]) (by decide +kernel))) pa_nil))) pa_nil)))
      (pss_cons (ps_expr (pe_bm PySem.F.plainAttrs_list PySem.F.slot_list_append PySem.F.type_list_append mt_append (pv 11) (pa_cons (pe_tup (pa_cons (pe_op op_add_strS (pe_op op_add_strS (pe_strL (l := [103, 97, 105, 110, 40, 97, 44, 32, 45, 49, 47, 50, 41, 32, 43, 32, 115, 105, 108, 101, 110, 99, 101, 40]) (by decide +kernel)) (pv 10)) (pe_strL (l := [41]) (by decide +kernel))) (pa_cons (pe_op op_add_strS (pe_op op_add_strS (pe_strL (l := [103, 97, 105, 110, 40, 32, 97, 32, 44, 45, 49, 32, 47, 32, 48, 50, 32, 41, 43, 115, 105, 108, 101, 110, 99, 101, 40, 32]) (by decide +kernel)) (pv 10)) (pe_strL (l := [32, 41, 32, 35, 32, 98]) (by decide +kernel))) pa_nil))) pa_nil)))
      (pss_cons (ps_for PassesOwn.never rfl (pi_list (pv 11)) (pg_tup rfl (pgs_cons (pg_name (i := 12) sc_law.nd rfl (Or.inl rfl)) (pgs_cons (pg_name (i := 13) sc_law.nd rfl (Or.inl rfl)) pgs_nil)))
      (pss_cons (ps_set (i := 14) sc_law.nd rfl (Or.inl rfl) (pe_c c_clip_of hr (by omega) rfl (pa_cons (pe_op op_add_strS (pe_strL (l := [114, 101, 116, 117, 114, 110, 32]) (by decide +kernel)) (pv 12)) (pa_cons (pv 5) pa_nil))))
      (pss_cons (ps_if (pt_cmpR op_isnot_bl (pe_cmpR (op_oE c_eq hr (by omega)) (pv 14) (pe_c c_clip_of hr (by omega) rfl (pa_cons (pe_op op_add_strS (pe_op op_add_strS (pe_strL (l := [10, 32, 59, 32, 114, 101, 116, 117, 114, 110, 32]) (by decide +kernel)) (pv 13)) (pe_strL (l := [32, 59, 59, 10]) (by decide +kernel))) (pa_cons (pv 5) pa_nil))) (nomark _)) pe_bl (nomark _))
      (pss_one (ps_ret pe_bl))
      pss_nil)
      (pss_cons (ps_if (pt_cmpR op_isnot_bl (pe_cmpR (op_oE c_eq hr (by omega)) (pv 14) (pe_c c_clip_of hr (by omega) rfl (pa_cons (pe_op op_add_strS (pe_op op_add_strS (pe_strL (l := [120, 32, 61, 32]) (by decide +kernel)) (pv 12)) (pe_strL (l := [35, 32, 121, 10, 59, 98, 32, 61, 32, 97, 59, 32, 114, 101, 116, 117, 114, 110, 32, 120]) (by decide +kernel))) (pa_cons (pv 5) pa_nil))) (nomark _)) pe_bl (nomark _))
      (pss_one (ps_ret pe_bl))
      pss_nil)
      (pss_one (ps_if (pt_cmpR (op_neD hr.units) (pe_c c_parse_script hr (by omega) rfl (pa_cons (pe_op op_add_strS (pe_strL (l := [114, 101, 116, 117, 114, 110, 32]) (by decide +kernel)) (pv 12)) pa_nil)) (pe_c c_parse_script hr (by omega) rfl (pa_cons (pe_op op_add_strS (pe_op op_add_strS (pe_strL (l := [32, 114, 101, 116, 117, 114, 110, 32, 32, 40]) (by decide +kernel)) (pv 12)) (pe_strL (l := [41]) (by decide +kernel))) pa_nil)) (nomark _))
      (pss_one (ps_ret pe_bl))
      pss_nil))))))
      (pss_cons (ps_set (i := 15) sc_law.nd rfl (Or.inl rfl) (pe_op (op_o2 c_add hr (by omega)) (pe_op (op_o2 c_add hr (by omega)) (pe_sta c_part hr (by omega) (pe_glob (v := .ref CC) rfl T.mg_Clip rfl) (pa_cons pe_str (pa_cons pe_int (pa_cons (pv 6) pa_nil)))) (pe_sta c_part hr (by omega) (pe_glob (v := .ref CC) rfl T.mg_Clip rfl) (pa_cons pe_str (pa_cons pe_int (pa_cons (pv 4) pa_nil))))) (pe_sta c_part hr (by omega) (pe_glob (v := .ref CC) rfl T.mg_Clip rfl) (pa_cons pe_str (pa_cons (pv 7) (pa_cons (pv 3) pa_nil))))))
      (pss_one (ps_if (pt_cmpR op_isnot_bl (pe_cmpR (op_oE c_eq hr (by omega)) (pe_c c_clip_of hr (by omega) rfl (pa_cons (pe_op op_add_strS (pe_op op_add_strS (pe_op op_add_strS (pe_op op_add_strS (pe_strL (l := [114, 101, 116, 117, 114, 110, 32, 114, 101, 112, 108, 97, 99, 101, 40, 97, 44, 32]) (by decide +kernel)) (pv 8)) (pe_strL (l := [58]) (by decide +kernel))) (pv 9)) (pe_strL (l := [44, 32, 98, 41]) (by decide +kernel))) (pa_cons (pv 5) pa_nil))) (pv 15) (nomark _)) pe_bl (nomark _))
      (pss_one (ps_ret pe_bl))
      pss_nil))))))))))))))))))
      (pss_one (ps_ret pe_bl))), ?_⟩
  refine ⟨_, rfl, l, _, rfl, .inl hl, _, _, rfl, _, _, rfl, _, rfl, ?_, ?_, for_range (fun i σ H' => ∃ o1 o2 o3 o4 o5 o6 o7 o8 o9 o10 o11 o12 o13 o14 o15, σ = [some (.ref l), o1, o2, o3, o4, o5, o6, o7, o8, o9, o10, o11, o12, o13, o14, o15] ∧ Same H H') ⟨_, _, _, _, _, _, _, _, _, _, _, _, _, _, _, rfl, Same.refl _⟩ ?_ ?_⟩
  · rw [List.length_map]; split <;> split <;> omega
  · rw [List.length_map]; split <;> split <;> omega
  · rintro k σ H1 hkn ⟨o1, o2, o3, o4, o5, o6, o7, o8, o9, o10, o11, o12, o13, o14, o15, rfl, e1⟩
    have hk10 : k ≤ 10 := by
      rw [List.length_map] at hkn
      revert hkn
      split <;> split <;> omega
    refine ⟨_, rfl, _, rfl, (l, ns, k), (by show [V.ref l, V.int (0 + (k : Int))] = [V.ref l, V.int (k : Int)]; rw [Int.zero_add]), e1.seq hl, hn, hk10, fun p g0 s0 (np : H1 p = none) hg0 hs0 hs0' => ?_⟩
    have E1 : Same H1 (upd H1 p (.lst [.int g0, .int s0])) := Same.upd np
    have hp1 : (upd H1 p (.lst [.int g0, .int s0])) p = some (.lst [.int g0, .int s0]) := upd_same
    generalize upd H1 p (.lst [.int g0, .int s0]) = H2 at E1 hp1 ⊢
    have m6 : (1 : Int) ≤ 10 ^ 6 ∧ (10 : Int) ^ 6 ≤ 10 ^ 20 := by decide
    have m2 : (1 : Int) ≤ 2 ∧ (2 : Int) ≤ 10 ^ 20 := by decide
    refine ⟨_, rfl, _, _, rfl, rfl, ⟨by decide, by decide, by decide⟩, (p, 10 ^ 6, g0, s0), rfl, hp1, hg0, hs0, hs0', m6.1, m6.2, fun v1 g1 s1 hv10 hv11 hg1 hs1 hs1' => ?_⟩
    have hp2 : (upd H2 p (.lst [.int g1, .int s1])) p = some (.lst [.int g1, .int s1]) := upd_same
    have E2 : Same H1 (upd H2 p (.lst [.int g1, .int s1])) := Same.updN E1 np
    dsimp only at hv11 ⊢
    generalize upd H2 p (.lst [.int g1, .int s1]) = H3 at E2 hp2 ⊢
    refine ⟨_, _, rfl, rfl, _, rfl, _, _, rfl, rfl, ⟨by decide, by decide, by decide⟩, (p, 10 ^ 6, g1, s1), rfl, hp2, hg1, hs1, hs1', m6.1, m6.2, fun v2 g2 s2 hv20 hv21 hg2 hs2 hs2' => ?_⟩
    have hp3 : (upd H3 p (.lst [.int g2, .int s2])) p = some (.lst [.int g2, .int s2]) := upd_same
    have E3 : Same H1 (upd H3 p (.lst [.int g2, .int s2])) := Same.updN E2 np
    dsimp only at hv21 ⊢
    generalize upd H3 p (.lst [.int g2, .int s2]) = H4 at E3 hp3 ⊢
    obtain ⟨size, hsz⟩ : ∃ z : Nat, 1 + v1 = (z : Int) := Int.eq_ofNat_of_zero_le (by omega)
    obtain ⟨other, hot⟩ := Int.eq_ofNat_of_zero_le hv20
    have ho : other ≤ 10 ^ 6 := by have : ((10 : Int) ^ 6) = 1000000 := (by decide); omega
    have hs : 1 ≤ size ∧ size ≤ 10 ^ 6 := by have : ((10 : Int) ^ 6) = 1000000 := (by decide); omega
    rw [hot, hsz]
    refine ⟨_, _, rfl, ?_⟩
    refine fun ld nld => ⟨_, rfl, _, rfl, upd_same, [(Sum.inr "a", V.int size), (Sum.inr "b", V.int other)], rfl, by show 2 ≤ 15; decide, ?_⟩
    have npld : p ≠ ld := fun z => by rw [← z, hp3] at nld; cases nld
    obtain ⟨H5, hH5⟩ : ∃ z, upd (upd H4 ld (.dK [])) ld (.dK (mergeK [] [(Sum.inr "a", V.int size), (Sum.inr "b", V.int other)])) = z := ⟨_, rfl⟩
    rw [hH5]
    have hp4 : H5 p = some (.lst [.int g2, .int s2]) := by rw [← hH5, upd_ne npld, upd_ne npld]; exact hp3
    have nldH : H1 ld = none := Same.free E3 nld
    have E4 : Same H1 H5 := by rw [← hH5]; exact Same.updN (Same.updN E3 nldH) nldH
    have hld : H5 ld = some (.dK [(Sum.inr "a", V.int size), (Sum.inr "b", V.int other)]) := by rw [← hH5, upd_same]; rfl
    refine ⟨_, rfl, _, rfl, _, _, rfl, rfl, (p, (size : Int) + 1, g2, s2), rfl, hp4, hg2, hs2, hs2', (show (1 : Int) ≤ (size : Int) + 1 by omega), (show (size : Int) + 1 ≤ 10 ^ 20 by have : ((10 : Int) ^ 20) = 100000000000000000000 := (by decide); omega), fun v3 g3 s3 hv30 hv31 hg3 hs3 hs3' => ?_⟩
    have hp5 : (upd H5 p (.lst [.int g3, .int s3])) p = some (.lst [.int g3, .int s3]) := upd_same
    have E5 : Same H1 (upd H5 p (.lst [.int g3, .int s3])) := Same.updN E4 np
    have hld5 : (upd H5 p (.lst [.int g3, .int s3])) ld = some (.dK [(Sum.inr "a", V.int size), (Sum.inr "b", V.int other)]) := by rw [upd_ne npld.symm]; exact hld
    dsimp only at hv31 ⊢
    generalize upd H5 p (.lst [.int g3, .int s3]) = H6 at E5 hp5 hld5 ⊢
    obtain ⟨lo, hlo⟩ := Int.eq_ofNat_of_zero_le hv30
    rw [hlo]
    refine ⟨_, rfl, _, rfl, _, rfl, _, rfl, _, _, rfl, rfl, _, _, rfl, rfl, (p, (size : Int) - lo + 1, g3, s3), rfl, hp5, hg3, hs3, hs3', (show (1 : Int) ≤ (size : Int) - lo + 1 by omega), (show (size : Int) - lo + 1 ≤ 10 ^ 20 by have : ((10 : Int) ^ 20) = 100000000000000000000 := (by decide); omega), fun v4 g4 s4 hv40 hv41 hg4 hs4 hs4' => ?_⟩
    have hp6 : (upd H6 p (.lst [.int g4, .int s4])) p = some (.lst [.int g4, .int s4]) := upd_same
    have E6 : Same H1 (upd H6 p (.lst [.int g4, .int s4])) := Same.updN E5 np
    have hld6 : (upd H6 p (.lst [.int g4, .int s4])) ld = some (.dK [(Sum.inr "a", V.int size), (Sum.inr "b", V.int other)]) := by rw [upd_ne npld.symm]; exact hld5
    dsimp only at hv41 ⊢
    generalize upd H6 p (.lst [.int g4, .int s4]) = H7 at E6 hp6 hld6 ⊢
    obtain ⟨hi, hhi⟩ : ∃ z : Nat, (lo : Int) + v4 = (z : Int) := Int.eq_ofNat_of_zero_le (by omega)
    refine ⟨_, _, rfl, rfl, ?_⟩
    dsimp only
    rw [hhi]
    have hlh : lo ≤ hi := by omega
    have hhs : hi ≤ size := by omega
    have big : ∀ m : Nat, m ≤ 10 ^ 20 → m < 2 ^ 200 := fun m h => Nat.lt_of_le_of_lt h (by decide)
    have sm6 : ∀ {m : Nat}, m ≤ 10 ^ 6 → m < 2 ^ 200 := fun h => big _ (Nat.le_trans h (by decide))
    refine ⟨_, rfl, _, rfl, sm6 (by omega), _, rfl, _, rfl, sm6 (by omega), _, rfl, _, _, rfl, rfl, ⟨by decide, by decide, by decide⟩, by show 2 ≤ sizeLine; decide, fun fl nfl => ?_⟩
    have npfl : p ≠ fl := fun z => by rw [← z, hp6] at nfl; cases nfl
    have nlfl : ld ≠ fl := fun z => by rw [← z, hld6] at nfl; cases nfl
    refine ⟨_, rfl, (p, 2, g4, s4), rfl, (by rw [upd_ne npfl]; exact hp6), hg4, hs4, hs4', m2.1, m2.2, fun v5 g5 s5 hv50 hv51 hg5 hs5 hs5' => ?_⟩
    obtain ⟨H8, hH8⟩ : ∃ z, upd (upd H7 fl (.lst [.int 5, .int ((10 : Int) ^ (20 : Int).toNat)])) p (.lst [.int g5, .int s5]) = z := ⟨_, rfl⟩
    have hp8 : H8 p = some (.lst [.int g5, .int s5]) := by rw [← hH8]; exact upd_same
    have E8 : Same H1 H8 := by rw [← hH8]; exact Same.updN (E6.trans (Same.upd nfl)) np
    have hld8 : H8 ld = some (.dK [(Sum.inr "a", V.int size), (Sum.inr "b", V.int other)]) := by rw [← hH8, upd_ne npld.symm, upd_ne nlfl]; exact hld6
    have hfl8 : H8 fl = some (.lst [.int 5, .int ((10 : Int) ^ (20 : Int).toNat)]) := by rw [← hH8, upd_ne npfl.symm]; exact upd_same
    dsimp only at hv51 ⊢
    rw [hH8]
    obtain ⟨many, hmany, hat⟩ : ∃ many : Int, (1 ≤ many ∧ many ≤ 10 ^ 20) ∧ atI [V.int 5, V.int ((10 : Int) ^ (20 : Int).toNat)] v5 = some (.int many) := by
      rcases (show v5 = 0 ∨ v5 = 1 by omega) with h | h
      · subst h; exact ⟨5, by decide, rfl⟩
      · subst h; exact ⟨10 ^ 20, by decide, rfl⟩
    refine ⟨fl, _, _, _, rfl, rfl, SqL.of hfl8, hat, (p, many, g5, s5), rfl, hp8, hg5, hs5, hs5', hmany.1, hmany.2, fun v6 g6 s6 hv60 hv61 hg6 hs6 hs6' => ?_⟩
    have hp9 : (upd H8 p (.lst [.int g6, .int s6])) p = some (.lst [.int g6, .int s6]) := upd_same
    have E9 : Same H1 (upd H8 p (.lst [.int g6, .int s6])) := Same.updN E8 np
    have hld9 : (upd H8 p (.lst [.int g6, .int s6])) ld = some (.dK [(Sum.inr "a", V.int size), (Sum.inr "b", V.int other)]) := by rw [upd_ne npld.symm]; exact hld8
    dsimp only at hv61 ⊢
    generalize upd H8 p (.lst [.int g6, .int s6]) = H9 at E9 hld9 ⊢
    obtain ⟨n0, hn0⟩ := Int.eq_ofNat_of_zero_le hv60
    have hn20 : n0 < 10 ^ 20 := by
      have : ((10 : Int) ^ 20) = ((10 ^ 20 : Nat) : Int) := (by decide)
      omega
    rw [hn0]
    refine ⟨_, rfl, big _ (Nat.le_of_lt hn20), _, _, _, rfl, ?_⟩
    have hI : (TL.numL lo).length ≤ 30 := Nat.le_trans (TL.numL_len (k := 20) (by decide) (Nat.lt_of_le_of_lt (Nat.le_trans hlh (Nat.le_trans hhs hs.2)) (by decide))) (by decide)
    have hJ : (TL.numL hi).length ≤ 30 := Nat.le_trans (TL.numL_len (k := 20) (by decide) (Nat.lt_of_le_of_lt (Nat.le_trans hhs hs.2) (by decide))) (by decide)
    have hO : (TL.numL other).length ≤ 30 := Nat.le_trans (TL.numL_len (k := 20) (by decide) (Nat.lt_of_le_of_lt ho (by decide))) (by decide)
    have hN : (TL.numL n0).length ≤ 30 := Nat.le_trans (TL.numL_len (k := 20) (by decide) hn20) (by decide)
    have S7 := hS size other lo hi n0 hs.1 hs.2 ho hlh hhs hn20
    have hLens : ∀ {H' : Hp}, Same H9 H' → LensAt H' ld (szF size other) := fun e => ⟨_, e _ _ hld9, fun x => by
      unfold szF
      by_cases ha : x = "a"
      · subst ha; rfl
      · rw [if_neg ha]
        by_cases hb : x = "b"
        · subst hb; rfl
        · rw [if_neg hb, valV_neg (fun z => ha (Sum.inr.inj z).symm), valV_neg (fun z => hb (Sum.inr.inj z).symm)]; rfl⟩
    refine ⟨_, rfl, _, _, rfl, rfl, (by simp only [List.length_append, List.length_cons, List.length_nil]; omega), _, _, rfl, rfl, (by simp only [List.length_append, List.length_cons, List.length_nil]; omega), _, rfl, _, _, rfl, rfl, (by simp only [List.length_append, List.length_cons, List.length_nil]; omega), _, _, rfl, rfl, (by simp only [List.length_append, List.length_cons, List.length_nil]; omega), _, rfl, _, _, rfl, rfl, (by simp only [List.length_append, List.length_cons, List.length_nil]; omega), _, _, rfl, rfl, (by simp only [List.length_append, List.length_cons, List.length_nil]; omega), by show 2 ≤ sizeLine; decide, fun q1 (nq1 : H9 q1 = none) => ⟨by show 1 ≤ sizeLine; decide, fun pl npl => ?_⟩⟩
    have K0 := pl_new (n := n) nq1 npl S7.p1
    refine ⟨_, rfl, .inl ⟨rfl, _, SqL.of K0.at_⟩, _, rfl, _, _, rfl, rfl, (by simp only [List.length_append, List.length_cons, List.length_nil]; omega), _, _, rfl, rfl, (by simp only [List.length_append, List.length_cons, List.length_nil]; omega), _, rfl, _, _, rfl, rfl, (by simp only [List.length_append, List.length_cons, List.length_nil]; omega), _, _, rfl, rfl, (by simp only [List.length_append, List.length_cons, List.length_nil]; omega), _, rfl, _, _, rfl, rfl, (by simp only [List.length_append, List.length_cons, List.length_nil]; omega), _, _, rfl, rfl, (by simp only [List.length_append, List.length_cons, List.length_nil]; omega), _, rfl, _, _, rfl, rfl, (by simp only [List.length_append, List.length_cons, List.length_nil]; omega), _, _, rfl, rfl, (by simp only [List.length_append, List.length_cons, List.length_nil]; omega), by show 2 ≤ sizeLine; decide, fun q2 nq2 => ?_⟩
    have K1 := K0.step nq2 S7.p2
    refine ⟨pl, _, _, rfl, rfl, K0.mid nq2, by show 1 < sizeLine; decide, ?_⟩
    refine ⟨_, rfl, .inl ⟨rfl, _, SqL.of K1.at_⟩, _, rfl, _, _, rfl, rfl, (by simp only [List.length_append, List.length_cons, List.length_nil]; omega), _, _, rfl, rfl, (by simp only [List.length_append, List.length_cons, List.length_nil]; omega), _, rfl, _, _, rfl, rfl, (by simp only [List.length_append, List.length_cons, List.length_nil]; omega), _, _, rfl, rfl, (by simp only [List.length_append, List.length_cons, List.length_nil]; omega), _, rfl, _, _, rfl, rfl, (by simp only [List.length_append, List.length_cons, List.length_nil]; omega), _, _, rfl, rfl, (by simp only [List.length_append, List.length_cons, List.length_nil]; omega), _, rfl, _, _, rfl, rfl, (by simp only [List.length_append, List.length_cons, List.length_nil]; omega), _, _, rfl, rfl, (by simp only [List.length_append, List.length_cons, List.length_nil]; omega), by show 2 ≤ sizeLine; decide, fun q3 nq3 => ?_⟩
    have K2 := K1.step nq3 S7.p3
    refine ⟨pl, _, _, rfl, rfl, K1.mid nq3, by show 2 < sizeLine; decide, ?_⟩
    refine ⟨_, rfl, .inl ⟨rfl, _, SqL.of K2.at_⟩, _, rfl, _, _, rfl, rfl, (by simp only [List.length_append, List.length_cons, List.length_nil]; omega), _, rfl, _, _, rfl, rfl, (by simp only [List.length_append, List.length_cons, List.length_nil]; omega), _, _, rfl, rfl, (by simp only [List.length_append, List.length_cons, List.length_nil]; omega), by show 2 ≤ sizeLine; decide, fun q4 nq4 => ?_⟩
    have K3 := K2.step nq4 S7.p4
    refine ⟨pl, _, _, rfl, rfl, K2.mid nq4, by show 3 < sizeLine; decide, ?_⟩
    refine ⟨_, rfl, .inl ⟨rfl, _, SqL.of K3.at_⟩, _, rfl, _, rfl, sm6 ho, _, _, rfl, rfl, (by simp only [List.length_append, List.length_cons, List.length_nil]; omega), _, _, rfl, rfl, (by simp only [List.length_append, List.length_cons, List.length_nil]; omega), by show 2 ≤ sizeLine; decide, fun q5 nq5 => ?_⟩
    have K4 := K3.step nq5 S7.p5
    refine ⟨pl, _, _, rfl, rfl, K3.mid nq5, by show 4 < sizeLine; decide, ?_⟩
    refine ⟨_, rfl, .inl ⟨rfl, _, SqL.of K4.at_⟩, _, rfl, _, _, rfl, rfl, (by simp only [List.length_append, List.length_cons, List.length_nil]; omega), _, _, rfl, rfl, (by simp only [List.length_append, List.length_cons, List.length_nil]; omega), _, rfl, _, _, rfl, rfl, (by simp only [List.length_append, List.length_cons, List.length_nil]; omega), _, _, rfl, rfl, (by simp only [List.length_append, List.length_cons, List.length_nil]; omega), _, rfl, _, _, rfl, rfl, (by simp only [List.length_append, List.length_cons, List.length_nil]; omega), _, _, rfl, rfl, (by simp only [List.length_append, List.length_cons, List.length_nil]; omega), _, rfl, _, _, rfl, rfl, (by simp only [List.length_append, List.length_cons, List.length_nil]; omega), _, _, rfl, rfl, (by simp only [List.length_append, List.length_cons, List.length_nil]; omega), _, rfl, _, _, rfl, rfl, (by simp only [List.length_append, List.length_cons, List.length_nil]; omega), _, _, rfl, rfl, (by simp only [List.length_append, List.length_cons, List.length_nil]; omega), _, rfl, _, _, rfl, rfl, (by simp only [List.length_append, List.length_cons, List.length_nil]; omega), _, _, rfl, rfl, (by simp only [List.length_append, List.length_cons, List.length_nil]; omega), by show 2 ≤ sizeLine; decide, fun q6 nq6 => ?_⟩
    have K5 := K4.step nq6 S7.p6
    refine ⟨pl, _, _, rfl, rfl, K4.mid nq6, by show 5 < sizeLine; decide, ?_⟩
    refine ⟨_, rfl, .inl ⟨rfl, _, SqL.of K5.at_⟩, _, rfl, _, _, rfl, rfl, (by simp only [List.length_append, List.length_cons, List.length_nil]; omega), _, _, rfl, rfl, (by simp only [List.length_append, List.length_cons, List.length_nil]; omega), _, rfl, _, _, rfl, rfl, (by simp only [List.length_append, List.length_cons, List.length_nil]; omega), _, _, rfl, rfl, (by simp only [List.length_append, List.length_cons, List.length_nil]; omega), by show 2 ≤ sizeLine; decide, fun q7 nq7 => ?_⟩
    have K6 := K5.step nq7 S7.p7
    refine ⟨pl, _, _, rfl, rfl, K5.mid nq7, by show 6 < sizeLine; decide, ?_⟩
    obtain ⟨eP, npl9, hpl, hPL⟩ := K6
    refine ⟨_, rfl, pl, rfl, ⟨_, SqL.of hpl⟩, for_list (K := K) (a := pl) (xs := [.ref q1, .ref q2, .ref q3, .ref q4, .ref q5, .ref q6, .ref q7]) (fun i σ H' => ∃ o12 o13 o14 o15, σ = [some (.ref l), some (.int (0 + (k : Int))), some (.ref p), some (.int size), some (.int other), some (.ref ld), some (.int lo), some (.int hi), some (.str (S (TL.numL lo))), some (.str (S (TL.numL hi))), some (.str (S (TL.numL n0))), some (.ref pl), o12, o13, o14, o15] ∧ Same H9 H' ∧ H' pl = some (.lst [.ref q1, .ref q2, .ref q3, .ref q4, .ref q5, .ref q6, .ref q7]) ∧ PLst (szF size other) n H' [.ref q1, .ref q2, .ref q3, .ref q4, .ref q5, .ref q6, .ref q7])
      ⟨_, _, _, _, rfl, eP, hpl, hPL⟩ (fun i σ H' _ ⟨_, _, _, _, _, _, e, _⟩ => SqL.of e) ?_ ?_⟩
    · rintro i x σ HA hx ⟨o12, o13, o14, o15, rfl, eA, hplA, hPLA⟩
      obtain ⟨a, one, two, rfl, ha, hok⟩ := hPLA x (List.mem_of_getElem? hx)
      obtain ⟨l1, l2, L1, L2, L3, L4, r1, r2, r3, c, t1, t2, t3, t4, ⟨f11, f12, f13, f14, f15⟩, ⟨f21, f22, f23, f24, f25⟩, ⟨f31, f32, f33, f34, f35⟩, f41, f42, hsh⟩ := hok
      refine ⟨a, _, rfl, SqT.of ha, rfl, _, _, rfl, _, _, rfl, rfl, ?_⟩
      refine ⟨_, rfl, _, _, rfl, rfl, (by simp only [List.length_append, List.length_cons, List.length_nil]; omega), _, rfl, (L1, r1, ld, szF size other, c), (by show [V.str (S _), V.ref ld] = [V.str (S (txtOf L1)), V.ref ld]; rw [t1]), f11, f12, f13, f14, hLens eA, f15, fun HB v (eB : Same HA HB) cB => ?_⟩
      refine ⟨_, rfl, _, rfl, _, _, rfl, rfl, (by simp only [List.length_append, List.length_cons, List.length_nil]; omega), _, _, rfl, rfl, (by simp only [List.length_append, List.length_cons, List.length_nil]; omega), _, rfl, (L2, r2, ld, szF size other, c), (by show [V.str (S _), V.ref ld] = [V.str (S (txtOf L2)), V.ref ld]; rw [t2]), f21, f22, f23, f24, hLens (eA.trans eB), f25, fun HC v2 (eC : Same HB HC) cC => ⟨dins (cB.mono eC) cC, fun HC' (eC' : Same HC HC') => ⟨_, _, rfl, rfl, _, rfl, ?_⟩⟩⟩
      refine iteF ?_
      have eAC := (eA.trans eB).trans (eC.trans eC')
      refine ⟨_, rfl, _, rfl, _, _, rfl, rfl, (by simp only [List.length_append, List.length_cons, List.length_nil]; omega), _, _, rfl, rfl, (by simp only [List.length_append, List.length_cons, List.length_nil]; omega), _, rfl, (L3, r3, ld, szF size other, c), (by show [V.str (S _), V.ref ld] = [V.str (S (txtOf L3)), V.ref ld]; rw [t3]), f31, f32, f33, f34, hLens eAC, f35, fun HD v3 (eD : Same HC' HD) cD => ⟨dins (cB.mono (eC.trans (eC'.trans eD))) cD, fun HD' (eD' : Same HD HD') => ⟨_, _, rfl, rfl, _, rfl, ?_⟩⟩⟩
      refine iteF ?_
      refine ⟨_, rfl, _, _, rfl, rfl, (by simp only [List.length_append, List.length_cons, List.length_nil]; omega), (L1, r1), (by show [V.str (S _)] = [V.str (S (txtOf L1))]; rw [t1]), f11, f12, fun HE pE xsE (eE : Same HD' HE) npE hpE dE => ?_⟩
      refine ⟨_, rfl, _, _, rfl, rfl, (by simp only [List.length_append, List.length_cons, List.length_nil]; omega), _, _, rfl, rfl, (by simp only [List.length_append, List.length_cons, List.length_nil]; omega), (L4, r1), (by show [V.str (S _)] = [V.str (S (txtOf L4))]; rw [t4]), f41, f42, fun HF pF xsF (eF : Same HE HF) npF hpF dF => ?_⟩
      refine ⟨_, _, Dp.lst (SqL.of (eF _ _ hpE)) (dE.mono (TupE.of eF)).dp, Dp.lst (SqL.of hpF) dF.dp, hsh, hsh, _, rfl, ?_⟩
      rw [SeqAt.eqv_refl _ (SeqAt.canLay_of_shaped hsh)]
      have eT := eAC.trans (eD.trans (eD'.trans (eE.trans eF)))
      have eTA : Same HA HF := eB.trans ((eC.trans eC').trans (eD.trans (eD'.trans (eE.trans eF))))
      exact iteF ⟨_, _, _, _, rfl, eT, eTA _ _ hplA, hPLA.mono eTA⟩
    · rintro σ HA ⟨o12, o13, o14, o15, rfl, eA, -, -⟩
      obtain ⟨L, r, tL, ⟨f1, f2, f3, f4, f5⟩, w1, w2, w3, w4, w5⟩ := S7.last
      have na : NameOk "a" := by unfold NameOk; decide +kernel
      have nb : NameOk "b" := by unfold NameOk; decide +kernel
      refine ⟨rfl, _, rfl, ("a", 0, lo), rfl, na, Int.le_refl 0, Int.natCast_nonneg _, w1, fun HB v1 (eB : Same HA HB) cB => ?_⟩
      refine ⟨rfl, _, rfl, ("b", 0, other), rfl, nb, Int.le_refl 0, Int.natCast_nonneg _, w2, fun HC v2 (eC : Same HB HC) cC => ?_⟩
      obtain ⟨a1, d1, g1, rfl, i1⟩ := (cB.mono eC).ins
      obtain ⟨a2, d2, g2, rfl, i2⟩ := cC.ins
      refine ⟨a1, a2, _, _, _, _, rfl, rfl, i1, i2, (.ref a1, .ref a2, _, _), rfl, cB.mono eC, cC, w4, fun HD v3 (eD : Same HC HD) cD => ?_⟩
      refine ⟨rfl, _, rfl, _, rfl, ("a", hi, size), rfl, na, Int.natCast_nonneg _, (show (hi : Int) ≤ size by exact_mod_cast hhs), w3, fun HE v4 (eE : Same HD HE) cE => ?_⟩
      obtain ⟨a3, d3, g3, rfl, i3⟩ := (cD.mono eE).ins
      obtain ⟨a4, d4, g4, rfl, i4⟩ := cE.ins
      refine ⟨a3, a4, _, _, _, _, rfl, rfl, i3, i4, (.ref a3, .ref a4, _, _), rfl, cD.mono eE, cE, w5, fun HF v5 (eF : Same HE HF) cF => ?_⟩
      have eAF := eA.trans (eB.trans (eC.trans (eD.trans (eE.trans eF))))
      refine ⟨_, rfl, _, _, rfl, rfl, (by simp only [List.length_append, List.length_cons, List.length_nil]; omega), _, _, rfl, rfl, (by simp only [List.length_append, List.length_cons, List.length_nil]; omega), _, rfl, _, _, rfl, rfl, (by simp only [List.length_append, List.length_cons, List.length_nil]; omega), _, _, rfl, rfl, (by simp only [List.length_append, List.length_cons, List.length_nil]; omega), _, rfl, (L, r, ld, szF size other, _), (by show [V.str (S _), V.ref ld] = [V.str (S (txtOf L)), V.ref ld]; rw [← tL]; rfl), f1, f2, f3, f4, hLens eAF, f5, fun HG v6 (eG : Same HF HG) cG => ?_⟩
      refine ⟨_, rfl, dins cG (cF.mono eG), fun HG' (eG' : Same HG HG') => ⟨_, _, rfl, rfl, _, rfl, ?_⟩⟩
      exact iteF ⟨_, _, _, _, _, _, _, _, _, _, _, _, _, _, _, rfl, e1.trans (E9.trans (eAF.trans (eG.trans eG')))⟩
  · rintro σ HA ⟨o1, o2, o3, o4, o5, o6, o7, o8, o9, o10, o11, o12, o13, o14, o15, rfl, eA⟩
    exact hQ HA
end
end FJ

set_option Elab.async false
set_option linter.all false
set_option maxRecDepth 100000
set_option maxHeartbeats 4000000
/-! the clips of the law: their pieces -/
namespace FJ
open PySem PySem.Spec PyProof.Rows L2
def AB (x : Str) : Prop := x = "a" ∨ x = "b"
def GF : Flat → Prop
  | .part x lo hi gs => AB x ∧ 0 ≤ lo ∧ lo ≤ hi ∧ hi ≤ 10 ^ 6 ∧ gs.length ≤ 1
  | .sil n => 0 ≤ n ∧ n ≤ 10 ^ 21
def GP : Piece → Prop
  | .fl f => GF f
  | .rep n fs => 0 ≤ n ∧ n ≤ 10 ^ 21 ∧ ∃ f, fs = [f] ∧ GF f
theorem ab_ok {x : Str} (h : AB x) : PyData.canLay0 (.str x) = true := by
  rcases h with rfl | rfl <;> decide +kernel
theorem gf_lay {f : Flat} (h : GF f) : PyData.canLay0 f.data = true ∧ PyData.depth f.data ≤ 20 := by
  cases f with
  | sil n =>
    refine ⟨?_, ?_⟩
    · show (PyData.canLay0 (.str "silence") && (true && true)) = true
      decide +kernel
    · show PyData.depth (.tuple [.str "silence", .int n]) ≤ 20
      simp only [PyData.depth, PyData.depthAll]
      omega
  | part x lo hi gs =>
    obtain ⟨hx, _, _, _, _⟩ := h
    have h1 := gs_canLay gs
    have h2 := gs_depth gs
    refine ⟨?_, ?_⟩
    · show (PyData.canLay0 (.str "part") && (PyData.canLay0 (.str x) && (true && (true && (PyData.canLayAll0 (gs.map fun g => PyData.tuple [.int g.1, .int g.2]) && true))))) = true
      rw [ab_ok hx, h1]; decide +kernel
    · show PyData.depth (.tuple [.str "part", .str x, .int lo, .int hi, .tuple (gs.map fun g => PyData.tuple [.int g.1, .int g.2])]) ≤ 20
      simp only [PyData.depth, PyData.depthAll]
      omega
theorem gp_lay {p : Piece} (h : GP p) : PyData.canLay0 p.data = true ∧ PyData.depth p.data ≤ 30 := by
  cases p with
  | fl f =>
    obtain ⟨h1, h2⟩ := gf_lay h
    exact ⟨h1, Nat.le_trans h2 (by decide)⟩
  | rep n fs =>
    obtain ⟨_, _, f, rfl, hf⟩ := h
    obtain ⟨h1, h2⟩ := gf_lay hf
    refine ⟨?_, ?_⟩
    · show (PyData.canLay0 (.str "repeat") && (true && ((PyData.canLay0 f.data && true) && true))) = true
      rw [h1]; decide +kernel
    · show PyData.depth (.tuple [.str "repeat", .int n, .tuple [f.data]]) ≤ 30
      simp only [PyData.depth, PyData.depthAll]
      omega
theorem gps_lay : ∀ {ps : List Piece}, (∀ p ∈ ps, GP p) → PyData.canLayAll0 (ps.map Piece.data) = true ∧ PyData.depthAll (ps.map Piece.data) ≤ 30
  | [], _ => ⟨rfl, by simp [PyData.depthAll]⟩
  | p :: ps, h => by
    obtain ⟨h1, h2⟩ := gp_lay (h p (List.mem_cons_self ..))
    obtain ⟨h3, h4⟩ := gps_lay (ps := ps) fun q hq => h q (List.mem_cons_of_mem _ hq)
    refine ⟨?_, ?_⟩
    · show (PyData.canLay0 p.data && PyData.canLayAll0 (ps.map Piece.data)) = true
      rw [h1, h3]; rfl
    · show PyData.depthAll (p.data :: ps.map Piece.data) ≤ 30
      simp only [PyData.depthAll]
      omega
theorem gps_shaped {ps : List Piece} (h : ∀ p ∈ ps, GP p) : SeqAt.shaped (psData ps) = true := by
  obtain ⟨h1, h2⟩ := gps_lay h
  unfold SeqAt.shaped
  rw [Bool.and_eq_true]
  refine ⟨h1, decide_eq_true ?_⟩
  show PyData.depth (.tuple _) ≤ 64
  simp only [PyData.depth]
  omega
theorem gf_len {f : Flat} (h : GF f) : 0 ≤ f.len ∧ f.len ≤ 10 ^ 21 := by
  have e : (10 : Int) ^ 21 = 1000000000000000000000 := by decide
  have e6 : (10 : Int) ^ 6 = 1000000 := by decide
  cases f with
  | sil n => exact h
  | part x lo hi gs =>
    obtain ⟨_, h1, h2, h3, _⟩ := h
    show 0 ≤ hi - lo ∧ hi - lo ≤ _
    omega
theorem one_len (f : Flat) : fsLen [f] = f.len := by show f.len + 0 = f.len; omega
theorem gp_len {p : Piece} (h : GP p) : 0 ≤ p.len ∧ p.len ≤ 10 ^ 21 * 10 ^ 21 ∧ 0 ≤ p.cnt ∧ p.cnt ≤ 2 := by
  cases p with
  | fl f =>
    have := gf_len h
    have e : (10 : Int) ^ 21 ≤ 10 ^ 21 * 10 ^ 21 := by decide
    exact ⟨this.1, Int.le_trans this.2 e, (by show (0 : Int) ≤ 1; decide), (by show (1 : Int) ≤ 2; decide)⟩
  | rep n fs =>
    obtain ⟨h1, h2, f, rfl, hf⟩ := h
    have hl := gf_len hf
    refine ⟨?_, ?_, ?_, ?_⟩
    · show 0 ≤ n * fsLen [f]
      rw [one_len]; exact Int.mul_nonneg h1 hl.1
    · show n * fsLen [f] ≤ _
      rw [one_len]; exact Int.mul_le_mul h2 hl.2 hl.1 (by decide)
    · show 0 ≤ 1 + ((1 : Nat) : Int); decide
    · show 1 + ((1 : Nat) : Int) ≤ 2; decide
/-- pieces of a bound length in all -/
def GL (ps : List Piece) : Prop := ps.length ≤ 4 ∧ (∀ p ∈ ps, GP p) ∧ psLen ps ≤ 10 ^ 40
theorem gps_cnt : ∀ {ps : List Piece}, (∀ p ∈ ps, GP p) → psCnt ps ≤ 2 * ps.length
  | [], _ => by decide
  | p :: ps, h => by
    have h1 := gp_len (h p (List.mem_cons_self ..))
    have h2 := gps_cnt (ps := ps) fun q hq => h q (List.mem_cons_of_mem _ hq)
    show p.cnt + psCnt ps ≤ _
    rw [List.length_cons]; push_cast; omega
theorem sm21 {n : Int} (h0 : 0 ≤ n) (h : n ≤ 10 ^ 21) : Sm n := sm30 h0 (Int.le_trans h (by decide))
theorem gl_wf {ps : List Piece} (h : GL ps) : Wf ps := by
  obtain ⟨h1, h2, h3⟩ := h
  refine ⟨by omega, fun p hp => ?_, gps_shaped h2, h3, ?_⟩
  · have := h2 p hp
    cases p with
    | fl f =>
      cases f with
      | part x lo hi gs => exact Nat.le_trans this.2.2.2.2 (by decide)
      | sil n => exact sm21 this.1 this.2
    | rep n fs =>
      obtain ⟨g1, g2, f, rfl, hf⟩ := this
      refine ⟨sm21 g1 g2, ?_, (by show 1 ≤ 1000; decide)⟩
      rw [one_len]
      exact sm21 (gf_len hf).1 (gf_len hf).2
  · have := gps_cnt h2
    omega
/-! ### parts of a, b alone -/
def Pt (k : Nat) (ps : List Piece) : Prop := ps.length ≤ k ∧ ∀ p ∈ ps, ∃ x lo hi, p = .fl (.part x lo hi []) ∧ AB x ∧ 0 ≤ lo ∧ lo ≤ hi ∧ hi ≤ 10 ^ 6
theorem pt_part {x : Str} {lo hi : Int} (hx : AB x) (h0 : 0 ≤ lo) (h1 : hi ≤ 10 ^ 6) : Pt 1 (partC x lo hi) := by
  unfold partC
  split
  · refine ⟨Nat.le_refl _, fun p hp => ?_⟩
    rw [List.mem_singleton.mp hp]
    exact ⟨x, lo, hi, rfl, hx, h0, by omega, h1⟩
  · exact ⟨Nat.zero_le _, fun p hp => by cases hp⟩
theorem pt_len : ∀ {k : Nat} {ps : List Piece}, Pt k ps → psLen ps ≤ 10 ^ 6 * ps.length
  | _, [], _ => by decide
  | k, p :: ps, h => by
    obtain ⟨x, lo, hi, rfl, _, h1, h2, h3⟩ := h.2 p (List.mem_cons_self ..)
    have ih := pt_len (k := ps.length) (ps := ps) ⟨Nat.le_refl _, fun q hq => h.2 q (List.mem_cons_of_mem _ hq)⟩
    show (hi - lo) + psLen ps ≤ _
    rw [List.length_cons]; push_cast
    have e6 : (10 : Int) ^ 6 = 1000000 := by decide
    rw [e6] at ih h3
    omega
theorem pt_wf {k : Nat} {ps : List Piece} (h : Pt k ps) (hk : k ≤ 4) : Wf ps := by
  have hl := pt_len h
  have h1 := h.1
  refine gl_wf ⟨by omega, fun p hp => ?_, ?_⟩
  · obtain ⟨x, lo, hi, rfl, h1, h2, h3, h4⟩ := h.2 p hp
    exact ⟨h1, h2, h3, h4, by decide⟩
  · have e6 : (10 : Int) ^ 6 = 1000000 := by decide
    have e40 : (10 : Int) ^ 40 = 10000000000000000000000000000000000000000 := by decide
    rw [e6] at hl; rw [e40]; omega
theorem pt_both {j k : Nat} {ps qs : List Piece} (h : Pt j ps) (g : Pt k qs) : Pt (j + k) (both ps qs) := by
  have app : Pt (j + k) (ps ++ qs) := by
    refine ⟨by rw [List.length_append]; have := h.1; have := g.1; omega, fun p hp => ?_⟩
    rcases List.mem_append.mp hp with hp | hp
    · exact h.2 p hp
    · exact g.2 p hp
  cases qs with
  | nil => rw [both_nil]; rw [List.append_nil] at app; exact app
  | cons q r =>
    rcases List.eq_nil_or_concat ps with rfl | ⟨ps', p, rfl⟩
    · exact app
    · rw [List.concat_eq_append] at *
      rw [both_cons]
      obtain ⟨x, lo, hi, rfl, a1, a2, a3, a4⟩ := h.2 p (by simp)
      obtain ⟨x', lo', hi', rfl, b1, b2, b3, b4⟩ := g.2 q (by simp)
      show Pt _ (match mergedF (.part x lo hi []) (.part x' lo' hi' []) with | some f => ps' ++ .fl f :: r | none => _)
      have hm : mergedF (.part x lo hi []) (.part x' lo' hi' []) = if x = x' ∧ hi = lo' ∧ ([] : List (Int × Int)) = [] then some (.part x lo hi' []) else none := rfl
      by_cases hc : x = x' ∧ hi = lo' ∧ ([] : List (Int × Int)) = []
      · rw [hm, if_pos hc]
        refine ⟨?_, fun p hp => ?_⟩
        · have := app.1
          simp only [List.length_append, List.length_cons, List.length_nil] at this ⊢
          omega
        · rcases List.mem_append.mp hp with hp | hp
          · exact h.2 p (List.mem_append_left _ hp)
          · rcases List.mem_cons.mp hp with rfl | hp
            · have := hc.2.1
              exact ⟨x, lo, hi', rfl, a1, a2, by omega, b4⟩
            · exact g.2 p (List.mem_cons_of_mem _ hp)
      · rw [hm, if_neg hc]
        exact app
theorem mkC_pt {k : Nat} {ps : List Piece} (h : Pt k ps) (hk : k ≤ 4) : mkC ps = some ps := by
  unfold mkC; rw [if_pos (pt_wf h hk)]
theorem mkC_gl {ps : List Piece} (h : GL ps) : mkC ps = some ps := by
  unfold mkC; rw [if_pos (gl_wf h)]
theorem part_len {x : Str} {n : Int} (h : 0 ≤ n) : psLen (partC x 0 n) = n := by
  unfold partC
  split
  · show (n - 0) + 0 = n; omega
  · show (0 : Int) = n; omega
theorem cut_part {x : Str} {n s e : Int} (hx : AB x) (h0 : 0 ≤ s) (h1 : s ≤ e) (h2 : e ≤ n) (h3 : n ≤ 10 ^ 6) : cutC (partC x 0 n) s e = some (partC x s e) := by
  have hl : psLen (partC x 0 n) = n := part_len (by omega)
  have hp := mkC_pt (pt_part (x := x) (lo := s) (hi := e) hx h0 (by omega)) (by decide)
  unfold cutC Stre
  rw [hl, if_pos ⟨h0, by omega, by omega, h2, h1⟩]
  have hfs : flats (partC x 0 n) = some (if 0 < n then [Flat.part x 0 n []] else []) := by
    unfold partC; split <;> rfl
  rw [hfs]
  show (if (if 0 < n then [Flat.part x 0 n []] else []).length ≤ 1 then _ else _) = _
  rw [if_pos (by split <;> simp)]
  rw [← hp]
  congr 1
  by_cases hn : 0 < n
  · rw [if_pos hn]
    show (if (if 0 > s - 0 then 0 else s - 0) < (if n - 0 < e - 0 then n - 0 else e - 0) then both [] [.fl (cutF (.part x 0 n []) (if 0 > s - 0 then 0 else s - 0) (if n - 0 < e - 0 then n - 0 else e - 0))] else []) = _
    rw [if_neg (by omega : ¬ (0 : Int) > s - 0)]
    have he : (if n - 0 < e - 0 then n - 0 else e - 0) = e := by split <;> omega
    rw [he, Int.sub_zero]
    unfold partC
    split
    · show [Piece.fl (.part x (0 + s) (0 + e) [])] = _
      rw [Int.zero_add, Int.zero_add]
    · rfl
  · rw [if_neg hn]
    unfold partC
    rw [if_neg (by omega)]
    rfl
/-- what is put in the place of a stretch of a -/
theorem repl_part {x : Str} {n s e : Int} {os : List Piece} (hx : AB x) (h0 : 0 ≤ s) (h1 : s ≤ e) (h2 : e ≤ n) (h3 : n ≤ 10 ^ 6) (ho : Pt 1 os) : replC (partC x 0 n) s e os = some (both (both (partC x 0 s) os) (partC x e n)) := by
  have hl : psLen (partC x 0 n) = n := part_len (by omega)
  unfold replC
  rw [if_pos (by unfold Stre; rw [hl]; exact ⟨h0, by omega, by omega, h2, h1⟩), hl]
  rw [cut_part hx (Int.le_refl 0) h0 (by omega) h3]
  show (mkC (both (partC x 0 s) os)).bind _ = _
  have p1 := pt_both (pt_part (x := x) (lo := 0) (hi := s) hx (Int.le_refl 0) (by omega)) ho
  rw [mkC_pt p1 (by decide)]
  show (cutC (partC x 0 n) e n).bind _ = _
  rw [cut_part hx (by omega) h2 (Int.le_refl _) h3]
  exact mkC_pt (pt_both p1 (pt_part (x := x) (lo := e) (hi := n) hx (by omega) h3)) (by decide)
end FJ

set_option Elab.async false
set_option linter.all false
set_option maxRecDepth 100000
set_option maxHeartbeats 4000000
/-! the texts of the law, what they say -/
namespace FJ
open PySem PySem.Spec PyProof.Rows L2
theorem num_len {m : Nat} (h : m < 10 ^ 30) : (TL.numL m).length ≤ 30 := TL.numL_len (by decide) h
theorem num_ok {m : Nat} {post : List Nat} (h : m < 10 ^ 30) (hp : headNot isDig post) : (Seg.num (TL.numL m) m).Ok post := by
  have hd := TL.numL_digits m
  refine ⟨TL.numL_ne m, num_len h, fun c hc => ?_, ?_, hp⟩
  · have := hd c hc
    unfold isDig
    rw [decide_eq_true this.1, decide_eq_true this.2]; rfl
  · have e := TL.int_num (n := m) (Nat.le_trans (num_len h) (by decide))
    rw [SX.num_S] at e
    exact e
theorem sym_ok {c : Nat} {post : List Nat} (h : c ∈ symC) : (Seg.sym c).Ok post := h
theorem seg_small {g : Seg} {post : List Nat} (h : g.Ok post) : g.codes.length ≤ 30 ∧ (10 : Nat) ∉ g.codes := by
  cases g with
  | name s =>
    obtain ⟨_, h2, h3, _⟩ := h
    refine ⟨Nat.le_trans h2 (by decide), fun hc => ?_⟩
    have := h3 10 hc
    revert this; decide
  | num ds n =>
    obtain ⟨_, h2, h3, _⟩ := h
    refine ⟨h2, fun hc => ?_⟩
    have := h3 10 hc
    revert this; decide
  | sym c =>
    refine ⟨by show 1 ≤ 30; decide, fun hc => ?_⟩
    rw [← List.mem_singleton.mp hc] at h
    revert h
    show ¬ (10 ∈ symC)
    decide
  | fin => exact ⟨by decide, by decide⟩
  | blank => exact ⟨by decide, by decide⟩
theorem segs_small {tail : List Nat} : ∀ {gs : List Seg}, SegsOk tail gs → (render gs).length ≤ 30 * gs.length ∧ (10 : Nat) ∉ render gs
  | [], _ => ⟨Nat.le_refl _, fun h => nomatch h⟩
  | g :: gs, h => by
    obtain ⟨h1, h2⟩ := h
    obtain ⟨a1, a2⟩ := seg_small h1
    obtain ⟨b1, b2⟩ := segs_small h2
    rw [render_cons]
    refine ⟨by rw [List.length_append, List.length_cons]; omega, fun hc => ?_⟩
    rcases List.mem_append.mp hc with hc | hc
    · exact a2 hc
    · exact b2 hc
theorem ln_ok {gs : List Seg} {tail : List Nat} (h : SegsOk tail gs) (ht : (10 : Nat) ∉ tail) : Ln.Ok (gs, tail) := by
  refine ⟨h, fun hc => ?_⟩
  rcases List.mem_append.mp hc with hc | hc
  · exact (segs_small h).2 hc
  · exact ht hc
def lnB : List Ln → Nat
  | [] => 0
  | l :: r => 30 * l.1.length + l.2.length + 1 + lnB r
theorem txt_len : ∀ {L : List Ln}, (∀ l ∈ L, Ln.Ok l) → (txtOf L).length ≤ lnB L
  | [], _ => Nat.le_refl _
  | [l], h => by
    have := (segs_small (h l (List.mem_cons_self ..)).1).1
    show (render l.1 ++ l.2).length ≤ 30 * l.1.length + l.2.length + 1 + 0
    rw [List.length_append]; omega
  | l :: m :: r, h => by
    have h1 := (segs_small (h l (List.mem_cons_self ..)).1).1
    have h2 := txt_len (L := m :: r) fun q hq => h q (List.mem_cons_of_mem _ hq)
    show ((render l.1 ++ l.2) ++ ([10] ++ txtOf (m :: r))).length ≤ 30 * l.1.length + l.2.length + 1 + lnB (m :: r)
    simp only [List.length_append, List.length_cons, List.length_nil]; omega
theorem txt_ok {L : List Ln} (h0 : L ≠ []) (h : ∀ l ∈ L, Ln.Ok l) (h1 : Nat.ble (lnB L) 8000 = true) (h2 : Nat.ble (tt L.length 0 L).length 20000 = true) : TxtOk L :=
  ⟨h0, h, Nat.le_trans (txt_len h) (Nat.le_of_ble_eq_true h1), Nat.le_of_ble_eq_true h2⟩
theorem run3 {sz : Str → Option Int} {t : Tree} {c A : List Piece} {l1 l2 l3 : Int} (h : evalT (envOf sz []) t = some c) (ha : envOf sz [] "a" = some A) : runRows sz [.define l1 "x" t, .define l2 "b" (.name "a"), .ret l3 (.name "x")] [] = some c := by
  show (evalT (envOf sz []) t).bind _ = _
  rw [h]
  show (evalT (envOf sz [("x", c)]) (.name "a")).bind _ = _
  have e : evalT (envOf sz [("x", c)]) (.name "a") = some A := by
    show envOf sz [("x", c)] "a" = _
    unfold envOf at ha ⊢
    rw [show List.lookup ("a" : Str) [(("x" : Str), c)] = none by kernel_rfl]
    exact ha
  rw [e]
  show envOf sz [("b", A), ("x", c)] "x" = _
  unfold envOf
  rw [show List.lookup ("x" : Str) [(("b" : Str), A), (("x" : Str), c)] = some c by kernel_rfl]
def tA1 (lo hi n other : Nat) : Tree := .insert (.name "a") lo (.name "b")
def tB1 (lo hi n other : Nat) : Tree := .sum (.sum (.stretch (.name "a") none (some lo)) (.name "b")) (.stretch (.name "a") (some lo) none)
def LA1 (lo hi n other : Nat) : List Ln := [([.name [114, 101, 116, 117, 114, 110], .blank, .name [105, 110, 115, 101, 114, 116], .sym 40, .name [97], .sym 44, .blank, .num (TL.numL lo) lo, .sym 44, .blank, .name [98], .sym 41], [])]
theorem LA1_ok {lo hi n other : Nat} (hlo : lo < 10 ^ 30) (hhi : hi < 10 ^ 30) (hn : n < 10 ^ 30) (hother : other < 10 ^ 30) : TxtOk (LA1 lo hi n other) := txt_ok (fun h => nomatch h) (List.forall_mem_cons.mpr ⟨ln_ok ⟨⟨by decide, by decide, by decide, rfl⟩, ⟨trivial, ⟨⟨by decide, by decide, by decide, rfl⟩, ⟨(sym_ok (by decide)), ⟨⟨by decide, by decide, by decide, rfl⟩, ⟨(sym_ok (by decide)), ⟨trivial, ⟨(num_ok hlo rfl), ⟨(sym_ok (by decide)), ⟨trivial, ⟨⟨by decide, by decide, by decide, rfl⟩, ⟨(sym_ok (by decide)), (.inl rfl)⟩⟩⟩⟩⟩⟩⟩⟩⟩⟩⟩⟩ (by decide), fun _ h => nomatch h⟩) rfl rfl
theorem LA1_p (lo hi n other : Nat) (last : Int) (tl : Nat) : pScript (pExpr 5) (tt (LA1 lo hi n other).length 0 (LA1 lo hi n other)) last tl = some [.ret 1 (tA1 lo hi n other)] := by kernel_rfl
def LB1 (lo hi n other : Nat) : List Ln := [([], []), ([.blank, .fin, .blank, .name [114, 101, 116, 117, 114, 110], .blank, .name [97], .sym 91, .sym 58, .num (TL.numL lo) lo, .sym 93, .blank, .sym 43, .blank, .name [98], .blank, .sym 43, .blank, .name [97], .sym 91, .num (TL.numL lo) lo, .sym 58, .sym 93, .blank, .fin, .fin], []), ([], [])]
theorem LB1_ok {lo hi n other : Nat} (hlo : lo < 10 ^ 30) (hhi : hi < 10 ^ 30) (hn : n < 10 ^ 30) (hother : other < 10 ^ 30) : TxtOk (LB1 lo hi n other) := txt_ok (fun h => nomatch h) (List.forall_mem_cons.mpr ⟨ln_ok (.inl rfl) (by decide), List.forall_mem_cons.mpr ⟨ln_ok ⟨trivial, ⟨trivial, ⟨trivial, ⟨⟨by decide, by decide, by decide, rfl⟩, ⟨trivial, ⟨⟨by decide, by decide, by decide, rfl⟩, ⟨(sym_ok (by decide)), ⟨(sym_ok (by decide)), ⟨(num_ok hlo rfl), ⟨(sym_ok (by decide)), ⟨trivial, ⟨(sym_ok (by decide)), ⟨trivial, ⟨⟨by decide, by decide, by decide, rfl⟩, ⟨trivial, ⟨(sym_ok (by decide)), ⟨trivial, ⟨⟨by decide, by decide, by decide, rfl⟩, ⟨(sym_ok (by decide)), ⟨(num_ok hlo rfl), ⟨(sym_ok (by decide)), ⟨(sym_ok (by decide)), ⟨trivial, ⟨trivial, ⟨trivial, (.inl rfl)⟩⟩⟩⟩⟩⟩⟩⟩⟩⟩⟩⟩⟩⟩⟩⟩⟩⟩⟩⟩⟩⟩⟩⟩⟩ (by decide), List.forall_mem_cons.mpr ⟨ln_ok (.inl rfl) (by decide), fun _ h => nomatch h⟩⟩⟩) rfl rfl
theorem LB1_p (lo hi n other : Nat) (last : Int) (tl : Nat) : pScript (pExpr 5) (tt (LB1 lo hi n other).length 0 (LB1 lo hi n other)) last tl = some [.ret 2 (tB1 lo hi n other)] := by kernel_rfl
def LC1 (lo hi n other : Nat) : List Ln := [([.name [120], .blank, .sym 61, .blank, .name [105, 110, 115, 101, 114, 116], .sym 40, .name [97], .sym 44, .blank, .num (TL.numL lo) lo, .sym 44, .blank, .name [98], .sym 41], [35, 32, 121]), ([.fin, .name [98], .blank, .sym 61, .blank, .name [97], .fin, .blank, .name [114, 101, 116, 117, 114, 110], .blank, .name [120]], [])]
theorem LC1_ok {lo hi n other : Nat} (hlo : lo < 10 ^ 30) (hhi : hi < 10 ^ 30) (hn : n < 10 ^ 30) (hother : other < 10 ^ 30) : TxtOk (LC1 lo hi n other) := txt_ok (fun h => nomatch h) (List.forall_mem_cons.mpr ⟨ln_ok ⟨⟨by decide, by decide, by decide, rfl⟩, ⟨trivial, ⟨(sym_ok (by decide)), ⟨trivial, ⟨⟨by decide, by decide, by decide, rfl⟩, ⟨(sym_ok (by decide)), ⟨⟨by decide, by decide, by decide, rfl⟩, ⟨(sym_ok (by decide)), ⟨trivial, ⟨(num_ok hlo rfl), ⟨(sym_ok (by decide)), ⟨trivial, ⟨⟨by decide, by decide, by decide, rfl⟩, ⟨(sym_ok (by decide)), (.inr ⟨_, rfl⟩)⟩⟩⟩⟩⟩⟩⟩⟩⟩⟩⟩⟩⟩⟩ (by decide), List.forall_mem_cons.mpr ⟨ln_ok ⟨trivial, ⟨⟨by decide, by decide, by decide, rfl⟩, ⟨trivial, ⟨(sym_ok (by decide)), ⟨trivial, ⟨⟨by decide, by decide, by decide, rfl⟩, ⟨trivial, ⟨trivial, ⟨⟨by decide, by decide, by decide, rfl⟩, ⟨trivial, ⟨⟨by decide, by decide, by decide, trivial⟩, (.inl rfl)⟩⟩⟩⟩⟩⟩⟩⟩⟩⟩⟩ (by decide), fun _ h => nomatch h⟩⟩) rfl rfl
theorem LC1_p (lo hi n other : Nat) (last : Int) (tl : Nat) : pScript (pExpr 5) (tt (LC1 lo hi n other).length 0 (LC1 lo hi n other)) last tl = some [.define 1 "x" (tA1 lo hi n other), .define 2 "b" (.name "a"), .ret 2 (.name "x")] := by kernel_rfl
def LD1 (lo hi n other : Nat) : List Ln := [([.blank, .name [114, 101, 116, 117, 114, 110], .blank, .blank, .sym 40, .name [105, 110, 115, 101, 114, 116], .sym 40, .name [97], .sym 44, .blank, .num (TL.numL lo) lo, .sym 44, .blank, .name [98], .sym 41, .sym 41], [])]
theorem LD1_ok {lo hi n other : Nat} (hlo : lo < 10 ^ 30) (hhi : hi < 10 ^ 30) (hn : n < 10 ^ 30) (hother : other < 10 ^ 30) : TxtOk (LD1 lo hi n other) := txt_ok (fun h => nomatch h) (List.forall_mem_cons.mpr ⟨ln_ok ⟨trivial, ⟨⟨by decide, by decide, by decide, rfl⟩, ⟨trivial, ⟨trivial, ⟨(sym_ok (by decide)), ⟨⟨by decide, by decide, by decide, rfl⟩, ⟨(sym_ok (by decide)), ⟨⟨by decide, by decide, by decide, rfl⟩, ⟨(sym_ok (by decide)), ⟨trivial, ⟨(num_ok hlo rfl), ⟨(sym_ok (by decide)), ⟨trivial, ⟨⟨by decide, by decide, by decide, rfl⟩, ⟨(sym_ok (by decide)), ⟨(sym_ok (by decide)), (.inl rfl)⟩⟩⟩⟩⟩⟩⟩⟩⟩⟩⟩⟩⟩⟩⟩⟩ (by decide), fun _ h => nomatch h⟩) rfl rfl
theorem LD1_p (lo hi n other : Nat) (last : Int) (tl : Nat) : pScript (pExpr 5) (tt (LD1 lo hi n other).length 0 (LD1 lo hi n other)) last tl = some [.ret 1 (tA1 lo hi n other)] := by kernel_rfl
theorem sh1 (lo hi n other : Nat) : SeqAt.shaped (.list ([Row.ret 1 (tA1 lo hi n other)].map Row.data)) = true := by kernel_rfl
theorem dA1 (lo hi n other : Nat) : (tA1 lo hi n other).dep ≤ 5 := Nat.le_of_ble_eq_true rfl
theorem dB1 (lo hi n other : Nat) : (tB1 lo hi n other).dep ≤ 5 := Nat.le_of_ble_eq_true rfl
theorem pair1 {size other lo hi n : Nat} {c : List Piece} (hlo : lo < 10 ^ 30) (hhi : hi < 10 ^ 30) (hn : n < 10 ^ 30) (hother : other < 10 ^ 30) (ha : envOf (szF size other) [] "a" = some (partC "a" 0 size))
    (hA : evalT (envOf (szF size other) []) (tA1 lo hi n other) = some c) (hB : evalT (envOf (szF size other) []) (tB1 lo hi n other) = some c) : PairOk (szF size other) 5 (one1 size other lo hi n) (two1 size other lo hi n) := by
  have e1 := num_len hlo
  have e2 := num_len hhi
  have e3 := num_len hn
  have e4 := num_len hother
  refine ⟨by simp only [one1, two1, List.length_append, List.length_cons, List.length_nil]; omega, by simp only [one1, two1, List.length_append, List.length_cons, List.length_nil]; omega, LA1 lo hi n other, LB1 lo hi n other, LC1 lo hi n other, LD1 lo hi n other, _, _, _, c, ?_, ?_, ?_, ?_, ⟨LA1_ok hlo hhi hn hother, LA1_p lo hi n other, Nat.le_of_ble_eq_true rfl, ?_, hA⟩, ⟨LB1_ok hlo hhi hn hother, LB1_p lo hi n other, Nat.le_of_ble_eq_true rfl, ?_, hB⟩, ⟨LC1_ok hlo hhi hn hother, LC1_p lo hi n other, Nat.le_of_ble_eq_true rfl, ?_, run3 hA ha⟩, LD1_ok hlo hhi hn hother, LD1_p lo hi n other, sh1 lo hi n other⟩
  · simp only [one1, two1, LA1, LB1, LC1, LD1, txtOf, Ln.codes, render, Seg.codes, TL.joinL, List.map_cons, List.map_nil, List.flatten_cons, List.flatten_nil, List.append_assoc, List.cons_append, List.nil_append, List.append_nil]
  · simp only [one1, two1, LA1, LB1, LC1, LD1, txtOf, Ln.codes, render, Seg.codes, TL.joinL, List.map_cons, List.map_nil, List.flatten_cons, List.flatten_nil, List.append_assoc, List.cons_append, List.nil_append, List.append_nil]
  · simp only [one1, two1, LA1, LB1, LC1, LD1, txtOf, Ln.codes, render, Seg.codes, TL.joinL, List.map_cons, List.map_nil, List.flatten_cons, List.flatten_nil, List.append_assoc, List.cons_append, List.nil_append, List.append_nil]
  · simp only [one1, two1, LA1, LB1, LC1, LD1, txtOf, Ln.codes, render, Seg.codes, TL.joinL, List.map_cons, List.map_nil, List.flatten_cons, List.flatten_nil, List.append_assoc, List.cons_append, List.nil_append, List.append_nil]
  · exact List.forall_mem_cons.mpr ⟨dA1 lo hi n other, fun _ h => nomatch h⟩
  · exact List.forall_mem_cons.mpr ⟨dB1 lo hi n other, fun _ h => nomatch h⟩
  · exact List.forall_mem_cons.mpr ⟨dA1 lo hi n other, List.forall_mem_cons.mpr ⟨by decide, List.forall_mem_cons.mpr ⟨by decide, fun _ h => nomatch h⟩⟩⟩
def tA2 (lo hi n other : Nat) : Tree := .replace (.name "a") lo hi (.name "b")
def tB2 (lo hi n other : Nat) : Tree := .sum (.sum (.stretch (.name "a") none (some lo)) (.name "b")) (.stretch (.name "a") (some hi) none)
def LA2 (lo hi n other : Nat) : List Ln := [([.name [114, 101, 116, 117, 114, 110], .blank, .name [114, 101, 112, 108, 97, 99, 101], .sym 40, .name [97], .sym 44, .blank, .num (TL.numL lo) lo, .sym 58, .num (TL.numL hi) hi, .sym 44, .blank, .name [98], .sym 41], [])]
theorem LA2_ok {lo hi n other : Nat} (hlo : lo < 10 ^ 30) (hhi : hi < 10 ^ 30) (hn : n < 10 ^ 30) (hother : other < 10 ^ 30) : TxtOk (LA2 lo hi n other) := txt_ok (fun h => nomatch h) (List.forall_mem_cons.mpr ⟨ln_ok ⟨⟨by decide, by decide, by decide, rfl⟩, ⟨trivial, ⟨⟨by decide, by decide, by decide, rfl⟩, ⟨(sym_ok (by decide)), ⟨⟨by decide, by decide, by decide, rfl⟩, ⟨(sym_ok (by decide)), ⟨trivial, ⟨(num_ok hlo rfl), ⟨(sym_ok (by decide)), ⟨(num_ok hhi rfl), ⟨(sym_ok (by decide)), ⟨trivial, ⟨⟨by decide, by decide, by decide, rfl⟩, ⟨(sym_ok (by decide)), (.inl rfl)⟩⟩⟩⟩⟩⟩⟩⟩⟩⟩⟩⟩⟩⟩ (by decide), fun _ h => nomatch h⟩) rfl rfl
theorem LA2_p (lo hi n other : Nat) (last : Int) (tl : Nat) : pScript (pExpr 5) (tt (LA2 lo hi n other).length 0 (LA2 lo hi n other)) last tl = some [.ret 1 (tA2 lo hi n other)] := by kernel_rfl
def LB2 (lo hi n other : Nat) : List Ln := [([], []), ([.blank, .fin, .blank, .name [114, 101, 116, 117, 114, 110], .blank, .name [97], .sym 91, .sym 58, .num (TL.numL lo) lo, .sym 93, .blank, .sym 43, .blank, .name [98], .blank, .sym 43, .blank, .name [97], .sym 91, .num (TL.numL hi) hi, .sym 58, .sym 93, .blank, .fin, .fin], []), ([], [])]
theorem LB2_ok {lo hi n other : Nat} (hlo : lo < 10 ^ 30) (hhi : hi < 10 ^ 30) (hn : n < 10 ^ 30) (hother : other < 10 ^ 30) : TxtOk (LB2 lo hi n other) := txt_ok (fun h => nomatch h) (List.forall_mem_cons.mpr ⟨ln_ok (.inl rfl) (by decide), List.forall_mem_cons.mpr ⟨ln_ok ⟨trivial, ⟨trivial, ⟨trivial, ⟨⟨by decide, by decide, by decide, rfl⟩, ⟨trivial, ⟨⟨by decide, by decide, by decide, rfl⟩, ⟨(sym_ok (by decide)), ⟨(sym_ok (by decide)), ⟨(num_ok hlo rfl), ⟨(sym_ok (by decide)), ⟨trivial, ⟨(sym_ok (by decide)), ⟨trivial, ⟨⟨by decide, by decide, by decide, rfl⟩, ⟨trivial, ⟨(sym_ok (by decide)), ⟨trivial, ⟨⟨by decide, by decide, by decide, rfl⟩, ⟨(sym_ok (by decide)), ⟨(num_ok hhi rfl), ⟨(sym_ok (by decide)), ⟨(sym_ok (by decide)), ⟨trivial, ⟨trivial, ⟨trivial, (.inl rfl)⟩⟩⟩⟩⟩⟩⟩⟩⟩⟩⟩⟩⟩⟩⟩⟩⟩⟩⟩⟩⟩⟩⟩⟩⟩ (by decide), List.forall_mem_cons.mpr ⟨ln_ok (.inl rfl) (by decide), fun _ h => nomatch h⟩⟩⟩) rfl rfl
theorem LB2_p (lo hi n other : Nat) (last : Int) (tl : Nat) : pScript (pExpr 5) (tt (LB2 lo hi n other).length 0 (LB2 lo hi n other)) last tl = some [.ret 2 (tB2 lo hi n other)] := by kernel_rfl
def LC2 (lo hi n other : Nat) : List Ln := [([.name [120], .blank, .sym 61, .blank, .name [114, 101, 112, 108, 97, 99, 101], .sym 40, .name [97], .sym 44, .blank, .num (TL.numL lo) lo, .sym 58, .num (TL.numL hi) hi, .sym 44, .blank, .name [98], .sym 41], [35, 32, 121]), ([.fin, .name [98], .blank, .sym 61, .blank, .name [97], .fin, .blank, .name [114, 101, 116, 117, 114, 110], .blank, .name [120]], [])]
theorem LC2_ok {lo hi n other : Nat} (hlo : lo < 10 ^ 30) (hhi : hi < 10 ^ 30) (hn : n < 10 ^ 30) (hother : other < 10 ^ 30) : TxtOk (LC2 lo hi n other) := txt_ok (fun h => nomatch h) (List.forall_mem_cons.mpr ⟨ln_ok ⟨⟨by decide, by decide, by decide, rfl⟩, ⟨trivial, ⟨(sym_ok (by decide)), ⟨trivial, ⟨⟨by decide, by decide, by decide, rfl⟩, ⟨(sym_ok (by decide)), ⟨⟨by decide, by decide, by decide, rfl⟩, ⟨(sym_ok (by decide)), ⟨trivial, ⟨(num_ok hlo rfl), ⟨(sym_ok (by decide)), ⟨(num_ok hhi rfl), ⟨(sym_ok (by decide)), ⟨trivial, ⟨⟨by decide, by decide, by decide, rfl⟩, ⟨(sym_ok (by decide)), (.inr ⟨_, rfl⟩)⟩⟩⟩⟩⟩⟩⟩⟩⟩⟩⟩⟩⟩⟩⟩⟩ (by decide), List.forall_mem_cons.mpr ⟨ln_ok ⟨trivial, ⟨⟨by decide, by decide, by decide, rfl⟩, ⟨trivial, ⟨(sym_ok (by decide)), ⟨trivial, ⟨⟨by decide, by decide, by decide, rfl⟩, ⟨trivial, ⟨trivial, ⟨⟨by decide, by decide, by decide, rfl⟩, ⟨trivial, ⟨⟨by decide, by decide, by decide, trivial⟩, (.inl rfl)⟩⟩⟩⟩⟩⟩⟩⟩⟩⟩⟩ (by decide), fun _ h => nomatch h⟩⟩) rfl rfl
theorem LC2_p (lo hi n other : Nat) (last : Int) (tl : Nat) : pScript (pExpr 5) (tt (LC2 lo hi n other).length 0 (LC2 lo hi n other)) last tl = some [.define 1 "x" (tA2 lo hi n other), .define 2 "b" (.name "a"), .ret 2 (.name "x")] := by kernel_rfl
def LD2 (lo hi n other : Nat) : List Ln := [([.blank, .name [114, 101, 116, 117, 114, 110], .blank, .blank, .sym 40, .name [114, 101, 112, 108, 97, 99, 101], .sym 40, .name [97], .sym 44, .blank, .num (TL.numL lo) lo, .sym 58, .num (TL.numL hi) hi, .sym 44, .blank, .name [98], .sym 41, .sym 41], [])]
theorem LD2_ok {lo hi n other : Nat} (hlo : lo < 10 ^ 30) (hhi : hi < 10 ^ 30) (hn : n < 10 ^ 30) (hother : other < 10 ^ 30) : TxtOk (LD2 lo hi n other) := txt_ok (fun h => nomatch h) (List.forall_mem_cons.mpr ⟨ln_ok ⟨trivial, ⟨⟨by decide, by decide, by decide, rfl⟩, ⟨trivial, ⟨trivial, ⟨(sym_ok (by decide)), ⟨⟨by decide, by decide, by decide, rfl⟩, ⟨(sym_ok (by decide)), ⟨⟨by decide, by decide, by decide, rfl⟩, ⟨(sym_ok (by decide)), ⟨trivial, ⟨(num_ok hlo rfl), ⟨(sym_ok (by decide)), ⟨(num_ok hhi rfl), ⟨(sym_ok (by decide)), ⟨trivial, ⟨⟨by decide, by decide, by decide, rfl⟩, ⟨(sym_ok (by decide)), ⟨(sym_ok (by decide)), (.inl rfl)⟩⟩⟩⟩⟩⟩⟩⟩⟩⟩⟩⟩⟩⟩⟩⟩⟩⟩ (by decide), fun _ h => nomatch h⟩) rfl rfl
theorem LD2_p (lo hi n other : Nat) (last : Int) (tl : Nat) : pScript (pExpr 5) (tt (LD2 lo hi n other).length 0 (LD2 lo hi n other)) last tl = some [.ret 1 (tA2 lo hi n other)] := by kernel_rfl
theorem sh2 (lo hi n other : Nat) : SeqAt.shaped (.list ([Row.ret 1 (tA2 lo hi n other)].map Row.data)) = true := by kernel_rfl
theorem dA2 (lo hi n other : Nat) : (tA2 lo hi n other).dep ≤ 5 := Nat.le_of_ble_eq_true rfl
theorem dB2 (lo hi n other : Nat) : (tB2 lo hi n other).dep ≤ 5 := Nat.le_of_ble_eq_true rfl
theorem pair2 {size other lo hi n : Nat} {c : List Piece} (hlo : lo < 10 ^ 30) (hhi : hi < 10 ^ 30) (hn : n < 10 ^ 30) (hother : other < 10 ^ 30) (ha : envOf (szF size other) [] "a" = some (partC "a" 0 size))
    (hA : evalT (envOf (szF size other) []) (tA2 lo hi n other) = some c) (hB : evalT (envOf (szF size other) []) (tB2 lo hi n other) = some c) : PairOk (szF size other) 5 (one2 size other lo hi n) (two2 size other lo hi n) := by
  have e1 := num_len hlo
  have e2 := num_len hhi
  have e3 := num_len hn
  have e4 := num_len hother
  refine ⟨by simp only [one2, two2, List.length_append, List.length_cons, List.length_nil]; omega, by simp only [one2, two2, List.length_append, List.length_cons, List.length_nil]; omega, LA2 lo hi n other, LB2 lo hi n other, LC2 lo hi n other, LD2 lo hi n other, _, _, _, c, ?_, ?_, ?_, ?_, ⟨LA2_ok hlo hhi hn hother, LA2_p lo hi n other, Nat.le_of_ble_eq_true rfl, ?_, hA⟩, ⟨LB2_ok hlo hhi hn hother, LB2_p lo hi n other, Nat.le_of_ble_eq_true rfl, ?_, hB⟩, ⟨LC2_ok hlo hhi hn hother, LC2_p lo hi n other, Nat.le_of_ble_eq_true rfl, ?_, run3 hA ha⟩, LD2_ok hlo hhi hn hother, LD2_p lo hi n other, sh2 lo hi n other⟩
  · simp only [one2, two2, LA2, LB2, LC2, LD2, txtOf, Ln.codes, render, Seg.codes, TL.joinL, List.map_cons, List.map_nil, List.flatten_cons, List.flatten_nil, List.append_assoc, List.cons_append, List.nil_append, List.append_nil]
  · simp only [one2, two2, LA2, LB2, LC2, LD2, txtOf, Ln.codes, render, Seg.codes, TL.joinL, List.map_cons, List.map_nil, List.flatten_cons, List.flatten_nil, List.append_assoc, List.cons_append, List.nil_append, List.append_nil]
  · simp only [one2, two2, LA2, LB2, LC2, LD2, txtOf, Ln.codes, render, Seg.codes, TL.joinL, List.map_cons, List.map_nil, List.flatten_cons, List.flatten_nil, List.append_assoc, List.cons_append, List.nil_append, List.append_nil]
  · simp only [one2, two2, LA2, LB2, LC2, LD2, txtOf, Ln.codes, render, Seg.codes, TL.joinL, List.map_cons, List.map_nil, List.flatten_cons, List.flatten_nil, List.append_assoc, List.cons_append, List.nil_append, List.append_nil]
  · exact List.forall_mem_cons.mpr ⟨dA2 lo hi n other, fun _ h => nomatch h⟩
  · exact List.forall_mem_cons.mpr ⟨dB2 lo hi n other, fun _ h => nomatch h⟩
  · exact List.forall_mem_cons.mpr ⟨dA2 lo hi n other, List.forall_mem_cons.mpr ⟨by decide, List.forall_mem_cons.mpr ⟨by decide, fun _ h => nomatch h⟩⟩⟩
def tA3 (lo hi n other : Nat) : Tree := .cut (.name "a") lo hi
def tB3 (lo hi n other : Nat) : Tree := .sum (.stretch (.name "a") none (some lo)) (.stretch (.name "a") (some hi) none)
def LA3 (lo hi n other : Nat) : List Ln := [([.name [114, 101, 116, 117, 114, 110], .blank, .name [99, 117, 116], .sym 40, .name [97], .sym 44, .blank, .num (TL.numL lo) lo, .sym 58, .num (TL.numL hi) hi, .sym 41], [])]
theorem LA3_ok {lo hi n other : Nat} (hlo : lo < 10 ^ 30) (hhi : hi < 10 ^ 30) (hn : n < 10 ^ 30) (hother : other < 10 ^ 30) : TxtOk (LA3 lo hi n other) := txt_ok (fun h => nomatch h) (List.forall_mem_cons.mpr ⟨ln_ok ⟨⟨by decide, by decide, by decide, rfl⟩, ⟨trivial, ⟨⟨by decide, by decide, by decide, rfl⟩, ⟨(sym_ok (by decide)), ⟨⟨by decide, by decide, by decide, rfl⟩, ⟨(sym_ok (by decide)), ⟨trivial, ⟨(num_ok hlo rfl), ⟨(sym_ok (by decide)), ⟨(num_ok hhi rfl), ⟨(sym_ok (by decide)), (.inl rfl)⟩⟩⟩⟩⟩⟩⟩⟩⟩⟩⟩ (by decide), fun _ h => nomatch h⟩) rfl rfl
theorem LA3_p (lo hi n other : Nat) (last : Int) (tl : Nat) : pScript (pExpr 5) (tt (LA3 lo hi n other).length 0 (LA3 lo hi n other)) last tl = some [.ret 1 (tA3 lo hi n other)] := by kernel_rfl
def LB3 (lo hi n other : Nat) : List Ln := [([], []), ([.blank, .fin, .blank, .name [114, 101, 116, 117, 114, 110], .blank, .name [97], .sym 91, .sym 58, .num (TL.numL lo) lo, .sym 93, .blank, .sym 43, .blank, .name [97], .sym 91, .num (TL.numL hi) hi, .sym 58, .sym 93, .blank, .fin, .fin], []), ([], [])]
theorem LB3_ok {lo hi n other : Nat} (hlo : lo < 10 ^ 30) (hhi : hi < 10 ^ 30) (hn : n < 10 ^ 30) (hother : other < 10 ^ 30) : TxtOk (LB3 lo hi n other) := txt_ok (fun h => nomatch h) (List.forall_mem_cons.mpr ⟨ln_ok (.inl rfl) (by decide), List.forall_mem_cons.mpr ⟨ln_ok ⟨trivial, ⟨trivial, ⟨trivial, ⟨⟨by decide, by decide, by decide, rfl⟩, ⟨trivial, ⟨⟨by decide, by decide, by decide, rfl⟩, ⟨(sym_ok (by decide)), ⟨(sym_ok (by decide)), ⟨(num_ok hlo rfl), ⟨(sym_ok (by decide)), ⟨trivial, ⟨(sym_ok (by decide)), ⟨trivial, ⟨⟨by decide, by decide, by decide, rfl⟩, ⟨(sym_ok (by decide)), ⟨(num_ok hhi rfl), ⟨(sym_ok (by decide)), ⟨(sym_ok (by decide)), ⟨trivial, ⟨trivial, ⟨trivial, (.inl rfl)⟩⟩⟩⟩⟩⟩⟩⟩⟩⟩⟩⟩⟩⟩⟩⟩⟩⟩⟩⟩⟩ (by decide), List.forall_mem_cons.mpr ⟨ln_ok (.inl rfl) (by decide), fun _ h => nomatch h⟩⟩⟩) rfl rfl
theorem LB3_p (lo hi n other : Nat) (last : Int) (tl : Nat) : pScript (pExpr 5) (tt (LB3 lo hi n other).length 0 (LB3 lo hi n other)) last tl = some [.ret 2 (tB3 lo hi n other)] := by kernel_rfl
def LC3 (lo hi n other : Nat) : List Ln := [([.name [120], .blank, .sym 61, .blank, .name [99, 117, 116], .sym 40, .name [97], .sym 44, .blank, .num (TL.numL lo) lo, .sym 58, .num (TL.numL hi) hi, .sym 41], [35, 32, 121]), ([.fin, .name [98], .blank, .sym 61, .blank, .name [97], .fin, .blank, .name [114, 101, 116, 117, 114, 110], .blank, .name [120]], [])]
theorem LC3_ok {lo hi n other : Nat} (hlo : lo < 10 ^ 30) (hhi : hi < 10 ^ 30) (hn : n < 10 ^ 30) (hother : other < 10 ^ 30) : TxtOk (LC3 lo hi n other) := txt_ok (fun h => nomatch h) (List.forall_mem_cons.mpr ⟨ln_ok ⟨⟨by decide, by decide, by decide, rfl⟩, ⟨trivial, ⟨(sym_ok (by decide)), ⟨trivial, ⟨⟨by decide, by decide, by decide, rfl⟩, ⟨(sym_ok (by decide)), ⟨⟨by decide, by decide, by decide, rfl⟩, ⟨(sym_ok (by decide)), ⟨trivial, ⟨(num_ok hlo rfl), ⟨(sym_ok (by decide)), ⟨(num_ok hhi rfl), ⟨(sym_ok (by decide)), (.inr ⟨_, rfl⟩)⟩⟩⟩⟩⟩⟩⟩⟩⟩⟩⟩⟩⟩ (by decide), List.forall_mem_cons.mpr ⟨ln_ok ⟨trivial, ⟨⟨by decide, by decide, by decide, rfl⟩, ⟨trivial, ⟨(sym_ok (by decide)), ⟨trivial, ⟨⟨by decide, by decide, by decide, rfl⟩, ⟨trivial, ⟨trivial, ⟨⟨by decide, by decide, by decide, rfl⟩, ⟨trivial, ⟨⟨by decide, by decide, by decide, trivial⟩, (.inl rfl)⟩⟩⟩⟩⟩⟩⟩⟩⟩⟩⟩ (by decide), fun _ h => nomatch h⟩⟩) rfl rfl
theorem LC3_p (lo hi n other : Nat) (last : Int) (tl : Nat) : pScript (pExpr 5) (tt (LC3 lo hi n other).length 0 (LC3 lo hi n other)) last tl = some [.define 1 "x" (tA3 lo hi n other), .define 2 "b" (.name "a"), .ret 2 (.name "x")] := by kernel_rfl
def LD3 (lo hi n other : Nat) : List Ln := [([.blank, .name [114, 101, 116, 117, 114, 110], .blank, .blank, .sym 40, .name [99, 117, 116], .sym 40, .name [97], .sym 44, .blank, .num (TL.numL lo) lo, .sym 58, .num (TL.numL hi) hi, .sym 41, .sym 41], [])]
theorem LD3_ok {lo hi n other : Nat} (hlo : lo < 10 ^ 30) (hhi : hi < 10 ^ 30) (hn : n < 10 ^ 30) (hother : other < 10 ^ 30) : TxtOk (LD3 lo hi n other) := txt_ok (fun h => nomatch h) (List.forall_mem_cons.mpr ⟨ln_ok ⟨trivial, ⟨⟨by decide, by decide, by decide, rfl⟩, ⟨trivial, ⟨trivial, ⟨(sym_ok (by decide)), ⟨⟨by decide, by decide, by decide, rfl⟩, ⟨(sym_ok (by decide)), ⟨⟨by decide, by decide, by decide, rfl⟩, ⟨(sym_ok (by decide)), ⟨trivial, ⟨(num_ok hlo rfl), ⟨(sym_ok (by decide)), ⟨(num_ok hhi rfl), ⟨(sym_ok (by decide)), ⟨(sym_ok (by decide)), (.inl rfl)⟩⟩⟩⟩⟩⟩⟩⟩⟩⟩⟩⟩⟩⟩⟩ (by decide), fun _ h => nomatch h⟩) rfl rfl
theorem LD3_p (lo hi n other : Nat) (last : Int) (tl : Nat) : pScript (pExpr 5) (tt (LD3 lo hi n other).length 0 (LD3 lo hi n other)) last tl = some [.ret 1 (tA3 lo hi n other)] := by kernel_rfl
theorem sh3 (lo hi n other : Nat) : SeqAt.shaped (.list ([Row.ret 1 (tA3 lo hi n other)].map Row.data)) = true := by kernel_rfl
theorem dA3 (lo hi n other : Nat) : (tA3 lo hi n other).dep ≤ 5 := Nat.le_of_ble_eq_true rfl
theorem dB3 (lo hi n other : Nat) : (tB3 lo hi n other).dep ≤ 5 := Nat.le_of_ble_eq_true rfl
theorem pair3 {size other lo hi n : Nat} {c : List Piece} (hlo : lo < 10 ^ 30) (hhi : hi < 10 ^ 30) (hn : n < 10 ^ 30) (hother : other < 10 ^ 30) (ha : envOf (szF size other) [] "a" = some (partC "a" 0 size))
    (hA : evalT (envOf (szF size other) []) (tA3 lo hi n other) = some c) (hB : evalT (envOf (szF size other) []) (tB3 lo hi n other) = some c) : PairOk (szF size other) 5 (one3 size other lo hi n) (two3 size other lo hi n) := by
  have e1 := num_len hlo
  have e2 := num_len hhi
  have e3 := num_len hn
  have e4 := num_len hother
  refine ⟨by simp only [one3, two3, List.length_append, List.length_cons, List.length_nil]; omega, by simp only [one3, two3, List.length_append, List.length_cons, List.length_nil]; omega, LA3 lo hi n other, LB3 lo hi n other, LC3 lo hi n other, LD3 lo hi n other, _, _, _, c, ?_, ?_, ?_, ?_, ⟨LA3_ok hlo hhi hn hother, LA3_p lo hi n other, Nat.le_of_ble_eq_true rfl, ?_, hA⟩, ⟨LB3_ok hlo hhi hn hother, LB3_p lo hi n other, Nat.le_of_ble_eq_true rfl, ?_, hB⟩, ⟨LC3_ok hlo hhi hn hother, LC3_p lo hi n other, Nat.le_of_ble_eq_true rfl, ?_, run3 hA ha⟩, LD3_ok hlo hhi hn hother, LD3_p lo hi n other, sh3 lo hi n other⟩
  · simp only [one3, two3, LA3, LB3, LC3, LD3, txtOf, Ln.codes, render, Seg.codes, TL.joinL, List.map_cons, List.map_nil, List.flatten_cons, List.flatten_nil, List.append_assoc, List.cons_append, List.nil_append, List.append_nil]
  · simp only [one3, two3, LA3, LB3, LC3, LD3, txtOf, Ln.codes, render, Seg.codes, TL.joinL, List.map_cons, List.map_nil, List.flatten_cons, List.flatten_nil, List.append_assoc, List.cons_append, List.nil_append, List.append_nil]
  · simp only [one3, two3, LA3, LB3, LC3, LD3, txtOf, Ln.codes, render, Seg.codes, TL.joinL, List.map_cons, List.map_nil, List.flatten_cons, List.flatten_nil, List.append_assoc, List.cons_append, List.nil_append, List.append_nil]
  · simp only [one3, two3, LA3, LB3, LC3, LD3, txtOf, Ln.codes, render, Seg.codes, TL.joinL, List.map_cons, List.map_nil, List.flatten_cons, List.flatten_nil, List.append_assoc, List.cons_append, List.nil_append, List.append_nil]
  · exact List.forall_mem_cons.mpr ⟨dA3 lo hi n other, fun _ h => nomatch h⟩
  · exact List.forall_mem_cons.mpr ⟨dB3 lo hi n other, fun _ h => nomatch h⟩
  · exact List.forall_mem_cons.mpr ⟨dA3 lo hi n other, List.forall_mem_cons.mpr ⟨by decide, List.forall_mem_cons.mpr ⟨by decide, fun _ h => nomatch h⟩⟩⟩
def tA4 (lo hi n other : Nat) : Tree := .sum (.name "a") (.times (.name "b") n)
def tB4 (lo hi n other : Nat) : Tree := .sum (.name "a") (.times (.name "b") n)
def LA4 (lo hi n other : Nat) : List Ln := [([.name [114, 101, 116, 117, 114, 110], .blank, .name [97], .blank, .sym 43, .blank, .name [98], .blank, .sym 42, .blank, .num (TL.numL n) n], [])]
theorem LA4_ok {lo hi n other : Nat} (hlo : lo < 10 ^ 30) (hhi : hi < 10 ^ 30) (hn : n < 10 ^ 30) (hother : other < 10 ^ 30) : TxtOk (LA4 lo hi n other) := txt_ok (fun h => nomatch h) (List.forall_mem_cons.mpr ⟨ln_ok ⟨⟨by decide, by decide, by decide, rfl⟩, ⟨trivial, ⟨⟨by decide, by decide, by decide, rfl⟩, ⟨trivial, ⟨(sym_ok (by decide)), ⟨trivial, ⟨⟨by decide, by decide, by decide, rfl⟩, ⟨trivial, ⟨(sym_ok (by decide)), ⟨trivial, ⟨(num_ok hn trivial), (.inl rfl)⟩⟩⟩⟩⟩⟩⟩⟩⟩⟩⟩ (by decide), fun _ h => nomatch h⟩) rfl rfl
theorem LA4_p (lo hi n other : Nat) (last : Int) (tl : Nat) : pScript (pExpr 5) (tt (LA4 lo hi n other).length 0 (LA4 lo hi n other)) last tl = some [.ret 1 (tA4 lo hi n other)] := by kernel_rfl
def LB4 (lo hi n other : Nat) : List Ln := [([], []), ([.blank, .fin, .blank, .name [114, 101, 116, 117, 114, 110], .blank, .name [97], .blank, .sym 43, .blank, .sym 40, .name [98], .blank, .sym 42, .blank, .num (TL.numL n) n, .sym 41, .blank, .fin, .fin], []), ([], [])]
theorem LB4_ok {lo hi n other : Nat} (hlo : lo < 10 ^ 30) (hhi : hi < 10 ^ 30) (hn : n < 10 ^ 30) (hother : other < 10 ^ 30) : TxtOk (LB4 lo hi n other) := txt_ok (fun h => nomatch h) (List.forall_mem_cons.mpr ⟨ln_ok (.inl rfl) (by decide), List.forall_mem_cons.mpr ⟨ln_ok ⟨trivial, ⟨trivial, ⟨trivial, ⟨⟨by decide, by decide, by decide, rfl⟩, ⟨trivial, ⟨⟨by decide, by decide, by decide, rfl⟩, ⟨trivial, ⟨(sym_ok (by decide)), ⟨trivial, ⟨(sym_ok (by decide)), ⟨⟨by decide, by decide, by decide, rfl⟩, ⟨trivial, ⟨(sym_ok (by decide)), ⟨trivial, ⟨(num_ok hn rfl), ⟨(sym_ok (by decide)), ⟨trivial, ⟨trivial, ⟨trivial, (.inl rfl)⟩⟩⟩⟩⟩⟩⟩⟩⟩⟩⟩⟩⟩⟩⟩⟩⟩⟩⟩ (by decide), List.forall_mem_cons.mpr ⟨ln_ok (.inl rfl) (by decide), fun _ h => nomatch h⟩⟩⟩) rfl rfl
theorem LB4_p (lo hi n other : Nat) (last : Int) (tl : Nat) : pScript (pExpr 5) (tt (LB4 lo hi n other).length 0 (LB4 lo hi n other)) last tl = some [.ret 2 (tB4 lo hi n other)] := by kernel_rfl
def LC4 (lo hi n other : Nat) : List Ln := [([.name [120], .blank, .sym 61, .blank, .name [97], .blank, .sym 43, .blank, .name [98], .blank, .sym 42, .blank, .num (TL.numL n) n], [35, 32, 121]), ([.fin, .name [98], .blank, .sym 61, .blank, .name [97], .fin, .blank, .name [114, 101, 116, 117, 114, 110], .blank, .name [120]], [])]
theorem LC4_ok {lo hi n other : Nat} (hlo : lo < 10 ^ 30) (hhi : hi < 10 ^ 30) (hn : n < 10 ^ 30) (hother : other < 10 ^ 30) : TxtOk (LC4 lo hi n other) := txt_ok (fun h => nomatch h) (List.forall_mem_cons.mpr ⟨ln_ok ⟨⟨by decide, by decide, by decide, rfl⟩, ⟨trivial, ⟨(sym_ok (by decide)), ⟨trivial, ⟨⟨by decide, by decide, by decide, rfl⟩, ⟨trivial, ⟨(sym_ok (by decide)), ⟨trivial, ⟨⟨by decide, by decide, by decide, rfl⟩, ⟨trivial, ⟨(sym_ok (by decide)), ⟨trivial, ⟨(num_ok hn rfl), (.inr ⟨_, rfl⟩)⟩⟩⟩⟩⟩⟩⟩⟩⟩⟩⟩⟩⟩ (by decide), List.forall_mem_cons.mpr ⟨ln_ok ⟨trivial, ⟨⟨by decide, by decide, by decide, rfl⟩, ⟨trivial, ⟨(sym_ok (by decide)), ⟨trivial, ⟨⟨by decide, by decide, by decide, rfl⟩, ⟨trivial, ⟨trivial, ⟨⟨by decide, by decide, by decide, rfl⟩, ⟨trivial, ⟨⟨by decide, by decide, by decide, trivial⟩, (.inl rfl)⟩⟩⟩⟩⟩⟩⟩⟩⟩⟩⟩ (by decide), fun _ h => nomatch h⟩⟩) rfl rfl
theorem LC4_p (lo hi n other : Nat) (last : Int) (tl : Nat) : pScript (pExpr 5) (tt (LC4 lo hi n other).length 0 (LC4 lo hi n other)) last tl = some [.define 1 "x" (tA4 lo hi n other), .define 2 "b" (.name "a"), .ret 2 (.name "x")] := by kernel_rfl
def LD4 (lo hi n other : Nat) : List Ln := [([.blank, .name [114, 101, 116, 117, 114, 110], .blank, .blank, .sym 40, .name [97], .blank, .sym 43, .blank, .name [98], .blank, .sym 42, .blank, .num (TL.numL n) n, .sym 41], [])]
theorem LD4_ok {lo hi n other : Nat} (hlo : lo < 10 ^ 30) (hhi : hi < 10 ^ 30) (hn : n < 10 ^ 30) (hother : other < 10 ^ 30) : TxtOk (LD4 lo hi n other) := txt_ok (fun h => nomatch h) (List.forall_mem_cons.mpr ⟨ln_ok ⟨trivial, ⟨⟨by decide, by decide, by decide, rfl⟩, ⟨trivial, ⟨trivial, ⟨(sym_ok (by decide)), ⟨⟨by decide, by decide, by decide, rfl⟩, ⟨trivial, ⟨(sym_ok (by decide)), ⟨trivial, ⟨⟨by decide, by decide, by decide, rfl⟩, ⟨trivial, ⟨(sym_ok (by decide)), ⟨trivial, ⟨(num_ok hn rfl), ⟨(sym_ok (by decide)), (.inl rfl)⟩⟩⟩⟩⟩⟩⟩⟩⟩⟩⟩⟩⟩⟩⟩ (by decide), fun _ h => nomatch h⟩) rfl rfl
theorem LD4_p (lo hi n other : Nat) (last : Int) (tl : Nat) : pScript (pExpr 5) (tt (LD4 lo hi n other).length 0 (LD4 lo hi n other)) last tl = some [.ret 1 (tA4 lo hi n other)] := by kernel_rfl
theorem sh4 (lo hi n other : Nat) : SeqAt.shaped (.list ([Row.ret 1 (tA4 lo hi n other)].map Row.data)) = true := by kernel_rfl
theorem dA4 (lo hi n other : Nat) : (tA4 lo hi n other).dep ≤ 5 := Nat.le_of_ble_eq_true rfl
theorem dB4 (lo hi n other : Nat) : (tB4 lo hi n other).dep ≤ 5 := Nat.le_of_ble_eq_true rfl
theorem pair4 {size other lo hi n : Nat} {c : List Piece} (hlo : lo < 10 ^ 30) (hhi : hi < 10 ^ 30) (hn : n < 10 ^ 30) (hother : other < 10 ^ 30) (ha : envOf (szF size other) [] "a" = some (partC "a" 0 size))
    (hA : evalT (envOf (szF size other) []) (tA4 lo hi n other) = some c) (hB : evalT (envOf (szF size other) []) (tB4 lo hi n other) = some c) : PairOk (szF size other) 5 (one4 size other lo hi n) (two4 size other lo hi n) := by
  have e1 := num_len hlo
  have e2 := num_len hhi
  have e3 := num_len hn
  have e4 := num_len hother
  refine ⟨by simp only [one4, two4, List.length_append, List.length_cons, List.length_nil]; omega, by simp only [one4, two4, List.length_append, List.length_cons, List.length_nil]; omega, LA4 lo hi n other, LB4 lo hi n other, LC4 lo hi n other, LD4 lo hi n other, _, _, _, c, ?_, ?_, ?_, ?_, ⟨LA4_ok hlo hhi hn hother, LA4_p lo hi n other, Nat.le_of_ble_eq_true rfl, ?_, hA⟩, ⟨LB4_ok hlo hhi hn hother, LB4_p lo hi n other, Nat.le_of_ble_eq_true rfl, ?_, hB⟩, ⟨LC4_ok hlo hhi hn hother, LC4_p lo hi n other, Nat.le_of_ble_eq_true rfl, ?_, run3 hA ha⟩, LD4_ok hlo hhi hn hother, LD4_p lo hi n other, sh4 lo hi n other⟩
  · simp only [one4, two4, LA4, LB4, LC4, LD4, txtOf, Ln.codes, render, Seg.codes, TL.joinL, List.map_cons, List.map_nil, List.flatten_cons, List.flatten_nil, List.append_assoc, List.cons_append, List.nil_append, List.append_nil]
  · simp only [one4, two4, LA4, LB4, LC4, LD4, txtOf, Ln.codes, render, Seg.codes, TL.joinL, List.map_cons, List.map_nil, List.flatten_cons, List.flatten_nil, List.append_assoc, List.cons_append, List.nil_append, List.append_nil]
  · simp only [one4, two4, LA4, LB4, LC4, LD4, txtOf, Ln.codes, render, Seg.codes, TL.joinL, List.map_cons, List.map_nil, List.flatten_cons, List.flatten_nil, List.append_assoc, List.cons_append, List.nil_append, List.append_nil]
  · simp only [one4, two4, LA4, LB4, LC4, LD4, txtOf, Ln.codes, render, Seg.codes, TL.joinL, List.map_cons, List.map_nil, List.flatten_cons, List.flatten_nil, List.append_assoc, List.cons_append, List.nil_append, List.append_nil]
  · exact List.forall_mem_cons.mpr ⟨dA4 lo hi n other, fun _ h => nomatch h⟩
  · exact List.forall_mem_cons.mpr ⟨dB4 lo hi n other, fun _ h => nomatch h⟩
  · exact List.forall_mem_cons.mpr ⟨dA4 lo hi n other, List.forall_mem_cons.mpr ⟨by decide, List.forall_mem_cons.mpr ⟨by decide, fun _ h => nomatch h⟩⟩⟩
def tA5 (lo hi n other : Nat) : Tree := .sum (.stretch (.name "a") none none) (.name "b")
def tB5 (lo hi n other : Nat) : Tree := .sum (.times (.name "a") 1) (.stretch (.name "b") (some 0) (some other))
def LA5 (lo hi n other : Nat) : List Ln := [([.name [114, 101, 116, 117, 114, 110], .blank, .name [97], .sym 91, .sym 58, .sym 93, .blank, .sym 43, .blank, .sym 40, .name [98], .sym 41], [])]
theorem LA5_ok {lo hi n other : Nat} (hlo : lo < 10 ^ 30) (hhi : hi < 10 ^ 30) (hn : n < 10 ^ 30) (hother : other < 10 ^ 30) : TxtOk (LA5 lo hi n other) := txt_ok (fun h => nomatch h) (List.forall_mem_cons.mpr ⟨ln_ok ⟨⟨by decide, by decide, by decide, rfl⟩, ⟨trivial, ⟨⟨by decide, by decide, by decide, rfl⟩, ⟨(sym_ok (by decide)), ⟨(sym_ok (by decide)), ⟨(sym_ok (by decide)), ⟨trivial, ⟨(sym_ok (by decide)), ⟨trivial, ⟨(sym_ok (by decide)), ⟨⟨by decide, by decide, by decide, rfl⟩, ⟨(sym_ok (by decide)), (.inl rfl)⟩⟩⟩⟩⟩⟩⟩⟩⟩⟩⟩⟩ (by decide), fun _ h => nomatch h⟩) rfl rfl
theorem LA5_p (lo hi n other : Nat) (last : Int) (tl : Nat) : pScript (pExpr 5) (tt (LA5 lo hi n other).length 0 (LA5 lo hi n other)) last tl = some [.ret 1 (tA5 lo hi n other)] := by kernel_rfl
def LB5 (lo hi n other : Nat) : List Ln := [([], []), ([.blank, .fin, .blank, .name [114, 101, 116, 117, 114, 110], .blank, .name [97], .blank, .sym 42, .blank, .num [49] 1, .blank, .sym 43, .blank, .name [98], .sym 91, .num [48] 0, .sym 58, .num (TL.numL other) other, .sym 93, .blank, .fin, .fin], []), ([], [])]
theorem LB5_ok {lo hi n other : Nat} (hlo : lo < 10 ^ 30) (hhi : hi < 10 ^ 30) (hn : n < 10 ^ 30) (hother : other < 10 ^ 30) : TxtOk (LB5 lo hi n other) := txt_ok (fun h => nomatch h) (List.forall_mem_cons.mpr ⟨ln_ok (.inl rfl) (by decide), List.forall_mem_cons.mpr ⟨ln_ok ⟨trivial, ⟨trivial, ⟨trivial, ⟨⟨by decide, by decide, by decide, rfl⟩, ⟨trivial, ⟨⟨by decide, by decide, by decide, rfl⟩, ⟨trivial, ⟨(sym_ok (by decide)), ⟨trivial, ⟨⟨by decide, by decide, by decide, by kernel_rfl, rfl⟩, ⟨trivial, ⟨(sym_ok (by decide)), ⟨trivial, ⟨⟨by decide, by decide, by decide, rfl⟩, ⟨(sym_ok (by decide)), ⟨⟨by decide, by decide, by decide, by kernel_rfl, rfl⟩, ⟨(sym_ok (by decide)), ⟨(num_ok hother rfl), ⟨(sym_ok (by decide)), ⟨trivial, ⟨trivial, ⟨trivial, (.inl rfl)⟩⟩⟩⟩⟩⟩⟩⟩⟩⟩⟩⟩⟩⟩⟩⟩⟩⟩⟩⟩⟩⟩ (by decide), List.forall_mem_cons.mpr ⟨ln_ok (.inl rfl) (by decide), fun _ h => nomatch h⟩⟩⟩) rfl rfl
theorem LB5_p (lo hi n other : Nat) (last : Int) (tl : Nat) : pScript (pExpr 5) (tt (LB5 lo hi n other).length 0 (LB5 lo hi n other)) last tl = some [.ret 2 (tB5 lo hi n other)] := by kernel_rfl
def LC5 (lo hi n other : Nat) : List Ln := [([.name [120], .blank, .sym 61, .blank, .name [97], .sym 91, .sym 58, .sym 93, .blank, .sym 43, .blank, .sym 40, .name [98], .sym 41], [35, 32, 121]), ([.fin, .name [98], .blank, .sym 61, .blank, .name [97], .fin, .blank, .name [114, 101, 116, 117, 114, 110], .blank, .name [120]], [])]
theorem LC5_ok {lo hi n other : Nat} (hlo : lo < 10 ^ 30) (hhi : hi < 10 ^ 30) (hn : n < 10 ^ 30) (hother : other < 10 ^ 30) : TxtOk (LC5 lo hi n other) := txt_ok (fun h => nomatch h) (List.forall_mem_cons.mpr ⟨ln_ok ⟨⟨by decide, by decide, by decide, rfl⟩, ⟨trivial, ⟨(sym_ok (by decide)), ⟨trivial, ⟨⟨by decide, by decide, by decide, rfl⟩, ⟨(sym_ok (by decide)), ⟨(sym_ok (by decide)), ⟨(sym_ok (by decide)), ⟨trivial, ⟨(sym_ok (by decide)), ⟨trivial, ⟨(sym_ok (by decide)), ⟨⟨by decide, by decide, by decide, rfl⟩, ⟨(sym_ok (by decide)), (.inr ⟨_, rfl⟩)⟩⟩⟩⟩⟩⟩⟩⟩⟩⟩⟩⟩⟩⟩ (by decide), List.forall_mem_cons.mpr ⟨ln_ok ⟨trivial, ⟨⟨by decide, by decide, by decide, rfl⟩, ⟨trivial, ⟨(sym_ok (by decide)), ⟨trivial, ⟨⟨by decide, by decide, by decide, rfl⟩, ⟨trivial, ⟨trivial, ⟨⟨by decide, by decide, by decide, rfl⟩, ⟨trivial, ⟨⟨by decide, by decide, by decide, trivial⟩, (.inl rfl)⟩⟩⟩⟩⟩⟩⟩⟩⟩⟩⟩ (by decide), fun _ h => nomatch h⟩⟩) rfl rfl
theorem LC5_p (lo hi n other : Nat) (last : Int) (tl : Nat) : pScript (pExpr 5) (tt (LC5 lo hi n other).length 0 (LC5 lo hi n other)) last tl = some [.define 1 "x" (tA5 lo hi n other), .define 2 "b" (.name "a"), .ret 2 (.name "x")] := by kernel_rfl
def LD5 (lo hi n other : Nat) : List Ln := [([.blank, .name [114, 101, 116, 117, 114, 110], .blank, .blank, .sym 40, .name [97], .sym 91, .sym 58, .sym 93, .blank, .sym 43, .blank, .sym 40, .name [98], .sym 41, .sym 41], [])]
theorem LD5_ok {lo hi n other : Nat} (hlo : lo < 10 ^ 30) (hhi : hi < 10 ^ 30) (hn : n < 10 ^ 30) (hother : other < 10 ^ 30) : TxtOk (LD5 lo hi n other) := txt_ok (fun h => nomatch h) (List.forall_mem_cons.mpr ⟨ln_ok ⟨trivial, ⟨⟨by decide, by decide, by decide, rfl⟩, ⟨trivial, ⟨trivial, ⟨(sym_ok (by decide)), ⟨⟨by decide, by decide, by decide, rfl⟩, ⟨(sym_ok (by decide)), ⟨(sym_ok (by decide)), ⟨(sym_ok (by decide)), ⟨trivial, ⟨(sym_ok (by decide)), ⟨trivial, ⟨(sym_ok (by decide)), ⟨⟨by decide, by decide, by decide, rfl⟩, ⟨(sym_ok (by decide)), ⟨(sym_ok (by decide)), (.inl rfl)⟩⟩⟩⟩⟩⟩⟩⟩⟩⟩⟩⟩⟩⟩⟩⟩ (by decide), fun _ h => nomatch h⟩) rfl rfl
theorem LD5_p (lo hi n other : Nat) (last : Int) (tl : Nat) : pScript (pExpr 5) (tt (LD5 lo hi n other).length 0 (LD5 lo hi n other)) last tl = some [.ret 1 (tA5 lo hi n other)] := by kernel_rfl
theorem sh5 (lo hi n other : Nat) : SeqAt.shaped (.list ([Row.ret 1 (tA5 lo hi n other)].map Row.data)) = true := by kernel_rfl
theorem dA5 (lo hi n other : Nat) : (tA5 lo hi n other).dep ≤ 5 := Nat.le_of_ble_eq_true rfl
theorem dB5 (lo hi n other : Nat) : (tB5 lo hi n other).dep ≤ 5 := Nat.le_of_ble_eq_true rfl
theorem pair5 {size other lo hi n : Nat} {c : List Piece} (hlo : lo < 10 ^ 30) (hhi : hi < 10 ^ 30) (hn : n < 10 ^ 30) (hother : other < 10 ^ 30) (ha : envOf (szF size other) [] "a" = some (partC "a" 0 size))
    (hA : evalT (envOf (szF size other) []) (tA5 lo hi n other) = some c) (hB : evalT (envOf (szF size other) []) (tB5 lo hi n other) = some c) : PairOk (szF size other) 5 (one5 size other lo hi n) (two5 size other lo hi n) := by
  have e1 := num_len hlo
  have e2 := num_len hhi
  have e3 := num_len hn
  have e4 := num_len hother
  refine ⟨by simp only [one5, two5, List.length_append, List.length_cons, List.length_nil]; omega, by simp only [one5, two5, List.length_append, List.length_cons, List.length_nil]; omega, LA5 lo hi n other, LB5 lo hi n other, LC5 lo hi n other, LD5 lo hi n other, _, _, _, c, ?_, ?_, ?_, ?_, ⟨LA5_ok hlo hhi hn hother, LA5_p lo hi n other, Nat.le_of_ble_eq_true rfl, ?_, hA⟩, ⟨LB5_ok hlo hhi hn hother, LB5_p lo hi n other, Nat.le_of_ble_eq_true rfl, ?_, hB⟩, ⟨LC5_ok hlo hhi hn hother, LC5_p lo hi n other, Nat.le_of_ble_eq_true rfl, ?_, run3 hA ha⟩, LD5_ok hlo hhi hn hother, LD5_p lo hi n other, sh5 lo hi n other⟩
  · simp only [one5, two5, LA5, LB5, LC5, LD5, txtOf, Ln.codes, render, Seg.codes, TL.joinL, List.map_cons, List.map_nil, List.flatten_cons, List.flatten_nil, List.append_assoc, List.cons_append, List.nil_append, List.append_nil]
  · simp only [one5, two5, LA5, LB5, LC5, LD5, txtOf, Ln.codes, render, Seg.codes, TL.joinL, List.map_cons, List.map_nil, List.flatten_cons, List.flatten_nil, List.append_assoc, List.cons_append, List.nil_append, List.append_nil]
  · simp only [one5, two5, LA5, LB5, LC5, LD5, txtOf, Ln.codes, render, Seg.codes, TL.joinL, List.map_cons, List.map_nil, List.flatten_cons, List.flatten_nil, List.append_assoc, List.cons_append, List.nil_append, List.append_nil]
  · simp only [one5, two5, LA5, LB5, LC5, LD5, txtOf, Ln.codes, render, Seg.codes, TL.joinL, List.map_cons, List.map_nil, List.flatten_cons, List.flatten_nil, List.append_assoc, List.cons_append, List.nil_append, List.append_nil]
  · exact List.forall_mem_cons.mpr ⟨dA5 lo hi n other, fun _ h => nomatch h⟩
  · exact List.forall_mem_cons.mpr ⟨dB5 lo hi n other, fun _ h => nomatch h⟩
  · exact List.forall_mem_cons.mpr ⟨dA5 lo hi n other, List.forall_mem_cons.mpr ⟨by decide, List.forall_mem_cons.mpr ⟨by decide, fun _ h => nomatch h⟩⟩⟩
def tA6 (lo hi n other : Nat) : Tree := .times (.times (.stretch (.name "a") (some lo) (some hi)) n) 2
def tB6 (lo hi n other : Nat) : Tree := .times (.times (.stretch (.name "a") (some lo) (some hi)) n) 2
def LA6 (lo hi n other : Nat) : List Ln := [([.name [114, 101, 116, 117, 114, 110], .blank, .name [97], .sym 91, .num (TL.numL lo) lo, .sym 58, .num (TL.numL hi) hi, .sym 93, .blank, .sym 42, .blank, .num (TL.numL n) n, .blank, .sym 42, .blank, .num [50] 2], [])]
theorem LA6_ok {lo hi n other : Nat} (hlo : lo < 10 ^ 30) (hhi : hi < 10 ^ 30) (hn : n < 10 ^ 30) (hother : other < 10 ^ 30) : TxtOk (LA6 lo hi n other) := txt_ok (fun h => nomatch h) (List.forall_mem_cons.mpr ⟨ln_ok ⟨⟨by decide, by decide, by decide, rfl⟩, ⟨trivial, ⟨⟨by decide, by decide, by decide, rfl⟩, ⟨(sym_ok (by decide)), ⟨(num_ok hlo rfl), ⟨(sym_ok (by decide)), ⟨(num_ok hhi rfl), ⟨(sym_ok (by decide)), ⟨trivial, ⟨(sym_ok (by decide)), ⟨trivial, ⟨(num_ok hn rfl), ⟨trivial, ⟨(sym_ok (by decide)), ⟨trivial, ⟨⟨by decide, by decide, by decide, by kernel_rfl, trivial⟩, (.inl rfl)⟩⟩⟩⟩⟩⟩⟩⟩⟩⟩⟩⟩⟩⟩⟩⟩ (by decide), fun _ h => nomatch h⟩) rfl rfl
theorem LA6_p (lo hi n other : Nat) (last : Int) (tl : Nat) : pScript (pExpr 5) (tt (LA6 lo hi n other).length 0 (LA6 lo hi n other)) last tl = some [.ret 1 (tA6 lo hi n other)] := by kernel_rfl
def LB6 (lo hi n other : Nat) : List Ln := [([], []), ([.blank, .fin, .blank, .name [114, 101, 116, 117, 114, 110], .blank, .sym 40, .sym 40, .name [97], .sym 91, .num (TL.numL lo) lo, .sym 58, .num (TL.numL hi) hi, .sym 93, .blank, .sym 42, .blank, .num (TL.numL n) n, .sym 41, .blank, .sym 42, .blank, .num [50] 2, .sym 41, .blank, .fin, .fin], []), ([], [])]
theorem LB6_ok {lo hi n other : Nat} (hlo : lo < 10 ^ 30) (hhi : hi < 10 ^ 30) (hn : n < 10 ^ 30) (hother : other < 10 ^ 30) : TxtOk (LB6 lo hi n other) := txt_ok (fun h => nomatch h) (List.forall_mem_cons.mpr ⟨ln_ok (.inl rfl) (by decide), List.forall_mem_cons.mpr ⟨ln_ok ⟨trivial, ⟨trivial, ⟨trivial, ⟨⟨by decide, by decide, by decide, rfl⟩, ⟨trivial, ⟨(sym_ok (by decide)), ⟨(sym_ok (by decide)), ⟨⟨by decide, by decide, by decide, rfl⟩, ⟨(sym_ok (by decide)), ⟨(num_ok hlo rfl), ⟨(sym_ok (by decide)), ⟨(num_ok hhi rfl), ⟨(sym_ok (by decide)), ⟨trivial, ⟨(sym_ok (by decide)), ⟨trivial, ⟨(num_ok hn rfl), ⟨(sym_ok (by decide)), ⟨trivial, ⟨(sym_ok (by decide)), ⟨trivial, ⟨⟨by decide, by decide, by decide, by kernel_rfl, rfl⟩, ⟨(sym_ok (by decide)), ⟨trivial, ⟨trivial, ⟨trivial, (.inl rfl)⟩⟩⟩⟩⟩⟩⟩⟩⟩⟩⟩⟩⟩⟩⟩⟩⟩⟩⟩⟩⟩⟩⟩⟩⟩⟩ (by decide), List.forall_mem_cons.mpr ⟨ln_ok (.inl rfl) (by decide), fun _ h => nomatch h⟩⟩⟩) rfl rfl
theorem LB6_p (lo hi n other : Nat) (last : Int) (tl : Nat) : pScript (pExpr 5) (tt (LB6 lo hi n other).length 0 (LB6 lo hi n other)) last tl = some [.ret 2 (tB6 lo hi n other)] := by kernel_rfl
def LC6 (lo hi n other : Nat) : List Ln := [([.name [120], .blank, .sym 61, .blank, .name [97], .sym 91, .num (TL.numL lo) lo, .sym 58, .num (TL.numL hi) hi, .sym 93, .blank, .sym 42, .blank, .num (TL.numL n) n, .blank, .sym 42, .blank, .num [50] 2], [35, 32, 121]), ([.fin, .name [98], .blank, .sym 61, .blank, .name [97], .fin, .blank, .name [114, 101, 116, 117, 114, 110], .blank, .name [120]], [])]
theorem LC6_ok {lo hi n other : Nat} (hlo : lo < 10 ^ 30) (hhi : hi < 10 ^ 30) (hn : n < 10 ^ 30) (hother : other < 10 ^ 30) : TxtOk (LC6 lo hi n other) := txt_ok (fun h => nomatch h) (List.forall_mem_cons.mpr ⟨ln_ok ⟨⟨by decide, by decide, by decide, rfl⟩, ⟨trivial, ⟨(sym_ok (by decide)), ⟨trivial, ⟨⟨by decide, by decide, by decide, rfl⟩, ⟨(sym_ok (by decide)), ⟨(num_ok hlo rfl), ⟨(sym_ok (by decide)), ⟨(num_ok hhi rfl), ⟨(sym_ok (by decide)), ⟨trivial, ⟨(sym_ok (by decide)), ⟨trivial, ⟨(num_ok hn rfl), ⟨trivial, ⟨(sym_ok (by decide)), ⟨trivial, ⟨⟨by decide, by decide, by decide, by kernel_rfl, rfl⟩, (.inr ⟨_, rfl⟩)⟩⟩⟩⟩⟩⟩⟩⟩⟩⟩⟩⟩⟩⟩⟩⟩⟩⟩ (by decide), List.forall_mem_cons.mpr ⟨ln_ok ⟨trivial, ⟨⟨by decide, by decide, by decide, rfl⟩, ⟨trivial, ⟨(sym_ok (by decide)), ⟨trivial, ⟨⟨by decide, by decide, by decide, rfl⟩, ⟨trivial, ⟨trivial, ⟨⟨by decide, by decide, by decide, rfl⟩, ⟨trivial, ⟨⟨by decide, by decide, by decide, trivial⟩, (.inl rfl)⟩⟩⟩⟩⟩⟩⟩⟩⟩⟩⟩ (by decide), fun _ h => nomatch h⟩⟩) rfl rfl
theorem LC6_p (lo hi n other : Nat) (last : Int) (tl : Nat) : pScript (pExpr 5) (tt (LC6 lo hi n other).length 0 (LC6 lo hi n other)) last tl = some [.define 1 "x" (tA6 lo hi n other), .define 2 "b" (.name "a"), .ret 2 (.name "x")] := by kernel_rfl
def LD6 (lo hi n other : Nat) : List Ln := [([.blank, .name [114, 101, 116, 117, 114, 110], .blank, .blank, .sym 40, .name [97], .sym 91, .num (TL.numL lo) lo, .sym 58, .num (TL.numL hi) hi, .sym 93, .blank, .sym 42, .blank, .num (TL.numL n) n, .blank, .sym 42, .blank, .num [50] 2, .sym 41], [])]
theorem LD6_ok {lo hi n other : Nat} (hlo : lo < 10 ^ 30) (hhi : hi < 10 ^ 30) (hn : n < 10 ^ 30) (hother : other < 10 ^ 30) : TxtOk (LD6 lo hi n other) := txt_ok (fun h => nomatch h) (List.forall_mem_cons.mpr ⟨ln_ok ⟨trivial, ⟨⟨by decide, by decide, by decide, rfl⟩, ⟨trivial, ⟨trivial, ⟨(sym_ok (by decide)), ⟨⟨by decide, by decide, by decide, rfl⟩, ⟨(sym_ok (by decide)), ⟨(num_ok hlo rfl), ⟨(sym_ok (by decide)), ⟨(num_ok hhi rfl), ⟨(sym_ok (by decide)), ⟨trivial, ⟨(sym_ok (by decide)), ⟨trivial, ⟨(num_ok hn rfl), ⟨trivial, ⟨(sym_ok (by decide)), ⟨trivial, ⟨⟨by decide, by decide, by decide, by kernel_rfl, rfl⟩, ⟨(sym_ok (by decide)), (.inl rfl)⟩⟩⟩⟩⟩⟩⟩⟩⟩⟩⟩⟩⟩⟩⟩⟩⟩⟩⟩⟩ (by decide), fun _ h => nomatch h⟩) rfl rfl
theorem LD6_p (lo hi n other : Nat) (last : Int) (tl : Nat) : pScript (pExpr 5) (tt (LD6 lo hi n other).length 0 (LD6 lo hi n other)) last tl = some [.ret 1 (tA6 lo hi n other)] := by kernel_rfl
theorem sh6 (lo hi n other : Nat) : SeqAt.shaped (.list ([Row.ret 1 (tA6 lo hi n other)].map Row.data)) = true := by kernel_rfl
theorem dA6 (lo hi n other : Nat) : (tA6 lo hi n other).dep ≤ 5 := Nat.le_of_ble_eq_true rfl
theorem dB6 (lo hi n other : Nat) : (tB6 lo hi n other).dep ≤ 5 := Nat.le_of_ble_eq_true rfl
theorem pair6 {size other lo hi n : Nat} {c : List Piece} (hlo : lo < 10 ^ 30) (hhi : hi < 10 ^ 30) (hn : n < 10 ^ 30) (hother : other < 10 ^ 30) (ha : envOf (szF size other) [] "a" = some (partC "a" 0 size))
    (hA : evalT (envOf (szF size other) []) (tA6 lo hi n other) = some c) (hB : evalT (envOf (szF size other) []) (tB6 lo hi n other) = some c) : PairOk (szF size other) 5 (one6 size other lo hi n) (two6 size other lo hi n) := by
  have e1 := num_len hlo
  have e2 := num_len hhi
  have e3 := num_len hn
  have e4 := num_len hother
  refine ⟨by simp only [one6, two6, List.length_append, List.length_cons, List.length_nil]; omega, by simp only [one6, two6, List.length_append, List.length_cons, List.length_nil]; omega, LA6 lo hi n other, LB6 lo hi n other, LC6 lo hi n other, LD6 lo hi n other, _, _, _, c, ?_, ?_, ?_, ?_, ⟨LA6_ok hlo hhi hn hother, LA6_p lo hi n other, Nat.le_of_ble_eq_true rfl, ?_, hA⟩, ⟨LB6_ok hlo hhi hn hother, LB6_p lo hi n other, Nat.le_of_ble_eq_true rfl, ?_, hB⟩, ⟨LC6_ok hlo hhi hn hother, LC6_p lo hi n other, Nat.le_of_ble_eq_true rfl, ?_, run3 hA ha⟩, LD6_ok hlo hhi hn hother, LD6_p lo hi n other, sh6 lo hi n other⟩
  · simp only [one6, two6, LA6, LB6, LC6, LD6, txtOf, Ln.codes, render, Seg.codes, TL.joinL, List.map_cons, List.map_nil, List.flatten_cons, List.flatten_nil, List.append_assoc, List.cons_append, List.nil_append, List.append_nil]
  · simp only [one6, two6, LA6, LB6, LC6, LD6, txtOf, Ln.codes, render, Seg.codes, TL.joinL, List.map_cons, List.map_nil, List.flatten_cons, List.flatten_nil, List.append_assoc, List.cons_append, List.nil_append, List.append_nil]
  · simp only [one6, two6, LA6, LB6, LC6, LD6, txtOf, Ln.codes, render, Seg.codes, TL.joinL, List.map_cons, List.map_nil, List.flatten_cons, List.flatten_nil, List.append_assoc, List.cons_append, List.nil_append, List.append_nil]
  · simp only [one6, two6, LA6, LB6, LC6, LD6, txtOf, Ln.codes, render, Seg.codes, TL.joinL, List.map_cons, List.map_nil, List.flatten_cons, List.flatten_nil, List.append_assoc, List.cons_append, List.nil_append, List.append_nil]
  · exact List.forall_mem_cons.mpr ⟨dA6 lo hi n other, fun _ h => nomatch h⟩
  · exact List.forall_mem_cons.mpr ⟨dB6 lo hi n other, fun _ h => nomatch h⟩
  · exact List.forall_mem_cons.mpr ⟨dA6 lo hi n other, List.forall_mem_cons.mpr ⟨by decide, List.forall_mem_cons.mpr ⟨by decide, fun _ h => nomatch h⟩⟩⟩
def tA7 (lo hi n other : Nat) : Tree := .sum (.gain (.name "a") (-1) 2) (.silence n)
def tB7 (lo hi n other : Nat) : Tree := .sum (.gain (.name "a") (-1) 2) (.silence n)
def LA7 (lo hi n other : Nat) : List Ln := [([.name [114, 101, 116, 117, 114, 110], .blank, .name [103, 97, 105, 110], .sym 40, .name [97], .sym 44, .blank, .sym 45, .num [49] 1, .sym 47, .num [50] 2, .sym 41, .blank, .sym 43, .blank, .name [115, 105, 108, 101, 110, 99, 101], .sym 40, .num (TL.numL n) n, .sym 41], [])]
theorem LA7_ok {lo hi n other : Nat} (hlo : lo < 10 ^ 30) (hhi : hi < 10 ^ 30) (hn : n < 10 ^ 30) (hother : other < 10 ^ 30) : TxtOk (LA7 lo hi n other) := txt_ok (fun h => nomatch h) (List.forall_mem_cons.mpr ⟨ln_ok ⟨⟨by decide, by decide, by decide, rfl⟩, ⟨trivial, ⟨⟨by decide, by decide, by decide, rfl⟩, ⟨(sym_ok (by decide)), ⟨⟨by decide, by decide, by decide, rfl⟩, ⟨(sym_ok (by decide)), ⟨trivial, ⟨(sym_ok (by decide)), ⟨⟨by decide, by decide, by decide, by kernel_rfl, rfl⟩, ⟨(sym_ok (by decide)), ⟨⟨by decide, by decide, by decide, by kernel_rfl, rfl⟩, ⟨(sym_ok (by decide)), ⟨trivial, ⟨(sym_ok (by decide)), ⟨trivial, ⟨⟨by decide, by decide, by decide, rfl⟩, ⟨(sym_ok (by decide)), ⟨(num_ok hn rfl), ⟨(sym_ok (by decide)), (.inl rfl)⟩⟩⟩⟩⟩⟩⟩⟩⟩⟩⟩⟩⟩⟩⟩⟩⟩⟩⟩ (by decide), fun _ h => nomatch h⟩) rfl rfl
theorem LA7_p (lo hi n other : Nat) (last : Int) (tl : Nat) : pScript (pExpr 5) (tt (LA7 lo hi n other).length 0 (LA7 lo hi n other)) last tl = some [.ret 1 (tA7 lo hi n other)] := by kernel_rfl
def LB7 (lo hi n other : Nat) : List Ln := [([], []), ([.blank, .fin, .blank, .name [114, 101, 116, 117, 114, 110], .blank, .name [103, 97, 105, 110], .sym 40, .blank, .name [97], .blank, .sym 44, .sym 45, .num [49] 1, .blank, .sym 47, .blank, .num [48, 50] 2, .blank, .sym 41, .sym 43, .name [115, 105, 108, 101, 110, 99, 101], .sym 40, .blank, .num (TL.numL n) n, .blank, .sym 41, .blank], [35, 32, 98, 32, 59, 59]), ([], [])]
theorem LB7_ok {lo hi n other : Nat} (hlo : lo < 10 ^ 30) (hhi : hi < 10 ^ 30) (hn : n < 10 ^ 30) (hother : other < 10 ^ 30) : TxtOk (LB7 lo hi n other) := txt_ok (fun h => nomatch h) (List.forall_mem_cons.mpr ⟨ln_ok (.inl rfl) (by decide), List.forall_mem_cons.mpr ⟨ln_ok ⟨trivial, ⟨trivial, ⟨trivial, ⟨⟨by decide, by decide, by decide, rfl⟩, ⟨trivial, ⟨⟨by decide, by decide, by decide, rfl⟩, ⟨(sym_ok (by decide)), ⟨trivial, ⟨⟨by decide, by decide, by decide, rfl⟩, ⟨trivial, ⟨(sym_ok (by decide)), ⟨(sym_ok (by decide)), ⟨⟨by decide, by decide, by decide, by kernel_rfl, rfl⟩, ⟨trivial, ⟨(sym_ok (by decide)), ⟨trivial, ⟨⟨by decide, by decide, by decide, by kernel_rfl, rfl⟩, ⟨trivial, ⟨(sym_ok (by decide)), ⟨(sym_ok (by decide)), ⟨⟨by decide, by decide, by decide, rfl⟩, ⟨(sym_ok (by decide)), ⟨trivial, ⟨(num_ok hn rfl), ⟨trivial, ⟨(sym_ok (by decide)), ⟨trivial, (.inr ⟨_, rfl⟩)⟩⟩⟩⟩⟩⟩⟩⟩⟩⟩⟩⟩⟩⟩⟩⟩⟩⟩⟩⟩⟩⟩⟩⟩⟩⟩⟩ (by decide), List.forall_mem_cons.mpr ⟨ln_ok (.inl rfl) (by decide), fun _ h => nomatch h⟩⟩⟩) rfl rfl
theorem LB7_p (lo hi n other : Nat) (last : Int) (tl : Nat) : pScript (pExpr 5) (tt (LB7 lo hi n other).length 0 (LB7 lo hi n other)) last tl = some [.ret 2 (tB7 lo hi n other)] := by kernel_rfl
def LC7 (lo hi n other : Nat) : List Ln := [([.name [120], .blank, .sym 61, .blank, .name [103, 97, 105, 110], .sym 40, .name [97], .sym 44, .blank, .sym 45, .num [49] 1, .sym 47, .num [50] 2, .sym 41, .blank, .sym 43, .blank, .name [115, 105, 108, 101, 110, 99, 101], .sym 40, .num (TL.numL n) n, .sym 41], [35, 32, 121]), ([.fin, .name [98], .blank, .sym 61, .blank, .name [97], .fin, .blank, .name [114, 101, 116, 117, 114, 110], .blank, .name [120]], [])]
theorem LC7_ok {lo hi n other : Nat} (hlo : lo < 10 ^ 30) (hhi : hi < 10 ^ 30) (hn : n < 10 ^ 30) (hother : other < 10 ^ 30) : TxtOk (LC7 lo hi n other) := txt_ok (fun h => nomatch h) (List.forall_mem_cons.mpr ⟨ln_ok ⟨⟨by decide, by decide, by decide, rfl⟩, ⟨trivial, ⟨(sym_ok (by decide)), ⟨trivial, ⟨⟨by decide, by decide, by decide, rfl⟩, ⟨(sym_ok (by decide)), ⟨⟨by decide, by decide, by decide, rfl⟩, ⟨(sym_ok (by decide)), ⟨trivial, ⟨(sym_ok (by decide)), ⟨⟨by decide, by decide, by decide, by kernel_rfl, rfl⟩, ⟨(sym_ok (by decide)), ⟨⟨by decide, by decide, by decide, by kernel_rfl, rfl⟩, ⟨(sym_ok (by decide)), ⟨trivial, ⟨(sym_ok (by decide)), ⟨trivial, ⟨⟨by decide, by decide, by decide, rfl⟩, ⟨(sym_ok (by decide)), ⟨(num_ok hn rfl), ⟨(sym_ok (by decide)), (.inr ⟨_, rfl⟩)⟩⟩⟩⟩⟩⟩⟩⟩⟩⟩⟩⟩⟩⟩⟩⟩⟩⟩⟩⟩⟩ (by decide), List.forall_mem_cons.mpr ⟨ln_ok ⟨trivial, ⟨⟨by decide, by decide, by decide, rfl⟩, ⟨trivial, ⟨(sym_ok (by decide)), ⟨trivial, ⟨⟨by decide, by decide, by decide, rfl⟩, ⟨trivial, ⟨trivial, ⟨⟨by decide, by decide, by decide, rfl⟩, ⟨trivial, ⟨⟨by decide, by decide, by decide, trivial⟩, (.inl rfl)⟩⟩⟩⟩⟩⟩⟩⟩⟩⟩⟩ (by decide), fun _ h => nomatch h⟩⟩) rfl rfl
theorem LC7_p (lo hi n other : Nat) (last : Int) (tl : Nat) : pScript (pExpr 5) (tt (LC7 lo hi n other).length 0 (LC7 lo hi n other)) last tl = some [.define 1 "x" (tA7 lo hi n other), .define 2 "b" (.name "a"), .ret 2 (.name "x")] := by kernel_rfl
def LD7 (lo hi n other : Nat) : List Ln := [([.blank, .name [114, 101, 116, 117, 114, 110], .blank, .blank, .sym 40, .name [103, 97, 105, 110], .sym 40, .name [97], .sym 44, .blank, .sym 45, .num [49] 1, .sym 47, .num [50] 2, .sym 41, .blank, .sym 43, .blank, .name [115, 105, 108, 101, 110, 99, 101], .sym 40, .num (TL.numL n) n, .sym 41, .sym 41], [])]
theorem LD7_ok {lo hi n other : Nat} (hlo : lo < 10 ^ 30) (hhi : hi < 10 ^ 30) (hn : n < 10 ^ 30) (hother : other < 10 ^ 30) : TxtOk (LD7 lo hi n other) := txt_ok (fun h => nomatch h) (List.forall_mem_cons.mpr ⟨ln_ok ⟨trivial, ⟨⟨by decide, by decide, by decide, rfl⟩, ⟨trivial, ⟨trivial, ⟨(sym_ok (by decide)), ⟨⟨by decide, by decide, by decide, rfl⟩, ⟨(sym_ok (by decide)), ⟨⟨by decide, by decide, by decide, rfl⟩, ⟨(sym_ok (by decide)), ⟨trivial, ⟨(sym_ok (by decide)), ⟨⟨by decide, by decide, by decide, by kernel_rfl, rfl⟩, ⟨(sym_ok (by decide)), ⟨⟨by decide, by decide, by decide, by kernel_rfl, rfl⟩, ⟨(sym_ok (by decide)), ⟨trivial, ⟨(sym_ok (by decide)), ⟨trivial, ⟨⟨by decide, by decide, by decide, rfl⟩, ⟨(sym_ok (by decide)), ⟨(num_ok hn rfl), ⟨(sym_ok (by decide)), ⟨(sym_ok (by decide)), (.inl rfl)⟩⟩⟩⟩⟩⟩⟩⟩⟩⟩⟩⟩⟩⟩⟩⟩⟩⟩⟩⟩⟩⟩⟩ (by decide), fun _ h => nomatch h⟩) rfl rfl
theorem LD7_p (lo hi n other : Nat) (last : Int) (tl : Nat) : pScript (pExpr 5) (tt (LD7 lo hi n other).length 0 (LD7 lo hi n other)) last tl = some [.ret 1 (tA7 lo hi n other)] := by kernel_rfl
theorem sh7 (lo hi n other : Nat) : SeqAt.shaped (.list ([Row.ret 1 (tA7 lo hi n other)].map Row.data)) = true := by kernel_rfl
theorem dA7 (lo hi n other : Nat) : (tA7 lo hi n other).dep ≤ 5 := Nat.le_of_ble_eq_true rfl
theorem dB7 (lo hi n other : Nat) : (tB7 lo hi n other).dep ≤ 5 := Nat.le_of_ble_eq_true rfl
theorem pair7 {size other lo hi n : Nat} {c : List Piece} (hlo : lo < 10 ^ 30) (hhi : hi < 10 ^ 30) (hn : n < 10 ^ 30) (hother : other < 10 ^ 30) (ha : envOf (szF size other) [] "a" = some (partC "a" 0 size))
    (hA : evalT (envOf (szF size other) []) (tA7 lo hi n other) = some c) (hB : evalT (envOf (szF size other) []) (tB7 lo hi n other) = some c) : PairOk (szF size other) 5 (one7 size other lo hi n) (two7 size other lo hi n) := by
  have e1 := num_len hlo
  have e2 := num_len hhi
  have e3 := num_len hn
  have e4 := num_len hother
  refine ⟨by simp only [one7, two7, List.length_append, List.length_cons, List.length_nil]; omega, by simp only [one7, two7, List.length_append, List.length_cons, List.length_nil]; omega, LA7 lo hi n other, LB7 lo hi n other, LC7 lo hi n other, LD7 lo hi n other, _, _, _, c, ?_, ?_, ?_, ?_, ⟨LA7_ok hlo hhi hn hother, LA7_p lo hi n other, Nat.le_of_ble_eq_true rfl, ?_, hA⟩, ⟨LB7_ok hlo hhi hn hother, LB7_p lo hi n other, Nat.le_of_ble_eq_true rfl, ?_, hB⟩, ⟨LC7_ok hlo hhi hn hother, LC7_p lo hi n other, Nat.le_of_ble_eq_true rfl, ?_, run3 hA ha⟩, LD7_ok hlo hhi hn hother, LD7_p lo hi n other, sh7 lo hi n other⟩
  · simp only [one7, two7, LA7, LB7, LC7, LD7, txtOf, Ln.codes, render, Seg.codes, TL.joinL, List.map_cons, List.map_nil, List.flatten_cons, List.flatten_nil, List.append_assoc, List.cons_append, List.nil_append, List.append_nil]
  · simp only [one7, two7, LA7, LB7, LC7, LD7, txtOf, Ln.codes, render, Seg.codes, TL.joinL, List.map_cons, List.map_nil, List.flatten_cons, List.flatten_nil, List.append_assoc, List.cons_append, List.nil_append, List.append_nil]
  · simp only [one7, two7, LA7, LB7, LC7, LD7, txtOf, Ln.codes, render, Seg.codes, TL.joinL, List.map_cons, List.map_nil, List.flatten_cons, List.flatten_nil, List.append_assoc, List.cons_append, List.nil_append, List.append_nil]
  · simp only [one7, two7, LA7, LB7, LC7, LD7, txtOf, Ln.codes, render, Seg.codes, TL.joinL, List.map_cons, List.map_nil, List.flatten_cons, List.flatten_nil, List.append_assoc, List.cons_append, List.nil_append, List.append_nil]
  · exact List.forall_mem_cons.mpr ⟨dA7 lo hi n other, fun _ h => nomatch h⟩
  · exact List.forall_mem_cons.mpr ⟨dB7 lo hi n other, fun _ h => nomatch h⟩
  · exact List.forall_mem_cons.mpr ⟨dA7 lo hi n other, List.forall_mem_cons.mpr ⟨by decide, List.forall_mem_cons.mpr ⟨by decide, fun _ h => nomatch h⟩⟩⟩
def LZ (lo hi n other : Nat) : List Ln := [([.name [114, 101, 116, 117, 114, 110], .blank, .name [114, 101, 112, 108, 97, 99, 101], .sym 40, .name [97], .sym 44, .blank, .num (TL.numL lo) lo, .sym 58, .num (TL.numL hi) hi, .sym 44, .blank, .name [98], .sym 41], [])]
theorem LZ_ok {lo hi n other : Nat} (hlo : lo < 10 ^ 30) (hhi : hi < 10 ^ 30) (hn : n < 10 ^ 30) (hother : other < 10 ^ 30) : TxtOk (LZ lo hi n other) := txt_ok (fun h => nomatch h) (List.forall_mem_cons.mpr ⟨ln_ok ⟨⟨by decide, by decide, by decide, rfl⟩, ⟨trivial, ⟨⟨by decide, by decide, by decide, rfl⟩, ⟨(sym_ok (by decide)), ⟨⟨by decide, by decide, by decide, rfl⟩, ⟨(sym_ok (by decide)), ⟨trivial, ⟨(num_ok hlo rfl), ⟨(sym_ok (by decide)), ⟨(num_ok hhi rfl), ⟨(sym_ok (by decide)), ⟨trivial, ⟨⟨by decide, by decide, by decide, rfl⟩, ⟨(sym_ok (by decide)), (.inl rfl)⟩⟩⟩⟩⟩⟩⟩⟩⟩⟩⟩⟩⟩⟩ (by decide), fun _ h => nomatch h⟩) rfl rfl
theorem LZ_p (lo hi n other : Nat) (last : Int) (tl : Nat) : pScript (pExpr 5) (tt (LZ lo hi n other).length 0 (LZ lo hi n other)) last tl = some [.ret 1 (tA2 lo hi n other)] := by kernel_rfl
end FJ

set_option Elab.async false
set_option linter.all false
set_option maxRecDepth 100000
set_option maxHeartbeats 4000000
/-! the law's trees and what they make -/
namespace FJ
open PySem PySem.Spec PyProof.Rows L2
section
variable {env : Str → Option (List Piece)} {l r t : Tree} {a b c q : List Piece} {n : Int}
theorem ev_sum (h1 : evalT env l = some a) (h2 : evalT env r = some b) (h3 : mkC (both a b) = some c) : evalT env (.sum l r) = some c := by
  show (evalT env l).bind _ = _
  rw [h1]
  show (evalT env r).bind _ = _
  rw [h2]
  exact h3
theorem ev_times (h1 : evalT env t = some a) (h0 : 0 ≤ n ∧ n ≤ 10 ^ 30) (h2 : repeated a n = some q) (h3 : mkC q = some c) : evalT env (.times t n) = some c := by
  show (evalT env t).bind _ = _
  rw [h1]
  show (if 0 ≤ n ∧ n ≤ 10 ^ 30 then (repeated a n).bind mkC else none) = _
  rw [if_pos h0, h2]
  exact h3
theorem ev_str {i j : Option Int} (h1 : evalT env t = some a) (h2 : cutC a (i.getD 0) (j.getD (psLen a)) = some c) : evalT env (.stretch t i j) = some c := by
  show (evalT env t).bind _ = _
  rw [h1]
  exact h2
end
theorem name_a : NameOk "a" := by unfold NameOk; decide +kernel
theorem name_b : NameOk "b" := by unfold NameOk; decide +kernel
section
variable {size other lo hi n : Nat} (h1 : 1 ≤ size) (h2 : size ≤ 10 ^ 6) (h3 : other ≤ 10 ^ 6) (h4 : lo ≤ hi) (h5 : hi ≤ size) (h6 : n < 10 ^ 20)
include h1 h2 h3 h4 h5 h6
theorem i6 : ∀ {m : Nat}, m ≤ 10 ^ 6 → (m : Int) ≤ 10 ^ 6 := fun {m} h => by
  have e : (10 : Int) ^ 6 = 1000000 := by decide
  have e' : (10 : Nat) ^ 6 = 1000000 := by decide
  omega
omit h1 h2 h3 h4 h5 h6 in
theorem i6' {m : Nat} (h : m ≤ 10 ^ 6) : (m : Int) ≤ 10 ^ 6 := by
  have e : (10 : Int) ^ 6 = 1000000 := by decide
  have e' : (10 : Nat) ^ 6 = 1000000 := by decide
  omega
omit h1 h4 h5 h6 h3 in
theorem env_a : envOf (szF size other) [] "a" = some (partC "a" 0 size) := by
  unfold envOf
  rw [show szF size other "a" = some (size : Int) by kernel_rfl]
  exact (if_pos ⟨by omega, name_a⟩).trans (mkC_pt (pt_part (.inl rfl) (Int.le_refl 0) (i6' h2)) (by decide))
omit h1 h2 h4 h5 h6 in
theorem env_b : envOf (szF size other) [] "b" = some (partC "b" 0 other) := by
  unfold envOf
  rw [show szF size other "b" = some (other : Int) by kernel_rfl]
  exact (if_pos ⟨by omega, name_b⟩).trans (mkC_pt (pt_part (.inr rfl) (Int.le_refl 0) (i6' h3)) (by decide))
theorem ev_na : evalT (envOf (szF size other) []) (.name "a") = some (partC "a" 0 size) := env_a h2
theorem ev_nb : evalT (envOf (szF size other) []) (.name "b") = some (partC "b" 0 other) := env_b h3
theorem pB : Pt 1 (partC "b" 0 (other : Int)) := pt_part (.inr rfl) (Int.le_refl 0) (i6' h3)
theorem pA {s e : Nat} (h : e ≤ size) : Pt 1 (partC "a" (s : Int) (e : Int)) := pt_part (.inl rfl) (by omega) (i6' (Nat.le_trans h h2))
theorem pA0 {e : Nat} (h : e ≤ size) : Pt 1 (partC "a" 0 (e : Int)) := pt_part (.inl rfl) (by omega) (i6' (Nat.le_trans h h2))
theorem ev_cut {s e : Nat} {i j : Option Int} (hi : i.getD 0 = (s : Int)) (hj : j.getD (size : Int) = (e : Int)) (hse : s ≤ e) (he : e ≤ size) : evalT (envOf (szF size other) []) (.stretch (.name "a") i j) = some (partC "a" s e) := by
  refine ev_str (ev_na h1 h2 h3 h4 h5 h6) ?_
  rw [part_len (by omega), hi, hj]
  exact cut_part (.inl rfl) (by omega) (by omega) (by omega) (i6' h2)
theorem ev_ab {hh : Nat} (hl : lo ≤ hh) (hh' : hh ≤ size) : evalT (envOf (szF size other) []) (.sum (.sum (.stretch (.name "a") none (some lo)) (.name "b")) (.stretch (.name "a") (some hh) none)) = some (both (both (partC "a" 0 lo) (partC "b" 0 other)) (partC "a" hh size)) := by
  have x1 := ev_cut h1 h2 h3 h4 h5 h6 (s := 0) (e := lo) (i := none) (j := some lo) rfl rfl (by omega) (by omega)
  have x2 := ev_cut h1 h2 h3 h4 h5 h6 (s := hh) (e := size) (i := some hh) (j := none) rfl rfl (by omega) (by omega)
  have b1 := pt_both (pA0 h1 h2 h3 h4 h5 h6 (e := lo) (by omega)) (pB h1 h2 h3 h4 h5 h6)
  exact ev_sum (ev_sum x1 (ev_nb h1 h2 h3 h4 h5 h6) (mkC_pt b1 (by decide))) x2 (mkC_pt (pt_both b1 (pA h1 h2 h3 h4 h5 h6 (s := hh) (Nat.le_refl _))) (by decide))
theorem ev_repl {s e : Nat} (hse : s ≤ e) (he : e ≤ size) : evalT (envOf (szF size other) []) (.replace (.name "a") s e (.name "b")) = some (both (both (partC "a" 0 s) (partC "b" 0 other)) (partC "a" e size)) := by
  show (evalT _ (.name "a")).bind _ = _
  rw [ev_na h1 h2 h3 h4 h5 h6]
  show (evalT _ (.name "b")).bind _ = _
  rw [ev_nb h1 h2 h3 h4 h5 h6]
  exact repl_part (.inl rfl) (by omega) (by omega) (by omega) (i6' h2) (pB h1 h2 h3 h4 h5 h6)
theorem ev1 : evalT (envOf (szF size other) []) (tA1 lo hi n other) = some (both (both (partC "a" 0 lo) (partC "b" 0 other)) (partC "a" lo size)) := by
  show (evalT _ (.name "a")).bind _ = _
  rw [ev_na h1 h2 h3 h4 h5 h6]
  show (evalT _ (.name "b")).bind _ = _
  rw [ev_nb h1 h2 h3 h4 h5 h6]
  exact repl_part (.inl rfl) (by omega) (by omega) (by omega) (i6' h2) (pB h1 h2 h3 h4 h5 h6)
theorem ev3 : evalT (envOf (szF size other) []) (tA3 lo hi n other) = some (both (partC "a" 0 lo) (partC "a" hi size)) := by
  show (evalT _ (.name "a")).bind _ = _
  rw [ev_na h1 h2 h3 h4 h5 h6]
  have := repl_part (x := "a") (n := size) (s := lo) (e := hi) (os := []) (.inl rfl) (by omega) (by omega) (by omega) (i6' h2) ⟨by decide, fun p hp => nomatch hp⟩
  rw [both_nil] at this
  exact this
theorem ev3b : evalT (envOf (szF size other) []) (tB3 lo hi n other) = some (both (partC "a" 0 lo) (partC "a" hi size)) := by
  have x1 := ev_cut h1 h2 h3 h4 h5 h6 (s := 0) (e := lo) (i := none) (j := some lo) rfl rfl (by omega) (by omega)
  have x2 := ev_cut h1 h2 h3 h4 h5 h6 (s := hi) (e := size) (i := some hi) (j := none) rfl rfl (by omega) (by omega)
  exact ev_sum x1 x2 (mkC_pt (pt_both (pA0 h1 h2 h3 h4 h5 h6 (e := lo) (by omega)) (pA h1 h2 h3 h4 h5 h6 (s := hi) (Nat.le_refl _))) (by decide))
theorem A_one : partC "a" 0 (size : Int) = [.fl (.part "a" 0 size [])] := by
  unfold partC; rw [if_pos (by omega)]
theorem ev5 : evalT (envOf (szF size other) []) (tA5 lo hi n other) = some (both (partC "a" 0 size) (partC "b" 0 other)) := by
  have x1 := ev_cut h1 h2 h3 h4 h5 h6 (s := 0) (e := size) (i := none) (j := none) rfl rfl (by omega) (by omega)
  exact ev_sum x1 (ev_nb h1 h2 h3 h4 h5 h6) (mkC_pt (pt_both (pA0 h1 h2 h3 h4 h5 h6 (Nat.le_refl _)) (pB h1 h2 h3 h4 h5 h6)) (by decide))
theorem ev5b : evalT (envOf (szF size other) []) (tB5 lo hi n other) = some (both (partC "a" 0 size) (partC "b" 0 other)) := by
  have pa := pA0 h1 h2 h3 h4 h5 h6 (e := size) (Nat.le_refl _)
  have x1 : evalT (envOf (szF size other) []) (.times (.name "a") 1) = some (partC "a" 0 size) := by
    refine ev_times (ev_na h1 h2 h3 h4 h5 h6) (by decide) (q := partC "a" 0 size) ?_ (mkC_pt pa (by decide))
    rw [A_one h1 h2 h3 h4 h5 h6]; rfl
  have x2 : evalT (envOf (szF size other) []) (.stretch (.name "b") (some 0) (some other)) = some (partC "b" 0 other) := by
    refine ev_str (ev_nb h1 h2 h3 h4 h5 h6) ?_
    exact (show cutC (partC "b" 0 (other : Int)) 0 (other : Int) = _ from cut_part (.inr rfl) (Int.le_refl 0) (by omega) (Int.le_refl _) (i6' h3))
  exact ev_sum x1 x2 (mkC_pt (pt_both pa (pB h1 h2 h3 h4 h5 h6)) (by decide))
/-- n copies of a part: none, itself, a repeat -/
def Rq (x : Str) (lo hi : Int) (m : Int) (q : List Piece) : Prop := q = [] ∨ (lo < hi ∧ q = [.fl (.part x lo hi [])]) ∨ (lo < hi ∧ q = [.rep m [.part x lo hi []]])
omit h1 h2 h3 h4 h5 h6 in
theorem rep_part (x : Str) (lo hi m : Int) : ∃ q, repeated (partC x lo hi) m = some q ∧ Rq x lo hi m q := by
  unfold partC repeated
  by_cases hlt : lo < hi
  · rw [if_pos hlt]
    by_cases h0 : m = 0
    · exact ⟨[], by rw [if_pos (.inl h0)], .inl rfl⟩
    · rw [if_neg (by simp [h0])]
      by_cases h1 : m = 1
      · exact ⟨_, by rw [if_pos h1], .inr (.inl ⟨hlt, rfl⟩)⟩
      · exact ⟨_, by rw [if_neg h1]; rfl, .inr (.inr ⟨hlt, rfl⟩)⟩
  · rw [if_neg hlt]
    exact ⟨[], by rw [if_pos (.inr rfl)], .inl rfl⟩
omit h1 h2 h3 h4 h5 h6 in
theorem gp_fl {x : Str} {lo hi : Int} {gs : List (Int × Int)} (hx : AB x) (h0 : 0 ≤ lo) (h1 : lo ≤ hi) (h2 : hi ≤ 10 ^ 6) (hg : gs.length ≤ 1) : GP (.fl (.part x lo hi gs)) := ⟨hx, h0, h1, h2, hg⟩
omit h1 h2 h3 h4 h5 h6 in
theorem gp_rep {x : Str} {lo hi m : Int} (hx : AB x) (h0 : 0 ≤ lo) (h1 : lo ≤ hi) (h2 : hi ≤ 10 ^ 6) (m0 : 0 ≤ m) (m1 : m ≤ 10 ^ 21) : GP (.rep m [.part x lo hi []]) := ⟨m0, m1, _, rfl, hx, h0, h1, h2, by show 0 ≤ 1; decide⟩
omit h1 h2 h3 h4 h5 h6 in
theorem rep_len {x : Str} {lo hi m : Int} (h0 : 0 ≤ lo) (h1 : lo ≤ hi) (h2 : hi ≤ 10 ^ 6) (m0 : 0 ≤ m) (m1 : m ≤ 10 ^ 21) : (Piece.rep m [.part x lo hi []]).len ≤ 10 ^ 27 := by
  show m * fsLen [Flat.part x lo hi []] ≤ _
  rw [one_len]
  show m * (hi - lo) ≤ _
  have : m * (hi - lo) ≤ 10 ^ 21 * 10 ^ 6 := Int.mul_le_mul m1 (by omega) (by omega) (by decide)
  exact Int.le_trans this (by decide)
omit h1 h2 h3 h4 h5 h6 in
theorem gl_one {p : Piece} (h : GP p) (hl : p.len ≤ 10 ^ 27) : GL [p] := by
  refine ⟨by show 1 ≤ 4; decide, fun q hq => by rw [List.mem_singleton.mp hq]; exact h, ?_⟩
  show p.len + 0 ≤ _
  have : (10 : Int) ^ 27 ≤ 10 ^ 40 := by decide
  omega
omit h1 h2 h3 h4 h5 h6 in
theorem gl_two {p p' : Piece} (h : GP p) (h' : GP p') (hl : p.len ≤ 10 ^ 27) (hl' : p'.len ≤ 10 ^ 27) : GL [p, p'] := by
  refine ⟨by show 2 ≤ 4; decide, fun q hq => ?_, ?_⟩
  · rcases List.mem_cons.mp hq with rfl | hq
    · exact h
    · rw [List.mem_singleton.mp hq]; exact h'
  · show p.len + (p'.len + 0) ≤ _
    have : (10 : Int) ^ 27 + 10 ^ 27 ≤ 10 ^ 40 := by decide
    omega
omit h1 h2 h3 h4 h5 h6 in
theorem gl_nil : GL [] := ⟨by decide, (fun _ h => nomatch h), by decide⟩
omit h1 h2 h3 h4 h5 h6 in
theorem rq_gl {x : Str} {lo hi m : Int} {q : List Piece} (h : Rq x lo hi m q) (hx : AB x) (h0 : 0 ≤ lo) (h2 : hi ≤ 10 ^ 6) (m0 : 0 ≤ m) (m1 : m ≤ 10 ^ 21) : GL q := by
  have e6 : (10 : Int) ^ 6 ≤ 10 ^ 27 := by decide
  rcases h with rfl | ⟨hl, rfl⟩ | ⟨hl, rfl⟩
  · exact gl_nil
  · exact gl_one (gp_fl hx h0 (by omega) h2 (by decide)) (by show hi - lo ≤ _; omega)
  · exact gl_one (gp_rep hx h0 (by omega) h2 m0 m1) (rep_len h0 (by omega) h2 m0 m1)
theorem n21 : (0 : Int) ≤ n ∧ (n : Int) ≤ 10 ^ 20 := by
  have e : (10 : Int) ^ 20 = 100000000000000000000 := by decide
  have e' : (10 : Nat) ^ 20 = 100000000000000000000 := by decide
  omega
theorem ev4 : ∃ c, evalT (envOf (szF size other) []) (tA4 lo hi n other) = some c := by
  obtain ⟨n0, n1⟩ := n21 h1 h2 h3 h4 h5 h6
  have e2 : (10 : Int) ^ 20 ≤ 10 ^ 21 := by decide
  have e3 : (10 : Int) ^ 20 ≤ 10 ^ 30 := by decide
  have e6 : (10 : Int) ^ 6 ≤ 10 ^ 27 := by decide
  have s6 := i6' h2
  have o6 := i6' h3
  obtain ⟨q, hq, rq⟩ := rep_part "b" 0 other n
  have gq := rq_gl rq (.inr rfl) (Int.le_refl 0) o6 n0 (by omega)
  have x2 := ev_times (ev_nb h1 h2 h3 h4 h5 h6) ⟨n0, by omega⟩ hq (mkC_gl gq)
  have ga : GP (.fl (.part "a" 0 (size : Int) [])) := gp_fl (.inl rfl) (Int.le_refl 0) (by omega) s6 (by decide)
  have la : (Piece.fl (.part "a" 0 (size : Int) [])).len ≤ 10 ^ 27 := by show (size : Int) - 0 ≤ _; omega
  have x1 := ev_na h1 h2 h3 h4 h5 h6
  rcases rq with rfl | ⟨hl, rfl⟩ | ⟨hl, rfl⟩
  · exact ⟨_, ev_sum x1 x2 (by rw [both_nil]; exact mkC_pt (pA0 h1 h2 h3 h4 h5 h6 (Nat.le_refl _)) (by decide))⟩
  · have pb : Pt 1 [Piece.fl (.part "b" 0 (other : Int) [])] := by
      have := pB h1 h2 h3 h4 h5 h6
      unfold partC at this
      rw [if_pos hl] at this
      exact this
    exact ⟨_, ev_sum x1 x2 (mkC_pt (pt_both (pA0 h1 h2 h3 h4 h5 h6 (Nat.le_refl _)) pb) (by decide))⟩
  · refine ⟨[.fl (.part "a" 0 size []), .rep n [.part "b" 0 other []]], ev_sum x1 x2 ?_⟩
    rw [A_one h1 h2 h3 h4 h5 h6]
    exact mkC_gl (gl_two ga (gp_rep (.inr rfl) (Int.le_refl 0) (by omega) o6 n0 (by omega)) la (rep_len (Int.le_refl 0) (by omega) o6 n0 (by omega)))
theorem ev6 : ∃ c, evalT (envOf (szF size other) []) (tA6 lo hi n other) = some c := by
  obtain ⟨n0, n1⟩ := n21 h1 h2 h3 h4 h5 h6
  have e2 : (10 : Int) ^ 20 * 2 ≤ 10 ^ 21 := by decide
  have e3 : (10 : Int) ^ 20 ≤ 10 ^ 30 := by decide
  have h6i : (hi : Int) ≤ 10 ^ 6 := i6' (Nat.le_trans h5 h2)
  have l0 : (0 : Int) ≤ lo := by omega
  have x0 := ev_cut h1 h2 h3 h4 h5 h6 (s := lo) (e := hi) (i := some lo) (j := some hi) rfl rfl h4 h5
  obtain ⟨q, hq, rq⟩ := rep_part "a" lo hi n
  have gq := rq_gl rq (.inl rfl) l0 h6i n0 (by omega)
  have x1 := ev_times x0 ⟨n0, by omega⟩ hq (mkC_gl gq)
  have two : (0 : Int) ≤ 2 ∧ (2 : Int) ≤ 10 ^ 30 := by decide
  rcases rq with rfl | ⟨hl, rfl⟩ | ⟨hl, rfl⟩
  · exact ⟨[], ev_times x1 two rfl (mkC_gl gl_nil)⟩
  · exact ⟨[.rep 2 [.part "a" lo hi []]], ev_times x1 two rfl (mkC_gl (gl_one (gp_rep (.inl rfl) l0 (by omega) h6i (by decide) (by decide)) (rep_len l0 (by omega) h6i (by decide) (by decide))))⟩
  · exact ⟨[.rep (n * 2) [.part "a" lo hi []]], ev_times x1 two rfl (mkC_gl (gl_one (gp_rep (.inl rfl) l0 (by omega) h6i (by omega) (by omega)) (rep_len l0 (by omega) h6i (by omega) (by omega))))⟩
theorem ev7 : ∃ c, evalT (envOf (szF size other) []) (tA7 lo hi n other) = some c := by
  obtain ⟨n0, n1⟩ := n21 h1 h2 h3 h4 h5 h6
  have e2 : (10 : Int) ^ 20 ≤ 10 ^ 21 := by decide
  have e3 : (10 : Int) ^ 20 ≤ 10 ^ 30 := by decide
  have e4 : (10 : Int) ^ 20 ≤ 10 ^ 27 := by decide
  have e6 : (10 : Int) ^ 6 ≤ 10 ^ 27 := by decide
  have s6 := i6' h2
  have ga : GP (.fl (.part "a" 0 (size : Int) [(-1, 2)])) := gp_fl (.inl rfl) (Int.le_refl 0) (by omega) s6 (by show 1 ≤ 1; decide)
  have la : (Piece.fl (.part "a" 0 (size : Int) [(-1, 2)])).len ≤ 10 ^ 27 := by show (size : Int) - 0 ≤ _; omega
  have x1 : evalT (envOf (szF size other) []) (.gain (.name "a") (-1) 2) = some [.fl (.part "a" 0 size [(-1, 2)])] := by
    show (evalT _ (.name "a")).bind _ = _
    rw [ev_na h1 h2 h3 h4 h5 h6, A_one h1 h2 h3 h4 h5 h6]
    show (if -1000 ≤ (-1 : Int) ∧ (-1 : Int) ≤ 1000 ∧ 1 ≤ (2 : Int) ∧ (2 : Int) ≤ 1000 then _ else none) = _
    rw [if_pos (by decide)]
    exact mkC_gl (gl_one ga la)
  have x2 : ∀ q, silC (n : Int) = q → GL q → evalT (envOf (szF size other) []) (.silence n) = some q := fun q hq g => by
    show (if 0 ≤ (n : Int) ∧ (n : Int) ≤ 10 ^ 30 then mkC (silC n) else none) = _
    rw [if_pos ⟨n0, by omega⟩, hq]
    exact mkC_gl g
  by_cases hn : (n : Int) > 0
  · have gs : GP (.fl (.sil (n : Int))) := ⟨n0, by omega⟩
    have ls : (Piece.fl (.sil (n : Int))).len ≤ 10 ^ 27 := by show (n : Int) ≤ _; omega
    exact ⟨[.fl (.part "a" 0 size [(-1, 2)]), .fl (.sil n)], ev_sum x1 (x2 [.fl (.sil n)] (by unfold silC; rw [if_pos hn]) (gl_one gs ls)) (mkC_gl (gl_two ga gs la ls))⟩
  · exact ⟨_, ev_sum x1 (x2 [] (by unfold silC; rw [if_neg hn]) gl_nil) (mkC_gl (gl_one ga la))⟩
end
theorem sevens : Sevens 5 := by
  intro size other lo hi n h1 h2 h3 h4 h5 h6
  have b6 : (10 : Nat) ^ 6 < 10 ^ 30 := by decide
  have b20 : (10 : Nat) ^ 20 < 10 ^ 30 := by decide
  have hhi : hi < 10 ^ 30 := Nat.lt_of_le_of_lt (Nat.le_trans h5 h2) b6
  have hlo : lo < 10 ^ 30 := Nat.lt_of_le_of_lt h4 hhi
  have hn : n < 10 ^ 30 := Nat.lt_trans h6 b20
  have hot : other < 10 ^ 30 := Nat.lt_of_le_of_lt h3 b6
  have ha := env_a (other := other) h2
  obtain ⟨c4, v4⟩ := ev4 h1 h2 h3 h4 h5 h6
  obtain ⟨c6, v6⟩ := ev6 h1 h2 h3 h4 h5 h6
  obtain ⟨c7, v7⟩ := ev7 h1 h2 h3 h4 h5 h6
  have p0 := pA0 h1 h2 h3 h4 h5 h6 (e := lo) (by omega)
  have pb := pB h1 h2 h3 h4 h5 h6
  have p2 := pA h1 h2 h3 h4 h5 h6 (s := hi) (Nat.le_refl _)
  refine ⟨pair1 hlo hhi hn hot ha (ev1 h1 h2 h3 h4 h5 h6) (ev_ab h1 h2 h3 h4 h5 h6 (Nat.le_refl _) (by omega)), pair2 hlo hhi hn hot ha (ev_repl h1 h2 h3 h4 h5 h6 h4 h5) (ev_ab h1 h2 h3 h4 h5 h6 h4 h5), pair3 hlo hhi hn hot ha (ev3 h1 h2 h3 h4 h5 h6) (ev3b h1 h2 h3 h4 h5 h6),
    pair4 hlo hhi hn hot ha v4 v4, pair5 hlo hhi hn hot ha (ev5 h1 h2 h3 h4 h5 h6) (ev5b h1 h2 h3 h4 h5 h6), pair6 hlo hhi hn hot ha v6 v6, pair7 hlo hhi hn hot ha v7 v7, ?_⟩
  refine ⟨LZ lo hi n other, [.ret 1 (tA2 lo hi n other)], ?_, ⟨LZ_ok hlo hhi hn hot, LZ_p lo hi n other, Nat.le_of_ble_eq_true rfl, List.forall_mem_cons.mpr ⟨dA2 lo hi n other, fun _ h => nomatch h⟩, ev_repl h1 h2 h3 h4 h5 h6 h4 h5⟩, pt_wf p0 (by decide), pt_wf pb (by decide), pt_wf p2 (by decide), pt_wf (pt_both p0 pb) (by decide), pt_wf (pt_both (pt_both p0 pb) p2) (by decide)⟩
  simp only [lastT, LZ, txtOf, Ln.codes, render, Seg.codes, TL.joinL, List.map_cons, List.map_nil, List.flatten_cons, List.flatten_nil, List.append_assoc, List.cons_append, List.nil_append, List.append_nil]
end FJ

set_option Elab.async false
set_option linter.all false
set_option maxRecDepth 100000
set_option maxHeartbeats 4000000
/-! all of it put together -/
namespace FJ
open PySem PySem.Spec PyProof.Rows L2
theorem gi_int {mg : Str → Option Value} {x : Str} {i : Int} (h : ∃ t, mg x = some (.int i t)) : GI mg x (.int i) := by
  obtain ⟨t, h⟩ := h
  exact ⟨_, h, t, rfl⟩
theorem gi_str {mg : Str → Option Value} {x z : Str} (h : ∃ t, mg x = some (.str z t)) : GI mg x (.str z) := by
  obtain ⟨t, h⟩ := h
  exact ⟨_, h, t, rfl⟩
theorem ex_at {K : PySem.W.Frag} (cx : exB K = true) (i : Nat) {e : PySem.W.Frag → Bool} (h : exs[i]? = some e) : e K = true := List.all_eq_true.mp cx e (List.mem_of_getElem? h)
theorem fn_vac {P : Program} {w : World} {K : PySem.W.Frag} {mg : Str → Option Value} {base : Heap} {CX : CXT} {k : Nat} {f : Addr} {fd : FuncData} {ps : List Str} {sp : Sp} (h : ∀ vs H Q E, sp vs H Q E → False) : FnOk P w K mg base CX k f fd ps sp :=
  ⟨fun vs H Q E q => (h vs H Q E q).elim, fun A outer s H args us vs Q E _ _ _ _ q => (h vs H Q E q).elim⟩
def IsFl (p : Piece) : Prop := ∃ g, p = .fl g
theorem psCnt_fl (fs : List Flat) : psCnt (fs.map Piece.fl) = fs.length := by
  induction fs with
  | nil => rfl
  | cons f fs ih =>
    show (1 : Int) + psCnt (fs.map Piece.fl) = _
    rw [ih, List.length_cons]; push_cast; omega
theorem dep_pos (t : Tree) : 1 ≤ t.dep := by cases t <;> unfold Tree.dep <;> omega
theorem cread_reads {K : PySem.W.Frag} {C : Addr} {mc : Value} (h : PySem.W.readsIn K C mc = true) : ClX.CRead K C mc := by
  refine ⟨h, ?_⟩
  unfold PySem.W.readsIn at h
  simp only [Bool.and_eq_true] at h
  obtain ⟨⟨⟨⟨_, h1⟩, h2⟩, _⟩, _⟩ := h
  show (PySem.W.typeIn K (.ref C)).bind _ = _
  rw [beq_iff_eq.mp h1]
  exact beq_iff_eq.mp h2
theorem smet_of {K : PySem.W.Frag} {C : Addr} {m : Str} (h : He5.wrapB K C "staticmethod" "staticmethod.__get__" m = true) (hk : PySem.W.keepIn K (.ref (He5.wf K C "staticmethod" m)) = true) : SMet K C (.type "type") m (He.ma K C m) (He5.wf K C "staticmethod" m) := by
  obtain ⟨h1, h2⟩ := He5.wrapB_ok h
  exact ⟨h1, h2, hk⟩
theorem getA_rec {K : PySem.W.Frag} (h : (match PySem.W.recIn K (He.ma K (kC K) "length") "property" with
    | some (.ref _ :: _) => true
    | _ => false) = true) : ∃ rest, PySem.W.recIn K (He.ma K (He.ga K "Clip") "length") "property" = some (.ref (getA K) :: rest) := by
  unfold getA
  unfold kC at h
  split at h
  · rename_i g r e
    exact ⟨r, by rw [e]⟩
  · cases h
theorem isRef_ok {o : Option (Option Value)} (h : isRef o = true) : ∃ rc, o = some rc ∧ (rc = none ∨ ∃ g : Addr, rc = some (.ref g)) := by
  unfold isRef at h
  split at h
  · exact ⟨none, rfl, .inl rfl⟩
  · exact ⟨_, rfl, .inr ⟨_, rfl⟩⟩
  · cases h
theorem kit_self {K : PySem.W.Frag} {v : Value} : PySem.W.kitOne K v v = some true := by
  unfold PySem.W.kitOne
  rw [if_pos (beq_self_eq_true _)]
theorem tupAt_ok {K : PySem.W.Frag} {a : Addr} (h : tupAtB K a = true) (H : Hp) : SqT K H a [] := by
  unfold tupAtB at h
  split at h
  · rename_i c od its n sl q
    obtain ⟨h1, h2⟩ := Bool.and_eq_true_iff.mp h
    have e := Array.isEmpty_iff.mp h2
    subst e
    exact .inr ⟨_, #[], n, q, congrArg Value.type (of_decide_eq_true h1), rfl, by decide, .nil⟩
  · cases h
/-! ### the text's length stays -/
theorem tl_skip {S S' : PS} (h : S.skip = some S') : S'.tl = S.tl := by
  unfold PS.skip at h
  split at h
  · cases h
  · cases h; rfl
  · split at h
    · cases h
    · cases h; rfl
theorem tl_expect {S S' : PS} {w : Str} (h : S.expect w = some S') : S'.tl = S.tl := by
  unfold PS.expect at h
  split at h
  · exact tl_skip h
  · cases h
theorem tl_enter {S S' : PS} {w : Str} (h : S.enter w = some S') : S'.tl = S.tl := by
  unfold PS.enter at h
  split at h
  · cases h
  · obtain ⟨S1, h1, h2⟩ := Option.bind_eq_some_iff.mp h
    cases h2
    exact (tl_expect h1 : S1.tl = S.tl)
theorem tl_leave {S S' : PS} {w : Str} (h : S.leave w = some S') : S'.tl = S.tl := by
  unfold PS.leave at h
  obtain ⟨S1, h1, h2⟩ := Option.bind_eq_some_iff.mp h
  cases h2
  exact (tl_expect h1 : S1.tl = S.tl)
theorem tl_num {S : PS} {r : Int × PS} (h : S.number = some r) : r.2.tl = S.tl := by
  unfold PS.number at h
  split at h
  · obtain ⟨S1, h1, h2⟩ := Option.bind_eq_some_iff.mp h
    cases h2
    exact tl_skip h1
  · cases h
theorem tl_signed {S : PS} {r : Int × PS} (h : S.signed = some r) : r.2.tl = S.tl := by
  unfold PS.signed at h
  split at h
  · obtain ⟨S1, h1, h2⟩ := Option.bind_eq_some_iff.mp h
    obtain ⟨q, h3, h4⟩ := Option.bind_eq_some_iff.mp h2
    cases h4
    exact (tl_num h3).trans (tl_skip h1)
  · exact tl_num h
theorem tl_opt {S : PS} {r : Option Int × PS} (h : S.optNum = some r) : r.2.tl = S.tl := by
  unfold PS.optNum at h
  split at h
  · obtain ⟨q, h3, h4⟩ := Option.bind_eq_some_iff.mp h
    cases h4
    exact tl_num h3
  · cases h; rfl
/-- a reader that keeps it -/
def KT (f : PF) : Prop := ∀ S r, f S = some r → r.2.tl = S.tl
theorem tl_sumLoop {f : PF} (hf : KT f) : ∀ n S a r, sumLoop f n S a = some r → r.2.tl = S.tl
  | 0, _, _, _, h => nomatch h
  | n + 1, S, a, r, h => by
    unfold sumLoop at h
    split at h
    · obtain ⟨S1, h1, h2⟩ := Option.bind_eq_some_iff.mp h
      obtain ⟨q, h3, h4⟩ := Option.bind_eq_some_iff.mp h2
      exact (tl_sumLoop hf n _ _ _ h4).trans ((hf _ _ h3).trans (tl_skip h1))
    · cases h; rfl
theorem tl_timesLoop : ∀ n S a r, timesLoop n S a = some r → r.2.tl = S.tl
  | 0, _, _, _, h => nomatch h
  | n + 1, S, a, r, h => by
    unfold timesLoop at h
    split at h
    · obtain ⟨S1, h1, h2⟩ := Option.bind_eq_some_iff.mp h
      obtain ⟨q, h3, h4⟩ := Option.bind_eq_some_iff.mp h2
      exact (tl_timesLoop n _ _ _ h4).trans ((tl_num h3).trans (tl_skip h1))
    · cases h; rfl
theorem tl_stretchLoop : ∀ n S a r, stretchLoop n S a = some r → r.2.tl = S.tl
  | 0, _, _, _, h => nomatch h
  | n + 1, S, a, r, h => by
    unfold stretchLoop at h
    split at h
    · obtain ⟨S1, h1, h2⟩ := Option.bind_eq_some_iff.mp h
      obtain ⟨q, h3, h4⟩ := Option.bind_eq_some_iff.mp h2
      obtain ⟨S3, h5, h6⟩ := Option.bind_eq_some_iff.mp h4
      obtain ⟨q2, h7, h8⟩ := Option.bind_eq_some_iff.mp h6
      obtain ⟨S5, h9, h10⟩ := Option.bind_eq_some_iff.mp h8
      exact (tl_stretchLoop n _ _ _ h10).trans ((tl_leave h9).trans ((tl_opt h7).trans ((tl_expect h5).trans ((tl_opt h3).trans (tl_enter h1)))))
    · cases h; rfl
theorem tl_call {ex : PF} (hf : KT ex) (w : Str) (S : PS) (r : Tree × PS) (h : pCall ex w S = some r) : r.2.tl = S.tl := by
  unfold pCall at h
  split at h
  · obtain ⟨q, h1, h2⟩ := Option.bind_eq_some_iff.mp h
    cases h2; exact tl_num h1
  · split at h
    · cases h
    · obtain ⟨a, h1, h⟩ := Option.bind_eq_some_iff.mp h
      obtain ⟨S2, h2, h⟩ := Option.bind_eq_some_iff.mp h
      have e2 := (tl_expect h2).trans (hf _ _ h1)
      split at h
      · obtain ⟨v, h3, h⟩ := Option.bind_eq_some_iff.mp h
        obtain ⟨S4, h4, h⟩ := Option.bind_eq_some_iff.mp h
        obtain ⟨n, h5, h⟩ := Option.bind_eq_some_iff.mp h
        cases h
        exact (tl_num h5).trans ((tl_expect h4).trans ((tl_signed h3).trans e2))
      · split at h
        · obtain ⟨v, h3, h⟩ := Option.bind_eq_some_iff.mp h
          obtain ⟨S4, h4, h⟩ := Option.bind_eq_some_iff.mp h
          obtain ⟨n, h5, h⟩ := Option.bind_eq_some_iff.mp h
          cases h
          exact (hf _ _ h5).trans ((tl_expect h4).trans ((tl_num h3).trans e2))
        · obtain ⟨v, h3, h⟩ := Option.bind_eq_some_iff.mp h
          obtain ⟨S4, h4, h⟩ := Option.bind_eq_some_iff.mp h
          obtain ⟨n, h5, h⟩ := Option.bind_eq_some_iff.mp h
          have e5 := (tl_num h5).trans ((tl_expect h4).trans ((tl_num h3).trans e2))
          split at h
          · cases h; exact e5
          · obtain ⟨S6, h6, h⟩ := Option.bind_eq_some_iff.mp h
            obtain ⟨b, h7, h⟩ := Option.bind_eq_some_iff.mp h
            cases h
            exact (hf _ _ h7).trans ((tl_expect h6).trans e5)
theorem tl_atom {ex : PF} (hf : KT ex) : KT (pAtom ex) := by
  intro S r h
  unfold pAtom at h
  split at h
  · obtain ⟨S1, h1, h⟩ := Option.bind_eq_some_iff.mp h
    obtain ⟨q, h2, h⟩ := Option.bind_eq_some_iff.mp h
    obtain ⟨S3, h3, h⟩ := Option.bind_eq_some_iff.mp h
    cases h
    exact (tl_leave h3).trans ((hf _ _ h2).trans (tl_enter h1))
  · split at h
    · split at h
      · cases h
      · obtain ⟨S1, h1, h⟩ := Option.bind_eq_some_iff.mp h
        split at h
        · obtain ⟨S2, h2, h⟩ := Option.bind_eq_some_iff.mp h
          obtain ⟨q, h3, h⟩ := Option.bind_eq_some_iff.mp h
          obtain ⟨S4, h4, h⟩ := Option.bind_eq_some_iff.mp h
          cases h
          exact (tl_leave h4).trans ((tl_call hf _ _ _ h3).trans ((tl_enter h2).trans (tl_skip h1)))
        · cases h; exact tl_skip h1
    · cases h
theorem tl_bind {f : PF} {g : PS → Tree → Option (Tree × PS)} (hf : KT f) (hg : ∀ S a r, g S a = some r → r.2.tl = S.tl) : KT fun S => (f S).bind fun r => g r.2 r.1 := by
  intro S r h
  obtain ⟨q, h1, h2⟩ := Option.bind_eq_some_iff.mp h
  exact (hg _ _ _ h2).trans (hf _ _ h1)
theorem tl_pExpr : ∀ n, KT (pExpr n)
  | 0 => fun _ _ h => nomatch h
  | n + 1 => by
    have hp : KT (pProduct (pExpr n)) := tl_bind (tl_bind (tl_atom (tl_pExpr n)) (tl_stretchLoop 210)) (tl_timesLoop 210)
    exact tl_bind hp (tl_sumLoop hp 210)
theorem tl_expr (n : Nat) {S : PS} {t : Tree} {S' : PS} (h : pExpr n S = some (t, S')) : S'.tl = S.tl := tl_pExpr n S _ h

theorem put {P : Program} {w : World} {K : PySem.W.Frag} {h : Heap} {mg : Str → Option Value} {base : Heap} (X : K.In h) (G : h.Ns mainGlobals mg) (c : He5.SaysA fa fn K) (cx : exB K = true) {fd_law : FuncData} (F_law : FnP K "law" "law" s_law (He.ga K "law") fd_law) :
    FnOk P w K mg base CX0 34 (He.ga K "law") fd_law ["_law_script"] (spLaw K) := by
  obtain ⟨fd_is_integer, F_is_integer⟩ : ∃ fd, FnP K "is_integer" "is_integer" s_is_integer (He.ga K "is_integer") fd := c.def_ 0 (d := d_is_integer) rfl
  have b_is_integer : Binds K fd_is_integer ["value"] [] := FunD.bindsN F_is_integer fun _ _ _ _ _ _ us hl => match us, hl with | [_], _ => rfl
  obtain ⟨fd_is_between, F_is_between⟩ : ∃ fd, FnP K "is_between" "is_between" s_is_between (He.ga K "is_between") fd := c.def_ 1 (d := d_is_between) rfl
  have b_is_between : Binds K fd_is_between ["value", "least", "most"] [] := FunD.bindsN F_is_between fun _ _ _ _ _ _ us hl => match us, hl with | [_, _, _], _ => rfl
  obtain ⟨fd_is_name, F_is_name⟩ : ∃ fd, FnP K "is_name" "is_name" s_is_name (He.ga K "is_name") fd := c.def_ 2 (d := d_is_name) rfl
  have b_is_name : Binds K fd_is_name ["value"] [] := FunD.bindsN F_is_name fun _ _ _ _ _ _ us hl => match us, hl with | [_], _ => rfl
  obtain ⟨fd_piece_length, F_piece_length⟩ : ∃ fd, FnP K "piece_length" "piece_length" s_piece_length (He.ga K "piece_length") fd := c.def_ 3 (d := d_piece_length) rfl
  have b_piece_length : Binds K fd_piece_length ["piece"] [] := FunD.bindsN F_piece_length fun _ _ _ _ _ _ us hl => match us, hl with | [_], _ => rfl
  obtain ⟨fd_total_length, F_total_length⟩ : ∃ fd, FnP K "total_length" "total_length" s_total_length (He.ga K "total_length") fd := c.def_ 4 (d := d_total_length) rfl
  have b_total_length : Binds K fd_total_length ["pieces"] [] := FunD.bindsN F_total_length fun _ _ _ _ _ _ us hl => match us, hl with | [_], _ => rfl
  obtain ⟨fd_piece_count, F_piece_count⟩ : ∃ fd, FnP K "piece_count" "piece_count" s_piece_count (He.ga K "piece_count") fd := c.def_ 5 (d := d_piece_count) rfl
  have b_piece_count : Binds K fd_piece_count ["pieces"] [] := FunD.bindsN F_piece_count fun _ _ _ _ _ _ us hl => match us, hl with | [_], _ => rfl
  obtain ⟨fd_merged, F_merged⟩ : ∃ fd, FnP K "merged" "merged" s_merged (He.ga K "merged") fd := c.def_ 6 (d := d_merged) rfl
  have b_merged : Binds K fd_merged ["first", "second"] [] := FunD.bindsN F_merged fun _ _ _ _ _ _ us hl => match us, hl with | [_, _], _ => rfl
  obtain ⟨fd_both_pieces, F_both_pieces⟩ : ∃ fd, FnP K "both_pieces" "both_pieces" s_both_pieces (He.ga K "both_pieces") fd := c.def_ 7 (d := d_both_pieces) rfl
  have b_both_pieces : Binds K fd_both_pieces ["first", "second"] [] := FunD.bindsN F_both_pieces fun _ _ _ _ _ _ us hl => match us, hl with | [_, _], _ => rfl
  obtain ⟨fd_repeated_pieces, F_repeated_pieces⟩ : ∃ fd, FnP K "repeated_pieces" "repeated_pieces" s_repeated_pieces (He.ga K "repeated_pieces") fd := c.def_ 8 (d := d_repeated_pieces) rfl
  have b_repeated_pieces : Binds K fd_repeated_pieces ["pieces", "count"] [] := FunD.bindsN F_repeated_pieces fun _ _ _ _ _ _ us hl => match us, hl with | [_, _], _ => rfl
  obtain ⟨fd_cut_repeat, F_cut_repeat⟩ : ∃ fd, FnP K "cut_repeat" "cut_repeat" s_cut_repeat (He.ga K "cut_repeat") fd := c.def_ 9 (d := d_cut_repeat) rfl
  have b_cut_repeat : Binds K fd_cut_repeat ["piece", "start", "end"] [] := FunD.bindsN F_cut_repeat fun _ _ _ _ _ _ us hl => match us, hl with | [_, _, _], _ => rfl
  obtain ⟨fd_cut_piece, F_cut_piece⟩ : ∃ fd, FnP K "cut_piece" "cut_piece" s_cut_piece (He.ga K "cut_piece") fd := c.def_ 10 (d := d_cut_piece) rfl
  have b_cut_piece : Binds K fd_cut_piece ["piece", "start", "end"] [] := FunD.bindsN F_cut_piece fun _ _ _ _ _ _ us hl => match us, hl with | [_, _, _], _ => rfl
  obtain ⟨fd_cut_pieces, F_cut_pieces⟩ : ∃ fd, FnP K "cut_pieces" "cut_pieces" s_cut_pieces (He.ga K "cut_pieces") fd := c.def_ 11 (d := d_cut_pieces) rfl
  have b_cut_pieces : Binds K fd_cut_pieces ["pieces", "start", "end"] [] := FunD.bindsN F_cut_pieces fun _ _ _ _ _ _ us hl => match us, hl with | [_, _, _], _ => rfl
  obtain ⟨fd_gained_pieces, F_gained_pieces⟩ : ∃ fd, FnP K "gained_pieces" "gained_pieces" s_gained_pieces (He.ga K "gained_pieces") fd := c.def_ 12 (d := d_gained_pieces) rfl
  have b_gained_pieces : Binds K fd_gained_pieces ["pieces", "gain"] [] := FunD.bindsN F_gained_pieces fun _ _ _ _ _ _ us hl => match us, hl with | [_, _], _ => rfl
  obtain ⟨fd_run_length, F_run_length⟩ : ∃ fd, FnP K "run_length" "run_length" s_run_length (He.ga K "run_length") fd := c.def_ 13 (d := d_run_length) rfl
  have b_run_length : Binds K fd_run_length ["line", "at", "signs", "most"] [] := FunD.bindsN F_run_length fun _ _ _ _ _ _ us hl => match us, hl with | [_, _, _, _], _ => rfl
  obtain ⟨fd_token_at, F_token_at⟩ : ∃ fd, FnP K "token_at" "token_at" s_token_at (He.ga K "token_at") fd := c.def_ 14 (d := d_token_at) rfl
  have b_token_at : Binds K fd_token_at ["line", "at"] [] := FunD.bindsN F_token_at fun _ _ _ _ _ _ us hl => match us, hl with | [_, _], _ => rfl
  obtain ⟨fd_line_tokens, F_line_tokens⟩ : ∃ fd, FnP K "line_tokens" "line_tokens" s_line_tokens (He.ga K "line_tokens") fd := c.def_ 15 (d := d_line_tokens) rfl
  have b_line_tokens : Binds K fd_line_tokens ["number", "line"] [] := FunD.bindsN F_line_tokens fun _ _ _ _ _ _ us hl => match us, hl with | [_, _], _ => rfl
  obtain ⟨fd_text_tokens, F_text_tokens⟩ : ∃ fd, FnP K "text_tokens" "text_tokens" s_text_tokens (He.ga K "text_tokens") fd := c.def_ 16 (d := d_text_tokens) rfl
  have b_text_tokens : Binds K fd_text_tokens ["text"] [] := FunD.bindsN F_text_tokens fun _ _ _ _ _ _ us hl => match us, hl with | [_], _ => rfl
  obtain ⟨fd_parse_script, F_parse_script⟩ : ∃ fd, FnP K "parse_script" "parse_script" s_parse_script (He.ga K "parse_script") fd := c.def_ 17 (d := d_parse_script) rfl
  have b_parse_script : Binds K fd_parse_script ["text"] [] := FunD.bindsN F_parse_script fun _ _ _ _ _ _ us hl => match us, hl with | [_], _ => rfl
  obtain ⟨fd_replaced, F_replaced⟩ : ∃ fd, FnP K "replaced" "replaced" s_replaced (He.ga K "replaced") fd := c.def_ 18 (d := d_replaced) rfl
  have b_replaced : Binds K fd_replaced ["clip", "start", "end", "other"] [] := FunD.bindsN F_replaced fun _ _ _ _ _ _ us hl => match us, hl with | [_, _, _, _], _ => rfl
  obtain ⟨fd_clip_of, F_clip_of⟩ : ∃ fd, FnP K "clip_of" "clip_of" s_clip_of (He.ga K "clip_of") fd := c.def_ 19 (d := d_clip_of) rfl
  have b_clip_of : Binds K fd_clip_of ["text", "lengths"] [] := FunD.bindsN F_clip_of fun _ _ _ _ _ _ us hl => match us, hl with | [_, _], _ => rfl
  obtain ⟨fd__law_pool, F__law_pool⟩ : ∃ fd, FnP K "_law_pool" "_law_pool" s__law_pool (He.ga K "_law_pool") fd := c.def_ 20 (d := d__law_pool) rfl
  have b__law_pool : Binds K fd__law_pool ["_law_script", "_law_k"] [] := FunD.bindsN F__law_pool fun _ _ _ _ _ _ us hl => match us, hl with | [_, _], _ => rfl
  obtain ⟨fd__law_take, F__law_take⟩ : ∃ fd, FnP K "_law_take" "_law_take" s__law_take (He.ga K "_law_take") fd := c.def_ 21 (d := d__law_take) rfl
  have b__law_take : Binds K fd__law_take ["_law_pool_here", "_law_many"] [] := FunD.bindsN F__law_take fun _ _ _ _ _ _ us hl => match us, hl with | [_, _], _ => rfl
  obtain ⟨fd_Clip_init, F_Clip_init⟩ : ∃ fd, FunD K "__init__" "Clip.__init__" (defArgs s_Clip_init) (defBody s_Clip_init) (defScope s_Clip_init) [V.ref (empA K)] [] (He.ma K (He.ga K "Clip") "__init__") fd := c.def_ 23 (d := d_Clip_init) rfl
  obtain ⟨fd_Clip_require_stretch, F_Clip_require_stretch⟩ : ∃ fd, FnP K "require_stretch" "Clip.require_stretch" s_Clip_require_stretch (He.ma K (He.ga K "Clip") "require_stretch") fd := c.def_ 24 (d := d_Clip_require_stretch) rfl
  have b_Clip_require_stretch : Binds K fd_Clip_require_stretch ["self", "start", "end"] [] := FunD.bindsN F_Clip_require_stretch fun _ _ _ _ _ _ us hl => match us, hl with | [_, _, _], _ => rfl
  obtain ⟨fd_Clip_cut, F_Clip_cut⟩ : ∃ fd, FnP K "cut" "Clip.cut" s_Clip_cut (He.ma K (He.ga K "Clip") "cut") fd := c.def_ 25 (d := d_Clip_cut) rfl
  have b_Clip_cut : Binds K fd_Clip_cut ["self", "start", "end"] [] := FunD.bindsN F_Clip_cut fun _ _ _ _ _ _ us hl => match us, hl with | [_, _, _], _ => rfl
  obtain ⟨fd_Clip_gained, F_Clip_gained⟩ : ∃ fd, FnP K "gained" "Clip.gained" s_Clip_gained (He.ma K (He.ga K "Clip") "gained") fd := c.def_ 26 (d := d_Clip_gained) rfl
  have b_Clip_gained : Binds K fd_Clip_gained ["self", "top", "bottom"] [] := FunD.bindsN F_Clip_gained fun _ _ _ _ _ _ us hl => match us, hl with | [_, _, _], _ => rfl
  obtain ⟨fd_Clip_add, F_Clip_add⟩ : ∃ fd, FnP K "__add__" "Clip.__add__" s_Clip_add (He.ma K (He.ga K "Clip") "__add__") fd := c.def_ 27 (d := d_Clip_add) rfl
  have b_Clip_add : Binds K fd_Clip_add ["self", "other"] [] := FunD.bindsN F_Clip_add fun _ _ _ _ _ _ us hl => match us, hl with | [_, _], _ => rfl
  obtain ⟨fd_Clip_mul, F_Clip_mul⟩ : ∃ fd, FnP K "__mul__" "Clip.__mul__" s_Clip_mul (He.ma K (He.ga K "Clip") "__mul__") fd := c.def_ 28 (d := d_Clip_mul) rfl
  have b_Clip_mul : Binds K fd_Clip_mul ["self", "other"] [] := FunD.bindsN F_Clip_mul fun _ _ _ _ _ _ us hl => match us, hl with | [_, _], _ => rfl
  obtain ⟨fd_Clip_eq, F_Clip_eq⟩ : ∃ fd, FnP K "__eq__" "Clip.__eq__" s_Clip_eq (He.ma K (He.ga K "Clip") "__eq__") fd := c.def_ 29 (d := d_Clip_eq) rfl
  have b_Clip_eq : Binds K fd_Clip_eq ["self", "other"] [] := FunD.bindsN F_Clip_eq fun _ _ _ _ _ _ us hl => match us, hl with | [_, _], _ => rfl
  obtain ⟨fd_Reader_init, F_Reader_init⟩ : ∃ fd, FnP K "__init__" "Reader.__init__" s_Reader_init (He.ma K (He.ga K "Reader") "__init__") fd := c.def_ 30 (d := d_Reader_init) rfl
  have b_Reader_init : Binds K fd_Reader_init ["self", "items", "last"] [] := FunD.bindsN F_Reader_init fun _ _ _ _ _ _ us hl => match us, hl with | [_, _, _], _ => rfl
  obtain ⟨fd_Reader_kind_here, F_Reader_kind_here⟩ : ∃ fd, FnP K "kind_here" "Reader.kind_here" s_Reader_kind_here (He.ma K (He.ga K "Reader") "kind_here") fd := c.def_ 31 (d := d_Reader_kind_here) rfl
  have b_Reader_kind_here : Binds K fd_Reader_kind_here ["self"] [] := FunD.bindsN F_Reader_kind_here fun _ _ _ _ _ _ us hl => match us, hl with | [_], _ => rfl
  obtain ⟨fd_Reader_word_here, F_Reader_word_here⟩ : ∃ fd, FnP K "word_here" "Reader.word_here" s_Reader_word_here (He.ma K (He.ga K "Reader") "word_here") fd := c.def_ 32 (d := d_Reader_word_here) rfl
  have b_Reader_word_here : Binds K fd_Reader_word_here ["self"] [] := FunD.bindsN F_Reader_word_here fun _ _ _ _ _ _ us hl => match us, hl with | [_], _ => rfl
  obtain ⟨fd_Reader_line_here, F_Reader_line_here⟩ : ∃ fd, FnP K "line_here" "Reader.line_here" s_Reader_line_here (He.ma K (He.ga K "Reader") "line_here") fd := c.def_ 33 (d := d_Reader_line_here) rfl
  have b_Reader_line_here : Binds K fd_Reader_line_here ["self"] [] := FunD.bindsN F_Reader_line_here fun _ _ _ _ _ _ us hl => match us, hl with | [_], _ => rfl
  obtain ⟨fd_Reader_skip, F_Reader_skip⟩ : ∃ fd, FnP K "skip" "Reader.skip" s_Reader_skip (He.ma K (He.ga K "Reader") "skip") fd := c.def_ 34 (d := d_Reader_skip) rfl
  have b_Reader_skip : Binds K fd_Reader_skip ["self"] [] := FunD.bindsN F_Reader_skip fun _ _ _ _ _ _ us hl => match us, hl with | [_], _ => rfl
  obtain ⟨fd_Reader_expect, F_Reader_expect⟩ : ∃ fd, FnP K "expect" "Reader.expect" s_Reader_expect (He.ma K (He.ga K "Reader") "expect") fd := c.def_ 35 (d := d_Reader_expect) rfl
  have b_Reader_expect : Binds K fd_Reader_expect ["self", "word"] [] := FunD.bindsN F_Reader_expect fun _ _ _ _ _ _ us hl => match us, hl with | [_, _], _ => rfl
  obtain ⟨fd_Reader_enter, F_Reader_enter⟩ : ∃ fd, FnP K "enter" "Reader.enter" s_Reader_enter (He.ma K (He.ga K "Reader") "enter") fd := c.def_ 36 (d := d_Reader_enter) rfl
  have b_Reader_enter : Binds K fd_Reader_enter ["self", "bracket"] [] := FunD.bindsN F_Reader_enter fun _ _ _ _ _ _ us hl => match us, hl with | [_, _], _ => rfl
  obtain ⟨fd_Reader_leave, F_Reader_leave⟩ : ∃ fd, FnP K "leave" "Reader.leave" s_Reader_leave (He.ma K (He.ga K "Reader") "leave") fd := c.def_ 37 (d := d_Reader_leave) rfl
  have b_Reader_leave : Binds K fd_Reader_leave ["self", "bracket"] [] := FunD.bindsN F_Reader_leave fun _ _ _ _ _ _ us hl => match us, hl with | [_, _], _ => rfl
  obtain ⟨fd_Reader_number, F_Reader_number⟩ : ∃ fd, FnP K "number" "Reader.number" s_Reader_number (He.ma K (He.ga K "Reader") "number") fd := c.def_ 38 (d := d_Reader_number) rfl
  have b_Reader_number : Binds K fd_Reader_number ["self"] [] := FunD.bindsN F_Reader_number fun _ _ _ _ _ _ us hl => match us, hl with | [_], _ => rfl
  obtain ⟨fd_Reader_signed, F_Reader_signed⟩ : ∃ fd, FnP K "signed" "Reader.signed" s_Reader_signed (He.ma K (He.ga K "Reader") "signed") fd := c.def_ 39 (d := d_Reader_signed) rfl
  have b_Reader_signed : Binds K fd_Reader_signed ["self"] [] := FunD.bindsN F_Reader_signed fun _ _ _ _ _ _ us hl => match us, hl with | [_], _ => rfl
  obtain ⟨fd_Reader_expression, F_Reader_expression⟩ : ∃ fd, FnP K "expression" "Reader.expression" s_Reader_expression (He.ma K (He.ga K "Reader") "expression") fd := c.def_ 40 (d := d_Reader_expression) rfl
  have b_Reader_expression : Binds K fd_Reader_expression ["self"] [] := FunD.bindsN F_Reader_expression fun _ _ _ _ _ _ us hl => match us, hl with | [_], _ => rfl
  obtain ⟨fd_Reader_product, F_Reader_product⟩ : ∃ fd, FnP K "product" "Reader.product" s_Reader_product (He.ma K (He.ga K "Reader") "product") fd := c.def_ 41 (d := d_Reader_product) rfl
  have b_Reader_product : Binds K fd_Reader_product ["self"] [] := FunD.bindsN F_Reader_product fun _ _ _ _ _ _ us hl => match us, hl with | [_], _ => rfl
  obtain ⟨fd_Reader_operand, F_Reader_operand⟩ : ∃ fd, FnP K "operand" "Reader.operand" s_Reader_operand (He.ma K (He.ga K "Reader") "operand") fd := c.def_ 42 (d := d_Reader_operand) rfl
  have b_Reader_operand : Binds K fd_Reader_operand ["self"] [] := FunD.bindsN F_Reader_operand fun _ _ _ _ _ _ us hl => match us, hl with | [_], _ => rfl
  obtain ⟨fd_Reader_atom, F_Reader_atom⟩ : ∃ fd, FnP K "atom" "Reader.atom" s_Reader_atom (He.ma K (He.ga K "Reader") "atom") fd := c.def_ 43 (d := d_Reader_atom) rfl
  have b_Reader_atom : Binds K fd_Reader_atom ["self"] [] := FunD.bindsN F_Reader_atom fun _ _ _ _ _ _ us hl => match us, hl with | [_], _ => rfl
  obtain ⟨fd_Reader_call, F_Reader_call⟩ : ∃ fd, FnP K "call" "Reader.call" s_Reader_call (He.ma K (He.ga K "Reader") "call") fd := c.def_ 44 (d := d_Reader_call) rfl
  have b_Reader_call : Binds K fd_Reader_call ["self", "word"] [] := FunD.bindsN F_Reader_call fun _ _ _ _ _ _ us hl => match us, hl with | [_, _], _ => rfl
  obtain ⟨fd_Reader_skip_ends, F_Reader_skip_ends⟩ : ∃ fd, FnP K "skip_ends" "Reader.skip_ends" s_Reader_skip_ends (He.ma K (He.ga K "Reader") "skip_ends") fd := c.def_ 45 (d := d_Reader_skip_ends) rfl
  have b_Reader_skip_ends : Binds K fd_Reader_skip_ends ["self"] [] := FunD.bindsN F_Reader_skip_ends fun _ _ _ _ _ _ us hl => match us, hl with | [_], _ => rfl
  obtain ⟨fd_Reader_script, F_Reader_script⟩ : ∃ fd, FnP K "script" "Reader.script" s_Reader_script (He.ma K (He.ga K "Reader") "script") fd := c.def_ 46 (d := d_Reader_script) rfl
  have b_Reader_script : Binds K fd_Reader_script ["self"] [] := FunD.bindsN F_Reader_script fun _ _ _ _ _ _ us hl => match us, hl with | [_], _ => rfl
  obtain ⟨fd_Evaluator_init, F_Evaluator_init⟩ : ∃ fd, FnP K "__init__" "Evaluator.__init__" s_Evaluator_init (He.ma K (He.ga K "Evaluator") "__init__") fd := c.def_ 47 (d := d_Evaluator_init) rfl
  have b_Evaluator_init : Binds K fd_Evaluator_init ["self", "lengths"] [] := FunD.bindsN F_Evaluator_init fun _ _ _ _ _ _ us hl => match us, hl with | [_, _], _ => rfl
  obtain ⟨fd_Evaluator_named, F_Evaluator_named⟩ : ∃ fd, FnP K "named" "Evaluator.named" s_Evaluator_named (He.ma K (He.ga K "Evaluator") "named") fd := c.def_ 48 (d := d_Evaluator_named) rfl
  have b_Evaluator_named : Binds K fd_Evaluator_named ["self", "name"] [] := FunD.bindsN F_Evaluator_named fun _ _ _ _ _ _ us hl => match us, hl with | [_, _], _ => rfl
  obtain ⟨fd_Evaluator_clip, F_Evaluator_clip⟩ : ∃ fd, FnP K "clip" "Evaluator.clip" s_Evaluator_clip (He.ma K (He.ga K "Evaluator") "clip") fd := c.def_ 49 (d := d_Evaluator_clip) rfl
  have b_Evaluator_clip : Binds K fd_Evaluator_clip ["self", "tree"] [] := FunD.bindsN F_Evaluator_clip fun _ _ _ _ _ _ us hl => match us, hl with | [_, _], _ => rfl
  obtain ⟨fd_Clip_part, F_Clip_part⟩ : ∃ fd, FnP K "part" "Clip.part" s_Clip_part (He5.wf K (He.ga K "Clip") "staticmethod" "part") fd := c.def_ 50 (d := d_Clip_part) rfl
  have b_Clip_part : Binds K fd_Clip_part ["name", "start", "end"] [] := FunD.bindsN F_Clip_part fun _ _ _ _ _ _ us hl => match us, hl with | [_, _, _], _ => rfl
  obtain ⟨fd_Clip_silence, F_Clip_silence⟩ : ∃ fd, FnP K "silence" "Clip.silence" s_Clip_silence (He5.wf K (He.ga K "Clip") "staticmethod" "silence") fd := c.def_ 51 (d := d_Clip_silence) rfl
  have b_Clip_silence : Binds K fd_Clip_silence ["count"] [] := FunD.bindsN F_Clip_silence fun _ _ _ _ _ _ us hl => match us, hl with | [_], _ => rfl
  obtain ⟨fd_Clip_length, F_Clip_length⟩ : ∃ fd, FnP K "length" "Clip.length" s_Clip_length (getA K) fd := c.def_ 52 (d := d_Clip_length) rfl
  have b_Clip_length : Binds K fd_Clip_length ["self"] [] := FunD.bindsN F_Clip_length fun _ _ _ _ _ _ us hl => match us, hl with | [_], _ => rfl
  obtain ⟨ds1, vd1, b_i1⟩ : ∃ ds, Vals [] ds ∧ Binds K fd_Clip_init ["self", "pieces"] ds := FunD.binds1 F_Clip_init 2 1 (by simp) rfl fun _ _ _ _ _ _ _ us its hu hi => match us, its, hu, hi with | [_, _], [_], _, _ => ⟨_, rfl, rfl⟩
  obtain ⟨ds0, vd0, b_i0⟩ : ∃ ds, Vals [V.ref (empA K)] ds ∧ Binds K fd_Clip_init ["self", "pieces"] ds := FunD.binds1 F_Clip_init 1 0 (by simp) rfl fun _ _ _ _ _ _ _ us its hu hi => match us, its, hu, hi with | [_], [_], _, _ => ⟨_, rfl, rfl⟩
  have T : Txt K mg (He.ga K "Clip") (He.ga K "Reader") (He.ga K "Evaluator") (He.ga K "RESERVED") := {
    clC := He.cls_ok (c.fact 24 (f := .cls "Clip") rfl)
    clR := He.cls_ok (c.fact 33 (f := .cls "Reader") rfl)
    clE := He.cls_ok (c.fact 52 (f := .cls "Evaluator") rfl)
    nPieces := He.noat_ok (c.fact 56 (f := .noat "Clip" "own_pieces") rfl)
    nLen := He.noat_ok (c.fact 57 (f := .noat "Clip" "own_length") rfl)
    nTok := He.noat_ok (c.fact 58 (f := .noat "Reader" "tokens") rfl)
    nLast := He.noat_ok (c.fact 59 (f := .noat "Reader" "last") rfl)
    nPlace := He.noat_ok (c.fact 60 (f := .noat "Reader" "place") rfl)
    nDepth := He.noat_ok (c.fact 61 (f := .noat "Reader" "depth") rfl)
    nUsed := He.noat_ok (c.fact 62 (f := .noat "Reader" "used") rfl)
    nLens := He.noat_ok (c.fact 63 (f := .noat "Evaluator" "lengths") rfl)
    nDef := He.noat_ok (c.fact 64 (f := .noat "Evaluator" "defined") rfl)
    mg_Clip := He.glo_ok X G (c.fact 23 (f := .glo "Clip") rfl)
    n_len := He.free_ok X G (c.fact 65 (f := .free "len") rfl)
    n_isinstance := He.free_ok X G (c.fact 66 (f := .free "isinstance") rfl)
    n_sum := He.free_ok X G (c.fact 67 (f := .free "sum") rfl)
    n_all := He.free_ok X G (c.fact 68 (f := .free "all") rfl)
    n_max := He.free_ok X G (c.fact 69 (f := .free "max") rfl)
    n_min := He.free_ok X G (c.fact 70 (f := .free "min") rfl)
    n_abs := He.free_ok X G (c.fact 71 (f := .free "abs") rfl)
    n_int := He.free_ok X G (c.fact 72 (f := .free "int") rfl)
    n_bool := He.free_ok X G (c.fact 73 (f := .free "bool") rfl)
    n_str := He.free_ok X G (c.fact 74 (f := .free "str") rfl)
    n_tuple := He.free_ok X G (c.fact 75 (f := .free "tuple") rfl)
    n_range := He.free_ok X G (c.fact 76 (f := .free "range") rfl)
    n_enumerate := He.free_ok X G (c.fact 77 (f := .free "enumerate") rfl)
    g_MAX_COUNT := gi_int (He.int_ok X G (c.fact 78 (f := .int "MAX_COUNT" (10 ^ 30)) rfl))
    g_MAX_LENGTH := gi_int (He.int_ok X G (c.fact 79 (f := .int "MAX_LENGTH" (10 ^ 40)) rfl))
    g_MAX_PIECES := gi_int (He.int_ok X G (c.fact 80 (f := .int "MAX_PIECES" 200) rfl))
    g_MAX_GAIN := gi_int (He.int_ok X G (c.fact 81 (f := .int "MAX_GAIN" 1000) rfl))
    g_MAX_NAME_clips := gi_int (He.int_ok X G (c.fact 82 (f := .int "MAX_NAME_clips" 8) rfl))
    g_MAX_NAME_reader := gi_int (He.int_ok X G (c.fact 83 (f := .int "MAX_NAME_reader" 8) rfl))
    g_MAX_DIGITS := gi_int (He.int_ok X G (c.fact 84 (f := .int "MAX_DIGITS" 30) rfl))
    g_MAX_DEPTH := gi_int (He.int_ok X G (c.fact 85 (f := .int "MAX_DEPTH" 20) rfl))
    g_MAX_TOKENS := gi_int (He.int_ok X G (c.fact 86 (f := .int "MAX_TOKENS" 200) rfl))
    g_MAX_TEXT := gi_int (He.int_ok X G (c.fact 87 (f := .int "MAX_TEXT" 8000) rfl))
    g_LETTERS_clips := gi_str (He.str_ok X G (c.fact 88 (f := .str "LETTERS_clips" "abcdefghijklmnopqrstuvwxyz") rfl))
    g_LETTERS_reader := gi_str (He.str_ok X G (c.fact 89 (f := .str "LETTERS_reader" "abcdefghijklmnopqrstuvwxyz") rfl))
    g_DIGITS := gi_str (He.str_ok X G (c.fact 90 (f := .str "DIGITS" "0123456789") rfl))
    g_SYMBOLS := gi_str (He.str_ok X G (c.fact 91 (f := .str "SYMBOLS" "+-*/()[],:=") rfl))
    g_ENDS := gi_str (He.str_ok X G (c.fact 92 (f := .str "ENDS" ";\n") rfl))
    g_RESERVED := ⟨_, He.glo_ok X G (c.fact 93 (f := .glo "RESERVED") rfl), rfl⟩
    res := fun H => He.tupB_ok (ex_at cx 16 rfl) H }
  have mk_is_integer : ∀ {k : Nat} {sp : Sp}, FnOk P w K mg base CX0 k (He.ga K "is_integer") fd_is_integer ["value"] sp → C8.Cal P w K mg base k "is_integer" sp [] := fun H => ⟨_, _, _, _, H, He.glo_ok X G (c.fact 0 (f := .glo "is_integer") rfl), F_is_integer.kp, b_is_integer, .nil⟩
  have mk_is_between : ∀ {k : Nat} {sp : Sp}, FnOk P w K mg base CX0 k (He.ga K "is_between") fd_is_between ["value", "least", "most"] sp → C8.Cal P w K mg base k "is_between" sp [] := fun H => ⟨_, _, _, _, H, He.glo_ok X G (c.fact 1 (f := .glo "is_between") rfl), F_is_between.kp, b_is_between, .nil⟩
  have mk_is_name : ∀ {k : Nat} {sp : Sp}, FnOk P w K mg base CX0 k (He.ga K "is_name") fd_is_name ["value"] sp → C8.Cal P w K mg base k "is_name" sp [] := fun H => ⟨_, _, _, _, H, He.glo_ok X G (c.fact 2 (f := .glo "is_name") rfl), F_is_name.kp, b_is_name, .nil⟩
  have mk_piece_length : ∀ {k : Nat} {sp : Sp}, FnOk P w K mg base CX0 k (He.ga K "piece_length") fd_piece_length ["piece"] sp → C8.Cal P w K mg base k "piece_length" sp [] := fun H => ⟨_, _, _, _, H, He.glo_ok X G (c.fact 3 (f := .glo "piece_length") rfl), F_piece_length.kp, b_piece_length, .nil⟩
  have mk_total_length : ∀ {k : Nat} {sp : Sp}, FnOk P w K mg base CX0 k (He.ga K "total_length") fd_total_length ["pieces"] sp → C8.Cal P w K mg base k "total_length" sp [] := fun H => ⟨_, _, _, _, H, He.glo_ok X G (c.fact 4 (f := .glo "total_length") rfl), F_total_length.kp, b_total_length, .nil⟩
  have mk_piece_count : ∀ {k : Nat} {sp : Sp}, FnOk P w K mg base CX0 k (He.ga K "piece_count") fd_piece_count ["pieces"] sp → C8.Cal P w K mg base k "piece_count" sp [] := fun H => ⟨_, _, _, _, H, He.glo_ok X G (c.fact 5 (f := .glo "piece_count") rfl), F_piece_count.kp, b_piece_count, .nil⟩
  have mk_merged : ∀ {k : Nat} {sp : Sp}, FnOk P w K mg base CX0 k (He.ga K "merged") fd_merged ["first", "second"] sp → C8.Cal P w K mg base k "merged" sp [] := fun H => ⟨_, _, _, _, H, He.glo_ok X G (c.fact 6 (f := .glo "merged") rfl), F_merged.kp, b_merged, .nil⟩
  have mk_both_pieces : ∀ {k : Nat} {sp : Sp}, FnOk P w K mg base CX0 k (He.ga K "both_pieces") fd_both_pieces ["first", "second"] sp → C8.Cal P w K mg base k "both_pieces" sp [] := fun H => ⟨_, _, _, _, H, He.glo_ok X G (c.fact 7 (f := .glo "both_pieces") rfl), F_both_pieces.kp, b_both_pieces, .nil⟩
  have mk_repeated_pieces : ∀ {k : Nat} {sp : Sp}, FnOk P w K mg base CX0 k (He.ga K "repeated_pieces") fd_repeated_pieces ["pieces", "count"] sp → C8.Cal P w K mg base k "repeated_pieces" sp [] := fun H => ⟨_, _, _, _, H, He.glo_ok X G (c.fact 8 (f := .glo "repeated_pieces") rfl), F_repeated_pieces.kp, b_repeated_pieces, .nil⟩
  have mk_cut_repeat : ∀ {k : Nat} {sp : Sp}, FnOk P w K mg base CX0 k (He.ga K "cut_repeat") fd_cut_repeat ["piece", "start", "end"] sp → C8.Cal P w K mg base k "cut_repeat" sp [] := fun H => ⟨_, _, _, _, H, He.glo_ok X G (c.fact 9 (f := .glo "cut_repeat") rfl), F_cut_repeat.kp, b_cut_repeat, .nil⟩
  have mk_cut_piece : ∀ {k : Nat} {sp : Sp}, FnOk P w K mg base CX0 k (He.ga K "cut_piece") fd_cut_piece ["piece", "start", "end"] sp → C8.Cal P w K mg base k "cut_piece" sp [] := fun H => ⟨_, _, _, _, H, He.glo_ok X G (c.fact 10 (f := .glo "cut_piece") rfl), F_cut_piece.kp, b_cut_piece, .nil⟩
  have mk_cut_pieces : ∀ {k : Nat} {sp : Sp}, FnOk P w K mg base CX0 k (He.ga K "cut_pieces") fd_cut_pieces ["pieces", "start", "end"] sp → C8.Cal P w K mg base k "cut_pieces" sp [] := fun H => ⟨_, _, _, _, H, He.glo_ok X G (c.fact 11 (f := .glo "cut_pieces") rfl), F_cut_pieces.kp, b_cut_pieces, .nil⟩
  have mk_gained_pieces : ∀ {k : Nat} {sp : Sp}, FnOk P w K mg base CX0 k (He.ga K "gained_pieces") fd_gained_pieces ["pieces", "gain"] sp → C8.Cal P w K mg base k "gained_pieces" sp [] := fun H => ⟨_, _, _, _, H, He.glo_ok X G (c.fact 12 (f := .glo "gained_pieces") rfl), F_gained_pieces.kp, b_gained_pieces, .nil⟩
  have mk_run_length : ∀ {k : Nat} {sp : Sp}, FnOk P w K mg base CX0 k (He.ga K "run_length") fd_run_length ["line", "at", "signs", "most"] sp → C8.Cal P w K mg base k "run_length" sp [] := fun H => ⟨_, _, _, _, H, He.glo_ok X G (c.fact 13 (f := .glo "run_length") rfl), F_run_length.kp, b_run_length, .nil⟩
  have mk_token_at : ∀ {k : Nat} {sp : Sp}, FnOk P w K mg base CX0 k (He.ga K "token_at") fd_token_at ["line", "at"] sp → C8.Cal P w K mg base k "token_at" sp [] := fun H => ⟨_, _, _, _, H, He.glo_ok X G (c.fact 14 (f := .glo "token_at") rfl), F_token_at.kp, b_token_at, .nil⟩
  have mk_line_tokens : ∀ {k : Nat} {sp : Sp}, FnOk P w K mg base CX0 k (He.ga K "line_tokens") fd_line_tokens ["number", "line"] sp → C8.Cal P w K mg base k "line_tokens" sp [] := fun H => ⟨_, _, _, _, H, He.glo_ok X G (c.fact 15 (f := .glo "line_tokens") rfl), F_line_tokens.kp, b_line_tokens, .nil⟩
  have mk_text_tokens : ∀ {k : Nat} {sp : Sp}, FnOk P w K mg base CX0 k (He.ga K "text_tokens") fd_text_tokens ["text"] sp → C8.Cal P w K mg base k "text_tokens" sp [] := fun H => ⟨_, _, _, _, H, He.glo_ok X G (c.fact 16 (f := .glo "text_tokens") rfl), F_text_tokens.kp, b_text_tokens, .nil⟩
  have mk_parse_script : ∀ {k : Nat} {sp : Sp}, FnOk P w K mg base CX0 k (He.ga K "parse_script") fd_parse_script ["text"] sp → C8.Cal P w K mg base k "parse_script" sp [] := fun H => ⟨_, _, _, _, H, He.glo_ok X G (c.fact 17 (f := .glo "parse_script") rfl), F_parse_script.kp, b_parse_script, .nil⟩
  have mk_replaced : ∀ {k : Nat} {sp : Sp}, FnOk P w K mg base CX0 k (He.ga K "replaced") fd_replaced ["clip", "start", "end", "other"] sp → C8.Cal P w K mg base k "replaced" sp [] := fun H => ⟨_, _, _, _, H, He.glo_ok X G (c.fact 18 (f := .glo "replaced") rfl), F_replaced.kp, b_replaced, .nil⟩
  have mk_clip_of : ∀ {k : Nat} {sp : Sp}, FnOk P w K mg base CX0 k (He.ga K "clip_of") fd_clip_of ["text", "lengths"] sp → C8.Cal P w K mg base k "clip_of" sp [] := fun H => ⟨_, _, _, _, H, He.glo_ok X G (c.fact 19 (f := .glo "clip_of") rfl), F_clip_of.kp, b_clip_of, .nil⟩
  have mk__law_pool : ∀ {k : Nat} {sp : Sp}, FnOk P w K mg base CX0 k (He.ga K "_law_pool") fd__law_pool ["_law_script", "_law_k"] sp → C8.Cal P w K mg base k "_law_pool" sp [] := fun H => ⟨_, _, _, _, H, He.glo_ok X G (c.fact 20 (f := .glo "_law_pool") rfl), F__law_pool.kp, b__law_pool, .nil⟩
  have mk__law_take : ∀ {k : Nat} {sp : Sp}, FnOk P w K mg base CX0 k (He.ga K "_law_take") fd__law_take ["_law_pool_here", "_law_many"] sp → C8.Cal P w K mg base k "_law_take" sp [] := fun H => ⟨_, _, _, _, H, He.glo_ok X G (c.fact 21 (f := .glo "_law_take") rfl), F__law_take.kp, b__law_take, .nil⟩
  have me_Clip_require_stretch : Meth K (He.ga K "Clip") "require_stretch" (He.ma K (He.ga K "Clip") "require_stretch") := He.meth_ok (c.fact 26 (f := .meth "Clip" "require_stretch") rfl)
  have mk_Clip_require_stretch : ∀ {k : Nat} {sp : Sp}, FnOk P w K mg base CX0 k (He.ma K (He.ga K "Clip") "require_stretch") fd_Clip_require_stretch ["self", "start", "end"] sp → C8.Met P w K mg base k (He.ga K "Clip") "require_stretch" sp [] := fun H => ⟨_, _, _, _, T.clC, me_Clip_require_stretch, H, b_Clip_require_stretch, .nil⟩
  have me_Clip_cut : Meth K (He.ga K "Clip") "cut" (He.ma K (He.ga K "Clip") "cut") := He.meth_ok (c.fact 27 (f := .meth "Clip" "cut") rfl)
  have mk_Clip_cut : ∀ {k : Nat} {sp : Sp}, FnOk P w K mg base CX0 k (He.ma K (He.ga K "Clip") "cut") fd_Clip_cut ["self", "start", "end"] sp → C8.Met P w K mg base k (He.ga K "Clip") "cut" sp [] := fun H => ⟨_, _, _, _, T.clC, me_Clip_cut, H, b_Clip_cut, .nil⟩
  have me_Clip_gained : Meth K (He.ga K "Clip") "gained" (He.ma K (He.ga K "Clip") "gained") := He.meth_ok (c.fact 28 (f := .meth "Clip" "gained") rfl)
  have mk_Clip_gained : ∀ {k : Nat} {sp : Sp}, FnOk P w K mg base CX0 k (He.ma K (He.ga K "Clip") "gained") fd_Clip_gained ["self", "top", "bottom"] sp → C8.Met P w K mg base k (He.ga K "Clip") "gained" sp [] := fun H => ⟨_, _, _, _, T.clC, me_Clip_gained, H, b_Clip_gained, .nil⟩
  have me_Clip_add : Meth K (He.ga K "Clip") "__add__" (He.ma K (He.ga K "Clip") "__add__") := He.meth_ok (c.fact 29 (f := .meth "Clip" "__add__") rfl)
  have me_Clip_mul : Meth K (He.ga K "Clip") "__mul__" (He.ma K (He.ga K "Clip") "__mul__") := He.meth_ok (c.fact 30 (f := .meth "Clip" "__mul__") rfl)
  have me_Clip_eq : Meth K (He.ga K "Clip") "__eq__" (He.ma K (He.ga K "Clip") "__eq__") := He.meth_ok (c.fact 31 (f := .meth "Clip" "__eq__") rfl)
  have me_Reader_kind_here : Meth K (He.ga K "Reader") "kind_here" (He.ma K (He.ga K "Reader") "kind_here") := He.meth_ok (c.fact 35 (f := .meth "Reader" "kind_here") rfl)
  have mk_Reader_kind_here : ∀ {k : Nat} {sp : Sp}, FnOk P w K mg base CX0 k (He.ma K (He.ga K "Reader") "kind_here") fd_Reader_kind_here ["self"] sp → C8.Met P w K mg base k (He.ga K "Reader") "kind_here" sp [] := fun H => ⟨_, _, _, _, T.clR, me_Reader_kind_here, H, b_Reader_kind_here, .nil⟩
  have me_Reader_word_here : Meth K (He.ga K "Reader") "word_here" (He.ma K (He.ga K "Reader") "word_here") := He.meth_ok (c.fact 36 (f := .meth "Reader" "word_here") rfl)
  have mk_Reader_word_here : ∀ {k : Nat} {sp : Sp}, FnOk P w K mg base CX0 k (He.ma K (He.ga K "Reader") "word_here") fd_Reader_word_here ["self"] sp → C8.Met P w K mg base k (He.ga K "Reader") "word_here" sp [] := fun H => ⟨_, _, _, _, T.clR, me_Reader_word_here, H, b_Reader_word_here, .nil⟩
  have me_Reader_line_here : Meth K (He.ga K "Reader") "line_here" (He.ma K (He.ga K "Reader") "line_here") := He.meth_ok (c.fact 37 (f := .meth "Reader" "line_here") rfl)
  have mk_Reader_line_here : ∀ {k : Nat} {sp : Sp}, FnOk P w K mg base CX0 k (He.ma K (He.ga K "Reader") "line_here") fd_Reader_line_here ["self"] sp → C8.Met P w K mg base k (He.ga K "Reader") "line_here" sp [] := fun H => ⟨_, _, _, _, T.clR, me_Reader_line_here, H, b_Reader_line_here, .nil⟩
  have me_Reader_skip : Meth K (He.ga K "Reader") "skip" (He.ma K (He.ga K "Reader") "skip") := He.meth_ok (c.fact 38 (f := .meth "Reader" "skip") rfl)
  have mk_Reader_skip : ∀ {k : Nat} {sp : Sp}, FnOk P w K mg base CX0 k (He.ma K (He.ga K "Reader") "skip") fd_Reader_skip ["self"] sp → C8.Met P w K mg base k (He.ga K "Reader") "skip" sp [] := fun H => ⟨_, _, _, _, T.clR, me_Reader_skip, H, b_Reader_skip, .nil⟩
  have me_Reader_expect : Meth K (He.ga K "Reader") "expect" (He.ma K (He.ga K "Reader") "expect") := He.meth_ok (c.fact 39 (f := .meth "Reader" "expect") rfl)
  have mk_Reader_expect : ∀ {k : Nat} {sp : Sp}, FnOk P w K mg base CX0 k (He.ma K (He.ga K "Reader") "expect") fd_Reader_expect ["self", "word"] sp → C8.Met P w K mg base k (He.ga K "Reader") "expect" sp [] := fun H => ⟨_, _, _, _, T.clR, me_Reader_expect, H, b_Reader_expect, .nil⟩
  have me_Reader_enter : Meth K (He.ga K "Reader") "enter" (He.ma K (He.ga K "Reader") "enter") := He.meth_ok (c.fact 40 (f := .meth "Reader" "enter") rfl)
  have mk_Reader_enter : ∀ {k : Nat} {sp : Sp}, FnOk P w K mg base CX0 k (He.ma K (He.ga K "Reader") "enter") fd_Reader_enter ["self", "bracket"] sp → C8.Met P w K mg base k (He.ga K "Reader") "enter" sp [] := fun H => ⟨_, _, _, _, T.clR, me_Reader_enter, H, b_Reader_enter, .nil⟩
  have me_Reader_leave : Meth K (He.ga K "Reader") "leave" (He.ma K (He.ga K "Reader") "leave") := He.meth_ok (c.fact 41 (f := .meth "Reader" "leave") rfl)
  have mk_Reader_leave : ∀ {k : Nat} {sp : Sp}, FnOk P w K mg base CX0 k (He.ma K (He.ga K "Reader") "leave") fd_Reader_leave ["self", "bracket"] sp → C8.Met P w K mg base k (He.ga K "Reader") "leave" sp [] := fun H => ⟨_, _, _, _, T.clR, me_Reader_leave, H, b_Reader_leave, .nil⟩
  have me_Reader_number : Meth K (He.ga K "Reader") "number" (He.ma K (He.ga K "Reader") "number") := He.meth_ok (c.fact 42 (f := .meth "Reader" "number") rfl)
  have mk_Reader_number : ∀ {k : Nat} {sp : Sp}, FnOk P w K mg base CX0 k (He.ma K (He.ga K "Reader") "number") fd_Reader_number ["self"] sp → C8.Met P w K mg base k (He.ga K "Reader") "number" sp [] := fun H => ⟨_, _, _, _, T.clR, me_Reader_number, H, b_Reader_number, .nil⟩
  have me_Reader_signed : Meth K (He.ga K "Reader") "signed" (He.ma K (He.ga K "Reader") "signed") := He.meth_ok (c.fact 43 (f := .meth "Reader" "signed") rfl)
  have mk_Reader_signed : ∀ {k : Nat} {sp : Sp}, FnOk P w K mg base CX0 k (He.ma K (He.ga K "Reader") "signed") fd_Reader_signed ["self"] sp → C8.Met P w K mg base k (He.ga K "Reader") "signed" sp [] := fun H => ⟨_, _, _, _, T.clR, me_Reader_signed, H, b_Reader_signed, .nil⟩
  have me_Reader_expression : Meth K (He.ga K "Reader") "expression" (He.ma K (He.ga K "Reader") "expression") := He.meth_ok (c.fact 44 (f := .meth "Reader" "expression") rfl)
  have mk_Reader_expression : ∀ {k : Nat} {sp : Sp}, FnOk P w K mg base CX0 k (He.ma K (He.ga K "Reader") "expression") fd_Reader_expression ["self"] sp → C8.Met P w K mg base k (He.ga K "Reader") "expression" sp [] := fun H => ⟨_, _, _, _, T.clR, me_Reader_expression, H, b_Reader_expression, .nil⟩
  have me_Reader_product : Meth K (He.ga K "Reader") "product" (He.ma K (He.ga K "Reader") "product") := He.meth_ok (c.fact 45 (f := .meth "Reader" "product") rfl)
  have mk_Reader_product : ∀ {k : Nat} {sp : Sp}, FnOk P w K mg base CX0 k (He.ma K (He.ga K "Reader") "product") fd_Reader_product ["self"] sp → C8.Met P w K mg base k (He.ga K "Reader") "product" sp [] := fun H => ⟨_, _, _, _, T.clR, me_Reader_product, H, b_Reader_product, .nil⟩
  have me_Reader_operand : Meth K (He.ga K "Reader") "operand" (He.ma K (He.ga K "Reader") "operand") := He.meth_ok (c.fact 46 (f := .meth "Reader" "operand") rfl)
  have mk_Reader_operand : ∀ {k : Nat} {sp : Sp}, FnOk P w K mg base CX0 k (He.ma K (He.ga K "Reader") "operand") fd_Reader_operand ["self"] sp → C8.Met P w K mg base k (He.ga K "Reader") "operand" sp [] := fun H => ⟨_, _, _, _, T.clR, me_Reader_operand, H, b_Reader_operand, .nil⟩
  have me_Reader_atom : Meth K (He.ga K "Reader") "atom" (He.ma K (He.ga K "Reader") "atom") := He.meth_ok (c.fact 47 (f := .meth "Reader" "atom") rfl)
  have mk_Reader_atom : ∀ {k : Nat} {sp : Sp}, FnOk P w K mg base CX0 k (He.ma K (He.ga K "Reader") "atom") fd_Reader_atom ["self"] sp → C8.Met P w K mg base k (He.ga K "Reader") "atom" sp [] := fun H => ⟨_, _, _, _, T.clR, me_Reader_atom, H, b_Reader_atom, .nil⟩
  have me_Reader_call : Meth K (He.ga K "Reader") "call" (He.ma K (He.ga K "Reader") "call") := He.meth_ok (c.fact 48 (f := .meth "Reader" "call") rfl)
  have mk_Reader_call : ∀ {k : Nat} {sp : Sp}, FnOk P w K mg base CX0 k (He.ma K (He.ga K "Reader") "call") fd_Reader_call ["self", "word"] sp → C8.Met P w K mg base k (He.ga K "Reader") "call" sp [] := fun H => ⟨_, _, _, _, T.clR, me_Reader_call, H, b_Reader_call, .nil⟩
  have me_Reader_skip_ends : Meth K (He.ga K "Reader") "skip_ends" (He.ma K (He.ga K "Reader") "skip_ends") := He.meth_ok (c.fact 49 (f := .meth "Reader" "skip_ends") rfl)
  have mk_Reader_skip_ends : ∀ {k : Nat} {sp : Sp}, FnOk P w K mg base CX0 k (He.ma K (He.ga K "Reader") "skip_ends") fd_Reader_skip_ends ["self"] sp → C8.Met P w K mg base k (He.ga K "Reader") "skip_ends" sp [] := fun H => ⟨_, _, _, _, T.clR, me_Reader_skip_ends, H, b_Reader_skip_ends, .nil⟩
  have me_Reader_script : Meth K (He.ga K "Reader") "script" (He.ma K (He.ga K "Reader") "script") := He.meth_ok (c.fact 50 (f := .meth "Reader" "script") rfl)
  have mk_Reader_script : ∀ {k : Nat} {sp : Sp}, FnOk P w K mg base CX0 k (He.ma K (He.ga K "Reader") "script") fd_Reader_script ["self"] sp → C8.Met P w K mg base k (He.ga K "Reader") "script" sp [] := fun H => ⟨_, _, _, _, T.clR, me_Reader_script, H, b_Reader_script, .nil⟩
  have me_Evaluator_named : Meth K (He.ga K "Evaluator") "named" (He.ma K (He.ga K "Evaluator") "named") := He.meth_ok (c.fact 54 (f := .meth "Evaluator" "named") rfl)
  have mk_Evaluator_named : ∀ {k : Nat} {sp : Sp}, FnOk P w K mg base CX0 k (He.ma K (He.ga K "Evaluator") "named") fd_Evaluator_named ["self", "name"] sp → C8.Met P w K mg base k (He.ga K "Evaluator") "named" sp [] := fun H => ⟨_, _, _, _, T.clE, me_Evaluator_named, H, b_Evaluator_named, .nil⟩
  have me_Evaluator_clip : Meth K (He.ga K "Evaluator") "clip" (He.ma K (He.ga K "Evaluator") "clip") := He.meth_ok (c.fact 55 (f := .meth "Evaluator" "clip") rfl)
  have mk_Evaluator_clip : ∀ {k : Nat} {sp : Sp}, FnOk P w K mg base CX0 k (He.ma K (He.ga K "Evaluator") "clip") fd_Evaluator_clip ["self", "tree"] sp → C8.Met P w K mg base k (He.ga K "Evaluator") "clip" sp [] := fun H => ⟨_, _, _, _, T.clE, me_Evaluator_clip, H, b_Evaluator_clip, .nil⟩
  have mkr_Clip : Mk K (He.ga K "Clip") (He.ma K (He.ga K "Clip") "__init__") := He.mkr_ok (c.fact 25 (f := .mkr "Clip") rfl)
  have gl_Clip : mg "Clip" = some (.ref (He.ga K "Clip")) := He.glo_ok X G (c.fact 23 (f := .glo "Clip") rfl)
  have mkr_Reader : Mk K (He.ga K "Reader") (He.ma K (He.ga K "Reader") "__init__") := He.mkr_ok (c.fact 34 (f := .mkr "Reader") rfl)
  have gl_Reader : mg "Reader" = some (.ref (He.ga K "Reader")) := He.glo_ok X G (c.fact 32 (f := .glo "Reader") rfl)
  have mkr_Evaluator : Mk K (He.ga K "Evaluator") (He.ma K (He.ga K "Evaluator") "__init__") := He.mkr_ok (c.fact 53 (f := .mkr "Evaluator") rfl)
  have gl_Evaluator : mg "Evaluator" = some (.ref (He.ga K "Evaluator")) := He.glo_ok X G (c.fact 51 (f := .glo "Evaluator") rfl)
  -- the reader
  have kind := mk_Reader_kind_here (ok_kind F_Reader_kind_here T)
  have word := mk_Reader_word_here (ok_word F_Reader_word_here T)
  have line := mk_Reader_line_here (ok_line F_Reader_line_here T)
  have skip := mk_Reader_skip (ok_skip F_Reader_skip T kind)
  have expect := mk_Reader_expect (ok_expect F_Reader_expect kind word skip)
  have enter := mk_Reader_enter (ok_enter F_Reader_enter T expect)
  have leave := mk_Reader_leave (ok_leave F_Reader_leave T expect)
  have number := mk_Reader_number (ok_number F_Reader_number T kind skip)
  have signed := mk_Reader_signed (ok_signed F_Reader_signed word skip number)
  have R : Rd P w K mg base (He.ga K "Reader") := ⟨kind, word, line, skip, expect, enter, leave, number, signed⟩
  have ex0 : C8.Met P w K mg base 5 (He.ga K "Reader") "expression" (spP (He.ga K "Reader") K (pExpr 0)) [] := mk_Reader_expression (fn_vac fun vs H Q E h => by
    obtain ⟨x, _, _, h, _⟩ := h
    cases h)
  have exS : ∀ {k n : Nat}, 4 ≤ k → C8.Met P w K mg base k (He.ga K "Reader") "expression" (spP (He.ga K "Reader") K (pExpr n)) [] → C8.Met P w K mg base (k + 5) (He.ga K "Reader") "expression" (spP (He.ga K "Reader") K (pExpr (n + 1))) [] := fun {k n} hk h =>
    mk_Reader_expression (ok_expression (k := k + 4) (pf := pProduct (pExpr n)) (by omega) F_Reader_expression word skip (mk_Reader_product (ok_product (k := k + 3) (pf := pOperand (pExpr n)) (by omega) F_Reader_product R (mk_Reader_operand (ok_operand (k := k + 2) (pf := pAtom (pExpr n)) (by omega) F_Reader_operand R
      (mk_Reader_atom (ok_atom hk F_Reader_atom T R h (mk_Reader_call (ok_call hk F_Reader_call R h)))))))))
  have ex5 := exS (by decide) (exS (by decide) (exS (by decide) (exS (by decide) (exS (by decide) ex0))))
  have ends := mk_Reader_skip_ends (ok_skip_ends F_Reader_skip_ends R)
  have scr := mk_Reader_script (ok_script (by decide) (fun S t S' h => tl_expr 5 h) F_Reader_script T R ends ex5)
  have runl := mk_run_length (ok_run F_run_length T)
  have tokat := mk_token_at (ok_token F_token_at T runl)
  have linet := mk_line_tokens (ok_line_tokens F_line_tokens T tokat)
  have textt := mk_text_tokens (ok_text_tokens F_text_tokens T linet)
  have mkReader : C8.Mak P w K mg base 1 "Reader" (He.ga K "Reader") (spRInit (He.ga K "Reader")) [] := ⟨_, _, _, _, mkr_Reader, ok_rinit F_Reader_init T, gl_Reader, b_Reader_init, .nil⟩
  have parF := ok_parse (by decide) F_parse_script T textt mkReader scr
  have par := mk_parse_script parF
  -- pieces
  have isint := mk_is_integer (ok_is_integer F_is_integer T)
  have betw := mk_is_between (ok_is_between F_is_between T isint)
  have isname := mk_is_name (ok_is_name F_is_name T)
  have len1 := ok_piece_length (Ok := IsFl) F_piece_length T (mk_total_length (k := 0) (sp := fun _ _ _ _ => False) (fn_vac fun _ _ _ _ h => h)) (fun n fs h => by obtain ⟨g, h⟩ := h; cases h)
  have tot2 := ok_total_length F_total_length T (mk_piece_length len1)
  have len3 := ok_piece_length (Ok := Piece.Ok) F_piece_length T (mk_total_length tot2) (fun n fs h => ⟨h.1, h.2.1, fun v H Q E hd hQ => ⟨(v, fs.map Piece.fl), rfl, hd, (fun p hp => by obtain ⟨g, _, rfl⟩ := List.mem_map.mp hp; exact ⟨g, rfl⟩), (by rw [List.length_map]; exact h.2.2), fun H' e => by have := hQ H' e; rw [← psLen_fl] at this; exact this⟩⟩)
  have tot4 := mk_total_length (ok_total_length F_total_length T (mk_piece_length len3))
  have cnt1 := ok_piece_count (Ok := IsFl) F_piece_count T (mk_piece_count (k := 0) (sp := fun _ _ _ _ => False) (fn_vac fun _ _ _ _ h => h)) (fun n fs h => by obtain ⟨g, h⟩ := h; cases h)
  have cnt2 := mk_piece_count (ok_piece_count (Ok := Piece.Ok) F_piece_count T (mk_piece_count cnt1) (fun n fs h v H Q E hd hQ => ⟨(v, fs.map Piece.fl), rfl, hd, (fun p hp => by obtain ⟨g, _, rfl⟩ := List.mem_map.mp hp; exact ⟨g, rfl⟩), (by rw [List.length_map]; exact h.2.2), fun H' e => by have := hQ H' e; rw [← psCnt_fl] at this; exact this⟩))
  have merg := mk_merged (ok_merged F_merged T)
  have bothC := mk_both_pieces (ok_both F_both_pieces T merg)
  have rept := mk_repeated_pieces (ok_repeated F_repeated_pieces T)
  have cutp := mk_cut_piece (ok_cut_piece F_cut_piece T (mk_cut_repeat (k := 0) (sp := fun _ _ _ _ => False) (fn_vac fun _ _ _ _ h => h)))
  have cutps := mk_cut_pieces (ok_cut_pieces (k := 3) (Ok := IsFl) (by decide) (fun g => ⟨g, rfl⟩) F_cut_pieces T (mk_piece_length (len1.mono (by decide))) bothC cutp)
  have gaind := mk_gained_pieces (ok_gained F_gained_pieces T (mk_gained_pieces (k := 0) (sp := fun _ _ _ _ => False) (fn_vac fun _ _ _ _ h => h)))
  -- Clip
  have ciF := ok_cinit F_Clip_init T tot4 cnt2
  have mkClip : C8.Mak P w K mg base 5 "Clip" (He.ga K "Clip") (spCInit K (He.ga K "Clip")) [] := ⟨_, _, _, _, mkr_Clip, ciF, gl_Clip, b_i1, vd1⟩
  have mkClip0 : C8.Mak P w K mg base 5 "Clip" (He.ga K "Clip") (spCInit K (He.ga K "Clip")) [.ref (empA K)] := ⟨_, _, _, _, mkr_Clip, ciF, gl_Clip, b_i0, vd0⟩
  have cread : ClX.CRead K (He.ga K "Clip") (.type "type") := cread_reads (ex_at cx 0 rfl)
  have part : Sta P w K mg base 7 (He.ga K "Clip") "part" (spPart K (He.ga K "Clip")) [] := ⟨_, _, _, _, _, _, cread, smet_of (ex_at cx 1 rfl) F_Clip_part.kp, ok_part F_Clip_part T isname isint mkClip, b_Clip_part, .nil⟩
  have silence : Sta P w K mg base 7 (He.ga K "Clip") "silence" (spSil K (He.ga K "Clip")) [] := ⟨_, _, _, _, _, _, cread, smet_of (ex_at cx 2 rfl) F_Clip_silence.kp, ok_silence F_Clip_silence T betw mkClip, b_Clip_silence, .nil⟩
  have prop : PropOf K (He.ga K "Clip") "length" (He.ma K (He.ga K "Clip") "length") (getA K) := ⟨He.eqO_ok (ex_at cx 3 rfl), He.eqO_ok (ex_at cx 4 rfl), of_decide_eq_true (ex_at cx 5 rfl), getA_rec (ex_at cx 6 rfl)⟩
  have lengthP : Prp P w K mg base 1 (He.ga K "Clip") "length" (spLen K (He.ga K "Clip")) := ⟨_, _, _, _, T.clC, prop, ok_length F_Clip_length T, b_Clip_length⟩
  have stretch := mk_Clip_require_stretch (ok_stretch F_Clip_require_stretch T betw)
  have cutM := mk_Clip_cut (ok_cut F_Clip_cut T stretch cutps mkClip)
  have gainM := mk_Clip_gained (ok_gainedC F_Clip_gained T betw gaind mkClip)
  have sf : PySem.W.selfFirst K (He.ga K "Clip") = true := ex_at cx 7 rfl
  have addO : Opr2 P w K mg base 7 (He.ga K "Clip") .Add (spAdd K (He.ga K "Clip")) := ⟨_, _, _, sf, me_Clip_add.at_, me_Clip_add.fn, ok_add F_Clip_add T bothC mkClip, b_Clip_add⟩
  obtain ⟨rc, hrc, hrc'⟩ := isRef_ok (ex_at cx 8 rfl)
  obtain ⟨fo, hfo⟩ := Option.isSome_iff_exists.mp (ex_at cx 9 rfl)
  obtain ⟨ro, hro⟩ := Option.isSome_iff_exists.mp (ex_at cx 10 rfl)
  have mulO : OprI P w K mg base 7 (He.ga K "Clip") .Mult (spMul K (He.ga K "Clip")) := ⟨_, _, _, fo, ro, rc, sf, me_Clip_mul.at_, me_Clip_mul.fn, hrc, hrc', hfo, hro, of_decide_eq_true (ex_at cx 11 rfl), ok_mul F_Clip_mul T betw rept mkClip, b_Clip_mul⟩
  have isC : C8.InsC K (He.ga K "Clip") := ⟨T.clC, He.eqO_ok (ex_at cx 12 rfl), He.eqO_ok (ex_at cx 13 rfl), of_decide_eq_true (ex_at cx 14 rfl), of_decide_eq_true (ex_at cx 15 rfl), kit_self⟩
  have eqE : OprE P w K mg base 1 (He.ga K "Clip") (EqR K (He.ga K "Clip")) := ⟨_, _, _, me_Clip_eq.at_, me_Clip_eq.fn, ok_eq isC F_Clip_eq T, b_Clip_eq⟩
  have C : Cm P w K mg base (He.ga K "Clip") (empA K) := ⟨part, silence, lengthP, stretch, cutM, gainM, addO, mulO, mkClip0, tupAt_ok (ex_at cx 17 rfl)⟩
  -- evaluation
  have repl := mk_replaced (ok_replaced F_replaced T C)
  have mkEv : C8.Mak P w K mg base 1 "Evaluator" (He.ga K "Evaluator") (spEInit (He.ga K "Evaluator")) [] := ⟨_, _, _, _, mkr_Evaluator, ok_einit F_Evaluator_init T, gl_Evaluator, b_Evaluator_init, .nil⟩
  have named := mk_Evaluator_named (ok_named F_Evaluator_named T C)
  have ev0 : FnOk P w K mg base CX0 8 (He.ma K (He.ga K "Evaluator") "clip") fd_Evaluator_clip ["self", "tree"] (spEval K (He.ga K "Clip") (He.ga K "Evaluator") 0) := fn_vac fun vs H Q E h => by
    obtain ⟨x, _, _, _, h, _⟩ := h
    exact absurd h (by have := dep_pos x.2.2.1; omega)
  have evS : ∀ {k n : Nat}, 8 ≤ k → FnOk P w K mg base CX0 k (He.ma K (He.ga K "Evaluator") "clip") fd_Evaluator_clip ["self", "tree"] (spEval K (He.ga K "Clip") (He.ga K "Evaluator") n) → FnOk P w K mg base CX0 (k + 1) (He.ma K (He.ga K "Evaluator") "clip") fd_Evaluator_clip ["self", "tree"] (spEval K (He.ga K "Clip") (He.ga K "Evaluator") (n + 1)) := fun hk h =>
    ok_eval hk F_Evaluator_clip T C named repl (mk_Evaluator_clip h)
  have ev5 := evS (by decide) (evS (by decide) (evS (by decide) (evS (by decide) (evS (by decide) ev0))))
  have clipC := mk_clip_of (ok_clip_of (k := 32) (by decide) F_clip_of T mkEv par (mk_Evaluator_clip (ev5.mono (by decide))))
  have pool := mk__law_pool (ok_pool F__law_pool T)
  have take := mk__law_take (ok_take F__law_take T)
  exact ok_law (k := 33) (by decide) sevens F_law T pool take clipC (mk_parse_script (parF.mono (by decide))) part addO eqE
end FJ

set_option Elab.async false
set_option linter.all false
set_option maxRecDepth 100000
set_option maxHeartbeats 0
namespace FJ
open PySem PySem.Spec PyProof.Rows L2
theorem lawFacts {P : Program} {w : World} {K : PySem.W.Frag} {h : Heap} {mg : Str → Option Value} {f : Addr} (X : K.In h) (G : h.Ns mainGlobals mg) (hfa : mg ("law" : Str) = some (.ref f)) (c : He5.SaysA fa fn K) (cx : exB K = true) :
    ∃ fd : FuncData, (∀ (s : Shared) (v : Value), BindsTo s fd ⟨[v], []⟩ [("_law_script", v)]) ∧ ∀ base : Heap, FnOk P w K mg base CX0 34 f fd ["_law_script"] (spLaw K) := by
  obtain ⟨fd, F⟩ : ∃ fd, FnP K "law" "law" s_law (He.ga K "law") fd := c.def_ 22 (d := d_law) rfl
  have e := hfa.symm.trans (He.glo_ok X G (c.fact 22 (f := .glo "law") rfl))
  cases e
  have b := FunD.bindsA (ps := ["_law_script"]) F fun _ _ _ _ _ _ us hl => match us, hl with | [_], _ => rfl
  exact ⟨fd, fun s v => b s [v] rfl, fun base => put X G c cx F⟩
end FJ
open PySem PySem.W PySem.Calls PyProof.Rows
theorem PySem.Challenge.cw_framejoins_k62_whole_scripts_that_say_th_holds : PySem.Challenge.rw_framejoins_k62_whole_scripts_that_say_th.Holds := by
  w_on; o_law
  refine HandSHeadRun.head_any (r := OpenLaw.row PySem.Challenge.rw_framejoins_k62_whole_scripts_that_say_th) (q := view (OpenLaw.row PySem.Challenge.rw_framejoins_k62_whole_scripts_that_say_th).prog [60]) (H := FJ.hkJ) (ob := FJ.obJ) (M := 30000) (loose := FJ.looseJ) (d := HandSHeadRun.topDef (OpenLaw.row PySem.Challenge.rw_framejoins_k62_whole_scripts_that_say_th).prog 60) (kwd := []) FJ.obJ_eq
    (by kernel_rfl) (fun s => by kernel_rfl) FJ.runJ (by kernel_rfl) (by kernel_rfl) (by kernel_rfl) (by rfl) (by first | assumption | decide +kernel) (by decide +kernel) ⟨rfl, rfl, rfl, rfl, rfl, by decide +kernel⟩ ?hw ?hc
  case hw => w_witness2
  case hc =>
    refine L2.walk_ofE (l := PySem.Challenge.rw_framejoins_k62_whole_scripts_that_say_th) (n := 63) (k := 34) (x := "_law_script") (CX := L2.CX0) rfl (by decide) (by kernel_rfl) ⟨rfl, by decide, by decide⟩ ?F (fun _ _ _ _ z => z)
    intro w mg fa h Y G hmg0
    obtain ⟨K, KX, c, cx⟩ := Y
    have hmg : mg ("law" : PySem.Str) = some (.ref fa) := by
      have e : (HandSHeadRun.topDef (OpenLaw.row PySem.Challenge.rw_framejoins_k62_whole_scripts_that_say_th).prog 60).name = ("law" : PySem.Str) := by kernel_rfl
      rw [← e]
      exact hmg0
    obtain ⟨fd, hb, hF⟩ := FJ.lawFacts (P := (PySem.Challenge.rw_framejoins_k62_whole_scripts_that_say_th).prog) (w := w) KX G hmg c cx
    exact ⟨K, fd, FJ.spLaw K, KX, hb, fun H a ns hl _ hS => ⟨(a, ns), rfl, hS, Nat.le_trans hl (by decide), fun _ => rfl⟩, fun base _ _ => hF base⟩

