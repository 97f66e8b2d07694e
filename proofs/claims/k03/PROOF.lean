import PyProof.Rows.All
import Wide.All
import OpenK.AllK
import Wide.FinOn
import HandS.ForMost
import HandS.Exc
import HandS.ExcOwn
import HandS.ExcInit
import HandS.TryOnly
import HandS.TryMany
import HandS.ExcField
import HandS.ExcIs
import HandS.WordsExc
import HandS.Style
import HandS.Wide
import HandS.Walk
import HandS.Deep
import HandS.Defaults
import PyProof.ReprRoads
import HandS.TupAny
import HandS.Codes
import KE.SortData
import PyProof.TupleOfSeq
import HandS.RaiseMore
import KE.GoesEnum
import HandS.Iter
import HandS.TupSets
import PyProof.Rows.FactsExc_KeyError
import PyProof.ExcBaseAll.LookupError
import PyProof.InstStoreFacts
import KE.KExcIs
import HandS.EndBits
import HandS.IsInst
import HandS.Star
import HandS.Dict
import PySem.Challenge.RW_undoamid_k03_tables_refused
set_option Elab.async false
set_option linter.all false
set_option maxRecDepth 100000
set_option maxHeartbeats 4000000
/-! U0: what a def does to the heap: facts that stay (G), the whole (H) -/
namespace U
open PySem PySem.Spec PyProof.Rows L2

/-- G: what stays as it is; H: all that is tracked. From (G, H) to (G', H'): what stays stays, S alone may change of what was there -/
structure Grow (S : Addr → Prop) (G H G' H' : Hp) : Prop where
  gs : Same G G'
  sub : Same G' H'
  keep : ∀ b o, ¬ S b → H b = some o → H' b = some o
  new : ∀ b o, H b = some o → G b = none → G' b = none
  dom : ∀ b o, H b = some o → ∃ o', H' b = some o'

def NoS : Addr → Prop := fun _ => False

section
variable {S S' : Addr → Prop} {G H G1 H1 G2 H2 : Hp} {p : Addr} {o : HO}
theorem Grow.refl (h : Same G H) : Grow S G H G H := ⟨Same.refl _, h, fun _ _ _ e => e, fun _ _ _ e => e, fun _ o e => ⟨o, e⟩⟩
theorem Grow.trans (a : Grow S G H G1 H1) (b : Grow S G1 H1 G2 H2) : Grow S G H G2 H2 where
  gs := a.gs.trans b.gs
  sub := b.sub
  keep := fun c o n e => b.keep c o n (a.keep c o n e)
  new := fun c o e n => by
    obtain ⟨o', e'⟩ := a.dom c o e
    exact b.new c o' e' (a.new c o e n)
  dom := fun c o e => by
    obtain ⟨o', e'⟩ := a.dom c o e
    exact b.dom c o' e'
theorem Grow.mono (a : Grow S G H G1 H1) (h : ∀ b, S b → S' b) : Grow S' G H G1 H1 :=
  ⟨a.gs, a.sub, fun c o n e => a.keep c o (fun z => n (h c z)) e, a.new, a.dom⟩
theorem Grow.of0 (a : Grow NoS G H G1 H1) : Grow S G H G1 H1 := a.mono fun _ z => z.elim
theorem Grow.free (a : Grow S G H G1 H1) (h : H1 p = none) : H p = none := by
  cases e : H p with
  | none => rfl
  | some o =>
    obtain ⟨o', e'⟩ := a.dom p o e
    rw [h] at e'
    cases e'
theorem sub_none (h : Same G H) (e : H p = none) : G p = none := h.free e
/-- a new object, known for good -/
theorem Grow.al (a : Grow S G H G1 H1) (h : H1 p = none) : Grow S G H (upd G1 p o) (upd H1 p o) where
  gs := fun b u e => by rw [upd_ne (ne_of_none (a.sub _ _ (a.gs _ _ e)) h)]; exact a.gs _ _ e
  sub := fun b u e => by
    by_cases hb : b = p
    · subst hb; rw [upd_same] at e ⊢; exact e
    · rw [upd_ne hb] at e ⊢; exact a.sub _ _ e
  keep := fun b u n e => by rw [upd_ne (ne_of_none (a.keep _ _ n e) h)]; exact a.keep _ _ n e
  new := fun b u e n => by
    obtain ⟨o', e'⟩ := a.dom b u e
    rw [upd_ne (ne_of_none e' h)]
    exact a.new b u e n
  dom := fun b u e => by
    obtain ⟨o', e'⟩ := a.dom b u e
    exact ⟨o', by rw [upd_ne (ne_of_none e' h)]; exact e'⟩
/-- a new object, not yet known for good -/
theorem Grow.av (a : Grow S G H G1 H1) (h : H1 p = none) : Grow S G H G1 (upd H1 p o) where
  gs := a.gs
  sub := fun b u e => by rw [upd_ne (ne_of_none (a.sub _ _ e) h)]; exact a.sub _ _ e
  keep := fun b u n e => by rw [upd_ne (ne_of_none (a.keep _ _ n e) h)]; exact a.keep _ _ n e
  new := a.new
  dom := fun b u e => by
    obtain ⟨o', e'⟩ := a.dom b u e
    exact ⟨o', by rw [upd_ne (ne_of_none e' h)]; exact e'⟩
/-- a change of an object that is not known for good: new since (G, H), or in S -/
theorem Grow.wr (a : Grow S G H G1 H1) (hg : G1 p = none) (hp : H p = none ∨ S p) : Grow S G H G1 (upd H1 p o) where
  gs := a.gs
  sub := fun b u e => by
    have hb : b ≠ p := fun z => by rw [z, hg] at e; cases e
    rw [upd_ne hb]; exact a.sub _ _ e
  keep := fun b u n e => by
    have hb : b ≠ p := fun z => by
      subst z
      rcases hp with h | h
      · rw [h] at e; cases e
      · exact n h
    rw [upd_ne hb]; exact a.keep _ _ n e
  new := a.new
  dom := fun b u e => by
    by_cases hb : b = p
    · subst hb; exact ⟨o, upd_same⟩
    · obtain ⟨o', e'⟩ := a.dom b u e
      exact ⟨o', by rw [upd_ne hb]; exact e'⟩
/-- what is new is known for good from now on -/
theorem Grow.fz (a : Grow S G H G1 H1) (h1 : H1 p = some o) (hp : H p = none) (hg : G1 p = none) : Grow S G H (upd G1 p o) H1 where
  gs := fun b u e => by
    have hb : b ≠ p := fun z => by rw [← z, a.gs _ _ e] at hg; cases hg
    rw [upd_ne hb]; exact a.gs _ _ e
  sub := fun b u e => by
    by_cases hb : b = p
    · subst hb; rw [upd_same] at e; rw [← e]; exact h1
    · rw [upd_ne hb] at e; exact a.sub _ _ e
  keep := a.keep
  new := fun b u e n => by
    have hb : b ≠ p := fun z => by rw [z, hp] at e; cases e
    rw [upd_ne hb]; exact a.new b u e n
  dom := a.dom
end

/-! ### data, for good -/
section
variable {K : PySem.W.Frag} {G H : Hp}
theorem sqT_same {a : Addr} {xs : List V} (e : Same G H) (h : SqT K G a xs) : SqT K H a xs := by
  rcases h with (h | ⟨o, h⟩) | h
  · exact .inl (.inl (e _ _ h))
  · exact .inl (.inr ⟨o, e _ _ h⟩)
  · exact .inr h
theorem sqL_same {a : Addr} {xs : List V} (e : Same G H) (h : SqL K G a xs) : SqL K H a xs := e.seq h
mutual
theorem dp_same (e : Same G H) : ∀ {v : V} {d : PyData}, Dp K G v d → Dp K H v d
  | _, _, .non => .non
  | _, _, .bl b => .bl b
  | _, _, .int i => .int i
  | _, _, .str x => .str x
  | _, _, .lst h1 h2 => .lst (sqL_same e h1) (dpA_same e h2)
  | _, _, .tup h1 h2 => .tup (sqT_same e h1) (dpA_same e h2)
theorem dpA_same (e : Same G H) : ∀ {vs : List V} {ds : List PyData}, DpAll K G vs ds → DpAll K H vs ds
  | _, _, .nil => .nil
  | _, _, .cons h1 h2 => .cons (dp_same e h1) (dpA_same e h2)
end
end
end U

set_option Elab.async false
set_option linter.all false
set_option maxRecDepth 100000
set_option maxHeartbeats 4000000
/-! U1: defs called where no repr is under way (so that reprs of lists may be told) -/
namespace U
open PySem PySem.Spec PyProof.Rows L2

/-- room, and no repr under way -/
structure RG (k : Nat) (A : Around) : Prop where
  r : Room k A
  g : A.guards = some []
theorem RG.mono {j k : Nat} {A : Around} (x : RG k A) (h : j ≤ k) : RG j A := ⟨x.r.mono h, x.g⟩
theorem RG.in1 {k : Nat} {A : Around} (x : RG (k + 1) A) : RG k A.in1 := ⟨x.r.in1, x.g⟩
theorem RG.deeper {k : Nat} {A : Around} (x : RG (k + 1) A) (env : Env) : RG k (A.deeper env) := ⟨x.r.deeper env, x.g⟩
theorem make_guards {A : Around} {C : Addr} {us : List Value} {kw : List (Str × Value)} : (A.under (.builtin "type.__call__" ⟨.ref C :: us, kw⟩)).guards = A.guards := by
  have hg : (Code.builtin "type.__call__" ⟨.ref C :: us, kw⟩).isGuard = false := by
    unfold Code.isGuard
    simp [guardIds]
  unfold Around.under
  simp [Code.guards, hg, pushGuards]
theorem RG.make {k : Nat} {A : Around} (x : RG (k + 1) A) (C : Addr) (us : List Value) (kw : List (Str × Value)) : RG k (A.under (.builtin "type.__call__" ⟨.ref C :: us, kw⟩)) :=
  ⟨x.r.make C us kw, make_guards.trans x.g⟩

/-- as FnOk, called where no repr is under way; it may raise -/
structure FnG (P : Program) (w : World) (K : PySem.W.Frag) (mg : Str → Option Value) (base : Heap) (k : Nat) (f : Addr) (fd : FuncData) (ps : List Str) (sp : Sp) : Prop where
  len : ∀ vs H Q E, sp vs H Q E → vs.length = ps.length
  run : ∀ (A : Around) (outer : List Env) (s : Shared) (H : Hp) (args : Args) (us : List Value) (vs : List V) (Q : VK) (E : XK), RG k A → Env0 P w K mg base A outer s H → BindsTo s fd args (ps.zip us) → Vals vs us →
    sp vs H Q E → codeAny (model P w) A (.call (.ref f) args) (CR (L2.CX P w) outer P w H s Q E) s

section
variable {P : Program} {w : World} {K : PySem.W.Frag} {mg : Str → Option Value} {base : Heap}
theorem FnG.mono {j k : Nat} {f : Addr} {fd : FuncData} {ps : List Str} {sp : Sp} (F : FnG P w K mg base j f fd ps sp) (h : j ≤ k) : FnG P w K mg base k f fd ps sp :=
  ⟨F.len, fun A outer s H args us vs Q E hr => F.run A outer s H args us vs Q E (hr.mono h)⟩
theorem FnG.imp {k : Nat} {f : Addr} {fd : FuncData} {ps : List Str} {sp sp' : Sp} (F : FnG P w K mg base k f fd ps sp) (h : ∀ vs H Q E, sp' vs H Q E → sp vs H Q E) : FnG P w K mg base k f fd ps sp' :=
  ⟨fun vs H Q E q => F.len vs H Q E (h _ _ _ _ q), fun A outer s H args us vs Q E hr he hb hv hs => F.run A outer s H args us vs Q E hr he hb hv (h _ _ _ _ hs)⟩
/-- what a def that was shown without this can be used as -/
theorem FnG.of {k : Nat} {f : Addr} {fd : FuncData} {ps : List Str} {sp : Sp} (F : FnOk P w K mg base (L2.CX P w) k f fd ps sp) : FnG P w K mg base k f fd ps sp :=
  ⟨F.len, fun A outer s H args us vs Q E hr => F.run A outer s H args us vs Q E hr.r⟩

/-- the rule for a def: its body's walk, and what the walk comes to -/
theorem FnG.ok {x qual : Str} {params : Arguments} {body : List Stmt} {scope : Scope} {dvs : List V} {kws : List (Str × V)} {f : Addr} {fd : FuncData} {N ps : List Str} {k : Nat} {sp : Sp}
    (F : FunD K x qual params body scope dvs kws f fd) (S : FnScope N ps scope) (len : ∀ vs H Q E, sp vs H Q E → vs.length = ps.length)
    (hbody : ∀ (cdv : Value) (A : Around) (outer : List Env) (s : Shared) (H : Hp) (vs : List V) (Q : VK) (E : XK), RG k (A.deeper (envOfC qual scope s.heap.objs.size f cdv)) → sp vs H Q E →
      ∃ t, PSs (cxOf (L2.CX P w) P w K mg base N qual scope f cdv A outer s H E) body t ∧ t { nx := fun _ H' => Q .non H', rt := Q } (start N vs) H) : FnG P w K mg base (k + 1) f fd ps sp := by
  obtain ⟨oc, od, dV, kV, doc, pm, an, cdv, ct, osl, rfl, lk, hcd, _, _⟩ := F.ex
  refine ⟨len, fun A outer s H args us vs Q E hr e0 hb r hsp => ?_⟩
  have hl := len _ _ _ _ hsp
  have hbk := fun (b : Addr) (o : Obj) (e : base.get? b = some o) => (e0.bs b o e).1
  have hkind : ∀ y ∈ ps.zip us, scope.names.lookup y.1 = some .local ∨ (scope.names.lookup y.1 = some .cell ∧ ((cellsFrom (s.heap.objs.size + 1) scope.names []).lookup y.1).isSome = true) := by
    rintro ⟨n, v⟩ hy
    rcases S.par n (List.of_mem_zip hy).1 with q | q
    · exact .inl q
    · exact .inr ⟨q, PySem.W.cellsFrom_some _ _ _ (.inl q)⟩
  refine codeAny_call_function hr.r.depth (e0.mod.kin.keeps hbk _ _ lk) rfl S.co S.gen rfl (PySem.W.codeRec_of (e0.mod.kin.keeps hbk) hcd) (hb _ _ _ _ ?_)
  refine wpAny_newFunctionEnv_cells S.kind hkind fun env he s1 x => ?_
  subst he
  refine ⟨(e0.mod.nolimit.keeps hbk).keeps x.toInCall.keep, codeAny_func ?_⟩
  obtain ⟨t, ht, hq⟩ := hbody cdv A outer s H vs Q E (hr.deeper _) hsp
  refine wpAny_mono (ht.run [] s1 (start N vs) H _ (inv_start S hr.r.hd e0 hl r x) hq) (fun fl s' hs => ?_) fun e s' hs => hs
  cases fl with
  | ret u => exact let ⟨v, σ', H', J, rv, q⟩ := hs; ⟨v, H', J.os, J.bare, J.base, J.hok, rv, q⟩
  | next => exact let ⟨σ', H', J, q⟩ := hs; ⟨V.non, H', J.os, J.bare, J.base, J.hok, rfl, q⟩
  | brk => exact let ⟨_, _, _, q⟩ := hs; False.elim q
  | cont => exact let ⟨_, _, _, q⟩ := hs; False.elim q
end

/-! ### calls -/
/-- f(..) -/
def uCall (sp : Sp) (dvs : List V) (W : WX) (t : TA) : TE := fun σ H Q => t σ H fun vs H1 => sp (vs ++ dvs) H1 Q fun cls d H2 => W cls d σ H2
/-- C(..) -/
def uMake (C : Addr) (sp : Sp) (dvs : List V) (W : WX) (t : TA) : TE := fun σ H Q => t σ H fun vs H1 => ∀ x dx, H1 x = none → H1 dx = none → dx ≠ x →
  sp (.ref x :: (vs ++ dvs)) (upd (upd H1 dx (.own x)) x (.ins C dx [])) (fun v H2 => v = .non ∧ Q (.ref x) H2) fun cls d H2 => W cls d σ H2
/-- o.m(..) -/
def uMeth (C : Addr) (m : Str) (sp : Sp) (dvs : List V) (W : WX) (ta : TE) (t : TA) : TE := fun σ H Q => ta σ H fun x H1 => ∃ a dx fs, x = .ref a ∧ H1 a = some (.ins C dx fs) ∧ fs.lookup m = none ∧
  t σ H1 fun vs H2 => sp (x :: (vs ++ dvs)) H2 Q fun cls d H3 => W cls d σ H3
/-- nothing is let out -/
abbrev W0 : WX := fun _ _ _ _ => False

section
variable {X : Cx} {W : WX} {k : Nat} {f C : Addr} {fd : FuncData} {ps : List Str} {sp : Sp} {dvs : List V} {ds : List Value} {x m : Str} {p pos apos : Pos} {e o : Expr} {es : List Expr} {ta : TE} {t : TA}
/-- the end of a call, as the body wants it -/
theorem end_call {pins : List (Addr × Obj)} {σ : L2.St} {H : Hp} {s s' : Shared} {Q : VK} {r : Result} {R : Result → Shared → Prop} (tk : Takes X W) (I : Inv X pins σ H s) (hq : CR (L2.CX X.prog X.w) X.stack X.prog X.w H s Q (fun cls d H2 => W cls d σ H2) r s')
    (h1 : ∀ u, EP X pins σ Q u s' → R (.ok (.ret u)) s') (h2 : ∀ e, X.xe e s' → R (.error e) s') : R r s' := by
  cases r with
  | error e => exact h2 e (passAt tk σ pins H s e s' I hq)
  | ok fl =>
    cases fl with
    | ret u => exact h1 u (I.after hq)
    | next => exact False.elim hq
    | brk => exact False.elim hq
    | cont => exact False.elim hq
theorem run_at {pins : List (Addr × Obj)} {σ : L2.St} {H : Hp} {s : Shared} {Q : VK} {us : List Value} {vs : List V} (F : FnG X.prog X.w X.K X.mg X.base k f fd ps sp) (hr : RG k X.A) (hb : Binds X.K fd ps ds) (hd : Vals dvs ds) (tk : Takes X W)
    (I : Inv X pins σ H s) (r : Vals vs us) (h : sp (vs ++ dvs) H Q fun cls d H2 => W cls d σ H2) : wpAny (model X.prog X.w) X.A (call (.ref f) us) (EP X pins σ Q) X.xe s := by
  have r2 := r.append hd
  have hl : (us ++ ds).length = ps.length := r2.length.symm.trans (F.len _ _ _ _ h)
  refine wpAny_call (codeAny_mono (F.run X.A X.stack s H ⟨us, []⟩ (us ++ ds) (vs ++ dvs) Q _ hr I.env0 (hb s us I.kIn hl) r2 h) fun r s' hq => ?_)
  cases r with
  | error e => exact passAt tk σ pins H s e s' I hq
  | ok fl =>
    cases fl with
    | ret u => exact I.after hq
    | next => exact False.elim hq
    | brk => exact False.elim hq
    | cont => exact False.elim hq
theorem ge_call (F : FnG X.prog X.w X.K X.mg X.base k f fd ps sp) (hr : RG k X.A) (hg : Gl X x) (hm : X.mg x = some (.ref f)) (hk : PySem.W.keepIn X.K (.ref f) = true) (hb : Binds X.K fd ps ds) (hd : Vals dvs ds) (tk : Takes X W)
    (ha : PA X (e :: es) t) (hdb : (x == ("__debug__" : Str)) = false := by decide) (he : starEach (e :: es) X.env = (false, eval e X.env) :: starEach es X.env := by rfl) (hpl : (backTo pos (starEach es X.env)).any (·.1) = false := by rfl) :
    PE X (.Call (.Name x p) (e :: es) [] pos) (uCall sp dvs W t) :=
  ⟨fun pins s σ H Q I h => wpAny_Call_Name_kw (ld_glob I hg hm (PySem.W.callWith_K (h₀ := X.base) I.ok.mod.kin hk (thn (ha.run pos pins s σ H _ I h) fun us s1 ⟨vs, H1, I1, r, q⟩ =>
    ⟨I1.kIn, run_at F hr hb hd tk I1 r q⟩) he hpl) hdb)⟩
theorem ge_call0 (F : FnG X.prog X.w X.K X.mg X.base k f fd ps sp) (hr : RG k X.A) (hg : Gl X x) (hm : X.mg x = some (.ref f)) (hk : PySem.W.keepIn X.K (.ref f) = true) (hb : Binds X.K fd ps ds) (hd : Vals dvs ds) (tk : Takes X W)
    (hdb : (x == ("__debug__" : Str)) = false := by decide) : PE X (.Call (.Name x p) [] [] pos) (uCall sp dvs W tNil) :=
  ⟨fun pins s σ H Q I h => wpAny_Call_Name_kw (ld_glob I hg hm (PySem.W.callWith_K0 I.kIn hk (run_at (us := []) F hr hb hd tk I .nil h)) hdb)⟩
theorem ge_meth {pl : Sem Bool} (he : PE X o ta) (c : Cls X.K C) (hm : Meth X.K C m f) (F : FnG X.prog X.w X.K X.mg X.base k f fd ps sp) (hr : RG k X.A) (hb : Binds X.K fd ps ds) (hd : Vals dvs ds) (tk : Takes X W) (ha : PA X (e :: es) t)
    (hst : starEach (e :: es) X.env = (false, eval e X.env) :: starEach es X.env := by rfl) (hpl : (backTo pos (starEach es X.env)).any (·.1) = false := by rfl)
    (ht : eval (.Call (.Attribute o m apos) (e :: es) [] pos) X.env = (do
      let ov ← eval o X.env
      standAt apos.atName
      let (f, first) ← holding [ov] (getMethod ov m pl)
      callWith pos f first (backTo pos (starEach (e :: es) X.env)) (backToKw pos (keywordEach [] X.env))) := by rfl) :
    PE X (.Call (.Attribute o m apos) (e :: es) [] pos) (uMeth C m sp dvs W ta t) := by
  refine ⟨fun pins s σ H Q I h => PySem.W.methodCall_KW (pl := pl) (thn (he.run pins s σ H _ I h) fun u s1 ⟨x, H1, I1, rx, a, dx, fs, ex, ea, l, q⟩ => ?_) ht⟩
  subst ex
  obtain rfl : u = Value.ref a := rx
  exact getmeth_ok I1 ea c hm l (PySem.W.callWith_K (first := [.ref a]) (h₀ := X.base) I.ok.mod.kin hm.kp (thn (ha.run pos pins s1 σ H1 _ I1 q) fun us s2 ⟨vs, H2, I2, r, q2⟩ =>
    ⟨I2.kIn, run_at (us := .ref a :: us) (vs := .ref a :: vs) F hr hb hd tk I2 (.cons rfl r) q2⟩) hst hpl)
theorem ge_meth0 {pl : Sem Bool} (he : PE X o ta) (c : Cls X.K C) (hm : Meth X.K C m f) (F : FnG X.prog X.w X.K X.mg X.base k f fd ps sp) (hr : RG k X.A) (hb : Binds X.K fd ps ds) (hd : Vals dvs ds) (tk : Takes X W)
    (ht : eval (.Call (.Attribute o m apos) [] [] pos) X.env = (do
      let ov ← eval o X.env
      standAt apos.atName
      let (f, first) ← holding [ov] (getMethod ov m pl)
      callWith pos f first (backTo pos (starEach [] X.env)) (backToKw pos (keywordEach [] X.env))) := by rfl) :
    PE X (.Call (.Attribute o m apos) [] [] pos) (uMeth C m sp dvs W ta tNil) := by
  refine ⟨fun pins s σ H Q I h => PySem.W.methodCall_KW (pl := pl) (thn (he.run pins s σ H _ I h) fun u s1 ⟨x, H1, I1, rx, a, dx, fs, ex, ea, l, q⟩ => ?_) ht⟩
  subst ex
  obtain rfl : u = Value.ref a := rx
  exact getmeth_ok I1 ea c hm l (PySem.W.callWith_K0 (first := [.ref a]) I1.kIn hm.kp (run_at (us := [.ref a]) (vs := [.ref a]) F hr hb hd tk I1 (.cons rfl .nil) q))
/-- an instance is made -/
theorem run_mk {pins : List (Addr × Obj)} {σ : L2.St} {H : Hp} {s : Shared} {Q : VK} {us : List Value} {vs : List V} (M : Mk X.K C f) (F : FnG X.prog X.w X.K X.mg X.base k f fd ps sp) (hr : RG (k + 1) X.A) (hb : Binds X.K fd ps ds) (hd : Vals dvs ds)
    (tk : Takes X W) (I : Inv X pins σ H s) (r : Vals vs us)
    (h : ∀ x dx, H x = none → H dx = none → dx ≠ x → sp (.ref x :: (vs ++ dvs)) (upd (upd H dx (.own x)) x (.ins C dx [])) (fun v H2 => v = .non ∧ Q (.ref x) H2) fun cls d H2 => W cls d σ H2) :
    wpAny (model X.prog X.w) X.A (call (.ref C) us) (EP X pins σ Q) X.xe s := by
  have hq := h (s.heap.objs.size + 1) s.heap.objs.size (I.hok.fresh (Nat.le_succ _)) (I.hok.fresh (Nat.le_refl _)) (Nat.ne_of_lt (Nat.lt_succ_self _))
  have I2 := Inv.made (C := C) I
  have r2 : Vals (V.ref (s.heap.objs.size + 1) :: (vs ++ dvs)) (Value.ref (s.heap.objs.size + 1) :: (us ++ ds)) := .cons rfl (r.append hd)
  have hl : (Value.ref (s.heap.objs.size + 1) :: us ++ ds).length = ps.length := r2.length.symm.trans (F.len _ _ _ _ hq)
  refine wpAny_call (make_map (f := f) I.kIn M.makes M.init (beq_iff_eq.mp M.fn) (codeAny_mono (F.run _ X.stack _ _ ⟨Value.ref (s.heap.objs.size + 1) :: us, []⟩ (Value.ref (s.heap.objs.size + 1) :: (us ++ ds)) _ _ _ (hr.make C us [])
    (I2.env0.make C us []) (hb _ (Value.ref (s.heap.objs.size + 1) :: us) I2.kIn hl) r2 hq) fun r s' hq' => ?_))
  refine end_call (R := fun r s' => PySem.W.InitBack (s.heap.objs.size + 1) _ r s') tk I2 hq' (fun u ⟨v, H', I3, rv, ev, q3⟩ => ?_) fun e h => h
  subst ev
  exact ⟨rv, ⟨V.ref (s.heap.objs.size + 1), H', I3, rfl, q3⟩⟩
theorem ge_make (M : Mk X.K C f) (F : FnG X.prog X.w X.K X.mg X.base k f fd ps sp) (hr : RG (k + 1) X.A) (hg : Gl X x) (hm : X.mg x = some (.ref C)) (hb : Binds X.K fd ps ds) (hd : Vals dvs ds) (tk : Takes X W)
    (ha : PA X (e :: es) t) (hdb : (x == ("__debug__" : Str)) = false := by decide) (he : starEach (e :: es) X.env = (false, eval e X.env) :: starEach es X.env := by rfl) (hpl : (backTo pos (starEach es X.env)).any (·.1) = false := by rfl) :
    PE X (.Call (.Name x p) (e :: es) [] pos) (uMake C sp dvs W t) :=
  ⟨fun pins s σ H Q I h => wpAny_Call_Name_kw (ld_glob I hg hm (PySem.W.callWith_K (h₀ := X.base) I.ok.mod.kin M.kp (thn (ha.run pos pins s σ H _ I h) fun us s1 ⟨vs, H1, I1, r, q⟩ =>
    ⟨I1.kIn, run_mk M F hr hb hd tk I1 r q⟩) he hpl) hdb)⟩
end
/-- what a def lets out: its own E -/
abbrev WF (E : XK) : WX := fun cls d _ H => E cls d H
/-- within a comprehension nothing is let out -/
theorem takesN {X : Cx} : Takes X W0 := fun _ _ x => by
  obtain ⟨_, _, _, _, _, _, _, _, _, _, _, _, _, _, _, _, z⟩ := x
  exact z.elim

/-! ### repr of data -/
theorem call_reprD {X : Cx} {k : Nat} (hr : RG k X.A) : CallR X (.builtin "repr") (fun xs H Q => ∃ x d, xs = [x] ∧ Dp X.K H x d ∧ d.showable = true ∧ d.hasDict = false ∧ d.depth + 1 ≤ 60 ∧ d.shown.length ≤ sizeLine ∧ Q (.str d.shown) H) := by
  intro pins s σ H xs us Q I r h
  obtain ⟨x, d, rfl, hd, hs, hdc, hdp, hz, q⟩ := h
  have hun := hr.r.units
  cases r with
  | @cons _ u _ _ ru rn =>
    cases rn
    obtain ⟨as, rd⟩ := Dp.reads I d x u hd ru
    have fin : ∀ h' u' tk, (∀ b o, s.heap.get? b = some o → h'.get? b = some o) → EP X pins σ Q (.str d.shown u') { s with heap := h', toks := tk } := fun h' u' tk k => ⟨.str d.shown, H, I.kept k, ⟨_, rfl⟩, q⟩
    cases hd with
    | lst h1 h2 =>
      obtain rfl : u = Value.ref _ := ru
      exact PySem.repr_of_reads' rd hs (fun z => by rw [hdc] at z; cases z) hr.g (by omega) (fun _ _ e => e) fin hz
    | tup h1 h2 =>
      obtain rfl : u = Value.ref _ := ru
      exact PySem.repr_of_reads' rd hs (fun z => by rw [hdc] at z; cases z) hr.g (by omega) (fun _ _ e => e) fin hz
    | non =>
      cases ru
      exact PySem.P.repr_of_none ⟨.str _, H, I.tok _, ⟨_, rfl⟩, q⟩
    | bl b =>
      cases ru
      refine PySem.P.repr_of_bool ⟨.str _, H, I.tok _, ⟨_, rfl⟩, ?_⟩
      cases b <;> exact q
    | int i =>
      obtain ⟨t, rfl⟩ := ru
      refine PySem.P.repr_of_int (by simpa [PyData.showable] using hs) ⟨.str _, H, I.tok _, ⟨_, rfl⟩, q⟩
    | str z =>
      obtain ⟨t, rfl⟩ := ru
      exact PySem.P.repr_of_str ⟨.str _, H, I.tok _, ⟨_, rfl⟩, q⟩ hz
end U

set_option Elab.async false
set_option linter.all false
set_option maxRecDepth 100000
set_option maxHeartbeats 4000000
/-! U2: operators told by cases of the values, so that readings reckon themselves -/
namespace U
open PySem PySem.Spec PyProof.Rows L2
section
variable {X : Cx}
theorem pe_i {e : Expr} {t t' : TE} (h : PE X e t) (i : ∀ σ H Q, t' σ H Q → t σ H Q) : PE X e t' := ⟨fun pins s σ H Q I q => h.run pins s σ H Q I (i σ H Q q)⟩
theorem pt_i {e : Expr} {t t' : TT} (h : PT X e t) (i : ∀ σ H Q, t' σ H Q → t σ H Q) : PT X e t' := ⟨fun pins s σ H Q I q => h.run pins s σ H Q I (i σ H Q q)⟩
theorem ps_i {st : Stmt} {t t' : TS} (h : PS X st t) (i : ∀ D σ H, t' D σ H → t D σ H) : PS X st t' := ⟨fun pins s σ H D I q => h.run pins s σ H D I (i D σ H q)⟩
theorem pi_i {tg e : Expr} {t t' : TI} (h : PI X tg e t) (i : ∀ σ H R, t' σ H R → t σ H R) : PI X tg e t' := ⟨fun pins s σ H Q I q => h.run pins s σ H Q I (i σ H Q q)⟩
theorem op_i {f : Value → Value → Sem Value} {r r' : R2} (h : OpR X f r) (i : ∀ x y H Q, r' x y H Q → r x y H Q) : OpR X f r' := fun pins s σ H x y v u Q I rx ry q => h pins s σ H x y v u Q I rx ry (i x y H Q q)
theorem call_i {f : Value} {r r' : List V → Hp → VK → Prop} (h : CallR X f r) (i : ∀ xs H Q, r' xs H Q → r xs H Q) : CallR X f r' := fun pins s σ H xs us Q I r q => h pins s σ H xs us Q I r (i xs H Q q)
/-- one of two rules for an operator, by the values -/
theorem op_or {f : Value → Value → Sem Value} {r r1 r2 : R2} (h1 : OpR X f r1) (h2 : OpR X f r2) (i : ∀ x y H Q, r x y H Q → r1 x y H Q ∨ r2 x y H Q) : OpR X f r := fun pins s σ H x y v u Q I rx ry q =>
  (i x y H Q q).elim (h1 pins s σ H x y v u Q I rx ry) (h2 pins s σ H x y v u Q I rx ry)
theorem call_or {f : Value} {r r1 r2 : List V → Hp → VK → Prop} (h1 : CallR X f r1) (h2 : CallR X f r2) (i : ∀ xs H Q, r xs H Q → r1 xs H Q ∨ r2 xs H Q) : CallR X f r := fun pins s σ H xs us Q I r q =>
  (i xs H Q q).elim (h1 pins s σ H xs us Q I r) (h2 pins s σ H xs us Q I r)

/-! ### names -/
def uV (i : Nat) : TE := fun σ H Q => match σ[i]? with
  | some (some v) => Q v H
  | _ => False
theorem u_v (i : Nat) {x : Str} {pos : Pos} (hN : X.N[i]? = some x := by rfl) (hv : Vis X.env.scope x := by first | exact Or.inl rfl | exact Or.inr (Or.inl rfl) | exact Or.inr (Or.inr rfl)) (hd : (x == ("__debug__" : Str)) = false := by decide)
    (hcd : (x == ("__classdict__" : Str)) = false := by decide) : PE X (.Name x pos) (uV i) := pe_i (pe_var hN hv hd hcd) fun σ H Q q => by
  unfold uV at q
  split at q
  · rename_i v e
    exact ⟨v, e, q⟩
  · exact q.elim

/-! ### operators -/
def uAdd : R2 := fun x y H Q => match x, y with
  | .int i, .int j => Q (.int (i + j)) H
  | .str a, .str b => a.length + b.length ≤ sizeLine ∧ Q (.str (a ++ b)) H
  | .ref a, .ref b => ∃ xs ys, H a = some (.lst xs) ∧ H b = some (.lst ys) ∧ xs.length + ys.length ≤ sizeLine ∧ ∀ p, H p = none → Q (.ref p) (upd H p (.lst (xs ++ ys)))
  | _, _ => False
theorem o_add : OpR X (binaryOp .Add) uAdd := by
  refine op_or (op_or op_add op_add_str (r := fun x y H Q => (∃ i j, x = .int i ∧ y = .int j ∧ Q (.int (i + j)) H) ∨ ∃ i j, x = .str i ∧ y = .str j ∧ i.length + j.length ≤ sizeLine ∧ Q (.str (i ++ j)) H) fun _ _ _ _ h => h) op_cat fun x y H Q q => ?_
  unfold uAdd at q
  split at q
  · exact .inl (.inl ⟨_, _, rfl, rfl, q⟩)
  · exact .inl (.inr ⟨_, _, rfl, rfl, q⟩)
  · obtain ⟨xs, ys, h1, h2, h3, h4⟩ := q
    exact .inr ⟨_, _, _, _, rfl, rfl, h1, h2, h3, h4⟩
  · exact q.elim
def uSub : R2 := fun x y H Q => match x, y with
  | .int i, .int j => Q (.int (i - j)) H
  | _, _ => False
theorem o_sub : OpR X (binaryOp .Sub) uSub := op_i op_sub fun x y H Q q => by
  unfold uSub at q
  split at q
  · exact ⟨_, _, rfl, rfl, q⟩
  · exact q.elim
def uMul : R2 := fun x y H Q => match x, y with
  | .int i, .int j => CMulW i j ∧ Q (.int (i * j)) H
  | .ref l, .int k => ∃ xs, H l = some (.lst xs) ∧ -(2 ^ 63) ≤ k ∧ k < 2 ^ 63 ∧ xs.length * k.toNat ≤ sizeLine ∧ ∀ p, H p = none → Q (.ref p) (upd H p (.lst (List.replicate k.toNat xs).flatten))
  | _, _ => False
def uMod : R2 := fun x y H Q => match x, y with
  | .int i, .int j => 0 < j ∧ Q (.int (i % j)) H
  | _, _ => False
theorem o_mod : OpR X (binaryOp .Mod) uMod := op_i op_mod fun x y H Q q => by
  unfold uMod at q
  split at q
  · exact ⟨_, _, rfl, rfl, q⟩
  · exact q.elim
def uFdv : R2 := fun x y H Q => match x, y with
  | .int i, .int j => CDivW i j ∧ Q (.int (i / j)) H
  | _, _ => False
theorem o_fdv : OpR X (binaryOp .FloorDiv) uFdv := op_i op_fdivW fun x y H Q q => by
  unfold uFdv at q
  split at q
  · exact ⟨_, _, rfl, rfl, q⟩
  · exact q.elim
def uPow : R2 := fun x y H Q => match x, y with
  | .int i, .int j => CPow i j ∧ Q (.int (i ^ j.toNat)) H
  | _, _ => False
theorem o_pow : OpR X (binaryOp .Pow) uPow := op_i op_pow fun x y H Q q => by
  unfold uPow at q
  split at q
  · exact ⟨_, _, rfl, rfl, q⟩
  · exact q.elim
def uNeg : V → Hp → VK → Prop := fun x H Q => match x with
  | .int i => Q (.int (-i)) H
  | _ => False
theorem o_neg : UnR X (unaryOp .USub) uNeg := fun pins s σ H x v Q I rx q => un_neg pins s σ H x v Q I rx (by
  unfold uNeg at q
  split at q
  · exact ⟨_, rfl, q⟩
  · exact q.elim)

/-! ### comparisons -/
def uEq (K : PySem.W.Frag) : R2 := fun x y H Q => match x, y with
  | .int i, .int j => Q (.bl (decide (i = j))) H
  | .str i, .str j => Q (.bl (decide (i = j))) H
  | .bl i, .bl j => Q (.bl (decide (i = j))) H
  | x, y => rEqD K x y H Q
theorem o_eq {k : Nat} (hr : RG k X.A) : OpR X (compareOp .Eq) (uEq X.K) := by
  refine op_or op_eq (op_eqD hr.r.units) fun x y H Q q => ?_
  unfold uEq at q
  split at q
  · exact .inl ⟨rfl, by simpa using q⟩
  · exact .inl ⟨rfl, by simpa using q⟩
  · exact .inl ⟨rfl, by simpa using q⟩
  · exact .inr q
def uNe (K : PySem.W.Frag) : R2 := fun x y H Q => match x, y with
  | .int i, .int j => Q (.bl (!decide (i = j))) H
  | .str i, .str j => Q (.bl (!decide (i = j))) H
  | .bl i, .bl j => Q (.bl (!decide (i = j))) H
  | x, y => rNeD K x y H Q
theorem o_ne {k : Nat} (hr : RG k X.A) : OpR X (compareOp .NotEq) (uNe X.K) := by
  refine op_or op_ne (op_neD hr.r.units) fun x y H Q q => ?_
  unfold uNe at q
  split at q
  · exact .inl ⟨rfl, by simpa using q⟩
  · exact .inl ⟨rfl, by simpa using q⟩
  · exact .inl ⟨rfl, by simpa using q⟩
  · exact .inr q
/-- two ints, or two texts -/
def uCmp (p : Int → Int → Bool) (r : List Nat → List Nat → Bool) : R2 := fun x y H Q => match x, y with
  | .int i, .int j => Q (.bl (p i j)) H
  | .str i, .str j => Q (.bl (r i.cps.toList j.cps.toList)) H
  | _, _ => False
abbrev uLt : R2 := uCmp (fun i j => decide (i < j)) fun a b => decide (a < b)
abbrev uLe : R2 := uCmp (fun i j => decide (i ≤ j)) fun a b => !decide (b < a)
abbrev uGt : R2 := uCmp (fun i j => decide (j < i)) fun a b => decide (b < a)
abbrev uGe : R2 := uCmp (fun i j => decide (j ≤ i)) fun a b => !decide (a < b)
theorem o_cmp {f : Value → Value → Sem Value} {p : Int → Int → Bool} {r : List Nat → List Nat → Bool} (h1 : OpR X f (rI0 fun i j => .bl (p i j))) (h2 : OpR X f (fun x y H Q => ∃ i j, x = .str i ∧ y = .str j ∧ Q (.bl (r i.cps.toList j.cps.toList)) H)) : OpR X f (uCmp p r) := by
  refine op_or h1 h2 fun x y H Q q => ?_
  unfold uCmp at q
  split at q
  · exact .inl ⟨_, _, rfl, rfl, q⟩
  · exact .inr ⟨_, _, rfl, rfl, q⟩
  · exact q.elim
theorem o_lt : OpR X (compareOp .Lt) uLt := o_cmp op_lt op_lt_str
theorem o_le : OpR X (compareOp .LtE) uLe := o_cmp op_le op_le_str
theorem o_gt : OpR X (compareOp .Gt) uGt := o_cmp op_gt op_gt_str
theorem o_ge : OpR X (compareOp .GtE) uGe := o_cmp op_ge op_ge_str
/-- one sign in a text; a flat value in a list or tuple of such -/
def uIn (K : PySem.W.Frag) (n : Bool) : R2 := fun x y H Q => match y with
  | .str t => ∃ c, x = .str ⟨#[c]⟩ ∧ Q (.bl (if n = true then !decide (c ∈ t.cps.toList) else decide (c ∈ t.cps.toList))) H
  | .ref p => ∃ xs, (SqL K H p xs ∨ SqT K H p xs) ∧ flatV x = true ∧ xs.all flatV = true ∧ Q (.bl (if n = true then !inV x xs else inV x xs)) H
  | _ => False
theorem o_in : OpR X (compareOp .In) (uIn X.K false) := by
  refine op_or op_in_sign op_in_seq fun x y H Q q => ?_
  unfold uIn at q
  split at q
  · obtain ⟨c, rfl, q⟩ := q
    exact .inl ⟨_, _, rfl, rfl, q⟩
  · obtain ⟨xs, h1, h2, h3, q⟩ := q
    exact .inr ⟨_, xs, rfl, h1, h2, h3, q⟩
  · exact q.elim
theorem o_notIn : OpR X (compareOp .NotIn) (uIn X.K true) := by
  refine op_or op_notIn_sign op_notIn_seq fun x y H Q q => ?_
  unfold uIn at q
  split at q
  · obtain ⟨c, rfl, q⟩ := q
    exact .inl ⟨_, _, rfl, rfl, q⟩
  · obtain ⟨xs, h1, h2, h3, q⟩ := q
    exact .inr ⟨_, xs, rfl, h1, h2, h3, q⟩
  · exact q.elim
theorem o_isN : OpR X (compareOp .Is) (fun x y H Q => y = .non ∧ Q (.bl (decide (x = .non))) H) := op_isN
theorem o_notN : OpR X (compareOp .IsNot) (fun x y H Q => y = .non ∧ Q (.bl (!decide (x = .non))) H) := op_notN

/-! ### items, slices -/
def uIx (K : PySem.W.Frag) : R2 := fun x y H Q => match x, y with
  | .ref p, .int i => ∃ xs v, (SqL K H p xs ∨ SqT K H p xs) ∧ atI xs i = some v ∧ Q v H
  | .str z, .int i => ∃ c, z.length ≤ sizeLine ∧ atI z.cps.toList i = some c ∧ Q (.str ⟨#[c]⟩) H
  | _, _ => False
theorem x_ix : IxR X (uIx X.K) := fun b1 b2 pins s σ H x y v u Q I rx ry q => ix_seq b1 b2 pins s σ H x y v u Q I rx ry (by
  unfold uIx at q
  split at q
  · obtain ⟨xs, v, h, a, q⟩ := q
    rcases h with h | h
    · exact .inl ⟨_, xs, _, v, rfl, rfl, h, a, q⟩
    · exact .inr (.inl ⟨_, xs, _, v, rfl, rfl, h, a, q⟩)
  · obtain ⟨c, h, a, q⟩ := q
    exact .inr (.inr ⟨_, _, c, rfl, rfl, h, a, q⟩)
  · exact q.elim)
@[irreducible] def uSl (K : PySem.W.Frag) : V → Option Int → Option Int → Hp → VK → Prop := fun x lo hi H Q => match x with
  | .ref a => (∃ xs, SqL K H a xs ∧ ∀ p, H p = none → Q (.ref p) (upd H p (.lst (cutV xs lo hi)))) ∨ ∃ xs, SqT K H a xs ∧ (cutV xs lo hi = xs → Q (.ref a) H) ∧ ∀ p, H p = none → Q (.ref p) (upd H p (.tup (cutV xs lo hi)))
  | .str z => z.length ≤ sizeLine ∧ Q (.str (cutS z lo hi)) H
  | _ => False
end
end U

set_option Elab.async false
set_option linter.all false
set_option maxRecDepth 100000
set_option maxHeartbeats 4000000
/-! U3: sorted -/
namespace U
open PySem PySem.Spec PyProof.Rows L2
open PySem.W (AllAlike Sortable dataLe EachIs dataKind sortVals SortsAt sortVals_data list_sort_vals sortingHeap)
section
variable {prog : Program} {w : World} {A : Around} {E : Value → Shared → Prop} {s : Shared}
/-- sorted of whatever is collected to vs -/
theorem sorted_any {β : Type} {x : Value} {R : Value → β → Prop} {enc : β → PyData} {Q : Value → Shared → Prop}
    (hc : ∀ Q' : List Value → Shared → Prop, (∀ s1 vs bs, (∀ b o, s.heap.get? b = some o → s1.heap.get? b = some o) → EachIs R vs bs →
      EachIs (fun v b => ∃ as, Reads s.heap v (enc b) as) vs bs → AllAlike (bs.map enc) → Sortable (bs.map enc) → bs.length ≤ sizeLine → (∀ b, b ∈ bs → A.units + 2 + (enc b).depth < cLine) →
      (∀ out h' c, (∀ b o, s1.heap.get? b = some o → h'.get? b = some o) → h'.get? s1.heap.objs.size = some (seqObj "list" (List.toArray out) c) → EachIs R out (bs.mergeSort (dataLe false enc)) →
        Q (.ref s1.heap.objs.size) { s1 with heap := h' }) → Q' vs s1) → wpAny (model prog w) A.in1 (collect x) Q' E s) :
    wpAny (model prog w) A (call (.builtin "sorted") [x]) Q E s := by
  refine Calls.call_function_entry kind_sorted plain_sorted entry_sorted (args_sorted1 _) ?_
  unfold Builtin.«sorted»
  refine wpAny_bind (m := checkCount "sorted" 1 1 _) (wpAny_pure ?_)
  refine wpAny_bind (hc _ fun s1 vs bs k1 e er hal hk hL hu hQ => ?_)
  have hvl : vs.length ≤ sizeLine := by rw [e.length]; exact hL
  refine wpAny_bind (wpAny_newList ?_ hvl)
  have ho : (s1.heap.push (seqObj "list" vs.toArray 0)).get? s1.heap.objs.size = some (seqObj "list" vs.toArray 0) := Heap.get?_push_size _ rfl
  have old : ∀ {b : Addr} {o : Obj}, s.heap.get? b = some o → b ≠ s1.heap.objs.size := fun {b o} q => Nat.ne_of_lt (Heap.lt_size (k1 b o q))
  have er' : EachIs (fun v b => ∃ as, Reads (sortingHeap (s1.heap.push (seqObj "list" vs.toArray 0)) s1.heap.objs.size vs) v (enc b) as) vs bs := er.mono fun _ _ ⟨as, r⟩ =>
    ⟨as, PyProof.Rows.Reads.keeps (fun b o q => PySem.W.sortingHeap_old (old q) (Heap.get?_push_of_some _ (k1 b o q))) r⟩
  refine wpAny_bind (wpAny_holding (wpAny_call_entry slot_list_sort ⟨_, ho, rfl⟩ entry_list_sort (list_sort_vals (s := { s1 with heap := s1.heap.push (seqObj "list" vs.toArray 0) }) (κ := dataKind (sortingHeap (s1.heap.push (seqObj "list" vs.toArray 0)) s1.heap.objs.size vs) (bs.map enc)) ho
    (SortsAt.data (s := { s1 with heap := sortingHeap (s1.heap.push (seqObj "list" vs.toArray 0)) s1.heap.objs.size vs }) (PySem.W.each_map (R := fun v d => ∃ as, Reads (sortingHeap (s1.heap.push (seqObj "list" vs.toArray 0)) s1.heap.objs.size vs) v d as) enc er') hal hk (PySem.W.bound_map hu)) hvl ⟨.none, rfl, ?_⟩) (args_list_sort _)))
  obtain ⟨c, hcc⟩ := sortedHeap_at (vs := vs) (out := (sortVals (dataKind (sortingHeap (s1.heap.push (seqObj "list" vs.toArray 0)) s1.heap.objs.size vs) (bs.map enc)) false vs vs).toArray) ho
  refine wpAny_pure ⟨_, rfl, hQ _ _ c (fun b o q => ?_) hcc (sortVals_data false e er' hal)⟩
  have hlt := Heap.lt_size q
  show (sortedHeap (s1.heap.push (seqObj "list" vs.toArray 0)) s1.heap.objs.size vs _).get? b = some o
  rw [sortedHeap_old (Nat.ne_of_lt hlt) (by rw [size_push']; exact Nat.lt_succ_of_lt hlt)]
  exact Heap.get?_push_of_some _ q
end
end U

set_option Elab.async false
set_option linter.all false
set_option maxRecDepth 100000
set_option maxHeartbeats 4000000
/-! U4: slices, tests, built-in functions, methods -/
namespace U
open PySem PySem.Spec PyProof.Rows L2
open PySem.W (AllAlike Sortable dataLe EachIs)
/-! ### sorted -/
def dSrt (vs : List V) (ds : List PyData) : List (V × PyData) := (vs.zip ds).mergeSort (dataLe false Prod.snd)
theorem dpA_len {K : PySem.W.Frag} {H : Hp} : ∀ {vs : List V} {ds : List PyData}, DpAll K H vs ds → vs.length = ds.length
  | _, _, .nil => rfl
  | _, _, .cons _ h => congrArg Nat.succ (dpA_len h)
theorem dpA_zip {K : PySem.W.Frag} {H : Hp} : ∀ {vs : List V} {ds : List PyData}, DpAll K H vs ds → ∀ b ∈ vs.zip ds, Dp K H b.1 b.2
  | _, _, .nil, b, hb => by cases hb
  | _, _, .cons h1 h, b, hb => by
    rcases List.mem_cons.mp hb with e | hb
    · rw [e]; exact h1
    · exact dpA_zip h b hb
theorem dpA_of {K : PySem.W.Frag} {H : Hp} : ∀ {bs : List (V × PyData)}, (∀ b ∈ bs, Dp K H b.1 b.2) → DpAll K H (bs.map Prod.fst) (bs.map Prod.snd)
  | [], _ => .nil
  | b :: bs, h => .cons (h b List.mem_cons_self) (dpA_of fun c hc => h c (List.mem_cons_of_mem _ hc))
theorem dSrt_perm (vs : List V) (ds : List PyData) : (dSrt vs ds).Perm (vs.zip ds) := List.mergeSort_perm _ _
theorem dSrt_snd {vs : List V} {ds : List PyData} (h : vs.length = ds.length) : (dSrt vs ds).map Prod.snd = ds.mergeSort (dataLe false id) := by
  unfold dSrt
  rw [PySem.W.sort_maps (r := dataLe false Prod.snd) (s := dataLe false id) Prod.snd fun a _ b _ => rfl, List.map_snd_zip (by omega)]
theorem dSrt_fst {vs : List V} {ds : List PyData} (h : vs.length = ds.length) : ((dSrt vs ds).map Prod.fst).Perm vs := by
  have := (dSrt_perm vs ds).map Prod.fst
  rwa [List.map_fst_zip (by omega)] at this
theorem dSrt_dp {K : PySem.W.Frag} {H : Hp} {vs : List V} {ds : List PyData} (h : DpAll K H vs ds) : DpAll K H ((dSrt vs ds).map Prod.fst) (ds.mergeSort (dataLe false id)) := by
  rw [← dSrt_snd (dpA_len h)]
  exact dpA_of fun b hb => dpA_zip h b ((dSrt_perm vs ds).mem_iff.mp hb)
def uSorted (K : PySem.W.Frag) : List V → Hp → VK → Prop := fun xs H Q => match xs with
  | [.ref a] => ∃ vs ds, (SqL K H a vs ∨ SqT K H a vs) ∧ DpAll K H vs ds ∧ AllAlike ds ∧ Sortable ds ∧ (∀ d ∈ ds, d.depth ≤ 40) ∧ ∀ p, H p = none → Q (.ref p) (upd H p (.lst ((dSrt vs ds).map Prod.fst)))
  | _ => False
section
variable {X : Cx}
theorem eachR {K : PySem.W.Frag} {H : Hp} : ∀ {vs : List V} {us : List Value} {ds : List PyData}, Vals vs us → DpAll K H vs ds → EachIs (fun u (b : V × PyData) => RelV b.1 u) us (vs.zip ds)
  | _, _, _, .nil, .nil => .nil
  | _, _, _, .cons r t, .cons d e => .cons r (eachR t e)
theorem each_back {R : Value → V × PyData → Prop} (h : ∀ u b, R u b → RelV b.1 u) : ∀ {us : List Value} {bs : List (V × PyData)}, EachIs R us bs → Vals (bs.map Prod.fst) us
  | _, _, .nil => .nil
  | _, _, .cons r t => .cons (h _ _ r) (each_back h t)
theorem each_reads {pins : List (Addr × Obj)} {σ : L2.St} {H : Hp} {s : Shared} (I : Inv X pins σ H s) : ∀ {us : List Value} {bs : List (V × PyData)}, (∀ b ∈ bs, Dp X.K H b.1 b.2) → EachIs (fun u (b : V × PyData) => RelV b.1 u) us bs →
    EachIs (fun v b => ∃ as, Reads s.heap v (Prod.snd b) as) us bs
  | _, _, _, .nil => .nil
  | _, _, h, .cons r t => .cons (Dp.reads I _ _ _ (h _ List.mem_cons_self) r) (each_reads I (fun b hb => h b (List.mem_cons_of_mem _ hb)) t)
theorem zip_snd {vs : List V} {ds : List PyData} (h : vs.length = ds.length) : (vs.zip ds).map Prod.snd = ds := List.map_snd_zip (by omega)
theorem c_sorted {k : Nat} (hr : RG k X.A) : CallR X (.builtin "sorted") (uSorted X.K) := by
  intro pins s σ H xs us Q I r h
  unfold uSorted at h
  split at h
  · rename_i a
    obtain ⟨vs, ds, hsq, hdp, hal, hso, hde, q⟩ := h
    obtain ⟨u, rfl, ru⟩ := vals1 r
    obtain rfl : u = Value.ref a := ru
    have hl := dpA_len hdp
    have hun := hr.r.units
    have col : ∃ (its : List Value) (T : String) (o : Obj) (n : Nat), Vals vs its ∧ (T = "list" ∨ T = "tuple") ∧ s.heap.get? a = some o ∧ o.cls = .type T ∧ o.data = .seq its.toArray n ∧ vs.length ≤ sizeLine := by
      rcases hsq with h | h
      · obtain ⟨its, rv, ⟨o, n, e, hc, _, hd⟩, hz⟩ := I.list h
        exact ⟨its, _, o, n, rv, .inl rfl, e, hc, hd, hz⟩
      · obtain ⟨its, rv, ⟨o, e, hc, n, hd⟩, hz⟩ := I.tuple h
        exact ⟨its, _, o, n, rv, .inr rfl, e, hc, hd, hz⟩
    obtain ⟨its, T, o, n, rv, hT, ho, hc, hd, hz⟩ := col
    have e1 := eachR rv hdp
    refine sorted_any (enc := Prod.snd) (R := fun u (b : V × PyData) => RelV b.1 u) fun Q' hq => wpAny_collect_seq a hT ho hc hd (fun h' kp => ?_) (by
      have := rv.length
      simp
      omega)
    refine hq { s with heap := h' } its (vs.zip ds) kp e1 (each_reads I (dpA_zip hdp) e1) (by rw [zip_snd hl]; exact hal) (by rw [zip_snd hl]; exact hso) (by rw [List.length_zip, hl, Nat.min_self]; omega) (fun b hb => ?_) ?_
    · have hb2 : b.2 ∈ ds := by
        rw [← zip_snd hl]
        exact List.mem_map.mpr ⟨b, hb, rfl⟩
      have := hde _ hb2
      omega
    · intro out hh c k2 hpp hout
      have I1 : Inv X pins σ H { s with heap := h' } := I.kept (t' := s.toks) kp
      have hl2 := (dSrt_fst hl).length_eq
      exact ⟨.ref h'.objs.size, _, I1.laid (t' := s.toks) (h' := hh) k2 (Nat.le_refl _) (show ObjOk X.prog X.w _ hh _ (.lst ((dSrt vs ds).map Prod.fst)) from ⟨by omega, out, c, each_back (fun _ _ z => z) hout, hpp⟩), rfl, q _ (I1.hok.fresh (Nat.le_refl _))⟩
  · exact h.elim
end
end U

set_option Elab.async false
set_option linter.all false
set_option maxRecDepth 100000
set_option maxHeartbeats 4000000
/-! U5: tests, slices, built-in functions, methods, targets, what is walked -/
namespace U
open PySem PySem.Spec PyProof.Rows L2
/-- weakened behind -/
def cE (t : TE) : TE := fun σ H Q => ∃ R : VK, t σ H R ∧ ∀ v H1, R v H1 → Q v H1
def cT (t : TT) : TT := fun σ H Q => ∃ R : Bool → Hp → Prop, t σ H R ∧ ∀ v H1, R v H1 → Q v H1
def cA (t : TA) : TA := fun σ H Q => ∃ R : List V → Hp → Prop, t σ H R ∧ ∀ v H1, R v H1 → Q v H1
section
variable {X : Cx} {e : Expr} {es : List Expr}
theorem pe_cl {t : TE} (h : PE X e t) : PE X e (cE t) := ⟨fun pins s σ H Q I ⟨R, q, w⟩ => thn (h.run pins s σ H R I q) fun u s1 ⟨v, H1, I1, r, q1⟩ => ⟨v, H1, I1, r, w v H1 q1⟩⟩
theorem pt_cl {t : TT} (h : PT X e t) : PT X e (cT t) := ⟨fun pins s σ H Q I ⟨R, q, w⟩ => thn (h.run pins s σ H R I q) fun u s1 ⟨H1, I1, q1⟩ => ⟨H1, I1, w u H1 q1⟩⟩
theorem pa_cl {t : TA} (h : PA X es t) : PA X es (cA t) := ⟨fun pos pins s σ H Q I ⟨R, q, w⟩ => thn (h.run pos pins s σ H R I q) fun u s1 ⟨v, H1, I1, r, q1⟩ => ⟨v, H1, I1, r, w v H1 q1⟩⟩

/-! ### slices -/
theorem sl_u : SlR X (uSl X.K) := fun pins s σ H x v vl vu lo hi sl Q I rx hs pl pu q => by
  unfold uSl at q
  split at q
  · rename_i a
    rcases q with ⟨xs, h, q⟩ | ⟨xs, h, q0, q1⟩
    · exact sl_list pins s σ H _ v vl vu lo hi sl Q I rx hs pl pu ⟨a, xs, rfl, h, q⟩
    · exact sl_tupA pins s σ H _ v vl vu lo hi sl Q I rx hs pl pu ⟨a, xs, rfl, h, fun hw => q0 (by unfold cutV; rw [hw.1, hw.2]; simp), fun _ => q1⟩
  · exact sl_str pins s σ H _ v vl vu lo hi sl Q I rx hs pl pu ⟨_, rfl, q⟩
  · exact q.elim
def uPart (t : TE) : TO := fun σ H Q => t σ H fun x H1 => match x with
  | .int i => Q (some i) H1
  | _ => False
theorem po_u {t : TE} (h : PE X e t) : PO X (some e) (uPart t) := ⟨fun pins s σ H Q I q => (po_some (X := X) (pe_cl h)).run pins s σ H Q I ⟨_, q, fun x H1 hx => by
  split at hx
  · exact ⟨_, rfl, hx⟩
  · exact hx.elim⟩⟩

/-! ### tests -/
def uTr (K : PySem.W.Frag) : V → Hp → (Bool → Hp → Prop) → Prop := fun x H Q => match x with
  | .bl b => Q b H
  | .non => Q false H
  | .int i => Q (i != 0) H
  | x => ∃ k, TruV K x H k ∧ Q k H
def uT (K : PySem.W.Frag) (t : TE) : TT := fun σ H Q => t σ H fun x H1 => uTr K x H1 Q
theorem pt_u {t : TE} (h : PE X e t) (he : ∀ whole, isTrue e X.env whole = (do let v ← whole; standAt e.pos; holding [v] (truthy v)) := by intro _; rfl) : PT X e (uT X.K t) :=
  pt_i (pt_truth (pe_cl h) he) fun σ H Q q => ⟨_, q, fun x H1 hx => by
    unfold uTr at hx
    split at hx
    · exact ⟨_, rfl, hx⟩
    · exact ⟨_, rfl, hx⟩
    · exact ⟨_, rfl, hx⟩
    · exact hx⟩
variable {a b c : Expr} {ta tb tc : TE} {pos : Pos} {op op' : CmpOp} {r r' : R2}
theorem nob {op : CmpOp} {b : Expr} (h : behindInMarks op b = false) : behindInMarks op b = false := h
theorem cmp_test {t : TE} (h : PE X (.Compare a [op] [b] pos) t) : True := trivial
def uB (t : TE) : TT := fun σ H Q => t σ H fun x H1 => match x with
  | .bl k => Q k H1
  | _ => False
theorem pt_c (ho : OpR X (compareOp op) r) (ha : PE X a ta) (hb : PE X b tb) (hm : behindInMarks op b = false := by first | exact nobehind _ (by decide) (by decide) | rfl) : PT X (.Compare a [op] [b] pos) (uB (tOp r ta tb)) := by
  have ho' : OpR X (compareOp op) (fun x y H Q => ∃ R : VK, r x y H R ∧ ∀ v H1, R v H1 → Q v H1) := fun pins s σ H x y v u Q I rx ry ⟨R, q, w⟩ => thn (ho pins s σ H x y v u R I rx ry q) fun u s1 ⟨v, H1, I1, rr, q1⟩ => ⟨v, H1, I1, rr, w v H1 q1⟩
  refine pt_i (pt_cmpR ho' (pe_cl ha) (pe_cl hb) hm) fun σ H Q q => ⟨_, q, fun x H1 hx => ⟨_, hx, fun y H2 hy => ⟨_, hy, fun z H3 hz => ?_⟩⟩⟩
  split at hz
  · exact ⟨_, rfl, hz⟩
  · exact hz.elim
def uCh (r r' : R2) (ta tb tc : TE) : TE := fun σ H Q => ta σ H fun x H1 => tb σ H1 fun y H2 => r x y H2 fun z H3 => match z with
  | .bl k => if k = true then tc σ H3 fun w H4 => r' y w H4 Q else Q (.bl false) H3
  | _ => False
theorem op_cl {f : Value → Value → Sem Value} (ho : OpR X f r) : OpR X f (fun x y H Q => ∃ R : VK, r x y H R ∧ ∀ v H1, R v H1 → Q v H1) := fun pins s σ H x y v u Q I rx ry ⟨R, q, w⟩ =>
  thn (ho pins s σ H x y v u R I rx ry q) fun u s1 ⟨v, H1, I1, rr, q1⟩ => ⟨v, H1, I1, rr, w v H1 q1⟩
theorem ch_of {σ : L2.St} {H : Hp} {Q Q' : VK} (hQ : ∀ v H1, Q' v H1 → Q v H1) (q : uCh r r' ta tb tc σ H Q') :
    tChain (fun x y H Q => ∃ R : VK, r x y H R ∧ ∀ v H1, R v H1 → Q v H1) (fun x y H Q => ∃ R : VK, r' x y H R ∧ ∀ v H1, R v H1 → Q v H1) (cE ta) (cE tb) (cE tc) σ H Q :=
  ⟨_, q, fun x H1 hx => ⟨_, hx, fun y H2 hy => ⟨_, hy, fun z H3 hz => by
    split at hz
    · rename_i k
      refine ⟨k, rfl, ?_⟩
      cases k with
      | true => exact iteT ⟨_, (by simpa using hz), fun w H4 hw => ⟨_, hw, hQ⟩⟩
      | false => exact iteF (hQ _ _ (by simpa using hz))
    · exact hz.elim⟩⟩⟩
theorem pe_ch (ho : OpR X (compareOp op) r) (ho' : OpR X (compareOp op') r') (ha : PE X a ta) (hb : PE X b tb) (hc : PE X c tc) (hm : lastMarks [op, op'] [b, c] = false := by with_unfolding_all rfl) :
    PE X (.Compare a [op, op'] [b, c] pos) (uCh r r' ta tb tc) := pe_i (pe_chain (op_cl ho) (op_cl ho') (pe_cl ha) (pe_cl hb) (pe_cl hc) hm) fun σ H Q q => ch_of (fun _ _ h => h) q
theorem pt_ch (ho : OpR X (compareOp op) r) (ho' : OpR X (compareOp op') r') (ha : PE X a ta) (hb : PE X b tb) (hc : PE X c tc) (hm : lastMarks [op, op'] [b, c] = false := by with_unfolding_all rfl) :
    PT X (.Compare a [op, op'] [b, c] pos) (uB (uCh r r' ta tb tc)) := pt_i (pt_chain (op_cl ho) (op_cl ho') (pe_cl ha) (pe_cl hb) (pe_cl hc) hm) fun σ H Q q => ch_of (fun v H1 hv => by
      split at hv
      · exact ⟨_, rfl, hv⟩
      · exact hv.elim) q
/-! and, or, not of truth values -/
def uAnd (ta tb : TE) : TE := fun σ H Q => ta σ H fun x H1 => match x with
  | .bl c => if c = true then tb σ H1 Q else Q (.bl false) H1
  | _ => False
def uOr (ta tb : TE) : TE := fun σ H Q => ta σ H fun x H1 => match x with
  | .bl c => if c = true then Q (.bl true) H1 else tb σ H1 Q
  | _ => False
def uNot (ta : TE) : TE := fun σ H Q => ta σ H fun x H1 => match x with
  | .bl c => Q (.bl (!c)) H1
  | _ => False
variable {rest : List Expr}
theorem pe_uand (ha : PE X a ta) (hb : PE X (.BoolOp .And (b :: rest) pos) tb) : PE X (.BoolOp .And (a :: b :: rest) pos) (uAnd ta tb) := pe_i (pe_and (pe_cl ha) hb) fun σ H Q q => ⟨_, q, fun x H1 hx => by
  split at hx
  · exact ⟨_, rfl, hx⟩
  · exact hx.elim⟩
theorem pe_uor (ha : PE X a ta) (hb : PE X (.BoolOp .Or (b :: rest) pos) tb) : PE X (.BoolOp .Or (a :: b :: rest) pos) (uOr ta tb) := pe_i (pe_or (pe_cl ha) hb) fun σ H Q q => ⟨_, q, fun x H1 hx => by
  split at hx
  · exact ⟨_, rfl, hx⟩
  · exact hx.elim⟩
theorem pe_unot (ha : PE X a ta) : PE X (.UnaryOp .Not a pos) (uNot ta) := pe_i (pe_not (pe_cl ha)) fun σ H Q q => ⟨_, q, fun x H1 hx => by
  split at hx
  · exact ⟨_, rfl, hx⟩
  · exact hx.elim⟩

/-! ### built-in functions -/
def uLen (K : PySem.W.Frag) : List V → Hp → VK → Prop := fun xs H Q => match xs with
  | [.str z] => z.length ≤ sizeLine ∧ Q (.int z.length) H
  | [.ref p] => ∃ ys, (SqL K H p ys ∨ SqT K H p ys) ∧ Q (.int ys.length) H
  | _ => False
theorem c_len : CallR X (.builtin "len") (uLen X.K) := call_or call_len_str call_len_seq fun xs H Q q => by
  unfold uLen at q
  split at q
  · exact .inl ⟨_, rfl, q⟩
  · obtain ⟨ys, h, q⟩ := q
    exact .inr ⟨_, ys, rfl, h, q⟩
  · exact q.elim
def uInt : List V → Hp → VK → Prop := fun xs H Q => match xs with
  | [.int i] => Q (.int i) H
  | [.bl k] => Q (.int (if k then 1 else 0)) H
  | _ => False
theorem c_int : CallR X (.type "int") uInt := call_i call_int1 fun xs H Q q => by
  unfold uInt at q
  split at q
  · exact .inl ⟨_, rfl, q⟩
  · exact .inr ⟨_, rfl, q⟩
  · exact q.elim
def uStr : List V → Hp → VK → Prop := fun xs H Q => match xs with
  | [.int i] => i.natAbs.log2 < 1920 ∧ Q (.str (toString i)) H
  | [.str a] => Q (.str a) H
  | _ => False
theorem c_str : CallR X (.type "str") uStr := call_or call_str_int SkE.call_str_str fun xs H Q q => by
  unfold uStr at q
  split at q
  · exact .inl ⟨_, rfl, q⟩
  · exact .inr ⟨_, rfl, q⟩
  · exact q.elim
def uMax : List V → Hp → VK → Prop := fun xs H Q => match xs with
  | [.int i, .int j] => Q (.int (if j > i then j else i)) H
  | _ => False
theorem c_max (hc : X.calm = true) : CallR X (.builtin "max") uMax := call_i (call_max2 hc) fun xs H Q q => by
  unfold uMax at q
  split at q
  · exact ⟨_, _, rfl, q⟩
  · exact q.elim
def uList (K : PySem.W.Frag) : List V → Hp → VK → Prop := fun xs H Q => match xs with
  | [.ref p] => ∃ ys, (SqL K H p ys ∨ SqT K H p ys) ∧ ∀ l, H l = none → Q (.ref l) (upd H l (.lst ys))
  | _ => False
theorem c_list : CallR X (.type "list") (uList X.K) := call_i call_list_of fun xs H Q q => by
  unfold uList at q
  split at q
  · exact ⟨_, q.choose, rfl, q.choose_spec⟩
  · exact q.elim
def uTuple (K : PySem.W.Frag) : List V → Hp → VK → Prop := fun xs H Q => match xs with
  | [.ref p] => ∃ ys, (SqL K H p ys ∧ ∀ l, H l = none → Q (.ref l) (upd H l (.tup ys))) ∨ (SqT K H p ys ∧ Q (.ref p) H)
  | _ => False
theorem c_tuple : CallR X (.type "tuple") (uTuple X.K) := call_i call_tuple_of fun xs H Q q => by
  unfold uTuple at q
  split at q
  · exact ⟨_, q.choose, rfl, q.choose_spec⟩
  · exact q.elim
def uAll (K : PySem.W.Frag) (f : List Bool → Bool) : List V → Hp → VK → Prop := fun xs H Q => match xs with
  | [.ref a] => ∃ bs : List Bool, SqL K H a (bs.map V.bl) ∧ Q (.bl (f bs)) H
  | _ => False
theorem c_all (hc : X.calm = true) : CallR X (.builtin "all") (uAll X.K fun bs => bs.all id) := call_i (cr_all hc) fun xs H Q q => by
  unfold uAll at q
  split at q
  · exact ⟨_, q.choose, rfl, q.choose_spec⟩
  · exact q.elim
theorem c_any (hc : X.calm = true) : CallR X (.builtin "any") (uAll X.K fun bs => bs.any id) := call_i (cr_any hc) fun xs H Q q => by
  unfold uAll at q
  split at q
  · exact ⟨_, q.choose, rfl, q.choose_spec⟩
  · exact q.elim
def uRepr (K : PySem.W.Frag) : List V → Hp → VK → Prop := fun xs H Q => match xs with
  | [x] => ∃ d, Dp K H x d ∧ d.showable = true ∧ d.hasDict = false ∧ d.depth + 1 ≤ 60 ∧ d.shown.length ≤ sizeLine ∧ Q (.str d.shown) H
  | _ => False
theorem c_repr {k : Nat} (hr : RG k X.A) : CallR X (.builtin "repr") (uRepr X.K) := call_i (call_reprD hr) fun xs H Q q => by
  unfold uRepr at q
  split at q
  · exact ⟨_, q.choose, rfl, q.choose_spec⟩
  · exact q.elim

/-! ### methods of lists and texts -/
/-- l.append(y), l.extend(ys), l.pop(), l.pop(i), l.clear() of a list that stands -/
def uLm (f : Hp → Addr → List V → List V → VK → Prop) (to : TE) (t : TA) : TE := fun σ H Q => to σ H fun x H1 => match x with
  | .ref l => (∃ zs, H1 l = some (.lst zs)) ∧ t σ H1 fun ys H2 => ∃ xs, H2 l = some (.lst xs) ∧ f H2 l xs ys Q
  | _ => False
def fApp : Hp → Addr → List V → List V → VK → Prop := fun H l xs ys Q => match ys with
  | [y] => xs.length < sizeLine ∧ Q .non (upd H l (.lst (xs ++ [y])))
  | _ => False
def fPop : Hp → Addr → List V → List V → VK → Prop := fun H l xs ys Q => match ys with
  | [] => ∃ y, xs[xs.length - 1]? = some y ∧ Q y (upd H l (.lst xs.dropLast))
  | [.int i] => ∃ k y, -(2 ^ 63) ≤ i ∧ i < 2 ^ 63 ∧ seqIndex? i xs.length = some k ∧ xs[k]? = some y ∧ Q y (upd H l (.lst (xs.eraseIdx k)))
  | _ => False
def fClear : Hp → Addr → List V → List V → VK → Prop := fun H l xs ys Q => match ys with
  | [] => Q .non (upd H l (.lst []))
  | _ => False
def fExt : Hp → Addr → List V → List V → VK → Prop := fun H l xs ys Q => match ys with
  | [.ref b] => ∃ zs, H b = some (.lst zs) ∧ xs.length + zs.length ≤ sizeLine ∧ Q .non (upd H l (.lst (xs ++ zs)))
  | _ => False
end
end U

set_option Elab.async false
set_option linter.all false
set_option maxRecDepth 100000
set_option maxHeartbeats 4000000
/-! U6: methods of lists and texts, fields, targets, what is walked -/
namespace U
open PySem PySem.Spec PyProof.Rows L2
section
variable {X : Cx} {o e : Expr} {es : List Expr} {to te : TE} {t : TA} {apos cpos pos : Pos}
/-! ### methods of lists -/
theorem lm_r {f : Hp → Addr → List V → List V → VK → Prop} {r : V → List V → Hp → VK → Prop} (hr : ∀ H l xs ys Q, H l = some (.lst xs) → f H l xs ys Q → r (.ref l) ys H Q) {σ : L2.St} {H : Hp} {Q : VK} (q : uLm f to t σ H Q) : tBM X.K "list" r (cE to) (cA t) σ H Q :=
  ⟨_, q, fun x H1 hx => by
    split at hx
    · obtain ⟨⟨zs, hz⟩, hx⟩ := hx
      exact ⟨.inl ⟨rfl, _, SqL.of hz⟩, _, hx, fun ys H2 ⟨xs, h, hf⟩ => hr _ _ _ _ _ h hf⟩
    · exact hx.elim⟩
theorem lm_r0 {f : Hp → Addr → List V → List V → VK → Prop} {r : V → List V → Hp → VK → Prop} (hr : ∀ H l xs ys Q, H l = some (.lst xs) → f H l xs ys Q → r (.ref l) ys H Q) {σ : L2.St} {H : Hp} {Q : VK} (q : uLm f to tNil σ H Q) : tBM0 X.K "list" r (cE to) σ H Q :=
  ⟨_, q, fun x H1 hx => by
    split at hx
    · obtain ⟨⟨zs, hz⟩, xs, h, hf⟩ := hx
      exact ⟨.inl ⟨rfl, _, SqL.of hz⟩, hr _ _ _ _ _ h hf⟩
    · exact hx.elim⟩
theorem pe_app (ho : PE X o to) (ha : PA X [e] t) (hbase : attributeBase o "append" X.env (eval o X.env) = eval o X.env := by rfl)
    (hfew : ((backTo cpos (starEach [e] X.env)).all (fun x => !x.1) && (backToKw cpos (keywordEach [] X.env)).all (fun x => x.1.isSome) && decide ([e].length + ([] : List Keyword).length + (if ([] : List Keyword).isEmpty then 0 else 1) < 30)) = true := by rfl)
    (hline : (apos.endLine == cpos.line) = true := by rfl) (hs : starEach [e] X.env = (false, eval e X.env) :: starEach [] X.env := by rfl) (hplain : (backTo cpos (starEach [] X.env)).any (·.1) = false := by rfl) :
    PE X (.Call (.Attribute o "append" apos) [e] [] cpos) (uLm fApp to t) :=
  pe_i (pe_bm PySem.F.plainAttrs_list PySem.F.slot_list_append PySem.F.type_list_append mt_append (pe_cl ho) (pa_cl ha) hbase hfew hline hs hplain) fun σ H Q q => lm_r (fun H l xs ys Q h hf => by
    unfold fApp at hf
    split at hf
    · exact ⟨l, xs, _, rfl, rfl, h, hf⟩
    · exact hf.elim) q
theorem pe_ext (ho : PE X o to) (ha : PA X [e] t) (hbase : attributeBase o "extend" X.env (eval o X.env) = eval o X.env := by rfl)
    (hfew : ((backTo cpos (starEach [e] X.env)).all (fun x => !x.1) && (backToKw cpos (keywordEach [] X.env)).all (fun x => x.1.isSome) && decide ([e].length + ([] : List Keyword).length + (if ([] : List Keyword).isEmpty then 0 else 1) < 30)) = true := by rfl)
    (hline : (apos.endLine == cpos.line) = true := by rfl) (hs : starEach [e] X.env = (false, eval e X.env) :: starEach [] X.env := by rfl) (hplain : (backTo cpos (starEach [] X.env)).any (·.1) = false := by rfl) :
    PE X (.Call (.Attribute o "extend" apos) [e] [] cpos) (uLm fExt to t) :=
  pe_i (pe_bm PySem.F.plainAttrs_list PySem.F.slot_list_extend PySem.F.type_list_extend mt_extend (pe_cl ho) (pa_cl ha) hbase hfew hline hs hplain) fun σ H Q q => lm_r (fun H l xs ys Q h hf => by
    unfold fExt at hf
    split at hf
    · obtain ⟨zs, hb, hz, q⟩ := hf
      exact ⟨l, _, xs, zs, rfl, rfl, h, hb, hz, q⟩
    · exact hf.elim) q
theorem pe_popAt (ho : PE X o to) (ha : PA X [e] t) (hbase : attributeBase o "pop" X.env (eval o X.env) = eval o X.env := by rfl)
    (hfew : ((backTo cpos (starEach [e] X.env)).all (fun x => !x.1) && (backToKw cpos (keywordEach [] X.env)).all (fun x => x.1.isSome) && decide ([e].length + ([] : List Keyword).length + (if ([] : List Keyword).isEmpty then 0 else 1) < 30)) = true := by rfl)
    (hline : (apos.endLine == cpos.line) = true := by rfl) (hs : starEach [e] X.env = (false, eval e X.env) :: starEach [] X.env := by rfl) (hplain : (backTo cpos (starEach [] X.env)).any (·.1) = false := by rfl) :
    PE X (.Call (.Attribute o "pop" apos) [e] [] cpos) (uLm (fun H l xs ys Q => ∃ i, ys = [.int i] ∧ fPop H l xs ys Q) to t) :=
  pe_i (pe_bm PySem.F.plainAttrs_list PySem.F.slot_list_pop PySem.F.type_list_pop mt_popAt (pe_cl ho) (pa_cl ha) hbase hfew hline hs hplain) fun σ H Q q => lm_r (fun H l xs ys Q h hf => by
    obtain ⟨i, rfl, k, y, h1, h2, h3, h4, h5⟩ := hf
    exact ⟨l, xs, i, k, y, rfl, rfl, h, h1, h2, h3, h4, h5⟩) q
theorem pe_pop0 (ho : PE X o to) (hbase : attributeBase o "pop" X.env (eval o X.env) = eval o X.env := by rfl) (hline : (apos.endLine == cpos.line) = true := by rfl) : PE X (.Call (.Attribute o "pop" apos) [] [] cpos) (uLm fPop to tNil) :=
  pe_i (pe_bm0 PySem.F.plainAttrs_list PySem.F.slot_list_pop PySem.F.type_list_pop (r := fun x vs H Q => vs = [] ∧ rPop x vs H Q) (fun pins s σ H x xs v us Q I rx rs ⟨_, q⟩ => mt_pop pins s σ H x xs v us Q I rx rs q) (pe_cl ho) hbase hline) fun σ H Q q =>
    ⟨_, q, fun x H1 hx => by
      split at hx
      · obtain ⟨⟨zs, hz⟩, xs, h, y, h1, h2⟩ := hx
        exact ⟨.inl ⟨rfl, _, SqL.of hz⟩, rfl, _, xs, y, rfl, rfl, h, h1, h2⟩
      · exact hx.elim⟩
theorem pe_clear (ho : PE X o to) (hbase : attributeBase o "clear" X.env (eval o X.env) = eval o X.env := by rfl) (hline : (apos.endLine == cpos.line) = true := by rfl) : PE X (.Call (.Attribute o "clear" apos) [] [] cpos) (uLm fClear to tNil) :=
  pe_i (pe_bm0 PySem.F.plainAttrs_list PySem.F.slot_list_clear PySem.F.type_list_clear mt_clear (pe_cl ho) hbase hline) fun σ H Q q =>
    lm_r0 (fun H l xs ys Q h hf => by
      unfold fClear at hf
      split at hf
      · exact ⟨l, xs, rfl, rfl, h, hf⟩
      · exact hf.elim) q
/-! ### methods of texts -/
def uSm (f : Str → V → Hp → VK → Prop) (to te : TE) : TE := fun σ H Q => to σ H fun x H1 => match x with
  | .str a => te σ H1 fun y H2 => f a y H2 Q
  | _ => False
def fJoin (K : PySem.W.Frag) : Str → V → Hp → VK → Prop := fun a y H Q => match y with
  | .ref p => ∃ ys : List Str, (SqL K H p (ys.map V.str) ∨ SqT K H p (ys.map V.str)) ∧ (ys.map (·.length)).sum + ys.length * a.length ≤ 16777216 ∧ Q (.str (Txt.join a ys)) H
  | _ => False
def fSplit : Str → V → Hp → VK → Prop := fun a y H Q => match y with
  | .str b => (b.length == 0) = false ∧ a.length + 2 ≤ sizeLine ∧ ∀ p, H p = none → Q (.ref p) (upd H p (.lst ((Txt.split a b).map V.str)))
  | _ => False
theorem pe_ujoin (ho : PE X o to) (he : PE X e te) (hs : starEach [e] X.env = [(false, eval e X.env)] := by rfl) (hbase : attributeBase o "join" X.env (eval o X.env) = eval o X.env := by rfl) (hline : (apos.endLine == pos.line) = true := by rfl) :
    PE X (.Call (.Attribute o "join" apos) [e] [] pos) (uSm (fJoin X.K) to te) := pe_i (pe_join (pe_cl ho) (pe_cl he) hs hbase hline) fun σ H Q q => ⟨_, q, fun x H1 hx => by
  split at hx
  · exact ⟨⟨_, rfl⟩, _, hx, fun y H2 hy => by
      unfold fJoin at hy
      split at hy
      · obtain ⟨ys, h1, h2, h3⟩ := hy
        exact ⟨_, _, ys, rfl, rfl, h1, h2, h3⟩
      · exact hy.elim⟩
  · exact hx.elim⟩
theorem pe_usplit (ho : PE X o to) (he : PE X e te) (hs : starEach [e] X.env = [(false, eval e X.env)] := by rfl) (hbase : attributeBase o "split" X.env (eval o X.env) = eval o X.env := by rfl) (hline : (apos.endLine == pos.line) = true := by rfl) :
    PE X (.Call (.Attribute o "split" apos) [e] [] pos) (uSm fSplit to te) := pe_i (pe_split (pe_cl ho) (pe_cl he) hs hbase hline) fun σ H Q q => ⟨_, q, fun x H1 hx => by
  split at hx
  · exact ⟨⟨_, rfl⟩, _, hx, fun y H2 hy => by
      unfold fSplit at hy
      split at hy
      · obtain ⟨h1, h2, h3⟩ := hy
        exact ⟨_, _, rfl, rfl, h1, h2, h3⟩
      · exact hy.elim⟩
  · exact hx.elim⟩
def uSm0 (f : Str → Hp → VK → Prop) (to : TE) : TE := fun σ H Q => to σ H fun x H1 => match x with
  | .str a => f a H1 Q
  | _ => False
theorem pe_uupper (ho : PE X o to) (hbase : attributeBase o "upper" X.env (eval o X.env) = eval o X.env := by rfl) (hline : (apos.endLine == pos.line) = true := by rfl) :
    PE X (.Call (.Attribute o "upper" apos) [] [] pos) (uSm0 (fun a H Q => a.length ≤ 5592405 ∧ Q (.str (Txt.upper a)) H) to) := pe_i (pe_upper (pe_cl ho) hbase hline) fun σ H Q q => ⟨_, q, fun x H1 hx => by
  split at hx
  · exact ⟨⟨_, rfl⟩, _, rfl, rfl, hx⟩
  · exact hx.elim⟩
/-! ### xs[::-1] -/
def uRev (K : PySem.W.Frag) (te : TE) : TE := fun σ H Q => te σ H fun x H1 => match x with
  | .ref a => ∃ xs, SqL K H1 a xs ∧ ∀ p, H1 p = none → Q (.ref p) (upd H1 p (.lst xs.reverse))
  | _ => False
theorem pe_rev {k : Nat} {p1 p2 p3 : Pos} (he : PE X e te) : PE X (.Subscript e (.Slice none none (some (.UnaryOp .USub (.Constant (.int 1) k p1) p2)) p3) pos) (uRev X.K te) := pe_i (pe_revL (pe_cl he)) fun σ H Q q => ⟨_, q, fun x H1 hx => by
  split at hx
  · obtain ⟨xs, h, q⟩ := hx
    exact ⟨_, xs, rfl, h, q⟩
  · exact hx.elim⟩

/-! ### fields -/
def uFld (K : PySem.W.Frag) (f : Str) (ta : TE) : TE := fun σ H Q => ta σ H fun x H1 => match x with
  | .ref a => ∃ C dx fs v, H1 a = some (.ins C dx fs) ∧ Cls K C ∧ NoAttr K C f ∧ fs.lookup f = some v ∧ Q v H1
  | _ => False
theorem pe_ufld {f : Str} {ta : TE} (he : PE X e ta) (hb : attributeBase e f X.env (eval e X.env) = eval e X.env := by rfl) : PE X (.Attribute e f pos) (uFld X.K f ta) := pe_i (pe_fld (pe_cl he) hb) fun σ H Q q => ⟨_, q, fun x H1 hx => by
  split at hx
  · obtain ⟨C, dx, fs, v, h⟩ := hx
    exact ⟨_, C, dx, fs, v, rfl, h⟩
  · exact hx.elim⟩
def uSetF (K : PySem.W.Frag) (f : Str) (ta tv : TE) : TS := fun D σ H => tv σ H fun y H1 => ta σ H1 fun x H2 => match x with
  | .ref a => ∃ C dx fs, H2 a = some (.ins C dx fs) ∧ Cls K C ∧ NoAttr K C f ∧ fs.length < 1000 ∧ D.nx σ (upd H2 a (.ins C dx (putF f y fs)))
  | _ => False
theorem ps_usetF {f : Str} {ta tv : TE} {p' : Pos} {value : Expr} (ha : PE X o ta) (hv : PE X value tv) (hs : swapsWith value (some (.Attribute o f p')) pos.line X.env = pure false := by rfl) : PS X (.Assign [.Attribute o f p'] value pos) (uSetF X.K f ta tv) :=
  ps_i (ps_fld (pe_cl ha) (pe_cl hv) hs) fun D σ H q => ⟨_, q, fun y H1 hy => ⟨_, hy, fun x H2 hx => by
    split at hx
    · obtain ⟨C, dx, fs, h⟩ := hx
      exact ⟨_, C, dx, fs, rfl, h⟩
    · exact hx.elim⟩⟩

/-! ### targets -/
theorem pg_i {tg : Expr} {t t' : TG} (h : PG X tg t) (i : ∀ v σ H Q, t' v σ H Q → t v σ H Q) : PG X tg t' := ⟨fun pins s σ H v u Q I r q => h.run pins s σ H v u Q I r (i v σ H Q q)⟩
theorem pgs_i {ts : List Expr} {t t' : TGs} (h : PGs X ts t) (i : ∀ v σ H Q, t' v σ H Q → t v σ H Q) : PGs X ts t' := ⟨fun pins s σ H v u Q I r q => h.run pins s σ H v u Q I r (i v σ H Q q)⟩
def uTup (K : PySem.W.Frag) (n : Nat) (t : TGs) : TG := fun v σ H Q => match v with
  | .ref a => ∃ xs, SqT K H a xs ∧ xs.length = n ∧ t xs σ H Q
  | _ => False
theorem pg_utup {es : List Expr} {k : Nat} {t : TGs} {n : Nat} (hc : X.calm = true) (h : PGs X es t) (hn : (assignEach es X.env).length = n := by rfl) (hst : (assignEach es X.env).findIdx? (·.1) = none := by rfl) : PG X (.Tuple es k pos) (uTup X.K n t) :=
  pg_i (pg_tup hc h hn hst) fun v σ H Q q => by
    unfold uTup at q
    split at q
    · obtain ⟨xs, h⟩ := q
      exact ⟨_, xs, rfl, h⟩
    · exact q.elim
def uGc (t : TG) (u : TGs) : TGs := fun vs σ H Q => match vs with
  | v :: r => t v σ H fun σ' H' => u r σ' H' Q
  | [] => False
def uGn : TGs := fun vs σ H Q => match vs with
  | [] => Q σ H
  | _ :: _ => False
theorem pgs_ucons {ts : List Expr} {t : TG} {u : TGs} (h1 : PG X e t) (h2 : PGs X ts u) (hs : (assignEach (e :: ts) X.env).map (·.2) = assign e X.env :: (assignEach ts X.env).map (·.2) := by rfl) : PGs X (e :: ts) (uGc t u) :=
  pgs_i (pgs_cons h1 h2 hs) fun v σ H Q q => by
    unfold uGc at q
    split at q
    · exact ⟨_, _, rfl, q⟩
    · exact q.elim
theorem pgs_unil : PGs X [] uGn := pgs_i pgs_nil fun v σ H Q q => by
  unfold uGn at q
  split at q
  · exact ⟨rfl, q⟩
  · exact q.elim
/-- a, b = e1, e2 -/
def uPar (i j : Nat) (ta : TA) : TS := fun D σ H => ta σ H fun vs H1 => match vs with
  | [v, w] => D.nx ((σ.set i (some v)).set j (some w)) H1
  | _ => False
theorem ps_upar {i j : Nat} {x y : Str} {a b : Expr} {ta : TA} {px py pt : Pos} {kt k2 pt2} (hc : X.calm = true) (hN : X.N.Nodup) (hi : X.N[i]? = some x) (hj : X.N[j]? = some y) (hij : i ≠ j)
    (hx : X.env.scope.names.lookup x = some .local) (hy : X.env.scope.names.lookup y = some .local) (ha : PA X [a, b] ta)
    (hw : swappedStores [.Tuple [.Name x px, .Name y py] kt pt] (.Tuple [a, b] k2 pt2) X.env = pure (some [x, y])) (hs : swapsWithSole [.Tuple [.Name x px, .Name y py] kt pt] (.Tuple [a, b] k2 pt2) pos.line X.env = pure false := by rfl) :
    PS X (.Assign [.Tuple [.Name x px, .Name y py] kt pt] (.Tuple [a, b] k2 pt2) pos) (uPar i j ta) := ps_i (ps_par hc hN hi hj hij hx hy (pa_cl ha) hw hs) fun D σ H q => ⟨_, q, fun vs H1 hv => by
  split at hv
  · exact ⟨_, _, rfl, hv⟩
  · exact hv.elim⟩
def uPar3 (i j l : Nat) (ta : TA) : TS := fun D σ H => ta σ H fun vs H1 => match vs with
  | [u, v, w] => D.nx (((σ.set i (some u)).set j (some v)).set l (some w)) H1
  | _ => False
theorem ps_upar3 {i j l : Nat} {x y z : Str} {a b c : Expr} {ta : TA} {px py pz pt : Pos} {kt k2 pt2} (hc : X.calm = true) (hN : X.N.Nodup) (hi : X.N[i]? = some x) (hj : X.N[j]? = some y) (hl : X.N[l]? = some z) (hij : i ≠ j) (hil : i ≠ l) (hjl : j ≠ l)
    (hx : X.env.scope.names.lookup x = some .local) (hy : X.env.scope.names.lookup y = some .local) (hz : X.env.scope.names.lookup z = some .local) (ha : PA X [a, b, c] ta)
    (hw : swappedStores [.Tuple [.Name x px, .Name y py, .Name z pz] kt pt] (.Tuple [a, b, c] k2 pt2) X.env = pure (some [x, y, z])) (hs : swapsWithSole [.Tuple [.Name x px, .Name y py, .Name z pz] kt pt] (.Tuple [a, b, c] k2 pt2) pos.line X.env = pure false := by rfl) :
    PS X (.Assign [.Tuple [.Name x px, .Name y py, .Name z pz] kt pt] (.Tuple [a, b, c] k2 pt2) pos) (uPar3 i j l ta) := ps_i (ps_par3 hc hN hi hj hl hij hil hjl hx hy hz (pa_cl ha) hw hs) fun D σ H q => ⟨_, q, fun vs H1 hv => by
  split at hv
  · exact ⟨_, _, _, rfl, hv⟩
  · exact hv.elim⟩
/-- l[i] = v -/
def uSetL : V → V → V → Hp → (Hp → Prop) → Prop := fun o i v H Q => match o, i with
  | .ref p, .int k => ∃ xs j, H p = some (.lst xs) ∧ ixN xs.length k = some j ∧ Q (upd H p (.lst (xs.set j v)))
  | _, _ => False
theorem set_u : PSet X uSetL := fun pins s σ H o i v ou iu vu Q I ro ri rv q => set_list pins s σ H o i v ou iu vu Q I ro ri rv (by
  unfold uSetL at q
  split at q
  · obtain ⟨xs, j, h⟩ := q
    exact ⟨_, xs, _, j, rfl, rfl, h⟩
  · exact q.elim)
end
end U

set_option Elab.async false
set_option linter.all false
set_option maxRecDepth 100000
set_option maxHeartbeats 4000000
/-! U7: what is walked: lists and tuples alike, enumerate of both, ranges, texts -/
namespace PySem
open Sem (wp)
open AutoSeq1 (wpAny_loadPart')
set_option maxHeartbeats 1000000 in
/-- enumerate of one argument, over whatever begins an iterator -/
theorem meets_enum1 {v : Value} {o : Obj} {H : Heap → Prop} (B : Begins v o H) :
    Meets (Builtin.«enumerate.__new__» ⟨[.type "enumerate", v], []⟩) (fun _ R s => H s.heap ∧
      R (.ok (.ret (.ref (s.heap.push o).objs.size))) { s with heap := (s.heap.push o).push { cls := .type "enumerate", data := .fields #[.none, .bool false, .ref s.heap.objs.size, rawInt 0, .none, .none] } }) :=
  .of_wp fun prog w A R s h => by
    obtain ⟨hp, g, d, tk, os⟩ := s; obtain ⟨h1, h⟩ := h
    have hsub := sub_enumerate
    have q1 : ∀ {A' : Around} {E : Value → Shared → Prop} {Q : Value → Shared → Prop}, Q (.ref hp.objs.size) ⟨hp.push o, g, d, tk, os⟩ → wpAny (model prog w) A' (pyIter v) Q E ⟨hp, g, d, tk, os⟩ :=
      fun q => B.iter prog w _ _ ⟨hp, g, d, tk, os⟩ _ h1 q
    wp_walk using q1
    refine wpAny_stack_any fun st => wpAny_pure ?_
    split
    · rename_i c _ _ _ _ _
      cases (c == Value.type "enumerate") <;>
      · wp_walk using q1
        exact ⟨_, rfl, h⟩
    · wp_walk using q1
      exact ⟨_, rfl, h⟩
section
variable {prog : Program} {w : World} {A : Around} {E : Value → Shared → Prop} {s : Shared}
theorem enum1_begins {v : Value} {o : Obj} {H : Heap → Prop} {Q : Value → Shared → Prop} (B : Begins v o H) (h1 : H s.heap)
    (h : ∀ h', IsEnum h' (s.heap.objs.size + 1) s.heap.objs.size 0 .none → h'.get? s.heap.objs.size = some o → h'.objs.size = s.heap.objs.size + 2 →
      (∀ b o, s.heap.get? b = some o → h'.get? b = some o) → Q (.ref (s.heap.objs.size + 1)) { s with heap := h' }) :
    wpAny (model prog w) A (call (.type "enumerate") [v]) Q E s := by
  refine callType_new F.called_enumerate (by decide) (F.typeCall_enumerate_1 _) (F.newCall_enumerate_1 _) (fun obj => F.args_object_init_2 obj _) F.entry_enumerate_new (meets_enum1 B) ⟨h1, ?_⟩
  have hz : (s.heap.push o).objs.size = s.heap.objs.size + 1 := Heap.size_push ..
  show _ ∧ _
  rw [hz]
  have he : IsEnum ((s.heap.push o).push { cls := .type "enumerate", data := .fields #[.none, .bool false, .ref s.heap.objs.size, rawInt 0, .none, .none] }) (s.heap.objs.size + 1) s.heap.objs.size 0 .none := by
    have := Heap.get?_push_size (s.heap.push o) (o := { cls := .type "enumerate", data := .fields #[.none, .bool false, .ref s.heap.objs.size, rawInt 0, .none, .none] }) rfl
    rw [hz] at this; exact this
  exact ⟨⟨_, he, rfl⟩, h _ he (Heap.get?_push_of_some _ (Heap.get?_push_size _ B.free)) (by rw [Heap.size_push, hz]) fun b o x => Heap.get?_push_of_some _ (Heap.get?_push_of_some _ x)⟩
end
end PySem

namespace U
open PySem PySem.Spec PyProof.Rows L2
/-- the tuple at a, each item in a new pair -/
def Iet (K : PySem.W.Frag) (a : Addr) : It :=
  ⟨fun i H => ∃ (xs : List V) (x : V), SqT K H a xs ∧ xs[i]? = some x, fun i H v H' => ∃ T x, v = .ref T ∧ H T = none ∧ H' = upd H T (.tup [.int (i : Nat), x]) ∧ ∀ xs, SqT K H a xs → xs[i]? = some x, fun i H => ∃ xs : List V, SqT K H a xs ∧ xs.length = i⟩
theorem enum_ne {h : Heap} {e it a : Addr} {i : Int} {old : Value} {items : Array Value} (he : IsEnum h e it i old) (ht : IsTup h a items) : e ≠ a := fun z => by
  obtain ⟨o, ho, hc, _⟩ := ht
  subst z
  have e1 := he.symm.trans ho
  have e2 := Option.some.inj e1
  rw [← e2] at hc
  exact absurd (Value.type.inj hc) (by decide)
theorem turn_enumT {P : Program} {w : World} {K : PySem.W.Frag} {elts : List Expr} {kk : Nat} {tpos : Pos} (a e it : Addr) :
    Turn P w K (.Tuple elts kk tpos) (Iet K a) [e, it] e (fun i h => (∃ old, IsEnum h e it ((i : Nat) : Int) old) ∧ h.IsTupleIter it a i ∧ e ≠ it) where
  mem := by simp
  obj := fun i h st b hb => by
    obtain ⟨⟨old, he⟩, ⟨o, ho, hc, hd⟩, _⟩ := st
    have e' : b = e ∨ b = it := by simpa using hb
    rcases e' with z | z
    · rw [z]; exact ⟨_, he, fun v q => nomatch q⟩
    · rw [z]; exact ⟨o, ho, fun v q => by rw [hd] at q; cases q⟩
  keep := fun i h h' st k => let ⟨⟨old, he⟩, hi, hne⟩ := st; ⟨⟨old, k e (by simp) _ he⟩, hi.at fun o q => k it (by simp) o q, hne⟩
  item := by
    intro X hP hw hK hc i pins s σ H E I hf st hg
    subst hP hw hK
    obtain ⟨⟨old, he⟩, hit, hne⟩ := st
    obtain ⟨xs, x, hq, hx⟩ := hg
    obtain ⟨its, rv, p, hz⟩ := I.tuple hq
    obtain ⟨u, hu, ru⟩ := rv.get hx
    have hel : e < s.heap.objs.size := Heap.lt_size he
    have hil : it < s.heap.objs.size := by obtain ⟨_, q, _⟩ := hit; exact Heap.lt_size q
    have hlt : i < its.toArray.size := by
      have := (List.getElem?_eq_some_iff.mp hu).1
      simpa using this
    have hea := enum_ne he p
    have hai : a ≠ it := fun z => by
      obtain ⟨o1, q1, c1, _⟩ := p
      obtain ⟨o2, q2, c2, _⟩ := hit
      rw [z, q2] at q1
      rw [Option.some.inj q1, c1] at c2
      exact absurd (Value.type.inj c2) (by decide)
    refine wpAny_pyNext_enum_itemC (Draws.tuple (prog := X.prog) (w := X.w) (A := X.A.in1) (I.ok.hd hc) it a hai its.toArray) he ⟨hit, p⟩ hlt hne (by simp [hne, hea]) fun y h' tk hy ho ⟨hit', _⟩ hT hsz hk => ?_
    have hyu : y = u := by
      have h2 : its.toArray[i]? = some u := by simpa using hu
      rw [hy] at h2
      exact Option.some.inj h2
    subst hyu
    refine ⟨_, rfl, wpAny_letOwnedTupleGo_enum (s := { s with heap := h', toks := tk + 1 }) ho fun h'' he' sb => ?_⟩
    have hT2 : h''.get? s.heap.objs.size = some { cls := .type "tuple", data := .seq #[.int i tk, y] } := (sb.2 _ (Nat.ne_of_gt hel)).trans hT
    have new : ObjOk X.prog X.w (upd H s.heap.objs.size (.tup [.int (i : Nat), x])) h'' s.heap.objs.size (.tup [.int (i : Nat), x]) :=
      ⟨by show 2 ≤ sizeLine; decide, [.int i tk, y], .cons ⟨_, rfl⟩ (.cons ru .nil), ⟨_, hT2, rfl, _, rfl⟩⟩
    have I1 : Inv X pins σ (upd H s.heap.objs.size (.tup [.int (i : Nat), x])) { s with heap := h'', toks := tk + 1 } :=
      I.turnedNew (ch := [e, it]) (fun b ob hb q => (sb.2 b (fun z => hb (by simp [z]))).trans (hk b ob (fun z => hb (by simp [z])) (fun z => hb (by simp [z])) q)) hf (Nat.le_refl _) new
    refine ⟨.ref s.heap.objs.size, _, I1, rfl, ⟨_, x, rfl, I.hok.fresh (Nat.le_refl _), rfl, fun ys hy => by rw [I.tuple_inj hy hq]; exact hx⟩, ⟨⟨y, ?_⟩, hit'.at fun o q => (sb.2 it (Ne.symm hne)).trans q, hne⟩, fun b hb => ?_⟩
    · have e1 : ((i + 1 : Nat) : Int) = (i : Int) + 1 := by omega
      rw [e1]; exact he'
    · have hb' : b < s.heap.objs.size := by
        have e' : b = e ∨ b = it := by simpa using hb
        rcases e' with z | z
        · rw [z]; exact hel
        · rw [z]; exact hil
      rw [upd_ne (Nat.ne_of_lt hb')]
      exact (hf b hb).1
  done := by
    intro X hP hw hK hc i pins s σ H E I hf st hg
    subst hP hw hK
    obtain ⟨⟨old, he⟩, hit, hne⟩ := st
    obtain ⟨xs, hq, hx⟩ := hg
    obtain ⟨its, rv, p, hz⟩ := I.tuple hq
    obtain ⟨f0, f1, f2, f3, f4, f5⟩ := hf it (by simp)
    have hl := rv.length
    have hai : a ≠ it := fun z => by
      obtain ⟨o1, q1, c1, _⟩ := p
      obtain ⟨o2, q2, c2, _⟩ := hit
      rw [z, q2] at q1
      rw [Option.some.inj q1, c1] at c2
      exact absurd (Value.type.inj c2) (by decide)
    have hil : its.toArray.size = i := by
      simp only [List.size_toArray]
      omega
    rw [← hil] at hit
    exact wpAny_pyNext_enum_endD (Draws.tuple (prog := X.prog) (w := X.w) (A := X.A.in1) (I.ok.hd hc) it a hai its.toArray) he ⟨hit, p⟩ fun h' eb => ⟨rfl, I.turned (t' := s.toks) (fun b o hb q => eb b o hb q) f0 f1 f3 f4 f5⟩
  self := fun A i s Q E st h => let ⟨⟨_, he⟩, _⟩ := st; wpAny_pyIter_enum he h

/-! ### a list (true) or a tuple -/
def SqB (K : PySem.W.Frag) (b : Bool) (H : Hp) (a : Addr) (xs : List V) : Prop := match b with
  | true => SqL K H a xs
  | false => SqT K H a xs
def ItB (K : PySem.W.Frag) (b : Bool) (a : Addr) : It := match b with
  | true => Itl K a
  | false => Itt K a
def IeB (K : PySem.W.Frag) (b : Bool) (a : Addr) : It := match b with
  | true => Ite K a
  | false => Iet K a
theorem SqB.or {K : PySem.W.Frag} {b : Bool} {H : Hp} {a : Addr} {xs : List V} (h : SqB K b H a xs) : SqL K H a xs ∨ SqT K H a xs := by
  cases b
  · exact .inr h
  · exact .inl h
theorem SqB.same {K : PySem.W.Frag} {b : Bool} {G H : Hp} {a : Addr} {xs : List V} (e : Same G H) (h : SqB K b G a xs) : SqB K b H a xs := by
  cases b
  · exact sqT_same e h
  · exact sqL_same e h
theorem SqB.of {K : PySem.W.Frag} {H : Hp} {a : Addr} {xs : List V} (h : SqL K H a xs ∨ SqT K H a xs) : ∃ b, SqB K b H a xs := h.elim (fun h => ⟨true, h⟩) fun h => ⟨false, h⟩
def uiSeq (K : PySem.W.Frag) (tl : TE) : TI := fun σ H R => tl σ H fun x H1 => match x with
  | .ref a => ∃ b xs, SqB K b H1 a xs ∧ R (ItB K b a) H1
  | _ => False
def uiEnum (K : PySem.W.Frag) (tl : TE) : TI := fun σ H R => tl σ H fun x H1 => match x with
  | .ref a => ∃ b xs, SqB K b H1 a xs ∧ R (IeB K b a) H1
  | _ => False
section
variable {X : Cx} {tg e : Expr} {te : TE}
theorem pi_seq {l : Expr} {tl : TE} (hl : PE X l tl) : PI X tg l (uiSeq X.K tl) := by
  refine ⟨fun pins s σ H R I h => thn (hl.run pins s σ H _ I h) fun v s1 ⟨x, H1, I1, r1, q1⟩ => ?_⟩
  dsimp only at q1
  split at q1
  · rename_i a
    obtain ⟨b, xs, hq, q⟩ := q1
    obtain rfl : v = Value.ref a := r1
    have nf : ∀ b, b ∈ [s1.heap.objs.size] → FpOk X pins H1 b := fun b hb => by
      obtain rfl : b = s1.heap.objs.size := by simpa using hb
      exact I1.fpOk (Nat.le_refl _) (I1.hok.fresh (Nat.le_refl _))
    cases b with
    | true =>
      obtain ⟨its, rv, p, hz⟩ := I1.list (show SqL X.K H1 a xs from hq)
      exact wpAny_pyIter_list p.isList ⟨s1.heap.objs.size, [s1.heap.objs.size], _, _, H1, rfl, I1.kept (t' := s1.toks) fun b o e => Heap.get?_push_of_some _ e, turn_list a _, ⟨_, Heap.get?_push_size _ rfl, rfl, rfl⟩, nf, q⟩
    | false =>
      obtain ⟨its, rv, p, hz⟩ := I1.tuple (show SqT X.K H1 a xs from hq)
      exact wpAny_pyIter_tuple (show s1.heap.IsTuple a its.toArray from p) ⟨s1.heap.objs.size, [s1.heap.objs.size], _, _, H1, rfl, I1.kept (t' := s1.toks) fun b o e => Heap.get?_push_of_some _ e, turn_tuple a _, ⟨_, Heap.get?_push_size _ rfl, rfl, rfl⟩, nf, q⟩
  · exact q1.elim
theorem pi_enumA {p pos tpos : Pos} {elts : List Expr} {kk : Nat} (hg : Gl X "enumerate") (hm : X.mg "enumerate" = none) (ha : PE X e te) (hs : starEach [e] X.env = [(false, eval e X.env)] := by rfl) :
    PI X (.Tuple elts kk tpos) (.Call (.Name "enumerate" p) [e] [] pos) (uiEnum X.K te) := by
  refine ⟨fun pins s σ H R I h => Call_ (ld_blt I hg hm boot_enumerate (PyProof.Rows.callWith_type1 (thn ((pa_cons ha pa_nil (hs := hs)).run pos pins s σ H (fun vs H1 => match vs with
    | [x] => (match x with
      | .ref a => ∃ b xs, SqB X.K b H1 a xs ∧ R (IeB X.K b a) H1
      | _ => False)
    | _ => False) I h) fun us s1 ⟨vs, H1, I1, r1, q1⟩ => ?_) hs rfl))⟩
  dsimp only at q1
  split at q1
  · split at q1
    · rename_i a
      obtain ⟨b, xs, hq, q⟩ := q1
      obtain ⟨u, rfl, ru⟩ := vals1 r1
      obtain rfl : u = Value.ref a := ru
      have nf : ∀ b, b ∈ [s1.heap.objs.size + 1, s1.heap.objs.size] → FpOk X pins H1 b := fun b hb => by
        have e' : b = s1.heap.objs.size + 1 ∨ b = s1.heap.objs.size := by simpa using hb
        have hle : s1.heap.objs.size ≤ b := by
          rcases e' with z | z
          · rw [z]; exact Nat.le_add_right _ _
          · rw [z]; exact Nat.le_refl _
        exact I1.fpOk hle (I1.hok.fresh hle)
      cases b with
      | true =>
        obtain ⟨its, rv, p, hz⟩ := I1.list (show SqL X.K H1 a xs from hq)
        exact call_enumerate_list p.isList fun h' he hit hsz hk => wpAny_pyIter_enum he ⟨s1.heap.objs.size + 1, [s1.heap.objs.size + 1, s1.heap.objs.size], _, _, H1, rfl, I1.kept (t' := s1.toks) hk, turn_enum a (s1.heap.objs.size + 1) s1.heap.objs.size, ⟨⟨.none, he⟩, hit, Nat.succ_ne_self _⟩, nf, q⟩
      | false =>
        obtain ⟨its, rv, p, hz⟩ := I1.tuple (show SqT X.K H1 a xs from hq)
        exact enum1_begins (begins_tuple a its.toArray) p fun h' he hit hsz hk => wpAny_pyIter_enum he ⟨s1.heap.objs.size + 1, [s1.heap.objs.size + 1, s1.heap.objs.size], _, _, H1, rfl, I1.kept (t' := s1.toks) hk, turn_enumT a (s1.heap.objs.size + 1) s1.heap.objs.size, ⟨⟨.none, he⟩, ⟨_, hit, rfl, rfl⟩, Nat.succ_ne_self _⟩, nf, q⟩
    · exact q1.elim
  · exact q1.elim
/-- a text's signs -/
def uiStr (te : TE) : TI := fun σ H R => te σ H fun v H1 => match v with
  | .str x => R (Its x) H1
  | _ => False
theorem pi_ustr (he : PE X e te) : PI X tg e (uiStr te) := pi_i (pi_str (pe_cl he)) fun σ H R q => ⟨_, q, fun v H1 hv => by
  split at hv
  · exact ⟨_, rfl, hv⟩
  · exact hv.elim⟩
def uiR1 (te : TE) : TI := fun σ H R => te σ H fun v H1 => match v with
  | .int j => -(2 ^ 62) ≤ j ∧ j < 2 ^ 62 ∧ R (Itr 0 j.toNat) H1
  | _ => False
theorem pi_r1 {p pos : Pos} (hg : Gl X "range") (hm : X.mg "range" = none) (ha : PE X e te) (hs : starEach [e] X.env = [(false, eval e X.env)] := by rfl) : PI X tg (.Call (.Name "range" p) [e] [] pos) (uiR1 te) :=
  pi_i (pi_range1 hg hm (pa_cons (pe_cl ha) pa_nil (hs := hs)) hs) fun σ H R q => ⟨_, q, fun v H1 hv => by
    split at hv
    · exact ⟨_, rfl, hv⟩
    · exact hv.elim⟩
def uiR2 (te tf : TE) : TI := fun σ H R => te σ H fun v H1 => tf σ H1 fun w H2 => match v, w with
  | .int i, .int j => -(2 ^ 62) ≤ i ∧ i < 2 ^ 62 ∧ -(2 ^ 62) ≤ j ∧ j < 2 ^ 62 ∧ R (Itr i (j - i).toNat) H2
  | _, _ => False
theorem pi_r2 {f : Expr} {tf : TE} {p pos : Pos} (hg : Gl X "range") (hm : X.mg "range" = none) (ha : PE X e te) (hb : PE X f tf) (hs : starEach [e, f] X.env = [(false, eval e X.env), (false, eval f X.env)] := by rfl) (hs2 : starEach [f] X.env = [(false, eval f X.env)] := by rfl) :
    PI X tg (.Call (.Name "range" p) [e, f] [] pos) (uiR2 te tf) :=
  pi_i (pi_range2 hg hm (pa_cons (pe_cl ha) (pa_cons (pe_cl hb) pa_nil (hs := hs2)) (hs := by rw [hs, hs2])) hs hs2) fun σ H R q => ⟨_, q, fun v H1 hv => ⟨_, hv, fun w H2 hw => by
    split at hw
    · obtain ⟨h1, h2, h3, h4, h5⟩ := hw
      exact ⟨_, _, rfl, ⟨h1, h2, h3, h4⟩, h5⟩
    · exact hw.elim⟩⟩
end
theorem walk_B {K : PySem.W.Frag} {b : Bool} {a : Addr} {xs : List V} : Walk (ItB K b a) xs.length (fun H => SqB K b H a xs) (YAt xs) := by
  cases b
  · exact walk_tup
  · exact walk_list
theorem walk_enumT {K : PySem.W.Frag} {a : Addr} {xs : List V} : Walk (Iet K a) xs.length (fun H => SqT K H a xs) (YPair (fun i => some (.int (i : Nat))) (fun i => xs[i]?)) := by
  refine ⟨fun i _ hi q => ⟨xs, xs[i], q, by simp [hi]⟩, fun _ q => ⟨xs, q, rfl⟩, fun i H v H' _ q y => ?_⟩
  obtain ⟨T, x, h1, h2, h3, h4⟩ := y
  exact ⟨T, .int (i : Nat), x, h1, h2, h3, rfl, h4 xs q⟩
theorem walk_eB {K : PySem.W.Frag} {b : Bool} {a : Addr} {xs : List V} : Walk (IeB K b a) xs.length (fun H => SqB K b H a xs) (YPair (fun i => some (.int (i : Nat))) (fun i => xs[i]?)) := by
  cases b
  · exact walk_enumT
  · exact walk_enum
end U

set_option Elab.async false
set_option linter.all false
set_option maxRecDepth 100000
set_option maxHeartbeats 4000000
/-! U8: loops by invariants, data lemmas, the deal -/
namespace U
open PySem PySem.Spec PyProof.Rows L2
def fPopI : Hp → Addr → List V → List V → VK → Prop := fun H l xs ys Q => ∃ i, ys = [.int i] ∧ fPop H l xs ys Q
def fUpper : Str → Hp → VK → Prop := fun a H Q => a.length ≤ 5592405 ∧ Q (.str (Txt.upper a)) H
section
variable {X : Cx}
theorem o_mul : OpR X (binaryOp .Mult) uMul := by
  refine op_or op_mulW op_rep fun x y H Q q => ?_
  unfold uMul at q
  split at q
  · exact .inl ⟨_, _, rfl, rfl, q⟩
  · obtain ⟨xs, h, h1, h2, h3, h4⟩ := q
    exact .inr ⟨_, _, xs, rfl, rfl, h, h1, h2, h3, h4⟩
  · exact q.elim
def uIs : R2 := fun x y H Q => match y with
  | .non => Q (.bl (decide (x = .non))) H
  | _ => False
theorem o_is : OpR X (compareOp .Is) uIs := op_i op_isN fun x y H Q q => by
  unfold uIs at q
  split at q
  · exact ⟨rfl, q⟩
  · exact q.elim
def uIsNot : R2 := fun x y H Q => match y with
  | .non => Q (.bl (!decide (x = .non))) H
  | _ => False
theorem o_isnot : OpR X (compareOp .IsNot) uIsNot := op_i op_notN fun x y H Q q => by
  unfold uIsNot at q
  split at q
  · exact ⟨rfl, q⟩
  · exact q.elim
end
theorem while_c {c : TT} {tb : TS} {D : Ends} {σ : L2.St} {H : Hp} (Pv : L2.St → Hp → Prop) (μ : L2.St → Hp → Nat) (h0 : Pv σ H)
    (hs : ∀ σ H, Pv σ H → c σ H fun b H1 => if b = true then tb { D with nx := fun σ' H' => Pv σ' H' ∧ μ σ' H' < μ σ H, ct := fun σ' H' => Pv σ' H' ∧ μ σ' H' < μ σ H, bk := D.nx } σ H1 else D.nx σ H1) : tWhile (cT c) tb D σ H := by
  refine while_by Pv μ h0 (fun σ H p => ⟨_, hs σ H p, fun b H1 q => q⟩) fun σ H Q Q' hq ⟨R, q, w⟩ => ⟨R, q, fun v H1 r => hq v H1 (w v H1 r)⟩
/-- a comprehension: R of the turn, what is made so far, the heap -/
theorem lc_acc {J : It} {n : Nat} {Gd : Hp → Prop} {Y : Nat → Hp → V → Hp → Prop} (w : Walk J n Gd Y) (hn : n ≤ 16000000) {g : TG} {tt : TT} {te : TE} {vs : List Nat} {σ : L2.St} {H1 : Hp} {D : Addr} {Qd : Hp → Prop} (R : Nat → List V → Hp → Prop)
    (h0 : R 0 [] (upd H1 D (.lst []))) (hG : ∀ i acc H, R i acc H → Gd H)
    (hs : ∀ i x acc H H', i < n → H D = some (.lst acc) → R i acc H → Y i H x H' → g x (wipe σ vs) H' fun σ2 H2 => wipe σ2 vs = wipe σ vs ∧ tt σ2 H2 fun b H3 =>
      if b = true then te σ2 H3 fun y H4 => H4 D = some (.lst acc) ∧ R (i + 1) (acc ++ [y]) (upd H4 D (.lst (acc ++ [y]))) else H3 D = some (.lst acc) ∧ R (i + 1) acc H3)
    (hgm : ∀ x σ H (P P' : L2.St → Hp → Prop), (∀ σ H, P σ H → P' σ H) → g x σ H P → g x σ H P')
    (htm : ∀ σ H (P P' : Bool → Hp → Prop), (∀ b H, P b H → P' b H) → tt σ H P → tt σ H P')
    (hem : ∀ σ H (P P' : V → Hp → Prop), (∀ b H, P b H → P' b H) → te σ H P → te σ H P')
    (hd : ∀ acc H, H D = some (.lst acc) → R n acc H → Qd H) :
    ∃ W : Nat → Nat → Hp → Prop, (∃ m, W 0 m (upd H1 D (.lst []))) ∧ ∀ i m H, W i m H →
      (J.stop i H ∧ Qd H) ∨ (J.go i H ∧ ∃ Nx : Hp → Prop, (∀ H', Nx H' → ∃ m', m' < m ∧ W (i + 1) m' H') ∧ ∀ x H', J.yld i H x H' → g x (wipe σ vs) H' fun σ2 H2 => wipe σ2 vs = wipe σ vs ∧ tt σ2 H2 fun b H3 =>
        if b = true then te σ2 H3 fun y H4 => ∃ acc, H4 D = some (.lst acc) ∧ acc.length < sizeLine ∧ Nx (upd H4 D (.lst (acc ++ [y]))) else Nx H3) := by
  have line : sizeLine = 16777216 := sizeLine_eq
  refine lc_it w (fun i H => ∃ acc, H D = some (.lst acc) ∧ acc.length ≤ i ∧ R i acc H) ⟨[], upd_same, Nat.le_refl _, h0⟩ (fun i H _ ⟨acc, _, _, r⟩ => hG i acc H r) (fun i x H H' hi ⟨acc, h1, h2, r⟩ y => ?_) fun H ⟨acc, h1, _, r⟩ => hd acc H h1 r
  refine hgm _ _ _ _ _ (fun σ2 H2 q => ?_) (hs i x acc H H' hi h1 r y)
  refine ⟨q.1, htm _ _ _ _ (fun b H3 q => ?_) q.2⟩
  cases b with
  | true =>
    rw [if_pos rfl] at q ⊢
    exact hem _ _ _ _ (fun y H4 q => ⟨acc, q.1, by omega, acc ++ [y], upd_same, by rw [List.length_append]; exact Nat.succ_le_succ h2, q.2⟩) q
  | false =>
    rw [if_neg (by decide)] at q ⊢
    exact ⟨acc, q.1, Nat.le_succ_of_le h2, q.2⟩
theorem iteD {p : Prop} [Decidable p] {A B : Prop} (h1 : p → A) (h2 : ¬ p → B) : if decide p = true then A else B := by
  by_cases h : p
  · rw [if_pos (decide_eq_true h)]; exact h1 h
  · rw [if_neg (by simp [h])]; exact h2 h
theorem iteN {p : Prop} [Decidable p] {A B : Prop} (h1 : ¬ p → A) (h2 : p → B) : if (!decide p) = true then A else B := by
  by_cases h : p
  · rw [if_neg (by simp [h])]; exact h2 h
  · rw [if_pos (by simp [h])]; exact h1 h
theorem iteB {b : Bool} {A B : Prop} (h1 : b = true → A) (h2 : b = false → B) : if b = true then A else B := by
  cases b
  · rw [if_neg (by decide)]; exact h2 rfl
  · rw [if_pos rfl]; exact h1 rfl
theorem iteNB {b : Bool} {A B : Prop} (h1 : b = false → A) (h2 : b = true → B) : if (!b) = true then A else B := by
  cases b
  · rw [if_pos (by decide)]; exact h1 rfl
  · rw [if_neg (by decide)]; exact h2 rfl

/-! ### data -/
section
variable {K : PySem.W.Frag} {H : Hp}
theorem dpA_ints : ∀ ns : List Int, DpAll K H (ns.map V.int) (ns.map PyData.int)
  | [] => .nil
  | n :: ns => .cons (.int n) (dpA_ints ns)
theorem dpA_strs : ∀ ns : List Str, DpAll K H (ns.map V.str) (ns.map PyData.str)
  | [] => .nil
  | n :: ns => .cons (.str n) (dpA_strs ns)
theorem dpA_nil : DpAll K H [] [] := .nil
theorem dpA_append : ∀ {vs ws : List V} {ds es : List PyData}, DpAll K H vs ds → DpAll K H ws es → DpAll K H (vs ++ ws) (ds ++ es)
  | _, _, _, _, .nil, h => h
  | _, _, _, _, .cons a b, h => .cons a (dpA_append b h)
theorem dpA_get : ∀ {vs : List V} {ds : List PyData} {i : Nat} {v : V}, DpAll K H vs ds → vs[i]? = some v → ∃ d, ds[i]? = some d ∧ Dp K H v d
  | _, _, _, _, .nil, e => by simp at e
  | _, _, 0, _, .cons a b, e => by simp at e; subst e; exact ⟨_, rfl, a⟩
  | _, _, i + 1, v, .cons a b, e => by
    obtain ⟨d, h1, h2⟩ := dpA_get (i := i) (v := v) b (by simpa using e)
    exact ⟨d, by simpa using h1, h2⟩
theorem dpA_getD : ∀ {vs : List V} {ds : List PyData} {i : Nat} {d : PyData}, DpAll K H vs ds → ds[i]? = some d → ∃ v, vs[i]? = some v ∧ Dp K H v d
  | _, _, _, _, .nil, e => by simp at e
  | _, _, 0, _, .cons a b, e => by simp at e; subst e; exact ⟨_, rfl, a⟩
  | _, _, i + 1, v, .cons a b, e => by
    obtain ⟨d, h1, h2⟩ := dpA_getD (i := i) b (by simpa using e)
    exact ⟨d, by simpa using h1, h2⟩
theorem dpA_set : ∀ {vs : List V} {ds : List PyData} {i : Nat} {v : V} {d : PyData}, DpAll K H vs ds → Dp K H v d → DpAll K H (vs.set i v) (ds.set i d)
  | _, _, _, _, _, .nil, _ => .nil
  | _, _, 0, _, _, .cons a b, h => .cons h b
  | _, _, i + 1, v, d, .cons a b, h => .cons a (dpA_set (i := i) b h)
theorem dpA_erase : ∀ {vs : List V} {ds : List PyData} {i : Nat}, DpAll K H vs ds → DpAll K H (vs.eraseIdx i) (ds.eraseIdx i)
  | _, _, _, .nil => .nil
  | _, _, 0, .cons a b => b
  | _, _, i + 1, .cons a b => .cons a (dpA_erase (i := i) b)
theorem dpA_take : ∀ {vs : List V} {ds : List PyData} (n : Nat), DpAll K H vs ds → DpAll K H (vs.take n) (ds.take n)
  | _, _, 0, h => by simp; exact .nil
  | _, _, n + 1, .nil => .nil
  | _, _, n + 1, .cons a b => .cons a (dpA_take n b)
theorem dpA_drop : ∀ {vs : List V} {ds : List PyData} (n : Nat), DpAll K H vs ds → DpAll K H (vs.drop n) (ds.drop n)
  | _, _, 0, h => h
  | _, _, n + 1, .nil => .nil
  | _, _, n + 1, .cons a b => dpA_drop n b
theorem dpA_rev {vs : List V} {ds : List PyData} (h : DpAll K H vs ds) : DpAll K H vs.reverse ds.reverse := by
  induction vs generalizing ds with
  | nil => cases h; exact .nil
  | cons v vs ih =>
    cases h with
    | cons a b =>
      rw [List.reverse_cons, List.reverse_cons]
      exact dpA_append (ih b) (.cons a .nil)
/-- of plain data: no dict within, not deep -/
structure Sh (n : Nat) (d : PyData) : Prop where
  lay : d.canLay0 = true
  dep : d.depth ≤ n
theorem Sh.shaped {n : Nat} {d : PyData} (h : Sh n d) (hn : n ≤ 64 := by decide) : SeqAt.shaped d = true := by
  unfold SeqAt.shaped
  rw [h.lay, Bool.true_and, decide_eq_true_eq]
  exact Nat.le_trans h.dep hn
theorem Sh.mono {n m : Nat} {d : PyData} (h : Sh n d) (hn : n ≤ m := by decide) : Sh m d := ⟨h.lay, Nat.le_trans h.dep hn⟩
theorem depA_le {n : Nat} : ∀ {ds : List PyData}, (∀ d ∈ ds, d.depth ≤ n) → PyData.depthAll ds ≤ n
  | [], _ => by simp [PyData.depthAll]
  | d :: ds, h => by
    have h1 := h d List.mem_cons_self
    have h2 := depA_le fun e he => h e (List.mem_cons_of_mem _ he)
    simp only [PyData.depthAll]
    omega
theorem layA : ∀ {ds : List PyData}, (∀ d ∈ ds, d.canLay0 = true) → PyData.canLayAll0 ds = true
  | [], _ => rfl
  | d :: ds, h => by
    simp only [PyData.canLayAll0, Bool.and_eq_true]
    exact ⟨h d List.mem_cons_self, layA fun e he => h e (List.mem_cons_of_mem _ he)⟩
theorem Sh.list {n : Nat} {ds : List PyData} (h : ∀ d ∈ ds, Sh n d) : Sh (n + 1) (.list ds) := ⟨layA fun d hd => (h d hd).lay, by
  simp only [PyData.depth]
  have := depA_le fun d hd => (h d hd).dep
  omega⟩
theorem Sh.tuple {n : Nat} {ds : List PyData} (h : ∀ d ∈ ds, Sh n d) : Sh (n + 1) (.tuple ds) := ⟨layA fun d hd => (h d hd).lay, by
  simp only [PyData.depth]
  have := depA_le fun d hd => (h d hd).dep
  omega⟩
theorem Sh.int (i : Int) : Sh 0 (.int i) := ⟨rfl, by simp [PyData.depth]⟩
theorem Sh.bool (i : Bool) : Sh 0 (.bool i) := ⟨rfl, by simp [PyData.depth]⟩
theorem Sh.none : Sh 0 .none := ⟨rfl, by simp [PyData.depth]⟩
theorem Sh.ints (ns : List Int) : Sh 1 (.list (ns.map .int)) := .list fun d hd => by
  obtain ⟨i, _, rfl⟩ := List.mem_map.mp hd
  exact .int i
end
end U

set_option Elab.async false
set_option linter.all false
set_option maxRecDepth 100000
set_option maxHeartbeats 4000000
/-! U9: sets of tuples of texts -/
namespace U
open PySem PySem.Spec PyProof.Rows L2
/-- the tuple of these texts at a -/
abbrev IsW (P : Program) (w : World) (h : Heap) (k : List Str) (a : Addr) : Prop := IsTupleKey (PySem.strKind P w) h k a
abbrev hW (P : Program) (w : World) (k : List Str) : Int := tupleKeyHash (PySem.strKind P w) k
theorem filterMap_of {α β : Type} {f : α → Option β} {g : α → β} : ∀ {l : List α}, (∀ i ∈ l, f i = some (g i)) → l.filterMap f = l.map g
  | [], _ => rfl
  | i :: l, h => by
    rw [List.filterMap_cons_some (h i List.mem_cons_self), filterMap_of fun j hj => h j (List.mem_cons_of_mem _ hj), List.map_cons]
theorem range_all {α : Type} (L : List α) : (List.range L.length).filterMap (fun i => L[i]?) = L := by
  have key : ∀ n, n ≤ L.length → (List.range n).filterMap (fun i => L[i]?) = L.take n := by
    intro n
    induction n with
    | zero => intro _; rfl
    | succ n ih =>
      intro hn
      rw [List.range_succ, List.filterMap_append, ih (Nat.le_of_succ_le hn), List.take_succ]
      congr 1
  have := key L.length (Nat.le_refl _)
  rwa [List.take_length] at this
section
variable {P : Program} {w : World} {A : Around} {E : Value → Shared → Prop} {s : Shared}
theorem items_txt {k : List Str} {vs : List Value} (h : ItemsAre (PySem.strKind P w) k vs) : ∀ v ∈ vs, ∃ x t, v = Value.str x t := by
  induction h with
  | nil => intro v hv; cases hv
  | @cons x v' ks vs h1 _ ih =>
    intro v hv
    rcases List.mem_cons.mp hv with e | hv
    · obtain ⟨t, e2⟩ := Value.isStrOf_shape (x := x) (v := v') h1
      exact ⟨x, t, e.trans e2⟩
    · exact ih v hv
theorem isW_keep {h h' : Heap} {k : List Str} {b : Addr} (x : IsW P w h k b) (hk : ∀ o, h.get? b = some o → h'.get? b = some o) : IsW P w h' k b := by
  obtain ⟨o, items, n, ho, r⟩ := x
  exact ⟨o, items, n, hk o ho, r⟩
/-- a tuple isn't a set -/
theorem isW_but {h h' : Heap} {k : List Str} {a b : Addr} {o : Obj} {es : Array (Int × Value)} {ep : Nat} {t : SetTable} (x : IsW P w h k b) (ho : h.get? a = some o) (hd : o.data = .set es ep t) (sb : Heap.SameBut a h h') : IsW P w h' k b := by
  obtain ⟨u, items, n, hu, hc, hd', hi⟩ := x
  have hne : b ≠ a := fun z => by
    rw [z, ho] at hu
    rw [← Option.some.inj hu, hd] at hd'
    cases hd'
  exact ⟨u, items, n, (sb.2 b hne).trans hu, hc, hd', hi⟩
theorem of_a_class {k : List Str} {b : Addr} {Q : Bool → Shared → Prop} (hk : IsW P w s.heap k b) (h : Q false s) : wpAny (model P w) A (ofAClassStatement 8 (.ref b)) Q E s := by
  have hT := hk.typeIs
  obtain ⟨o, items, n, ho, _, hd, hi⟩ := hk
  unfold ofAClassStatement
  refine wpAny_bind (wpAny_typeOf hT ?_)
  have e : (("tuple" : String) == "tuple") = true := by decide
  simp only [e, if_true, Bool.not_true, Bool.false_eq_true, if_false]
  try refine wpAny_bind (wpAny_pure ?_)
  try simp only [Bool.not_true, Bool.false_eq_true, if_false]
  show wpAny _ _ (seqItems? (.ref b) >>= _) _ _ s
  refine wpAny_bind (wpAny_seqItems ho hd ?_)
  dsimp only
  refine wpAny_bind ?_
  show wpAny _ _ (forIn items _ _) _ _ s
  rw [← Array.forIn_toList]
  refine wpAny_forIn_list _ (fun rest r s' => (r.1 = none ∧ s' = s) ∧ ∀ v ∈ rest, ∃ x t, v = Value.str x t) _ ?_ ?_ _ _ ⟨⟨rfl, rfl⟩, items_txt hi⟩
  · rintro v rest r s' ⟨⟨hr, rfl⟩, hall⟩
    obtain ⟨x, t, rfl⟩ := hall v List.mem_cons_self
    rw [show ofAClassStatement 7 (.str x t) = pure false from rfl]
    refine wpAny_bind (wpAny_pure ?_)
    simp only [Bool.false_eq_true, if_false]
    exact wpAny_pure ⟨⟨rfl, rfl⟩, fun u hu' => hall u (List.mem_cons_of_mem _ hu')⟩
  · rintro ⟨r1, r2⟩ s' ⟨⟨hr, rfl⟩, _⟩
    simp only at hr
    subst hr
    exact wpAny_pure h
/-- whether its hash is known by value -/
theorem by_value {k : List Str} {b : Addr} {Q : Bool → Shared → Prop} (hk : IsW P w s.heap k b) (h : ∀ x, Q x s) : wpAny (model P w) A (hashByValue 8 (.ref b)) Q E s := by
  have hT := hk.typeIs
  obtain ⟨o, items, n, ho, _, hd, hi⟩ := hk
  unfold hashByValue
  refine wpAny_bind (wpAny_specialOf hT F.slot_tuple_hash.lookup ?_)
  show wpAny _ _ (seqItems? (.ref b) >>= _) _ _ s
  refine wpAny_bind (wpAny_seqItems ho hd ?_)
  refine wpAny_bind ?_
  show wpAny _ _ (forIn items _ _) _ _ s
  rw [← Array.forIn_toList]
  refine wpAny_forIn_list _ (fun rest r s' => (r.1 = none ∧ s' = s) ∧ ∀ v ∈ rest, ∃ x t, v = Value.str x t) _ ?_ ?_ _ _ ⟨⟨rfl, rfl⟩, items_txt hi⟩
  · rintro v rest r s' ⟨⟨hr, rfl⟩, hall⟩
    obtain ⟨x, t, rfl⟩ := hall v List.mem_cons_self
    rw [show hashByValue 7 (.str x t) = pure false from rfl]
    refine wpAny_bind (wpAny_pure ?_)
    simp only [Bool.not_false, if_true]
    exact wpAny_pure (wpAny_pure (h false))
  · rintro ⟨r1, r2⟩ s' ⟨⟨hr, rfl⟩, _⟩
    simp only at hr
    subst hr
    exact wpAny_pure (h true)
theorem not_seen {k : List Str} {b : Addr} {Q : Bool → Shared → Prop} (hk : IsW P w s.heap k b) {ys : List Value} (hy : ∀ y ∈ ys, ∃ k' c, y = Value.ref c ∧ IsW P w s.heap k' c) (h : Q false s) :
    wpAny (model P w) A (searchCouldBeSeen (.ref b) ys) Q E s := by
  unfold searchCouldBeSeen
  refine wpAny_bind ?_
  refine wpAny_forIn_list _ (fun rest r s' => (r.1 = none ∧ s' = s) ∧ ∀ y ∈ rest, ∃ k' c, y = Value.ref c ∧ IsW P w s.heap k' c) _ ?_ ?_ _ _ ⟨⟨rfl, rfl⟩, hy⟩
  · rintro v rest r s' ⟨⟨hr, rfl⟩, hall⟩
    obtain ⟨k', c, rfl, hc⟩ := hall v List.mem_cons_self
    have more : ∀ y ∈ rest, ∃ k' c, y = Value.ref c ∧ IsW P w s'.heap k' c := fun u hu' => hall u (List.mem_cons_of_mem _ hu')
    dsimp only
    by_cases hv : (b == c || (carriedByValue (.ref b) && carriedByValue (.ref c))) = true
    · exact wp_if_pos hv (wpAny_pure ⟨⟨rfl, rfl⟩, more⟩)
    · refine wp_if_neg hv ?_
      refine wpAny_bind (wpAny_eqIsQuiet_tuple hk ?_)
      simp only [Bool.not_true, Bool.false_eq_true, if_false]
      refine wpAny_bind (wpAny_eqIsQuiet_tuple hc ?_)
      simp only [Bool.not_true, Bool.false_eq_true, if_false]
      refine wpAny_bind (of_a_class hk ?_)
      simp only [Bool.false_eq_true, if_false]
      refine wpAny_bind (of_a_class hc ?_)
      simp only [Bool.false_eq_true, if_false]
      exact wpAny_pure ⟨⟨rfl, rfl⟩, more⟩
  · rintro ⟨r1, r2⟩ s' ⟨⟨hr, rfl⟩, _⟩
    simp only at hr
    subst hr
    exact wpAny_pure h

/-! ### the set -/
structure WSet (P : Program) (w : World) (h : Heap) (a : Addr) (L : List (Addr × List Str)) (es : Array (Int × Value)) (ep : Nat) (t : SetTable) : Prop where
  ob : ∃ o, h.get? a = some o ∧ o.ExactSet ∧ o.data = .set es ep t
  rows : es.toList = L.map fun p => (hW P w p.2, Value.ref p.1)
  tab : TabOk t (L.map fun p => hW P w p.2)
  nd : (L.map (·.2)).Nodup
  led : w.params.followText "set-order" = true ∨ t.led = true
  room : L.length * 5 < t.mask * 3
  few : L.length ≤ 75
variable {a : Addr} {L : List (Addr × List Str)} {es : Array (Int × Value)} {ep : Nat} {t : SetTable}
theorem WSet.size {h : Heap} (R : WSet P w h a L es ep t) : es.size = L.length := by
  have := congrArg List.length R.rows
  rwa [Array.length_toList, List.length_map] at this
theorem fits_of (h1 : t.place.size = es.size) (h2 : t.dummies = #[]) (h3 : es.size ≤ t.mask) : t.fits es.size = true := by
  unfold SetTable.fits SetTable.fill
  rw [h2, Bool.and_eq_true, beq_iff_eq, decide_eq_true_eq]
  refine ⟨h1, ?_⟩
  rw [h1]
  exact h3
theorem WSet.psz {h : Heap} (R : WSet P w h a L es ep t) : t.place.size = L.length := by
  have := R.tab.sz
  rwa [List.length_map] at this
theorem WSet.fits {h : Heap} (R : WSet P w h a L es ep t) : t.fits es.size = true := by
  have h1 := R.psz
  have h2 := R.size
  have h3 := R.room
  exact fits_of (h1.trans h2.symm) R.tab.dm (by omega)
theorem WSet.entry {h : Heap} (R : WSet P w h a L es ep t) (i : Nat) : es[i]? = (L[i]?).map fun p => (hW P w p.2, Value.ref p.1) := by
  rw [← Array.getElem?_toList, R.rows, List.getElem?_map]
theorem WSet.gw {h : Heap} (R : WSet P w h a L es ep t) : ¬ t.gaveWay = true := by
  unfold SetTable.gaveWay
  rw [mask_odd R.tab.mok]
  decide
theorem WSet.at' {h h' : Heap} (R : WSet P w h a L es ep t) (k : ∀ o, h.get? a = some o → h'.get? a = some o) : WSet P w h' a L es ep t := by
  obtain ⟨⟨o, ho, r⟩, q1, q2, q3, q4, q5, q6⟩ := R
  exact ⟨⟨o, k o ho, r⟩, q1, q2, q3, q4, q5, q6⟩

/-- a search, from the c-th place of its way on -/
theorem look_from (R : WSet P w s.heap a L es ep t) (ht : ∀ p ∈ L, IsW P w s.heap p.2 p.1) {x : Addr} {k : List Str} (hx : IsW P w s.heap k x) (hu : A.units < cLine) {add : Bool} {K : Nat} (hKf : K < 10 * SetTable.turns t.mask)
    (hK : way t.mask (hW P w k) K ∉ t.place.toList) (hKb : ∀ c, c < K → way t.mask (hW P w k) c ∈ t.place.toList) {Q : SetFound → Shared → Prop}
    (hin : k ∈ L.map (·.2) → ∀ i, (add = false → i.isSome = true) → Q (.there i) s) (hout : k ∉ L.map (·.2) → Q (.free (way t.mask (hW P w k) K) false) s) :
    ∀ (f c : Nat) (stand : Option SetTable.Probe), stand.getD (t.probeStart (hW P w k)) = nth t.mask (runAt t.mask (SetTable.bits (hW P w k) % (t.mask + 1)) (SetTable.bits (hW P w k))) c → c ≤ K → K - c < f →
      (∀ (i : Nat) p, L[i]? = some p → p.2 = k → ∃ c', c ≤ c' ∧ c' < K ∧ t.place.toList[i]? = some (way t.mask (hW P w k) c')) →
      wpAny (model P w) A (setSearchFrom a (.ref x) (hW P w k) add f stand) Q E s
  | 0, c, stand, _, _, hf, _ => absurd hf (Nat.not_lt_zero _)
  | f + 1, c, stand, hst, hc, hf, hre => by
    obtain ⟨o, ho, hex, hd⟩ := R.ob
    obtain ⟨p0, hp0⟩ : ∃ p0, p0 = runAt t.mask (SetTable.bits (hW P w k) % (t.mask + 1)) (SetTable.bits (hW P w k)) := ⟨_, rfl⟩
    have hw : ∀ q, (nth t.mask p0 q).j = way t.mask (hW P w k) q := fun q => by rw [hp0]
    rw [← hp0] at hst
    rw [setSearchFrom_succ]
    refine wpAny_bind (wpAny_setState_of ho hd R.fits ?_)
    dsimp only
    refine wp_if_neg R.gw ?_
    try refine wpAny_bind (wpAny_pure ?_)
    have dm : ∀ (n : Nat) (p : SetTable.Probe), p.dummy = none → (nth t.mask p n).dummy = none := by
      intro n
      induction n with
      | zero => intro p h; exact h
      | succ n ih =>
        intro p h
        refine ih (adv t.mask p) ?_
        unfold adv
        split <;> exact h
    have sh : ∀ q, nth t.mask (nth t.mask p0 c) q = nth t.mask p0 (c + q) := fun q => (nth_add t.mask c _ q).symm
    have shw : ∀ q, (nth t.mask (nth t.mask p0 c) q).j = way t.mask (hW P w k) (c + q) := fun q => by rw [sh, hw]
    have hashAt : ∀ (i : Nat) p, L[i]? = some p → (es[i]?.map (·.1)).getD 0 = hW P w p.2 := fun i p hp => by
      rw [R.entry, hp] <;> rfl
    have eK : c + (K - c) = K := by omega
    rcases go_spec t R.tab.ris R.tab.dm (fun i => (es[i]?.map (·.1)).getD 0) (hW P w k) (10 * SetTable.turns t.mask) (K - c) (nth t.mask p0 c) (dm c p0 (by rw [hp0] <;> rfl)) (by omega)
      (fun q hq => by rw [shw]; exact hKb (c + q) (by omega)) (by rw [shw, eK]; exact hK) with ⟨q, i, hq, hi, hh, hno, hpr⟩ | ⟨hno, hpr⟩
    · have hpr' : t.probe (fun i => (es[i]?.map (·.1)).getD 0) (hW P w k) (stand.getD (t.probeStart (hW P w k))) = some (.candidate (way t.mask (hW P w k) (c + q)) i (nth t.mask p0 (c + (q + 1)))) := by
        rw [hst, ← shw, ← sh]
        exact hpr
      rw [hpr']
      dsimp only
      rw [shw] at hi
      have hil : i < L.length := by
        have h1 : i < t.place.toList.length := (List.getElem?_eq_some_iff.mp hi).1
        rw [Array.length_toList, R.psz] at h1
        exact h1
      obtain ⟨p, hp⟩ : ∃ p, L[i]? = some p := ⟨L[i], List.getElem?_eq_getElem hil⟩
      have hmem : p ∈ L := List.mem_of_getElem? hp
      have hpt := ht p hmem
      have hent : es[i]? = some (hW P w p.2, Value.ref p.1) := by rw [R.entry, hp] <;> rfl
      have hsl : t.slot (way t.mask (hW P w k) (c + q)) = .live i := slot_live R.tab.ris hi
      have rest : wpAny (model P w) A (searchRest a (.ref x) (hW P w k) add f es t (way t.mask (hW P w k) (c + q)) i (nth t.mask p0 (c + (q + 1)))) Q E s := by
        unfold searchRest
        rw [hent]
        dsimp only
        refine wpAny_bind (wpAny_holding (wpAny_eqBool_tuple hu hpt hx ?_))
        refine wpAny_bind (wpAny_setState_of ho hd R.fits ?_)
        dsimp only
        have found : ∀ (b : Bool), (add && b) = false → (b = true → Q (.there (some i)) s) → (b = false → wpAny (model P w) A (setSearchFrom a (.ref x) (hW P w k) add f (some (nth t.mask p0 (c + (q + 1))))) Q E s) →
            wpAny (model P w) A (do
              let some same := t.sameMemory t.moves t.mask | unsupported "set.changed-during-lookup:is-the-new-block-at-the-old-address"
              let still ← match (if same then t.slot (way t.mask (hW P w k) (c + q)) else .empty) with
                | .live i' => match es[i']? with
                  | some (_, y') => do pure (if ← isSame y' (.ref p.1) then some i' else none)
                  | none => pure none
                | _ => pure none
              match still with
              | none => rule "set.search.anew"; setSearchFrom a (.ref x) (hW P w k) add f none
              | some i' => if b then return .there (some i') else setSearchFrom a (.ref x) (hW P w k) add f (some (nth t.mask p0 (c + (q + 1))))) Q E s := fun b hb h1 h2 => by
          rw [sameMem]
          dsimp only
          simp only [if_true, hsl, hent]
          refine wpAny_bind (wpAny_isSame_ref_self (wpAny_bind (wpAny_pure ?_)))
          simp only [if_true]
          cases b with
          | true => exact wp_if_pos rfl (wpAny_pure (h1 rfl))
          | false => exact wp_if_neg (by decide) (h2 rfl)
        by_cases hkk : p.2 = k
        · have hm : k ∈ L.map (·.2) := List.mem_map.mpr ⟨p, hmem, hkk⟩
          rw [show decide (p.2 = k) = true from decide_eq_true hkk]
          cases hadd : add with
          | true =>
            refine wp_if_pos rfl (wpAny_pure ?_)
            exact hin hm none fun z => by rw [hadd] at z; cases z
          | false =>
            refine wp_if_neg (by decide) ?_
            try refine wpAny_bind (wpAny_pure ?_)
            rw [hadd] at found
            exact found true rfl (fun _ => hin hm _ fun _ => rfl) fun z => by cases z
        · rw [show decide (p.2 = k) = false from decide_eq_false hkk]
          refine wp_if_neg (by simp) ?_
          try refine wpAny_bind (wpAny_pure ?_)
          refine found false (by simp) (fun z => by cases z) fun _ => ?_
          refine look_from R ht hx hu hKf hK hKb hin hout f (c + (q + 1)) _ (by rw [← hp0]; rfl) (by omega) (by omega) fun i0 q0 h0 hk0 => ?_
          obtain ⟨c', a1, a2, a3⟩ := hre i0 q0 h0 hk0
          refine ⟨c', ?_, a2, a3⟩
          rcases Nat.lt_trichotomy c' (c + q) with z | z | z
          · refine absurd ?_ (hno (c' - c) i0 (by omega) (by rw [shw, show c + (c' - c) = c' by omega]; exact a3))
            exact (hashAt i0 q0 h0).trans (congrArg (hW P w) hk0)
          · exfalso
            rw [z] at a3
            have s0 := slot_live R.tab.ris a3
            rw [hsl] at s0
            injection s0 with s0
            rw [← s0, hp] at h0
            exact hkk ((congrArg Prod.snd (Option.some.inj h0)).trans hk0)
          · omega
      by_cases hl : t.led = true
      · refine wp_if_neg (by simp [hl]) ?_
        try refine wpAny_bind (wpAny_pure ?_)
        exact rest
      · refine wp_if_pos (by simp [hl]) ?_
        refine wpAny_bind (not_seen hx (fun y hy => ?_) ?_)
        · obtain ⟨e, he, ee⟩ := List.mem_map.mp hy
          have he1 : e ∈ es := by
            have : e ∈ es ∧ e.1 = hW P w k := by simpa using he
            exact this.1
          have he2 : e ∈ es.toList := by simpa using he1
          rw [R.rows] at he2
          obtain ⟨p2, hp2, e2⟩ := List.mem_map.mp he2
          refine ⟨p2.2, p2.1, ?_, ht p2 hp2⟩
          rw [← ee, ← e2]
        · refine wp_if_neg (by decide) ?_
          try refine wpAny_bind (wpAny_pure ?_)
          exact rest
    · have hpr' : t.probe (fun i => (es[i]?.map (·.1)).getD 0) (hW P w k) (stand.getD (t.probeStart (hW P w k))) = some (.empty (way t.mask (hW P w k) K) none) := by
        have e2 : way t.mask (hW P w k) K = (nth t.mask (nth t.mask p0 c) (K - c)).j := by rw [shw, eK]
        rw [hst, e2]
        exact hpr
      rw [hpr']
      dsimp only
      refine wpAny_pure (hout fun hm => ?_)
      obtain ⟨q0, h0, hk0⟩ := List.mem_map.mp hm
      obtain ⟨i0, hi0, e0⟩ := List.getElem_of_mem h0
      have h00 : L[i0]? = some q0 := by rw [List.getElem?_eq_getElem hi0, e0]
      obtain ⟨c', a1, a2, a3⟩ := hre i0 q0 h00 hk0
      refine hno (c' - c) i0 (by omega) (by rw [shw, show c + (c' - c) = c' by omega]; exact a3) ?_
      exact (hashAt i0 q0 h00).trans (congrArg (hW P w) hk0)
theorem look_at (R : WSet P w s.heap a L es ep t) (ht : ∀ p ∈ L, IsW P w s.heap p.2 p.1) {x : Addr} {k : List Str} (hx : IsW P w s.heap k x) (hu : A.units < cLine) {add : Bool} {Q : SetFound → Shared → Prop}
    (hin : k ∈ L.map (·.2) → ∀ i, (add = false → i.isSome = true) → Q (.there i) s)
    (hout : ∀ K, k ∉ L.map (·.2) → way t.mask (hW P w k) K ∉ t.place.toList → (∀ c, c < K → way t.mask (hW P w k) c ∈ t.place.toList) → Q (.free (way t.mask (hW P w k) K) false) s) :
    wpAny (model P w) A (setSearch a (.ref x) (hW P w k) add) Q E s := by
  have hroom := R.room
  obtain ⟨K, hKf, hK, hKb⟩ := R.tab.first (by rw [List.length_map]; omega) (hW P w k)
  have hbig : K < 100000 := by
    have : 10 * SetTable.turns t.mask ≤ 1420 := by
      unfold SetTable.turns
      rcases R.tab.mok with e | e | e <;> omega
    omega
  unfold setSearch
  refine look_from R ht hx hu hKf hK hKb hin (fun hn => hout K hn hK hKb) 100000 0 none rfl (Nat.zero_le _) (by omega) fun i p hp hk => ?_
  have hi : (L.map fun p => hW P w p.2)[i]? = some (hW P w k) := by rw [List.getElem?_map, hp, ← hk] <;> rfl
  have hil : i < t.place.toList.length := by
    have h1 : i < L.length := (List.getElem?_eq_some_iff.mp hp).1
    rw [Array.length_toList, R.psz]
    exact h1
  have hj := List.getElem?_eq_getElem hil
  obtain ⟨c, hc, e⟩ := R.tab.before hK hi hj
  exact ⟨c, Nat.zero_le _, hc, by rw [hj, e]⟩
/-! ### laid anew, added to -/
theorem rows_order (f : Addr × List Str → Int × Value) (hr : es.toList = L.map f) {order : Array Nat} (hp : order.toList.Perm (List.range L.length)) :
    ∃ L2 : List (Addr × List Str), (order.filterMap (es[·]?)).toList = L2.map f ∧ L2.Perm L ∧ (L2.map fun p => (f p).1) = order.toList.map fun i => (es.map (·.1)).getD i 0 := by
  have ent : ∀ i, es[i]? = (L[i]?).map f := fun i => by rw [← Array.getElem?_toList, hr, List.getElem?_map]
  have key : ∀ l : List Nat, (∀ i ∈ l, i < L.length) → l.filterMap (fun i => es[i]?) = (l.filterMap fun i => L[i]?).map f ∧ ((l.filterMap fun i => L[i]?).map fun p => (f p).1) = l.map fun i => (es.map (·.1)).getD i 0 := by
    intro l
    induction l with
    | nil => intro _; exact ⟨rfl, rfl⟩
    | cons i l ih =>
      intro hl
      have hi := hl i List.mem_cons_self
      obtain ⟨e1, e2⟩ := ih fun j hj => hl j (List.mem_cons_of_mem _ hj)
      have hx : L[i]? = some L[i] := List.getElem?_eq_getElem hi
      have hy : es[i]? = some (f L[i]) := by rw [ent, hx] <;> rfl
      refine ⟨?_, ?_⟩
      · rw [List.filterMap_cons_some hy, List.filterMap_cons_some hx, e1, List.map_cons]
      · rw [List.filterMap_cons_some hx, List.map_cons, List.map_cons, e2]
        have e4 : (es.map (·.1)).getD i 0 = (f L[i]).1 := by
          have e5 : (es.map (·.1))[i]? = some (f L[i]).1 := by rw [Array.getElem?_map, hy] <;> rfl
          simp [Array.getD_eq_getD_getElem?, e5]
        rw [e4]
  obtain ⟨e1, e2⟩ := key order.toList fun i hi => List.mem_range.mp (hp.mem_iff.mp hi)
  refine ⟨order.toList.filterMap fun i => L[i]?, by first | (rw [Array.toList_filterMap]; exact e1) | simpa using e1, ?_, e2⟩
  have h1 := hp.filterMap (fun i => L[i]?)
  rwa [range_all] at h1
theorem lay_new {o : Obj} (ho : s.heap.get? a = some o) (hex : o.ExactSet) (hd : o.data = .set es ep t) (hrows : es.toList = L.map fun p => (hW P w p.2, Value.ref p.1)) (hsz : t.place.size = es.size) (hdm : t.dummies = #[]) (hfl : es.size ≤ t.mask)
    (nd : (L.map (·.2)).Nodup) (ld : w.params.followText "set-order" = true ∨ t.led = true) (few : L.length ≤ 75) {wanted M : Nat} (hw : SetTable.sizeAbove wanted - 1 = M) (hM : MaskOk M) (hw2 : SetTable.sizeAbove wanted ≤ 128) (hn : L.length * 5 < M * 3) {Q : Unit → Shared → Prop}
    (hQ : ∀ h' L' es' ep' t', Heap.SameBut a s.heap h' → WSet P w h' a L' es' ep' t' → L'.Perm L → Q () { s with heap := h' }) : wpAny (model P w) A (setRelay a wanted) Q E s := by
  have hsl : es.size = L.length := by
    have := congrArg List.length hrows
    rwa [Array.length_toList, List.length_map] at this
  obtain ⟨t', order, e, hp, T, em, el, ep', ed⟩ := relaid_ok t (hs := es.map (·.1)) (wanted := wanted) hw hM (by rw [Array.size_map, hsl]; omega)
  rw [Array.size_map, hsl] at hp
  obtain ⟨L2, r1, r2, r3⟩ := rows_order (fun p => (hW P w p.2, Value.ref p.1)) hrows hp
  rw [← r3] at T
  have hs2 : (order.filterMap (es[·]?)).size = es.size := by
    have := congrArg List.length r1
    rw [Array.length_toList, List.length_map, r2.length_eq] at this
    rw [this, hsl]
  rw [setRelay_eq]
  refine wpAny_bind (wpAny_setState_of ho hd (fits_of hsz hdm hfl) ?_)
  dsimp only
  refine wp_if_neg (by rw [sizeLine_eq]; omega) ?_
  try refine wpAny_bind (wpAny_pure ?_)
  rw [e]
  dsimp only
  refine wpAny_bind ?_
  refine wp_if_neg (by rw [hs2]; simp) ?_
  try refine wpAny_bind (wpAny_pure ?_)
  refine wpAny_pure ?_
  dsimp only
  refine wpAny_storeSet_of ho hd ?_ (by rw [hs2, hsl, sizeLine_eq]; omega)
  refine hQ _ L2 (order.filterMap (es[·]?)) (ep + 1) t' (Heap.SameBut.update ..) ⟨⟨_, store_at ho hd, ⟨hex.1, hex.2.1, hex.2.2⟩, rfl⟩, r1, T, ?_, by rw [el]; exact ld, ?_, by rw [r2.length_eq]; exact few⟩ r2
  · exact (r2.map (·.2)).nodup_iff.mpr nd
  · rw [r2.length_eq, em]
    exact hn
theorem full_off (t : SetTable) : ({ t with plain := false } : SetTable).tooFull = t.tooFull := rfl
/-- a tuple is added -/
theorem put_in (R : WSet P w s.heap a L es ep t) (ht : ∀ p ∈ L, IsW P w s.heap p.2 p.1) {x : Addr} {k : List Str} (hx : IsW P w s.heap k x) (hu : A.units < cLine) (hfew : L.length + 1 ≤ 75) {Q : Bool → Shared → Prop}
    (hQ : ∀ b h' L' es' ep' t', Heap.SameBut a s.heap h' → WSet P w h' a L' es' ep' t' → (k ∈ L.map (·.2) → L' = L) → (k ∉ L.map (·.2) → L'.Perm ((x, k) :: L)) → Q b { s with heap := h' }) :
    wpAny (model P w) A (setAddHashed a (.ref x) (hW P w k)) Q E s := by
  obtain ⟨o, ho, hex, hd⟩ := R.ob
  have hsl := R.size
  have hroom := R.room
  unfold setAddHashed
  refine wpAny_holding ?_
  rw [show (100000 : Nat) = 99999 + 1 from rfl, setAddHashedIn_succ]
  refine wpAny_bind (wpAny_setState_of ho hd R.fits ?_)
  dsimp only
  refine wp_if_neg (by simp [byScan, Value.scannable]) ?_
  try refine wpAny_bind (wpAny_pure ?_)
  refine wpAny_bind (look_at R ht hx hu (fun hm i _ => ?_) fun K hm hK hb => ?_)
  · dsimp only
    exact wpAny_pure (hQ false s.heap L es ep t (Heap.SameBut.refl a s.heap) R (fun _ => rfl) fun z => absurd hm z)
  · dsimp only
    refine wpAny_bind (wpAny_setState_of ho hd R.fits ?_)
    dsimp only
    obtain ⟨q1, q2, q3, q4, q5, q6, q7, q8, q9⟩ := R.tab.put hK hb
    generalize hpt : t.put (way t.mask (hW P w k) K) = pt at q1 q3 q4 q5 q6 q7 q8 q9 ⊢
    obtain ⟨t1, p⟩ := pt
    dsimp only at q1 q3 q4 q5 q6 q7 q8 q9 ⊢
    subst q1
    have hin : (SetTable.insertAt es (SetTable.below t.place (way t.mask (hW P w k) K)) (hW P w k, Value.ref x)).toList =
        (L.take (SetTable.below t.place (way t.mask (hW P w k) K)) ++ (x, k) :: L.drop (SetTable.below t.place (way t.mask (hW P w k) K))).map fun p => (hW P w p.2, Value.ref p.1) := by
      rw [SetTable.toList_insertAt, R.rows, List.map_append, List.map_cons, List.map_take, List.map_drop]
    generalize hpp : SetTable.below t.place (way t.mask (hW P w k) K) = p at q2 q3 hin ⊢
    have pm := put_perm L p (x, k)
    have hlen : (L.take p ++ (x, k) :: L.drop p).length = L.length + 1 := pm.length_eq
    have hhs : (L.take p ++ (x, k) :: L.drop p).map (fun p => hW P w p.2) = (L.map fun p => hW P w p.2).take p ++ hW P w k :: (L.map fun p => hW P w p.2).drop p := by
      rw [List.map_append, List.map_cons, List.map_take, List.map_drop]
    rw [← hhs] at q3
    have nd1 : ((L.take p ++ (x, k) :: L.drop p).map (·.2)).Nodup := by
      refine (pm.map (·.2)).nodup_iff.mpr ?_
      rw [List.map_cons]
      exact List.nodup_cons.mpr ⟨hm, R.nd⟩
    generalize SetTable.insertAt es p (hW P w k, Value.ref x) = es1 at hin ⊢
    generalize L.take p ++ (x, k) :: L.drop p = L1 at pm hlen q3 nd1 hin
    have hes : es1.size = L.length + 1 := by
      have := congrArg List.length hin
      rwa [Array.length_toList, List.length_map, hlen] at this
    -- whatever the mark says
    have go : ∀ t2 : SetTable, TabOk t2 (L1.map fun p => hW P w p.2) → t2.mask = t.mask → t2.led = t.led → t2.fill = (L.map fun p => hW P w p.2).length + 1 →
        wpAny (model P w) A (do
          storeSet a es1 t2
          if (!false && t2.tooFull) = true then setRelay a (SetTable.grown (es.size + 1))
          return true) Q E s := fun t2 T2 m2 l2 f2 => by
      refine wpAny_bind (wpAny_storeSet_of ho hd ?_ (by rw [hes, sizeLine_eq]; omega))
      have sb : Heap.SameBut a s.heap (s.heap.update a (Obj.putSet es1 t2)) := Heap.SameBut.update ..
      have ho1 := store_at (es' := es1) (t' := t2) ho hd
      generalize s.heap.update a (Obj.putSet es1 t2) = h1 at sb ho1 ⊢
      rw [List.length_map] at f2
      have ld1 : w.params.followText "set-order" = true ∨ t2.led = true := by rw [l2]; exact R.led
      by_cases hf : t2.tooFull = true
      · first
          | (refine wpAny_bind ?_; refine wp_if_pos (by simp [hf]) ?_)
          | (refine wp_if_pos (by simp [hf]) ?_; refine wpAny_bind ?_)
        have hfull : (L.length + 1) * 5 ≥ t2.mask * 3 := by
          have h := hf
          unfold SetTable.tooFull at h
          rw [decide_eq_true_eq, f2] at h
          exact h
        rw [hsl]
        have hsz1 : t2.place.size = es1.size := by
          have h := T2.sz
          rw [List.length_map, hlen] at h
          rw [h, hes]
        have two : (t.mask = 7 ∧ L.length = 4) ∨ (t.mask = 31 ∧ L.length = 18) := by
          rw [m2] at hfull
          rcases R.tab.mok with e | e | e
          · left; rw [e] at hfull hroom; exact ⟨e, by omega⟩
          · right; rw [e] at hfull hroom; exact ⟨e, by omega⟩
          · exfalso; rw [e] at hfull; omega
        have lay : ∀ M, SetTable.sizeAbove (SetTable.grown (L.length + 1)) - 1 = M → MaskOk M → SetTable.sizeAbove (SetTable.grown (L.length + 1)) ≤ 128 → (L.length + 1) * 5 < M * 3 →
            wpAny (model P w) A (setRelay a (SetTable.grown (L.length + 1))) (fun _ s' => wpAny (model P w) A (pure true) Q E s') E { s with heap := h1 } := fun M y1 y2 y3 y4 => by
          refine lay_new (s := { s with heap := h1 }) ho1 ⟨hex.1, hex.2.1, hex.2.2⟩ rfl hin hsz1 T2.dm (by rw [hes, m2]; rcases two with ⟨e, e2⟩ | ⟨e, e2⟩ <;> omega) nd1 ld1 (by rw [hlen]; exact hfew) y1 y2 y3 (by rw [hlen]; exact y4) ?_
          intro h2 L2 es2 ep2 t2' sb2 R2 pm2
          exact wpAny_pure (hQ true h2 L2 es2 ep2 t2' (sb.trans sb2) R2 (fun z => absurd z hm) fun _ => pm2.trans pm)
        rcases two with ⟨_, e2⟩ | ⟨_, e2⟩
        · exact lay 31 (by rw [e2, size_20]) (.inr (.inl rfl)) (by rw [e2, size_20]; decide) (by omega)
        · exact lay 127 (by rw [e2, size_76]) (.inr (.inr rfl)) (by rw [e2, size_76]; decide) (by omega)
      · first
          | refine wp_if_neg (by simp [hf]) ?_
          | (refine wpAny_bind ?_; refine wp_if_neg (by simp [hf]) ?_; refine wpAny_pure ?_)
        refine wpAny_pure (hQ true h1 L1 es1 (ep + 1) t2 sb ⟨⟨_, ho1, ⟨hex.1, hex.2.1, hex.2.2⟩, rfl⟩, hin, T2, nd1, ld1, ?_, by rw [hlen]; exact hfew⟩ (fun z => absurd z hm) fun _ => pm)
        have h := hf
        unfold SetTable.tooFull at h
        rw [decide_eq_true_eq, f2] at h
        rw [hlen]
        omega
    have T3 : TabOk { t1 with plain := false } (L1.map fun p => hW P w p.2) := ⟨q3.ris, q3.dm, q3.sz, q3.mok, q3.bd, q3.reach⟩
    by_cases hp1 : t1.plain = true
    · first
        | (refine wpAny_bind ?_; refine wp_if_pos hp1 ?_; refine by_value hx fun b => ?_)
        | refine wp_if_pos hp1 (wpAny_bind (by_value hx fun b => ?_))
      cases b with
      | true => exact go t1 q3 q4 q5 q9
      | false => exact go { t1 with plain := false } T3 q4 q5 q9
    · first
        | (refine wpAny_bind ?_; refine wp_if_neg hp1 ?_; refine wpAny_pure ?_)
        | refine wp_if_neg hp1 (wpAny_bind (wpAny_pure ?_))
      exact go t1 q3 q4 q5 q9
/-- whether a tuple is a member -/
theorem has_in (R : WSet P w s.heap a L es ep t) (ht : ∀ p ∈ L, IsW P w s.heap p.2 p.1) {x : Addr} {k : List Str} (hx : IsW P w s.heap k x) (hu : A.units < cLine) {Q : Option Nat → Shared → Prop}
    (hQ : ∀ r : Option Nat, r.isSome = decide (k ∈ L.map (·.2)) → Q r s) : wpAny (model P w) A (setFind a (.ref x) (hW P w k)) Q E s := by
  obtain ⟨o, ho, hex, hd⟩ := R.ob
  unfold setFind
  rw [show (100000 : Nat) = 99999 + 1 from rfl]
  unfold setFindIn
  refine wpAny_bind (wpAny_setState_of ho hd R.fits ?_)
  dsimp only
  refine wp_if_neg (by simp [byScan, Value.scannable]) ?_
  try refine wpAny_bind (wpAny_pure ?_)
  refine wpAny_bind (look_at R ht hx hu (fun hm i hi => ?_) fun K hm hK hb => ?_)
  · dsimp only
    exact wpAny_pure (hQ _ (by rw [hi rfl, decide_eq_true hm]))
  · dsimp only
    exact wpAny_pure (hQ _ (by rw [decide_eq_false hm]; rfl))
end
end U

set_option Elab.async false
set_option linter.all false
set_option maxRecDepth 100000
set_option maxHeartbeats 4000000
/-! U10: sets of tuples of texts, as values -/
namespace U
open PySem PySem.Spec PyProof.Rows L2
open PySem.W (AllAlike Sortable dataLe EachIs dataKind sortVals SortsAt sortVals_data list_sort_vals sortingHeap)
/-- the set at a -/
def SetWO (P : Program) (w : World) (a : Addr) (L : List (Addr × List Str)) : HO := .ext fun h => ∃ es ep t, WSet P w h a L es ep t
theorem setWO_new {P : Program} {w : World} {H : Hp} {h : Heap} {a : Addr} {L : List (Addr × List Str)} {es : Array (Int × Value)} {ep : Nat} {t : SetTable} (R : WSet P w h a L es ep t) : ObjOk P w H h a (SetWO P w a L) := by
  have ⟨o, ho, _⟩ := R.ob
  refine ⟨⟨es, ep, t, R⟩, ⟨o, ho⟩, fun h1 h2 p k => ?_⟩
  obtain ⟨es', ep', t', R'⟩ := p
  exact ⟨es', ep', t', R'.at' k⟩
theorem items_of_txts {P : Program} {w : World} : ∀ {k : List Str} {us : List Value}, Vals (k.map V.str) us → ItemsAre (PySem.strKind P w) k us
  | [], _, .nil => .nil
  | n :: k, _, .cons r t => by
    obtain ⟨tk, rfl⟩ := r
    exact .cons (strKind_is _ _ _ _) (items_of_txts t)
section
variable {X : Cx}
theorem inv_isW {pins : List (Addr × Obj)} {σ : L2.St} {H : Hp} {s : Shared} {b : Addr} {k : List Str} (I : Inv X pins σ H s) (h : SqT X.K H b (k.map V.str)) : IsW X.prog X.w s.heap k b := by
  obtain ⟨its, r, ⟨o, ho, hc, n, hd⟩, _⟩ := I.tuple h
  exact ⟨o, its.toArray, n, ho, hc, hd, by simpa using items_of_txts r⟩
/-- set() -/
def uSet0 (P : Program) (w : World) : List V → Hp → VK → Prop := fun xs H Q => xs = [] ∧ ∀ p, H p = none → Q (.ref p) (upd H p (SetWO P w p []))
theorem wset_new {P : Program} {w : World} {h : Heap} {a : Addr} (ho : h.get? a = some { cls := .type "set", dict := none, data := .set #[] 0 (.fresh 0 0 (!w.params.followText "set-order")) }) : WSet P w h a [] #[] 0 (.fresh 0 0 (!w.params.followText "set-order")) where
  ob := ⟨_, ho, ⟨rfl, rfl, rfl⟩, rfl⟩
  rows := rfl
  tab := ⟨List.Pairwise.nil, rfl, rfl, .inl rfl, fun x hx => (by cases hx), fun i h j hi => (by simp at hi)⟩
  nd := List.nodup_nil
  led := by
    show _ ∨ (!w.params.followText "set-order") = true
    cases w.params.followText "set-order"
    · exact .inr rfl
    · exact .inl rfl
  room := by
    show 0 * 5 < 7 * 3
    decide
  few := Nat.zero_le _
theorem c_set0 : CallR X (.type "set") (uSet0 X.prog X.w) := by
  intro pins s σ H xs us Q I r h
  obtain ⟨rfl, q⟩ := h
  cases r
  refine setR_new fun _ => ?_
  exact ⟨.ref _, upd H s.heap.objs.size (SetWO X.prog X.w s.heap.objs.size []), I.laid (t' := s.toks) (fun b u e => Heap.get?_push_of_some _ e) (Nat.le_refl _) (setWO_new (wset_new (Heap.get?_push_size _ rfl))), rfl, q _ (I.hok.fresh (Nat.le_refl _))⟩
theorem in1_units {k : Nat} {A : Around} (hr : RG k A) : A.in1.units < cLine := by
  have h0 := hr.r.units
  have h1 : A.in1.units ≤ A.units + 1 := by simp [Around.in1]
  omega
/-- found.add(k) -/
def fSAdd (K : PySem.W.Frag) (P : Program) (w : World) : Hp → Addr → List (Addr × List Str) → List V → VK → Prop := fun H a L xs Q => ∃ (b : Addr) (k : List Str), xs = [.ref b] ∧ SqT K H b (k.map V.str) ∧ (∀ p ∈ L, SqT K H p.1 (p.2.map V.str)) ∧ L.length + 1 ≤ 75 ∧
  ∀ L' : List (Addr × List Str), (k ∈ L.map (·.2) → L' = L) → (k ∉ L.map (·.2) → L'.Perm ((b, k) :: L)) → Q .non (upd H a (SetWO P w a L'))
def uSAdd (K : PySem.W.Frag) (P : Program) (w : World) (to : TE) (t : TA) : TE := fun σ H Q => to σ H fun x H1 => match x with
  | .ref a => ∃ L, H1 a = some (SetWO P w a L) ∧ t σ H1 fun xs H2 => H2 a = some (SetWO P w a L) ∧ fSAdd K P w H2 a L xs Q
  | _ => False
theorem call_sadd {k0 : Nat} (hr : RG k0 X.A) {pins : List (Addr × Obj)} {σ : L2.St} {H : Hp} {s : Shared} {a : Addr} {L : List (Addr × List Str)} {xs : List V} {us : List Value} {Q : VK} (I : Inv X pins σ H s) (ha : H a = some (SetWO X.prog X.w a L)) (rs : Vals xs us)
    (h : fSAdd X.K X.prog X.w H a L xs Q) : wpAny (model X.prog X.w) X.A (call (.builtin "set.add") (.ref a :: us)) (EP X pins σ Q) X.xe s := by
  obtain ⟨b, k, rfl, hb, hL, few, q⟩ := h
  have hu1 := in1_units hr
  obtain ⟨u, rfl, ru⟩ := vals1 rs
  obtain rfl : u = Value.ref b := ru
  have R0 : ∃ es ep t, WSet X.prog X.w s.heap a L es ep t := (I.hok a _ ha).1
  obtain ⟨es, ep, t, R⟩ := R0
  have ⟨o, ho, hex, hd⟩ := R.ob
  have ht : ∀ p ∈ L, IsW X.prog X.w s.heap p.2 p.1 := fun p hp => inv_isW I (hL p hp)
  have hx := inv_isW I hb
  have hT : s.TypeIs (.ref a) "set" := ⟨o, ho, hex.1⟩
  refine wpAny_call_entry F.slot_set_add hT F.entry_set_add ?_ (F.args_set_add_2 _ _)
  unfold Builtin.«set.add» Builtin.Frozenset.oneOther
  simp only [List.isEmpty_nil, bind_assoc]
  unfold Builtin.Frozenset.addrOf setAdd
  refine wpAny_bind (wpAny_pure ?_)
  try dsimp only
  refine wpAny_bind (wpAny_pure ?_)
  try dsimp only
  refine wpAny_bind (wpAny_holding (wpAny_bind (wpAny_pyHash_tuple hu1 hx ?_)))
  refine put_in (s := { s with toks := s.toks + (k.length + 1) }) R ht hx hu1 few fun b' h' L' es' ep' t' sb new h1 h2 => ?_
  show wpAny _ _ (ret Value.none) _ _ _
  have he : ∃ u, h'.get? a = some u := by
    have ⟨o, ho, _⟩ := new.ob
    exact ⟨o, ho⟩
  exact wpAny_pure ⟨_, rfl, .non, upd H a (SetWO X.prog X.w a L'), I.write (e := a) (t' := s.toks + (k.length + 1)) (by rw [ha]; trivial) (.inl rfl) (fun b u hb hu => (sb.2 b hb).trans hu) he (setWO_new new), rfl, q L' h1 h2⟩
variable {o e : Expr} {es : List Expr} {to : TE} {t : TA} {apos cpos : Pos}
theorem pe_sadd {k0 : Nat} (hr : RG k0 X.A) (ho : PE X o to) (ha : PA X (e :: es) t)
    (hbase : attributeBase o "add" X.env (eval o X.env) = eval o X.env := by rfl)
    (hfew : ((backTo cpos (starEach (e :: es) X.env)).all (fun x => !x.1) && (backToKw cpos (keywordEach [] X.env)).all (fun x => x.1.isSome)
      && decide ((e :: es).length + ([] : List Keyword).length + (if ([] : List Keyword).isEmpty then 0 else 1) < 30)) = true := by rfl)
    (hline : (apos.endLine == cpos.line) = true := by rfl) (hs : starEach (e :: es) X.env = (false, eval e X.env) :: starEach es X.env := by rfl) (hplain : (backTo cpos (starEach es X.env)).any (·.1) = false := by rfl) :
    PE X (.Call (.Attribute o "add" apos) (e :: es) [] cpos) (uSAdd X.K X.prog X.w to t) := by
  refine ⟨fun pins s σ H Q I h => ?_⟩
  refine wpAny_Call_method_late hbase hfew hline rfl (thn (ho.run pins s σ H _ I h) fun v s1 ⟨x, H1, I1, r1, q⟩ => ?_)
  dsimp only at q
  split at q
  · rename_i a
    obtain ⟨L, hka, q1⟩ := q
    obtain rfl : v = Value.ref a := r1
    have R0 : ∃ es ep t, WSet X.prog X.w s1.heap a L es ep t := (I1.hok a _ hka).1
    obtain ⟨es', ep, t', R⟩ := R0
    have ⟨o', ho', hex, hd⟩ := R.ob
    refine ⟨"set", "set.add", F.plainAttrs_set, F.slot_set_add, F.type_set_add, ⟨o', ho', hex.1⟩, fun b z => ?_, ?_⟩
    · cases z
      exact ⟨o', ho', hex.2.1⟩
    have hA := ha.run cpos pins s1 σ H1 _ I1 q1
    rw [hs] at hA ⊢
    refine Calls.callWith_builtin (by show (false || (backTo cpos (starEach es X.env)).any (·.1)) = false; rw [hplain] <;> rfl) (Calls.evalArgs_plain ?_)
    exact thn hA fun us s2 ⟨vs, H2, I2, r2, hk2, q2⟩ => call_sadd hr I2 hk2 r2 q2
  · exact q.elim
/-- k in found, k not in found -/
def uSIn (K : PySem.W.Frag) (P : Program) (w : World) (neg : Bool) : R2 := fun x y H Q => match x, y with
  | .ref b, .ref a => ∃ k L, SqT K H b (k.map V.str) ∧ H a = some (SetWO P w a L) ∧ (∀ p ∈ L, SqT K H p.1 (p.2.map V.str)) ∧ Q (.bl (if neg then !decide (k ∈ L.map (·.2)) else decide (k ∈ L.map (·.2)))) H
  | _, _ => False
theorem contains_w {k0 : Nat} (hr : RG k0 X.A) {pins : List (Addr × Obj)} {σ : L2.St} {H : Hp} {s : Shared} {a b : Addr} {k : List Str} {L : List (Addr × List Str)} {R : Bool → Shared → Prop} {E : Value → Shared → Prop} (I : Inv X pins σ H s) (hb : SqT X.K H b (k.map V.str)) (ha : H a = some (SetWO X.prog X.w a L)) (hL : ∀ p ∈ L, SqT X.K H p.1 (p.2.map V.str))
    (h : ∀ tk, R (decide (k ∈ L.map (·.2))) { s with toks := tk }) : wpAny (model X.prog X.w) X.A (contains (.ref a) (.ref b)) R E s := by
  have hu1 := in1_units hr
  have hx := inv_isW I hb
  have R0 : ∃ es ep t, WSet X.prog X.w s.heap a L es ep t := (I.hok a _ ha).1
  obtain ⟨es, ep, t, R'⟩ := R0
  have ⟨o, ho, hex, hd⟩ := R'.ob
  have ht : ∀ p ∈ L, IsW X.prog X.w s.heap p.2 p.1 := fun p hp => inv_isW I (hL p hp)
  have hT : s.TypeIs (.ref a) "set" := ⟨o, ho, hex.1⟩
  unfold contains
  try with_reducible refine wpAny_holding ?_
  refine wpAny_bind (wpAny_specialOf hT F.slot_set_contains.lookup ?_)
  show wpAny _ _ (if (some (Value.builtin "set.__contains__") == some Value.none) = true then _ else _) _ E s
  rw [if_neg (by rw [beq_builtin_none]; exact Bool.false_ne_true)]
  refine wpAny_bind (wpAny_callSpecialUnlessNone?_slot (name := Str.ofString "__contains__") hT F.slot_set_contains
    (wpAny_call_entry F.slot_set_contains hT entry_set_contains ?_ (F.args_set_contains_2 _ _)))
  unfold Builtin.«frozenset.__contains__» Builtin.Frozenset.oneOther
  simp only [List.isEmpty_nil, bind_assoc]
  unfold Builtin.Frozenset.addrOf Builtin.Frozenset.withSetAsKey setContains
  refine wpAny_bind (wpAny_pure ?_)
  try dsimp only
  refine wpAny_bind (wpAny_pure ?_)
  try dsimp only
  refine wpAny_bind (wpAny_tryCatch ?_)
  refine wpAny_holding ?_
  refine wpAny_bind (wpAny_pyHash_tuple hu1 hx ?_)
  refine wpAny_bind (has_in (s := { s with toks := s.toks + (k.length + 1) }) R' ht hx hu1 fun r hr' => ?_)
  refine wpAny_pure ?_
  show wpAny _ _ (ret (Value.bool r.isSome)) _ _ _
  rw [hr']
  exact wpAny_pure ⟨_, rfl, wpAny_truthy_bool (h _)⟩
theorem o_sin {k0 : Nat} (hr : RG k0 X.A) : OpR X (compareOp .In) (uSIn X.K X.prog X.w false) := by
  intro pins s σ H x y v u Q I rx ry h
  unfold uSIn at h
  split at h
  · rename_i b a
    obtain ⟨k, L, hb, ha, hL, q⟩ := h
    obtain rfl : v = Value.ref b := rx
    obtain rfl : u = Value.ref a := ry
    show wpAny _ _ (do return Value.bool (← contains (.ref a) (.ref b))) _ _ s
    refine wpAny_bind (contains_w hr I hb ha hL fun tk => wpAny_pure ⟨V.bl (decide (k ∈ L.map Prod.snd)), H, I.tok _, rfl, ?_⟩)
    simpa using q
  · exact h.elim
theorem o_snotin {k0 : Nat} (hr : RG k0 X.A) : OpR X (compareOp .NotIn) (uSIn X.K X.prog X.w true) := by
  intro pins s σ H x y v u Q I rx ry h
  unfold uSIn at h
  split at h
  · rename_i b a
    obtain ⟨k, L, hb, ha, hL, q⟩ := h
    obtain rfl : v = Value.ref b := rx
    obtain rfl : u = Value.ref a := ry
    show wpAny _ _ (do return Value.bool (!(← contains (.ref a) (.ref b)))) _ _ s
    refine wpAny_bind (contains_w hr I hb ha hL fun tk => wpAny_pure ⟨V.bl (!decide (k ∈ L.map Prod.snd)), H, I.tok _, rfl, ?_⟩)
    simpa using q
  · exact h.elim
end

/-! ### sorted(found) -/
/-- a tuple of texts as data -/
abbrev dW (k : List Str) : PyData := .tuple (k.map .str)
def uSortedW (K : PySem.W.Frag) (P : Program) (w : World) : List V → Hp → VK → Prop := fun xs H Q => match xs with
  | [.ref a] => ∃ L, H a = some (SetWO P w a L) ∧ (∀ p ∈ L, SqT K H p.1 (p.2.map V.str) ∧ p.2 ≠ []) ∧
    ∀ (L' : List (Addr × List Str)) (p : Addr), L'.Perm L → L'.Pairwise (fun p q => dataLe false id (dW p.2) (dW q.2) = true) → H p = none → Q (.ref p) (upd H p (.lst (L'.map fun q => V.ref q.1)))
  | _ => False
theorem alike_txts : ∀ xs ys : List Str, PySem.W.alikeAll (xs.map .str) (ys.map .str) = true
  | [], _ => by simp [PySem.W.alikeAll]
  | _ :: _, [] => by simp [PySem.W.alikeAll]
  | x :: xs, y :: ys => by
    have ih := alike_txts xs ys
    simp only [List.map_cons, PySem.W.alikeAll, ih, Bool.and_true]
    simp [PySem.W.alike]
theorem depth_txts : ∀ xs : List Str, PyData.depthAll (xs.map .str) = 0
  | [] => by simp [PyData.depthAll]
  | x :: xs => by
    have ih := depth_txts xs
    simp only [List.map_cons, PyData.depthAll, ih]
    simp [PyData.depth]
theorem alike_w {α : Type} (f : α → List Str) (L : List α) : AllAlike (L.map fun p => dW (f p)) := .of fun b b' => by
  show PySem.W.alike (.tuple _) (.tuple _) = true
  simp only [PySem.W.alike]
  exact alike_txts _ _
theorem sortable_w {α : Type} (f : α → List Str) {L : List α} (h : ∀ p ∈ L, f p ≠ []) : Sortable (L.map fun p => dW (f p)) := .inl fun d hd => by
  obtain ⟨b, hb, rfl⟩ := List.mem_map.mp hd
  cases e : f b with
  | nil => exact absurd e (h b hb)
  | cons x r => exact ⟨.str x, r.map .str, by simp [dW]⟩
section
variable {X : Cx}
theorem reads_w {pins : List (Addr × Obj)} {σ : L2.St} {H : Hp} {s : Shared} {b : Addr} {k : List Str} (I : Inv X pins σ H s) (h : SqT X.K H b (k.map V.str)) : ∃ as, Reads s.heap (.ref b) (dW k) as :=
  Dp.reads I (dW k) (.ref b) _ (.tup h (dpA_strs k)) rfl
theorem back_w {K : PySem.W.Frag} {H : Hp} {L : List (Addr × List Str)} : ∀ {vs : List Value}, (∀ v ∈ vs, ∃ q ∈ L, v = Value.ref q.1) → ∃ L1 : List (Addr × List Str), vs = L1.map (fun q => Value.ref q.1) ∧ ∀ q ∈ L1, q ∈ L
  | [], _ => ⟨[], rfl, fun q hq => (by cases hq)⟩
  | v :: vs, hv => by
    obtain ⟨q, hq, e⟩ := hv v List.mem_cons_self
    obtain ⟨L1, e1, hs⟩ := back_w (K := K) (H := H) (vs := vs) fun u hu => hv u (List.mem_cons_of_mem _ hu)
    refine ⟨q :: L1, by rw [List.map_cons, e, e1], fun r hr => ?_⟩
    rcases List.mem_cons.mp hr with z | z
    · rw [z]; exact hq
    · exact hs r z
theorem each_refs : ∀ L : List (Addr × List Str), EachIs (fun v (q : Addr × List Str) => v = Value.ref q.1) (L.map fun q => Value.ref q.1) L
  | [] => .nil
  | _ :: L => .cons rfl (each_refs L)
theorem each_eq : ∀ {vs : List Value} {L : List (Addr × List Str)}, EachIs (fun v (q : Addr × List Str) => v = Value.ref q.1) vs L → vs = L.map fun q => Value.ref q.1
  | _, _, .nil => rfl
  | _, _, .cons h t => by rw [h, each_eq t, List.map_cons]
theorem vals_refs : ∀ L : List (Addr × List Str), Vals (L.map fun q => V.ref q.1) (L.map fun q => Value.ref q.1)
  | [] => .nil
  | _ :: L => .cons rfl (vals_refs L)
theorem each_w {h : Heap} : ∀ {L : List (Addr × List Str)}, (∀ q ∈ L, ∃ as, Reads h (.ref q.1) (dW q.2) as) → EachIs (fun v (q : Addr × List Str) => ∃ as, Reads h v (dW q.2) as) (L.map fun q => Value.ref q.1) L
  | [], _ => .nil
  | q :: L, hh => .cons (hh q List.mem_cons_self) (each_w fun r hr => hh r (List.mem_cons_of_mem _ hr))
theorem c_sortedW {k : Nat} (hr : RG k X.A) (hc : X.calm = true) : CallR X (.builtin "sorted") (uSortedW X.K X.prog X.w) := by
  intro pins s σ H xs us Q I r h
  unfold uSortedW at h
  split at h
  · rename_i a
    obtain ⟨L, ha, hL, q⟩ := h
    obtain ⟨u, rfl, ru⟩ := vals1 r
    obtain rfl : u = Value.ref a := ru
    have R0 : ∃ es ep t, WSet X.prog X.w s.heap a L es ep t := (I.hok a _ ha).1
    obtain ⟨es, ep, t, R⟩ := R0
    have ⟨o, ho, hex, hd⟩ := R.ob
    have hsz := R.size
    have hfew := R.few
    have hun := hr.r.units
    have hes : es.toList.map (·.2) = L.map fun q => Value.ref q.1 := by
      rw [R.rows, List.map_map] <;> rfl
    have one : ∀ q ∈ L, ∀ r ∈ L, q.1 = r.1 → q = r := fun q hq r hr e => by
      have a1 := inv_isW I (hL q hq).1
      have a2 := inv_isW I (hL r hr).1
      rw [e] at a1
      exact Prod.ext e (a1.inj a2)
    refine sorted_any (enc := fun p : Addr × List Str => dW p.2) (R := fun v (q : Addr × List Str) => v = Value.ref q.1) fun Q' hq => collect_set (A := X.A.in1) (I.ok.hd hc) ⟨o, ho, hex.1, hd⟩ R.fits (by unfold scanBound; omega) R.tab.ris R.led fun s1 vs k1 hz g1 o1 pm => ?_
    rw [hes] at pm
    obtain ⟨L1, e1, hs1⟩ := back_w (K := X.K) (H := H) (L := L) (vs := vs) fun v hv => by
      obtain ⟨q, hq, e⟩ := List.mem_map.mp (pm.mem_iff.mp hv)
      exact ⟨q, hq, e.symm⟩
    subst e1
    have pL : L1.Perm L := by
      have nL : L.Nodup := nodup_of_map R.nd
      have nref : (L.map fun q => Value.ref q.1).Nodup := by
        refine List.pairwise_map.mpr (List.Pairwise.imp_of_mem (fun {q r} hq hr hne e => ?_) nL)
        injection e with e
        exact hne (one q hq r hr e)
      have n1 : L1.Nodup := nodup_of_map (pm.nodup_iff.mpr nref)
      refine (List.perm_ext_iff_of_nodup n1 nL).mpr fun q => ⟨hs1 q, fun hq => ?_⟩
      obtain ⟨r, hr, e⟩ := List.mem_map.mp (pm.mem_iff.mpr (List.mem_map.mpr ⟨q, hq, rfl⟩))
      injection e with e
      rw [← one r (hs1 r hr) q hq e]
      exact hr
    have hl1 : L1.length ≤ 75 := by rw [pL.length_eq]; exact hfew
    refine hq s1 _ L1 k1 (each_refs L1) (each_w fun q hq => reads_w I (hL q (hs1 q hq)).1) (alike_w _ _) (sortable_w _ fun p hp => (hL p (hs1 p hp)).2) (by rw [sizeLine_eq]; omega) (fun b hb => ?_) fun out h' c k2 hp hout => ?_
    · show X.A.units + 2 + PyData.depth (.tuple _) < cLine
      simp only [PyData.depth, depth_txts]
      omega
    · have e2 := each_eq hout
      have hn : H s1.heap.objs.size = none := I.hok.fresh hz
      have pm2 : (L1.mergeSort (dataLe false fun p : Addr × List Str => dW p.2)).Perm L := (List.mergeSort_perm _ _).trans pL
      have pw : (L1.mergeSort (dataLe false fun p : Addr × List Str => dW p.2)).Pairwise (fun p q => dataLe false id (dW p.2) (dW q.2) = true) := PySem.W.sort_pairwise (PySem.W.sortLe_total _ _ _) L1
      have hv : Vals ((L1.mergeSort (dataLe false fun p : Addr × List Str => dW p.2)).map fun q => V.ref q.1) out := by rw [e2]; exact vals_refs _
      have hlen : ((L1.mergeSort (dataLe false fun p : Addr × List Str => dW p.2)).map fun q => V.ref q.1).length ≤ sizeLine := by rw [List.length_map, List.length_mergeSort, sizeLine_eq]; omega
      have k : ∀ b o, s.heap.get? b = some o → h'.get? b = some o := fun b o e => k2 b o (k1 b o e)
      generalize L1.mergeSort (dataLe false fun p : Addr × List Str => dW p.2) = L2 at pm2 pw hv hlen
      have J : Inv X pins σ (upd H s1.heap.objs.size (.lst (L2.map fun q => V.ref q.1))) { s with heap := h', gens := s1.gens, drawn := s1.drawn, toks := s1.toks } :=
        I.call (ch := []) (Un.laid k hz hn) (I.hok.laid k hz ⟨hlen, out, c, hv, hp⟩) (by rw [g1]; exact I.bare) (fun _ z => nomatch z)
      have e : ({ s1 with heap := h' } : Shared) = { s with heap := h', gens := s1.gens, drawn := s1.drawn, toks := s1.toks } := by
        cases s1
        cases s
        cases o1
        rfl
      rw [e]
      exact ⟨.ref _, _, J, rfl, q L2 _ pm2 pw hn⟩
  · exact h.elim
end
end U

set_option Elab.async false
set_option linter.all false
set_option maxRecDepth 100000
set_option maxHeartbeats 4000000
/-! U11: own exception classes over ValueError and over KeyError, whose __init__ is a def -/
namespace U
open PySem
open Builtin Builtin.ObjectAttr
/-- what is asked of the built-in base: Bn, newId (it makes), Bi, initId (it begins), the rest of the mro -/
structure XB (Bn newId Bi initId : String) (tail : List Value) : Prop where
  ends : newId.endsWith ".__new__" = true
  owner : newId.dropRight 8 = Bn
  entry : entryFor table newId = some Builtin.«BaseException.__new__»
  quiet : newId.startsWith "lifetime." = false
  newSplit : splitId newId = some (Bn, "__new__")
  newKind : builtinKind newId = some .builtinFn
  newRow : Manifest.signature? newId = some ⟨.any, Bn, Bn, .cls, [⟨"args", .varPos, false⟩, ⟨"kwargs", .varKw, false⟩]⟩
  canon : Manifest.canonical newId = Manifest.canonical "BaseException.__new__"
  nStar : (Bn != "*") = true
  hasN : tail.contains (.type Bn) = true
  noAttr : tail.contains (.type "AttributeError") = false
  noName : tail.contains (.type "NameError") = false
  init : Slot Bi "__init__" initId
  initEntry : entryFor table initId = some Builtin.«BaseException.__init__»
  initSplit : splitId initId = some (Bi, "__init__")
  initKind : builtinKind initId = some .slot
  initRow : Manifest.signature? initId = some ⟨.positional, "*", Bi, .self, [⟨"args", .varPos, false⟩]⟩
  iStar : (Bi != "*") = true
  hasI : tail.contains (.type Bi) = true
  hasO : tail.contains (.type "object") = true
  passes : ∀ self, refuseLoop self "__setattr__" tail = pure ()
  ne : tail ≠ []
abbrev tailV : List Value := [.type "ValueError", .type "Exception", .type "BaseException", .type "object"]
abbrev tailK : List Value := [.type "KeyError", .type "LookupError", .type "Exception", .type "BaseException", .type "object"]
theorem xb_V : XB "ValueError" "ValueError.__new__" "ValueError" "ValueError.__init__" tailV where
  ends := F.excBase_ValueError.ends
  owner := F.excBase_ValueError.owner
  entry := F.excBase_ValueError.entry
  quiet := F.excBase_ValueError.quiet
  newSplit := F.excBase_ValueError.newSplit
  newKind := F.excBase_ValueError.newKind
  newRow := F.excBase_ValueError.newRow
  canon := F.excBase_ValueError.canon
  nStar := F.excBase_ValueError.noStar
  hasN := F.excBase_ValueError.hasB
  noAttr := F.excBase_ValueError.noAttr
  noName := F.excBase_ValueError.noName
  init := F.excBase_ValueError.init
  initEntry := F.excBase_ValueError.initEntry
  initSplit := F.excBase_ValueError.initSplit
  initKind := F.excBase_ValueError.initKind
  initRow := F.excBase_ValueError.initRow
  iStar := F.excBase_ValueError.noStar
  hasI := F.excBase_ValueError.hasB
  hasO := by decide +kernel
  passes := F.store_ValueError.passes
  ne := by simp
theorem key_passes (self : Value) : refuseLoop self "__setattr__" tailK = pure () := by kernel_rfl
theorem xb_K : XB "LookupError" "LookupError.__new__" "KeyError" "KeyError.__init__" tailK where
  ends := F.excBase_LookupError.ends
  owner := F.excBase_LookupError.owner
  entry := F.excBase_LookupError.entry
  quiet := F.excBase_LookupError.quiet
  newSplit := F.excBase_LookupError.newSplit
  newKind := F.excBase_LookupError.newKind
  newRow := F.excBase_LookupError.newRow
  canon := F.excBase_LookupError.canon
  nStar := F.excBase_LookupError.noStar
  hasN := by decide +kernel
  noAttr := by decide +kernel
  noName := by decide +kernel
  init := PyProof.Rows.excClass_KeyError.init
  initEntry := PyProof.Rows.excClass_KeyError.initEntry
  initSplit := PyProof.Rows.excClass_KeyError.initSplit
  initKind := PyProof.Rows.excClass_KeyError.initKind
  initRow := PyProof.Rows.excClass_KeyError.initSig
  iStar := PyProof.Rows.excClass_KeyError.notStar
  hasI := by decide +kernel
  hasO := by decide +kernel
  passes := key_passes
  ne := by simp
/-- own classes, then the tail -/
def ownT (tail : List Value) : List Value → Bool
  | .ref _ :: r => ownT tail r
  | l => l == tail
theorem ownT_cases {tail : List Value} : ∀ {l : List Value}, ownT tail l = true → ∃ cs : List Addr, l = cs.map Value.ref ++ tail
  | [], e => ⟨[], beq_iff_eq.mp e⟩
  | .ref c :: r, e => by
    obtain ⟨cs, h⟩ := ownT_cases (tail := tail) (l := r) e
    exact ⟨c :: cs, by rw [h]; rfl⟩
  | .none :: _, e => ⟨[], beq_iff_eq.mp e⟩
  | .ellipsis :: _, e => ⟨[], beq_iff_eq.mp e⟩
  | .notImplemented :: _, e => ⟨[], beq_iff_eq.mp e⟩
  | .bool _ :: _, e => ⟨[], beq_iff_eq.mp e⟩
  | .int _ _ :: _, e => ⟨[], beq_iff_eq.mp e⟩
  | .float _ _ :: _, e => ⟨[], beq_iff_eq.mp e⟩
  | .str _ _ :: _, e => ⟨[], beq_iff_eq.mp e⟩
  | .bytes _ _ :: _, e => ⟨[], beq_iff_eq.mp e⟩
  | .type _ :: _, e => ⟨[], beq_iff_eq.mp e⟩
  | .builtin _ :: _, e => ⟨[], beq_iff_eq.mp e⟩
theorem refs_contains (X : String) (tail : List Value) : ∀ cs : List Addr, (cs.map Value.ref ++ tail).contains (.type X) = tail.contains (.type X)
  | [] => rfl
  | c :: cs => by
    rw [List.map_cons, List.cons_append, List.contains_cons, refs_contains X tail cs]
    rfl
theorem refs_pass {self : Value} {tail : List Value} (h : refuseLoop self "__setattr__" tail = pure ()) : ∀ cs : List Addr, refuseLoop self "__setattr__" (cs.map Value.ref ++ tail) = pure ()
  | [] => h
  | c :: cs => by
    rw [List.map_cons, List.cons_append, refuseLoop_ref]
    exact refs_pass h cs
abbrev excO (C t : Addr) : Obj := { cls := .ref C, data := .fields #[.ref t, .none, .none, .none, .bool false, .none] }
section
variable {prog : Program} {w : World} {A : Around} {E : Value → Shared → Prop} {R : Result → Shared → Prop} {h : Heap} {g : Array GenState} {d : Drawn} {t : Nat} {os : OsState}
variable {nm q : Str} {C N : Addr} {bs : List Value} {cs : List Addr} {tail : List Value} {hdct : Bool} {sn : List Str} {sub : List Value} {ab : Bool} {col : Option Bool} {dd : Option Addr} {k0 k1 k2 k3 k5 : Option Value} {Bn newId Bi initId : String}
theorem has_T {X : String} {b : Bool} (hb : tail.contains (.type X) = b) : (Value.ref C :: (cs.map Value.ref ++ tail)).contains (.type X) = b := by
  rw [List.contains_cons, refs_contains, hb]
  rfl
theorem ck_new {M : Model} (F : XB Bn newId Bi initId tail) {rest : List Value} {Q : Unit → Shared → Prop}
    (hC : h.get? C = some (excClassObj nm q C N bs (cs.map Value.ref ++ tail) hdct sn sub ab col dd k0 k1 k2 k3 k5 newId)) (hq : Q () ⟨h, g, d, t, os⟩) : wpAny M A (checkBuiltinCall newId ⟨.ref C :: rest, []⟩) Q E ⟨h, g, d, t, os⟩ := by
  have hcont : (Value.ref C :: (cs.map Value.ref ++ tail)).contains (.type Bn) = true := has_T F.hasN
  have hstar := F.nStar
  simp only [checkBuiltinCall, F.newKind, F.newSplit, F.newRow]
  repeat (first | refine wpAny_loadPart_at hC ?_ | (refine wpAny_isSubtype_exc hC ?_; rw [hcont]) | refine wpAny_staticBase_exc hC ?_ | refine wpAny_madeBy_exc hC ?_ | simp only [bne_self_eq_false, Bool.false_eq_true, if_false] | wp_step)
  exact hq
theorem ck_init {M : Model} (F : XB Bn newId Bi initId tail) {e : Addr} {oe : Obj} {rest : List Value} {Q : Unit → Shared → Prop}
    (hC : h.get? C = some (excClassObj nm q C N bs (cs.map Value.ref ++ tail) hdct sn sub ab col dd k0 k1 k2 k3 k5 newId)) (he : h.get? e = some oe) (hcls : oe.cls = .ref C) (hq : Q () ⟨h, g, d, t, os⟩) :
    wpAny M A (checkBuiltinCall initId ⟨.ref e :: rest, []⟩) Q E ⟨h, g, d, t, os⟩ := by
  have hcB : (Value.ref C :: (cs.map Value.ref ++ tail)).contains (.type Bi) = true := has_T F.hasI
  have hshort := F.iStar
  simp only [checkBuiltinCall, F.initKind, F.initSplit, F.initRow]
  repeat (first | (with_reducible refine wpAny_loadPart_at he ?_; rw [hcls]) | with_reducible refine wpAny_loadPart_at hC ?_ | (with_reducible refine wpAny_isSubtype_exc hC ?_; rw [hcB]) | wp_step)
  refine wpAny_onRaise ?_
  rw [show ∀ (a b : String) (n : Nat), Bind.check ⟨.positional, "*", Bi, .self, [⟨"args", .varPos, false⟩]⟩ a b n (List.map (fun x => x.fst) ({ pos := Value.ref e :: rest } : Args).kw) = pure () from
    fun a b n => check_star_args _ _ _ _ _ _]
  exact wpAny_pure hq
theorem mk_new (F : XB Bn newId Bi initId tail) {rest : List Value}
    (hC : h.get? C = some (excClassObj nm q C N bs (cs.map Value.ref ++ tail) hdct sn sub ab col dd k0 k1 k2 k3 k5 newId))
    (hq : R (.ok (.ret (.ref (h.objs.size + 1)))) ⟨(h.push { cls := .type "tuple", data := .seq rest.toArray }).push (excO C h.objs.size), g, d, t, os⟩) (hrest : rest.length ≤ sizeLine) :
    codeAny (model prog w) A (.builtin newId ⟨.ref C :: rest, []⟩) R ⟨h, g, d, t, os⟩ := by
  have hends := F.ends
  have hcB : (Value.ref C :: (cs.map Value.ref ++ tail)).contains (.type Bn) = true := has_T F.hasN
  have hcA : (Value.ref C :: (cs.map Value.ref ++ tail)).contains (.type "AttributeError") = false := has_T F.noAttr
  have hcN : (Value.ref C :: (cs.map Value.ref ++ tail)).contains (.type "NameError") = false := has_T F.noName
  refine codeAny_builtinAt F.entry ?_
  unfold Builtin.«BaseException.__new__»
  refine wpAt_bind ?_
  show wpAt _ _ _ (stack >>= _) _ _ _
  refine wpAt_bind (wpAt_stack fun p below => wpAt_of_wpAny ?_)
  wp_walk
  refine wpAt_of_wpAny ?_
  rw [F.owner]
  repeat (first | with_reducible refine wpAny_madeHere_exc F.canon hC ?_ | with_reducible refine wpAny_loadPart_at hC ?_ | (with_reducible refine wpAny_isSubtype_exc hC ?_; first | rw [hcB] | rw [hcA] | rw [hcN]) | wp_step)
  show R _ _
  rw [Heap.size_push]
  exact hq
theorem mk_type (F : XB Bn newId Bi initId tail) {rest : List Value} {fI : Addr} {Q : Fin → Shared → Prop}
    (hC : h.get? C = some (excClassObj nm q C N bs (cs.map Value.ref ++ tail) hdct sn sub ab col dd k0 k1 k2 k3 k5 newId))
    (hi : W.Looks (model prog w) h (typeLookup (.ref C) "__init__") (some (.ref fI))) (hb : ∀ self, W.Looks (model prog w) h (bindSpecial (.ref fI) self) (.ref fI, [self])) (hrest : rest.length ≤ sizeLine)
    (hq : codeAny (model prog w) A (.call (.ref fI) ⟨.ref (h.objs.size + 1) :: rest, []⟩)
      (fun r s' => match r with | .ok (.ret v) => v = .none ∧ Q (.done (.ret (.ref (h.objs.size + 1)))) s' | .ok _ => False | .error e => E e s')
      ⟨(h.push (W.kdv_tup rest)).push (excO C h.objs.size), g, d, t, os⟩) :
    wpAny (model prog w) A (Builtin.«type.__call__» ⟨.ref C :: rest, []⟩) Q E ⟨h, g, d, t, os⟩ := by
  repeat (first | with_reducible refine wpAny_loadPart_at hC ?_ | with_reducible refine wpAny_madeBy_exc hC ?_ | wp_step)
  refine codeAny_call_builtin_code (Code.quiet_builtin _ F.quiet) (ck_new F hC ?_)
  refine mk_new F hC ?_ hrest
  show wpAny _ _ _ _ _ _
  have k : ∀ b o, h.get? b = some o → ((h.push (W.kdv_tup rest)).push (excO C h.objs.size)).get? b = some o := fun b o e => Heap.get?_push_of_some _ (Heap.get?_push_of_some _ e)
  have hC₁ := k _ _ hC
  have hget : ((h.push (W.kdv_tup rest)).push (excO C h.objs.size)).get? (h.objs.size + 1) = some (excO C h.objs.size) := by heap_get
  have hcC : (Value.ref C :: (cs.map Value.ref ++ tail)).contains (.ref C) = true := by simp
  have i1 := hi.keeps k
  have b1 := (hb (.ref (h.objs.size + 1))).keeps k
  unfold isInstance
  repeat (first | with_reducible refine wpAny_loadPart_at hget ?_ | (with_reducible refine wpAny_isSubtype_exc hC₁ ?_; rw [hcC]) | wp_step)
  show wpAny _ _ (typeLookup (.ref C) _) _ _ _
  refine i1.at ?_
  refine wpAny_holding (wpAny_bind (b1.at ?_))
  refine wpAny_bind (wpAny_call (codeAny_mono hq fun r s' z => ?_))
  rcases r with e | (v | _ | _ | _) <;> first | exact z | exact z.elim | skip
  obtain ⟨rfl, z⟩ := z
  first
    | exact wpAny_pure (wpAny_pure z)
    | (wp_walk; exact z)
theorem mk_call (F : XB Bn newId Bi initId tail) {rest : List Value} {fI : Addr}
    (hC : h.get? C = some (excClassObj nm q C N bs (cs.map Value.ref ++ tail) hdct sn sub ab col dd k0 k1 k2 k3 k5 newId))
    (hi : W.Looks (model prog w) h (typeLookup (.ref C) "__init__") (some (.ref fI))) (hb : ∀ self, W.Looks (model prog w) h (bindSpecial (.ref fI) self) (.ref fI, [self])) (hrest : rest.length ≤ sizeLine)
    (hq : codeAny (model prog w) (A.under (.builtin "type.__call__" ⟨.ref C :: rest, []⟩)) (.call (.ref fI) ⟨.ref (h.objs.size + 1) :: rest, []⟩) (W.InitBack (h.objs.size + 1) R)
      ⟨(h.push (W.kdv_tup rest)).push (excO C h.objs.size), g, d, t, os⟩) :
    codeAny (model prog w) A (.call (.ref C) ⟨rest, []⟩) R ⟨h, g, d, t, os⟩ := by
  have f1 := tc_lookup
  have f2 := tc_bind (.ref C)
  have hTy : (⟨h, g, d, t, os⟩ : Shared).TypeIs (.ref C) "type" := ⟨_, hC, rfl⟩
  refine codeAny_of_tree ?_
  show wpAny _ _ (callAny (.ref C) _) _ _ _
  repeat (any_goals (first | assumption | with_reducible refine wpAny_loadPart_at hC ?_ | wp_step))
  refine ⟨rfl, ?_⟩
  refine codeAny_call_builtin_at (Code.quiet_builtin _ (by decide +kernel)) entry_typeCall (wpAny_check_type_call_sub hC (mk_type F hC hi hb hrest ?_))
  refine codeAny_mono hq fun r s' z => ?_
  rcases r with e | (v | _ | _ | _) <;> exact z
/-- the base's __init__: the args are laid anew -/
theorem base_init (F : XB Bn newId Bi initId tail) {e t0 : Addr} {rest : List Value}
    (hC : h.get? C = some (excClassObj nm q C N bs (cs.map Value.ref ++ tail) hdct sn sub ab col dd k0 k1 k2 k3 k5 newId)) (he : h.get? e = some (excO C t0)) (hrest : rest.length ≤ sizeLine)
    (hq : ∀ h' t1, (∀ b o, b ≠ e → h.get? b = some o → h'.get? b = some o) → h'.get? e = some (excO C t1) → R (.ok (.ret .none)) ⟨h', g, d, t, os⟩) :
    codeAny (model prog w) A (.call (.builtin initId) ⟨.ref e :: rest, []⟩) R ⟨h, g, d, t, os⟩ := by
  refine codeAny_call_builtin F.init.plain F.initEntry (ck_init F hC he rfl ?_)
  wp_walk
  refine hq _ h.objs.size (fun b o hb ho => ?_) ?_
  · rw [Heap.get?_update_other _ _ (Ne.symm hb)]
    exact Heap.get?_push_of_some _ ho
  · rw [Heap.get?_update_self _ (Heap.get?_push_of_some _ he) rfl]
    rfl
end
end U

set_option Elab.async false
set_option linter.all false
set_option maxRecDepth 100000
set_option maxHeartbeats 4000000
/-! U12: own exceptions: their fields, their making, raise -/
namespace U
open PySem
section
open Builtin Builtin.ObjectAttr
variable {prog : Program} {w : World} {A : Around} {E : Value → Shared → Prop} {R : Result → Shared → Prop} {hp : Heap} {g : Array GenState} {d : Drawn} {t : Nat} {os : OsState}
/-- self.name = v on an exception without a dict -/
theorem st_first {K : W.Frag} {tail : List Value} {name : Str} {tk : Tok} {v : Value} {x C : Addr} {cs : List Addr} {fv : Array Value} {cd : ClassData} (hp0 : ∀ self, refuseLoop self "__setattr__" tail = pure ()) (hO : tail.contains (.type "object") = true)
    (X : K.In hp) (hx : hp.get? x = some { cls := .ref C, data := .fields fv }) (hcd : W.clsIn K C = some cd) (hm : cd.mro = cs.map Value.ref ++ tail) (ne : cd.mro.isEmpty = false) (hh : cd.hasDict = true) (ha : W.findIn K (.ref C) name = some none)
    (hq : ∀ h' tk' dx, (∀ b o, b ≠ x → hp.get? b = some o → h'.get? b = some o) → hp.objs.size ≤ dx → dx ≠ x → h'.get? x = some { cls := .ref C, dict := some dx, data := .fields fv } →
      h'.Ns1 dx (fun y => if y = name then some v else none) → R (.ok (.ret .none)) ⟨h', g, d, tk', os⟩) :
    codeAny (model prog w) A (.call (.builtin "object.__setattr__") ⟨[.ref x, .str name tk, v], []⟩) R ⟨hp, g, d, t, os⟩ := by
  have I : W.InstAt hp x { cls := .ref C, data := .fields fv } C none := ⟨hx, rfl, rfl, trivial⟩
  have SF := F.store_object
  have hob : cd.mro.contains (.type "object") = true := by rw [hm, refs_contains]; exact hO
  have hxs : x ≠ hp.objs.size := Nat.ne_of_lt (Heap.lt_size hx)
  have sub : W.Looks (model prog w) hp (isInstance (.ref x) (.type "object")) true := I.type.andThen (W.looks_mroIn X (by unfold W.mroIn; rw [hcd, Option.bind_some, if_neg (by rw [ne]; decide), hob]))
  refine codeAny_call_builtin SF.slot.plain SF.entry (@W.check_slot (model prog w) _ _ ⟨hp, g, d, t, os⟩ "object.__setattr__" "object" "__setattr__" (.ref x) [.str name tk, v] [] _ SF.kind SF.split sub (SF.args (.ref x) (.str name tk) v) ?_)
  have hmr : W.Looks (model prog w) hp (mroOf (.ref C)) cd.mro := (W.looks_clsIn X hcd).andThen .now
  have L3 : W.Looks (model prog w) hp (storeTaker? none) none := .now
  have hcls : W.Looks (model prog w) hp (classData C) cd := W.looks_clsIn X hcd
  rw [W.osa_eq, refuse_eq]
  refine wpAny_bind (wpAny_bind (I.type.at (wpAny_bind (hmr.at ?_))))
  rw [hm, refs_pass (hp0 _)]
  refine wpAny_pure (wpAny_bind (I.type.at (wpAny_bind ((W.looks_findIn X ha).at (wpAny_bind (L3.at ?_))))))
  show wpAny _ _ (storeInOwnDict (.ref x) (.ref C) (.str name tk) name v false) _ _ _
  obtain ⟨nm, bs, mro, ns, qn, hd, sn, sb, ab, col, del⟩ := cd
  dsimp only at hh
  subst hh
  unfold storeInOwnDict ownDictForStores
  repeat (first | with_reducible refine HandSPX.store_in_new ?_ ?_ | with_reducible refine wpAny_loadPart_at hx ?_ | with_reducible refine hcls.at ?_ | wp_step)
  · exact ⟨_, #[], _, (Heap.get?_update_ne _ _ _ _ hxs.symm).trans (Heap.get?_push_at rfl rfl), rfl, fun e he => absurd he (by simp), fun _ => rfl⟩
  · intro h' tk' hn' hs
    have hx₁ : (hp.push { cls := .type "dict", data := .dict #[] }).get? x = some { cls := .ref C, data := .fields fv } := Heap.get?_push_of_some _ hx
    refine hq h' tk' hp.objs.size (fun b o hb ho => ?_) (Nat.le_refl _) hxs.symm ?_ hn'
    · exact (hs.2 b (Nat.ne_of_lt (Heap.lt_size ho))).trans ((Heap.get?_update_ne _ _ _ _ hb).trans (Heap.get?_push_of_some _ ho))
    · exact (hs.2 x hxs).trans (Heap.get?_update_self _ hx₁ rfl)
/-- .. on one that has a dict -/
theorem st_more {K : W.Frag} {tail : List Value} {name : Str} {tk : Tok} {v : Value} {x C dx : Addr} {cs : List Addr} {fv : Array Value} {cd : ClassData} {m0 : Str → Option Value} {nl : List Str} (hp0 : ∀ self, refuseLoop self "__setattr__" tail = pure ()) (hO : tail.contains (.type "object") = true)
    (X : K.In hp) (hx : hp.get? x = some { cls := .ref C, dict := some dx, data := .fields fv }) (hns : hp.Ns1 dx m0) (hw : Within m0 nl) (hz : nl.length ≤ 1000) (hcd : W.clsIn K C = some cd) (hm : cd.mro = cs.map Value.ref ++ tail) (ne : cd.mro.isEmpty = false) (hh : cd.hasDict = true)
    (ha : W.findIn K (.ref C) name = some none)
    (hq : ∀ h' tk', (∀ b o, b ≠ dx → hp.get? b = some o → h'.get? b = some o) → h'.Ns1 dx (fun y => if y = name then some v else m0 y) → R (.ok (.ret .none)) ⟨h', g, d, tk', os⟩) :
    codeAny (model prog w) A (.call (.builtin "object.__setattr__") ⟨[.ref x, .str name tk, v], []⟩) R ⟨hp, g, d, t, os⟩ := by
  obtain ⟨oD, esD, epD, hoD, hdD, _⟩ := hns.count hw
  have I : W.InstAt hp x { cls := .ref C, dict := some dx, data := .fields fv } C (some oD) := ⟨hx, rfl, rfl, hoD⟩
  have SF := F.store_object
  have hob : cd.mro.contains (.type "object") = true := by rw [hm, refs_contains]; exact hO
  have sub : W.Looks (model prog w) hp (isInstance (.ref x) (.type "object")) true := I.type.andThen (W.looks_mroIn X (by unfold W.mroIn; rw [hcd, Option.bind_some, if_neg (by rw [ne]; decide), hob]))
  refine codeAny_call_builtin SF.slot.plain SF.entry (@W.check_slot (model prog w) _ _ ⟨hp, g, d, t, os⟩ "object.__setattr__" "object" "__setattr__" (.ref x) [.str name tk, v] [] _ SF.kind SF.split sub (SF.args (.ref x) (.str name tk) v) ?_)
  have hmr : W.Looks (model prog w) hp (mroOf (.ref C)) cd.mro := (W.looks_clsIn X hcd).andThen .now
  have L3 : W.Looks (model prog w) hp (storeTaker? none) none := .now
  have hcls : W.Looks (model prog w) hp (classData C) cd := W.looks_clsIn X hcd
  rw [W.osa_eq, refuse_eq]
  refine wpAny_bind (wpAny_bind (I.type.at (wpAny_bind (hmr.at ?_))))
  rw [hm, refs_pass (hp0 _)]
  refine wpAny_pure (wpAny_bind (I.type.at (wpAny_bind ((W.looks_findIn X ha).at (wpAny_bind (L3.at ?_))))))
  show wpAny _ _ (storeInOwnDict (.ref x) (.ref C) (.str name tk) name v false) _ _ _
  obtain ⟨nm, bs, mro, ns, qn, hd, sn, sb, ab, col, del⟩ := cd
  dsimp only at hh
  subst hh
  unfold storeInOwnDict ownDictForStores
  repeat (first | with_reducible refine OEX.store_in_old hns hw hz ?_ | with_reducible refine wpAny_loadPart_at hx ?_ | with_reducible refine hcls.at ?_ | wp_step)
  intro h' tk' hn' hs
  exact hq h' tk' (fun b o hb ho => (hs.2 b hb).trans ho) hn'
end
end U
namespace U
open PySem PySem.Spec PyProof.Rows L2
/-! ### the two families: over ValueError (false), over KeyError (true) -/
def newOf (f : Bool) : String := if f then "LookupError.__new__" else "ValueError.__new__"
def initOf (f : Bool) : String := if f then "KeyError.__init__" else "ValueError.__init__"
def tailOf (f : Bool) : List Value := if f then tailK else tailV
theorem xb_of (f : Bool) : ∃ Bn Bi, XB Bn (newOf f) Bi (initOf f) (tailOf f) := by
  cases f
  · exact ⟨_, _, xb_V⟩
  · exact ⟨_, _, xb_K⟩
/-- what is written of the class at C -/
structure Own (K : PySem.W.Frag) (f : Bool) (C : Addr) : Prop where
  cls : ∃ nm q N bs bm sn sub ab col dd k0 k1 k2 k3 k5, K.lookup C = some (excClassObj nm q C N bs bm true sn sub ab col dd k0 k1 k2 k3 k5 (newOf f)) ∧ ownT (tailOf f) bm = true
  sa : PySem.W.findIn K (.ref C) "__setattr__" = some (some (.builtin "object.__setattr__"))
  exC : PySem.W.subIn K (.ref C) (.type "BaseException") = some true
  tyC : PySem.W.typeIn K (.ref C) = some (.type "type")
  kC : PySem.W.keepIn K (.ref C) = true
section
variable {X : Cx} {fam : Bool} {pins : List (Addr × Obj)} {σ : L2.St} {H : Hp} {s : Shared} {a C dx : Addr} {f : Str} {y : V} {u : Value} {fs : List (Str × V)} {Q : Unit → Shared → Prop} {E : Value → Shared → Prop} {A : Around}
theorem set_first (T : Own X.K fam C) (I : Inv X pins σ H s) (e : H a = some (exo a C none)) (hno : PySem.W.findIn X.K (.ref C) f = some none) (ry : RelV y u)
    (h : ∀ dx s', H dx = none → dx ≠ a → Inv X pins σ (upd (upd H dx (exd dx [(f, y)])) a (exo a C (some dx))) s' → Q () s') : wpAny (model X.prog X.w) A (setAttr (.ref a) f u) Q E s := by
  obtain ⟨nm, q, N, bs, bm, sn, sub, ab, col, dd, k0, k1, k2, k3, k5, hC, hbm⟩ := T.cls
  obtain ⟨cs, rfl⟩ := ownT_cases hbm
  obtain ⟨Bn, Bi, B⟩ := xb_of fam
  have hcl : PySem.W.clsIn X.K C = some { name := nm, bases := bs, mro := .ref C :: (cs.map Value.ref ++ tailOf fam), ns := N, qualname := q, hasDict := true, slotNames := sn, subclasses := sub, abstract := ab, collection := col, hasDel := false } := by unfold PySem.W.clsIn; rw [hC] <;> rfl
  obtain ⟨t1, ho⟩ := exo_at I.hok e
  obtain ⟨hp, g, d, t, os⟩ := s
  refine PySem.W.set_plain I.kIn (ox := { cls := .ref C, dict := none, data := .fields #[.ref t1, .none, .none, .none, .bool false, .none] }) (od := none) ⟨ho, rfl, rfl, trivial⟩ T.sa ?_
  refine st_first (cs := C :: cs) B.passes B.hasO I.kIn ho hcl rfl rfl rfl hno (fun h' tk' dx k dn dne hx hn => ?_)
  have hnd : H dx = none := I.hok.fresh dn
  have nd : ∀ {b : Addr} {o : Obj}, hp.get? b = some o → b ≠ dx := fun {b o} q => Nat.ne_of_lt (Nat.lt_of_lt_of_le (Heap.lt_size q) dn)
  have na : ∀ {b : Addr}, H b = none → b ≠ a := fun {b} n z => by
    rw [z, e] at n
    cases n
  have Un1 : Un X.fs [] H (upd (upd H dx (exd dx [(f, y)])) a (exo a C (some dx))) hp h' := {
    keep := fun b o q n _ _ => k b o (na n) q
    slot := fun b o q n _ _ => ⟨o.slots, k b o (na n) q⟩
    free := fun b o q n _ => by rw [upd_ne (na n), upd_ne (nd q)]; exact n
    there := fun b o q _ => by
      by_cases hb : b = a
      · exact ⟨_, by rw [hb]; exact hx⟩
      · exact ⟨o, k b o hb q⟩
    tups := fun b xs q => by rw [upd_ne (at_ne e q exo_tup), upd_ne (ne_of_none q hnd)]; exact q
    frzs := fun b o v q => by rw [upd_ne (at_ne e q exo_frz), upd_ne (ne_of_none q hnd)]; exact q
    tbls := fun b ps q => ⟨#[], by rw [upd_ne (at_ne e q exo_tbl), upd_ne (ne_of_none q hnd), q]; simp⟩ }
  refine h dx _ hnd dne (I.un (t' := tk') Un1 fun b o q => ?_)
  by_cases hb : b = a
  · subst hb
    rw [upd_same] at q
    cases q
    exact exo_ok hx
  · rw [upd_ne hb] at q
    by_cases hd : b = dx
    · subst hd
      rw [upd_same] at q
      cases q
      exact exd_ok hn (relO_put (fs := []) ry fun g => True.intro)
    · rw [upd_ne hd] at q
      exact (I.hok b o q).stay (fun c v hc z => k c v (by
          rcases hc with hc | hc
          · rw [hc]
            exact hb
          · exact at_ne e hc exo_own) z)
        (fun c hc => by rw [upd_ne (at_ne e hc exo_own), upd_ne (ne_of_none hc hnd)]; exact hc) (fun c xs hc => by rw [upd_ne (at_ne e hc exo_tup), upd_ne (ne_of_none hc hnd)]; exact hc)
theorem set_more (T : Own X.K fam C) (I : Inv X pins σ H s) (e : H a = some (exo a C (some dx))) (ed : H dx = some (exd dx fs)) (hl : fs.length ≤ 900) (hno : PySem.W.findIn X.K (.ref C) f = some none) (ry : RelV y u)
    (h : ∀ s', Inv X pins σ (upd H dx (exd dx ((f, y) :: fs))) s' → Q () s') : wpAny (model X.prog X.w) A (setAttr (.ref a) f u) Q E s := by
  obtain ⟨nm, q, N, bs, bm, sn, sub, ab, col, dd, k0, k1, k2, k3, k5, hC, hbm⟩ := T.cls
  obtain ⟨cs, rfl⟩ := ownT_cases hbm
  obtain ⟨Bn, Bi, B⟩ := xb_of fam
  have hcl : PySem.W.clsIn X.K C = some { name := nm, bases := bs, mro := .ref C :: (cs.map Value.ref ++ tailOf fam), ns := N, qualname := q, hasDict := true, slotNames := sn, subclasses := sub, abstract := ab, collection := col, hasDel := false } := by unfold PySem.W.clsIn; rw [hC] <;> rfl
  obtain ⟨t1, ho⟩ := exo_at I.hok e
  obtain ⟨mA, hns, rel⟩ := exd_at I.hok ed
  have hw := within_of rel
  obtain ⟨hp, g, d, t, os⟩ := s
  obtain ⟨oD, _, _, hoD, _, _⟩ := hns.count hw
  refine PySem.W.set_plain I.kIn (ox := { cls := .ref C, dict := some dx, data := .fields #[.ref t1, .none, .none, .none, .bool false, .none] }) (od := some oD) ⟨ho, rfl, rfl, hoD⟩ T.sa ?_
  refine st_more (cs := C :: cs) B.passes B.hasO I.kIn ho hns hw (by rw [List.length_map]; omega) hcl rfl rfl rfl hno (fun h' tk' k hn => ?_)
  have hd : ∃ o, h'.get? dx = some o := by
    obtain ⟨o, _, _, e', _⟩ := hn
    exact ⟨o, e'⟩
  exact h _ (I.write (t' := tk') (x := dx) (e := dx) (o := exd dx ((f, y) :: fs)) (by rw [ed]; exact True.intro) (.inl rfl) k hd (exd_ok hn (relO_put ry rel)))
/-- the base's __init__ -/
theorem begin_ok {us : List Value} {Q : Value → Shared → Prop} (T : Own X.K fam C) (I : Inv X pins σ H s) (e : H a = some (exo a C none)) (hl : us.length ≤ sizeLine) (h : ∀ s', Inv X pins σ H s' → Q .none s') :
    wpAny (model X.prog X.w) A (call (.builtin (initOf fam)) (.ref a :: us)) Q E s := by
  obtain ⟨nm, q, N, bs, bm, sn, sub, ab, col, dd, k0, k1, k2, k3, k5, hC, hbm⟩ := T.cls
  obtain ⟨cs, rfl⟩ := ownT_cases hbm
  obtain ⟨Bn, Bi, B⟩ := xb_of fam
  obtain ⟨t1, ho⟩ := exo_at I.hok e
  obtain ⟨hp, g, d, t, os⟩ := s
  refine wpAny_call (base_init B (I.kIn _ _ hC) ho hl fun h' t2 k hx => ?_)
  have J := I.write (t' := t) (x := a) (e := a) (o := exo a C none) (by rw [e]; exact True.intro) (.inl rfl) k ⟨_, hx⟩ (exo_ok hx)
  have eu : upd H a (exo a C none) = H := by
    funext b
    by_cases hb : b = a
    · rw [hb, upd_same, e]
    · rw [upd_ne hb]
  rw [eu] at J
  exact h _ J
end
end U

set_option Elab.async false
set_option linter.all false
set_option maxRecDepth 100000
set_option maxHeartbeats 4000000
/-! U13: own exceptions as the text has them: Base.__init__(self, ..), self.f = e, raise C(..), try with clauses -/
namespace U
open PySem PySem.Spec PyProof.Rows L2
/-! ### Base.__init__(self, ..) -/
def kInit (K : PySem.W.Frag) (fam : Bool) (vs : List V) (H : Hp) (Q : VK) : Prop := match vs with
  | .ref a :: ws => ws.length ≤ 1000 ∧ (∃ C, Own K fam C ∧ H a = some (exo a C none)) ∧ Q .non H
  | _ => False
def uInit (K : PySem.W.Frag) (fam : Bool) (t : TA) : TE := fun σ H Q => t σ H fun vs H1 => kInit K fam vs H1 Q
/-- the own class at C has its built-in base's __init__ -/
structure HasInit (K : PySem.W.Frag) (fam : Bool) (C : Addr) : Prop where
  rd : PySem.W.readsIn K C (.type "type") = true
  ga : PySem.W.specialIn K (.ref C) "__getattribute__" = some (some (.builtin "type.__getattribute__"))
  at_ : PySem.W.findCls K (.ref C) (.type "type") "__init__" = some (.val (.builtin (initOf fam)))
section
variable {X : Cx} {fam : Bool} {C : Addr} {x : Str} {o e : Expr} {es : List Expr} {to te : TE} {t : TA} {f : Str} {p p' p1 p2 pos : Pos}
theorem init_end {pins : List (Addr × Obj)} {σ : L2.St} {H : Hp} {s : Shared} {Q : VK} {vs : List V} {us : List Value} (I : Inv X pins σ H s) (r : Vals vs us)
    (h : kInit X.K fam vs H Q) : wpAny (model X.prog X.w) X.A (call (.builtin (initOf fam)) us) (EP X pins σ Q) X.xe s := by
  unfold kInit at h
  split at h
  · rename_i a ws
    obtain ⟨hl, ⟨C, T, ea⟩, q⟩ := h
    cases r with
    | @cons _ u0 _ ur ra rw' =>
      obtain rfl : u0 = Value.ref a := ra
      exact begin_ok T I ea (by rw [← Paired.length rw', sizeLine_eq]; omega) fun s' J => ⟨.non, _, J, rfl, q⟩
  · exact h.elim
theorem pe_uinit {pl : Sem Bool} (B : HasInit X.K fam C) (hg : Gl X x) (hm : X.mg x = some (.ref C)) (ha : PA X (e :: es) t) (hdb : (x == ("__debug__" : Str)) = false := by decide)
    (hc : eval (.Call (.Attribute (.Name x p1) "__init__" p2) (e :: es) [] pos) X.env = (do
      let ov ← eval (.Name x p1) X.env
      standAt p2.atName
      let (f, first) ← holding [ov] (getMethod ov "__init__" pl)
      callWith pos f first (backTo pos (starEach (e :: es) X.env)) (backToKw pos (keywordEach [] X.env))) := by rfl)
    (he : starEach (e :: es) X.env = (false, eval e X.env) :: starEach es X.env := by rfl) (hpl : (backTo pos (starEach es X.env)).any (·.1) = false := by rfl) :
    PE X (.Call (.Attribute (.Name x p1) "__init__" p2) (e :: es) [] pos) (uInit X.K fam t) := by
  refine ⟨fun pins s σ H Q I h => ?_⟩
  refine PySem.W.methodCall_KW (ld_glob I hg hm ?_ hdb) hc
  refine PySem.W.method_cls I.kIn B.ga (PySem.W.cls_value I.kIn B.rd B.at_ (by cases fam <;> decide +kernel) ?_)
  show wpAny _ _ (callWith pos (Value.builtin (initOf fam)) [] (backTo pos (starEach (e :: es) X.env)) []) _ _ _
  exact PyProof.Rows.callWith_method1 (thn (ha.run pos pins _ σ H _ (I.tok _) h) fun us s1 ⟨vs, H1, I1, r1, q⟩ => init_end I1 r1 q) he hpl
theorem typ_KE : typeOf (.type "KeyError") = pure (.type "type") := by kernel_rfl
theorem pe_uinitK {pl : Sem Bool} (hg : Gl X "KeyError") (hm : X.mg "KeyError" = none) (vV : PySem.W.findCls X.K (.type "KeyError") (.type "type") "__init__" = some (.val (.builtin "KeyError.__init__"))) (ha : PA X (e :: es) t)
    (hc : eval (.Call (.Attribute (.Name "KeyError" p1) "__init__" p2) (e :: es) [] pos) X.env = (do
      let ov ← eval (.Name "KeyError" p1) X.env
      standAt p2.atName
      let (f, first) ← holding [ov] (getMethod ov "__init__" pl)
      callWith pos f first (backTo pos (starEach (e :: es) X.env)) (backToKw pos (keywordEach [] X.env))) := by rfl)
    (he : starEach (e :: es) X.env = (false, eval e X.env) :: starEach es X.env := by rfl) (hpl : (backTo pos (starEach es X.env)).any (·.1) = false := by rfl) :
    PE X (.Call (.Attribute (.Name "KeyError" p1) "__init__" p2) (e :: es) [] pos) (uInit X.K true t) := by
  refine ⟨fun pins s σ H Q I h => ?_⟩
  refine PySem.W.methodCall_KW (ld_blt I hg hm PyProof.Rows.Boot.«KeyError» ?_ (by decide) (by decide)) hc
  obtain ⟨m, fr⟩ := I.fr
  refine PySem.W.method_type fr I.ok.mod.kin typ_KE (by decide +kernel) vV (by decide +kernel) ?_
  show wpAny _ _ (callWith pos (Value.builtin (initOf true)) [] (backTo pos (starEach (e :: es) X.env)) []) _ _ _
  exact PyProof.Rows.callWith_method1 (thn (ha.run pos pins _ σ H _ (I.tok _) h) fun us s1 ⟨vs, H1, I1, r1, q⟩ => init_end I1 r1 q) he hpl

/-! ### self.f = e on such an exception -/
def uOst (K : PySem.W.Frag) (f : Str) (to te : TE) : TS := fun D σ H => te σ H fun y H1 => to σ H1 fun x H2 => match x with
  | .ref a => ∃ fam C, Own K fam C ∧ PySem.W.findIn K (.ref C) f = some none ∧
    ((H2 a = some (exo a C none) ∧ ∀ dx, H2 dx = none → dx ≠ a → D.nx σ (upd (upd H2 dx (exd dx [(f, y)])) a (exo a C (some dx)))) ∨
      ∃ (dx : Addr) (fs : List (Str × V)), H2 a = some (exo a C (some dx)) ∧ H2 dx = some (exd dx fs) ∧ fs.length ≤ 900 ∧ D.nx σ (upd H2 dx (exd dx ((f, y) :: fs))))
  | _ => False
theorem ps_uost (ho : PE X o to) (he : PE X e te) (hs : swapsWith e (some (.Attribute o f p')) pos.line X.env = pure false := by rfl) : PS X (.Assign [.Attribute o f p'] e pos) (uOst X.K f to te) := by
  refine ⟨fun pins s σ H D I h => ?_⟩
  refine plainObj_wpAny_Assign_Attribute (thn (he.run pins s σ H _ I h) fun v s1 ⟨y, H1, I1, r1, q1⟩ => thn (ho.run pins s1 σ H1 _ I1 q1) fun u s2 ⟨x, H2, I2, r2, q⟩ => ?_) hs
  dsimp only at q
  split at q
  · rename_i a
    obtain ⟨fam, C, T, hno, q⟩ := q
    obtain rfl : u = Value.ref a := r2
    rcases q with ⟨ea, q⟩ | ⟨dx, fs, ea, ed, hl, q⟩
    · exact set_first T I2 ea hno r1 fun dx s' n ne J => ⟨σ, _, J, q dx n ne⟩
    · exact set_more T I2 ea ed hl hno r1 fun s' J => ⟨σ, _, J, q⟩
  · exact q.elim
end

/-! ### the promise of such an __init__ -/
def sp_err (C : Addr) (fields : List Str) : Sp := fun vs H Q _ => ∃ (a : Addr) (args : List V), vs = .ref a :: args ∧ args.length = fields.length ∧ H a = some (exo a C none) ∧
  ∀ dx H', H dx = none → dx ≠ a → H' a = some (exo a C (some dx)) → H' dx = some (exd dx (fields.zip args).reverse) → (∀ b, b ≠ a → b ≠ dx → H' b = H b) → Q .non H'
/-- .. without fields -/
def sp_err0 (C : Addr) : Sp := fun vs H Q _ => ∃ (a : Addr), vs = [.ref a] ∧ H a = some (exo a C none) ∧ Q .non H

/-! ### raise C(..) -/
def uRaise (W : WX) (C : Addr) (fields : List Str) (t : TA) : TS := fun _ σ H => t σ H fun vs H1 => vs.length = fields.length ∧ ∀ d, H1 d = none → W (.ref C) (some d) σ (upd H1 d (.xd (fields.zip vs).reverse))
def uRaise0 (W : WX) (C : Addr) : TS := fun _ σ H => W (.ref C) none σ H
/-- the making of such exceptions -/
structure MkX (K : PySem.W.Frag) (fam : Bool) (C fI : Addr) : Prop where
  own : Own K fam C
  init : PySem.W.findIn K (.ref C) "__init__" = some (some (.ref fI))
  fn : PySem.W.typeIn K (.ref fI) = some (.type "function")
section
variable {X : Cx} {fam : Bool} {C fI : Addr} {k : Nat} {fd : FuncData} {ps : List Str} {x : Str} {e : Expr} {es : List Expr} {t : TA} {p pos : Pos} {fields : List Str}
theorem pmk_u (M : MkX X.K fam C fI) (F1 : FnG X.prog X.w X.K X.mg X.base k fI fd ps (sp_err C fields)) (hr : RG (k + 1) X.A) (hb : Binds X.K fd ps []) (hg : Gl X x) (hm : X.mg x = some (.ref C)) (ha : PA X (e :: es) t) (hfl : fields.length ≤ 900)
    (hdb : (x == ("__debug__" : Str)) = false := by decide) (he : starEach (e :: es) X.env = (false, eval e X.env) :: starEach es X.env := by rfl) (hpl : (backTo pos (starEach es X.env)).any (·.1) = false := by rfl) :
    PMk X (.Call (.Name x p) (e :: es) [] pos) (fun σ H Q => t σ H fun vs H1 => vs.length = fields.length ∧ ∀ d, H1 d = none → Q (.ref C) (some d) (upd H1 d (.xd (fields.zip vs).reverse))) := by
  intro pins s σ H Q I h
  obtain ⟨nm, q, N, bs, bm, sn, sub, ab, col, dd, k0, k1, k2, k3, k5, hC, hbm⟩ := M.own.cls
  obtain ⟨cs, rfl⟩ := ownT_cases hbm
  obtain ⟨Bn, Bi, B⟩ := xb_of fam
  refine wpAny_Call_Name_kw (ld_glob I hg hm ?_ hdb)
  refine PySem.W.callWith_K (h₀ := X.base) I.ok.mod.kin M.own.kC (thn (ha.run pos pins s σ H _ I h) fun us s1 ⟨vs, H1, I1, r1, hz, q1⟩ => ⟨I1.kIn, ?_⟩) he hpl
  show wpAny _ _ (call (.ref C) us) _ _ _
  obtain ⟨hp, g, dr, tk, os⟩ := s1
  have hsz : hp.objs.size ≤ hp.objs.size + 1 := Nat.le_succ _
  have hn : H1 (hp.objs.size + 1) = none := I1.hok.fresh hsz
  have kk : ∀ b o, hp.get? b = some o → ((hp.push (PySem.W.kdv_tup us)).push (excO C hp.objs.size)).get? b = some o := fun b o e => Heap.get?_push_of_some _ (Heap.get?_push_of_some _ e)
  have hget : ((hp.push (PySem.W.kdv_tup us)).push (excO C hp.objs.size)).get? (hp.objs.size + 1) = some (excO C hp.objs.size) := by heap_get
  have I2 : Inv X pins σ (upd H1 (hp.objs.size + 1) (exo (hp.objs.size + 1) C none)) ⟨(hp.push (PySem.W.kdv_tup us)).push (excO C hp.objs.size), g, dr, tk, os⟩ :=
    I1.laid (t' := tk) (a := hp.objs.size + 1) (o := exo (hp.objs.size + 1) C none) (h' := (hp.push (PySem.W.kdv_tup us)).push (excO C hp.objs.size)) kk hsz (exo_ok hget)
  have r2 : Vals (V.ref (hp.objs.size + 1) :: vs) (Value.ref (hp.objs.size + 1) :: us) := .cons rfl r1
  have hq : sp_err C fields (V.ref (hp.objs.size + 1) :: vs) (upd H1 (hp.objs.size + 1) (exo (hp.objs.size + 1) C none))
      (fun v H2 => v = .non ∧ ∃ (d : Addr) (fs : List (Str × V)), H2 (hp.objs.size + 1) = some (exo (hp.objs.size + 1) C (some d)) ∧ H2 d = some (exd d fs) ∧ H1 d = none ∧ Q (.ref C) (some d) (upd (del H2 (hp.objs.size + 1)) d (.xd fs))) (fun _ _ _ => False) := by
    refine ⟨_, vs, rfl, hz, upd_same, fun dx H' hd ne h1 h2 h3 => ⟨rfl, dx, _, h1, h2, by rwa [upd_ne ne] at hd, ?_⟩⟩
    have hd' : H1 dx = none := by rwa [upd_ne ne] at hd
    have eH : upd (del H' (hp.objs.size + 1)) dx (.xd (fields.zip vs).reverse) = upd H1 dx (.xd (fields.zip vs).reverse) := by
      funext b
      by_cases hb1 : b = dx
      · rw [hb1, upd_same, upd_same]
      · rw [upd_ne hb1, upd_ne hb1]
        by_cases hb2 : b = hp.objs.size + 1
        · rw [hb2, del_same, hn]
        · rw [del_ne hb2, h3 b hb2 hb1, upd_ne hb2]
    rw [eH]
    exact q1 dx hd'
  have hl : (Value.ref (hp.objs.size + 1) :: us ++ []).length = ps.length := by
    rw [List.append_nil]
    have e := r2.length
    rw [F1.len _ _ _ _ hq] at e
    exact e.symm
  have hus : us.length ≤ sizeLine := by
    rw [← Paired.length r1, hz, sizeLine_eq]
    omega
  refine wpAny_call (mk_call B (I1.kIn _ _ hC) (PySem.W.looks_findIn I1.kIn M.init) (fun self => PySem.W.bind_fn I1.kIn self M.fn) hus
    (codeAny_mono (F1.run _ X.stack _ _ ⟨Value.ref (hp.objs.size + 1) :: us, []⟩ (Value.ref (hp.objs.size + 1) :: us) _ _ (fun _ _ _ => False) (hr.make C us []) (I2.env0.make C us []) (by
      have := hb _ (Value.ref (hp.objs.size + 1) :: us) I2.kIn hl
      rwa [List.append_nil] at this) r2 hq) fun r s' hq' => ?_))
  cases r with
  | error er =>
    obtain ⟨_, _, _, _, _, _, _, _, _, _, _, _, z⟩ := hq'
    exact z.elim
  | ok fl =>
    cases fl with
    | ret u =>
      obtain ⟨v, H2, os2, bare2, un2, hok2, rv, ev, d, fs, ea, ed, hd1, q2⟩ := hq'
      subst ev
      obtain ⟨h2, g2, d2, t2, os'⟩ := s'
      exact ⟨rv, mk_end (raises_own M.own.exC M.own.tyC) I1 hsz kk un2 hok2 os2 bare2 ea ed hd1 q2⟩
    | next => exact False.elim hq'
    | brk => exact False.elim hq'
    | cont => exact False.elim hq'
theorem ps_uraise {W : WX} {p2 : Pos} (hc : X.calm = true) (tk : Takes X W) (M : MkX X.K fam C fI) (F1 : FnG X.prog X.w X.K X.mg X.base k fI fd ps (sp_err C fields)) (hr : RG (k + 1) X.A) (hb : Binds X.K fd ps []) (hg : Gl X x) (hm : X.mg x = some (.ref C)) (ha : PA X (e :: es) t)
    (hfl : fields.length ≤ 900 := by decide) (hdb : (x == ("__debug__" : Str)) = false := by decide) (he : starEach (e :: es) X.env = (false, eval e X.env) :: starEach es X.env := by rfl) (hpl : (backTo pos (starEach es X.env)).any (·.1) = false := by rfl) :
    PS X (.Raise (some (.Call (.Name x p) (e :: es) [] pos)) none p2) (uRaise W C fields t) :=
  ps_raise hc tk (pmk_u M F1 hr hb hg hm ha hfl hdb he hpl)
end
/-! ### try with clauses, with and without a name -/
abbrev Suite := Addr → Value → Option Addr → TS
/-- behind a named suite the name is gone -/
abbrev gone (i : Nat) (D : Ends) : Ends := { nx := fun σ' H' => D.nx (σ'.set i none) H', rt := D.rt, bk := fun σ' H' => D.bk (σ'.set i none) H', ct := fun σ' H' => D.ct (σ'.set i none) H' }
def wTry (K : PySem.W.Frag) (Wout : WX) (D : Ends) : List (Value × Option Nat × Suite) → WX
  | [] => Wout
  | (c, none, ts) :: r => fun cls d σ H => ∃ b, PySem.W.exmOne K cls c = some b ∧ (b = true → ∀ a, H a = none → ts a cls d D σ H) ∧ (b = false → wTry K Wout D r cls d σ H)
  | (c, some i, ts) :: r => fun cls d σ H => ∃ b, PySem.W.exmOne K cls c = some b ∧ (b = true → ∀ a, H a = none → ts a cls d (gone i D) (σ.set i (some (.ref a))) H) ∧ (b = false → wTry K Wout D r cls d σ H)
def uTry (K : PySem.W.Frag) (Wout : WX) (l : List (Value × Option Nat × Suite)) (tb : WX → TS) : TS := fun D σ H => tb (wTry K Wout D l) D σ H
inductive Hds (X : Cx) : List ExceptHandler → List (Value × Option Nat × Suite) → Prop
  | nil : Hds X [] []
  | cons {x : Str} {c : Value} {ts : Suite} {b₀ : Stmt} {suite : List Stmt} {np pos' : Pos} {hds : List ExceptHandler} {l : List (Value × Option Nat × Suite)} (hc : Names X x c)
      (hsu : ∀ (a : Addr) (oe : Obj) (cls : Value) (d : Option Addr) (pn : List (Addr × Obj)), Zc cls d oe → (∃ vs, oe.data = .fields vs) → PSs (X.suite a ((a, oe) :: pn)) (b₀ :: suite) (ts a cls d)) (r : Hds X hds l) :
      Hds X (.ExceptHandler (some (.Name x np)) none (b₀ :: suite) pos' :: hds) ((c, none, ts) :: l)
  | consAs {x n : Str} {i : Nat} {c : Value} {ts : Suite} {b₀ : Stmt} {suite : List Stmt} {np pos' : Pos} {hds : List ExceptHandler} {l : List (Value × Option Nat × Suite)} (hi : X.N[i]? = some n) (hln : X.env.kindOf n = some .local) (hc : Names X x c)
      (hsu : ∀ (a : Addr) (oe : Obj) (cls : Value) (d : Option Addr) (pn : List (Addr × Obj)), Zc cls d oe → (∃ vs, oe.data = .fields vs) → PSs (X.suite a ((a, oe) :: pn)) (b₀ :: suite) (ts a cls d)) (r : Hds X hds l) :
      Hds X (.ExceptHandler (some (.Name x np)) (some n) (b₀ :: suite) pos' :: hds) ((c, some i, ts) :: l)
section
variable {X : Cx} {body : List Stmt} {h₀ : ExceptHandler} {hds : List ExceptHandler} {l : List (Value × Option Nat × Suite)} {pos : Pos} {tb : WX → TS} {Wout : WX}
theorem ps_utry (hs : X.stack = X.env :: X.outer) (hf : X.env.frame = some X.env.locals) (hN : X.N.Nodup) (tk : Takes X Wout)
    (hb : ∀ (W : WX) (pn : List (Addr × Obj)) (xe : Value → Shared → Prop), Takes (X.tr pn xe) W → PassesOwn (model X.prog X.w) X.A X.env xe → PSs (X.tr pn xe) body (tb W))
    (hh : Hds X (h₀ :: hds) l) : PS X (.Try body (h₀ :: hds) [] [] pos) (uTry X.K Wout l tb) := by
  refine ⟨fun pins s σ H D I h => ?_⟩
  have ok := I.ok
  have hfr : X.A.frames = some (X.env :: X.outer) := by rw [ok.frames, hs]
  refine wpAny_Try_except ?_
  refine wpAny_mono ((hb (wTry X.K Wout D l) (X.pn ++ pins) (fun e s₁ => wpAny (model X.prog X.w) X.A (noteFrame e X.env) (fun _ s₂ => wpAny (model X.prog X.w) X.A (setFlight e none) (fun _ s₃ =>
    wpAny (model X.prog X.w) X.A (handleBy e X.env (h₀ :: hds)) (SP X pins D) X.xe s₃) X.xe s₂) X.xe s₁) (fun u s' xx => ?_) PassesOwn.looking).run [] s σ H D (I.toTry _) h) (fun f s1 hsp => ?_) (fun e s1 he => he)
  · obtain ⟨a, B, sI, pins', σ', H', cls, d, rfl, J', nb, up, sky, na, os, ag, w⟩ := xx
    have J : Inv X pins σ' H' sI := J'.ofTry ok
    have sky' : Sky B (X.env :: X.outer) a (Zc cls d) X.env.locals s'.heap := by rw [← hs]; exact sky
    show wpAny (model X.prog X.w) X.A (noteFrame (.ref a) X.env) _ _ _
    refine Sky.land Zc.steady hfr hf sky' fun h3 fl3 up3 => ?_
    have J3 : Inv X pins σ' H' { s' with heap := h3 } := J.landed nb fl3.1 (up.trans up3) os ag
    obtain ⟨oe3, vs3, he3, hz3, hd3⟩ := fl3.there
    have notFr : ∀ {h : Heap} {o : Obj} {vs : Array Value}, h.FunFrames B (X.env :: X.outer) → h.get? a = some o → o.data = .fields vs → a ∉ frs (X.env :: X.outer) := fun {h o vs} ff e dd hm => by
      obtain ⟨_, o', e', hnf⟩ := ff.mem hm
      rw [e] at e'; cases e'
      exact hnf _ dd
    have nfr := notFr fl3.2.2.1 he3 hd3
    have nL : a ≠ X.env.locals := fun z => nfr (List.mem_filterMap.mpr ⟨X.env, List.mem_cons_self, by rw [hf, z]⟩)
    have nF : a ∉ X.fs := fun hm => by
      obtain ⟨e, he, q⟩ := List.mem_filterMap.mp hm
      exact nfr (List.mem_filterMap.mpr ⟨e, List.mem_cons_of_mem _ he, q⟩)
    have S3 := J3.suite he3 hd3 na nL nF
    have LT : PySem.W.Looks (model X.prog X.w) h3 (typeOf (.ref a)) cls := fun A Q E s k q => wpAny_typeOf_ref (k _ _ he3) (by rw [hz3.1]; exact q)
    have test : ∀ {x : Str} {c : Value} {np : Pos} {Q : Value → Shared → Prop} {E : Value → Shared → Prop}, Names X x c → Q c { s' with heap := h3 } → wpAny (model X.prog X.w) (X.A.mark (some (.ref a))) (eval (.Name x np) X.env) Q E { s' with heap := h3 } := fun {x c np Q E} hc q => by
      obtain ⟨hg, hdbg, hm | ⟨hm, hv, hnn⟩⟩ := hc
      · exact ld_glob (X := X.suite a ((a, oe3) :: (X.pn ++ pins))) S3 hg hm q hdbg
      · exact ld_blt (X := X.suite a ((a, oe3) :: (X.pn ++ pins))) S3 hg hm hv q hnn hdbg
    have go : ∀ {hds' : List ExceptHandler} {l' : List (Value × Option Nat × Suite)}, Hds X hds' l' → wTry X.K Wout D l' cls d σ' H' →
        wpAny (model X.prog X.w) X.A (handleBy (.ref a) X.env hds') (SP X pins D) X.xe { s' with heap := h3 } := by
      intro hds' l' hk
      induction hk with
      | nil =>
        intro w
        refine wpAny_handleBy_nil ?_
        obtain ⟨k1, k2, k3, oe, vs, T, oT, ts', he, hz, hd, h1, hr⟩ := id fl3
        unfold PySem.passOn
        refine wpAny_bind (wpAny_field he hd h1 ?_)
        rw [if_neg (show ¬ ((Value.ref T == Value.none) = true) from by simp)]
        have fin : wpAny (model X.prog X.w) X.A (setFlight (.ref a) X.env.frame) (fun _ s4 => wpAny (model X.prog X.w) X.A (throw (.ref a) : Sem Flow) (SP X pins D) X.xe s4) X.xe { s' with heap := h3 } := by
          rw [hf]
          refine HandSPX.setFlight_upZ fl3 fun h4 hh4 up4 => wpAny_throw (tk _ _ ?_)
          exact ⟨a, B, sI, pins, σ', H', cls, d, rfl, J, nb, (up.trans up3).trans up4, .inr (.inr (by rw [hs]; exact hh4)), na, os, ag, w⟩
        first
          | exact wpAny_bind (wpAny_pure (wpAny_bind fin))
          | exact wpAny_bind fin
      | @cons x c ts b₀ suite np pos' hds2 l2 hc hsu r ih =>
        intro w
        obtain ⟨b, hb1, hyes, hno⟩ := w
        refine wpAny_handleBy_cons (codeAny_handlers_test ?_) (by intro q; cases q)
        refine test hc ((PySem.W.exm_one (M := model X.prog X.w) (J3.kIn) LT hb1).here ?_)
        cases b with
        | true =>
          refine codeAny_handlers_suite ?_
          refine HandSPX.lands_againZ fl3 fun h4 fl4 up4 => ?_
          have J4 : Inv X pins σ' H' { s' with heap := h4 } := J.landed nb fl4.1 ((up.trans up3).trans up4) os ag
          obtain ⟨oe4, vs4, he4, hz4, hd4⟩ := fl4.there
          have S4 := J4.suite he4 hd4 na nL nF
          refine wpAny_mono ((hsu a oe4 cls d (X.pn ++ pins) hz4 ⟨_, hd4⟩).run [] _ _ H' _ S4 (hyes rfl a na)) (fun f s6 hsp => ?_) (fun _ _ z => False.elim z)
          cases f with
          | next => exact let ⟨σ6, H6, S6, q6⟩ := hsp; ⟨_, _, S6.unsuite ok, q6⟩
          | brk => exact let ⟨σ6, H6, S6, q6⟩ := hsp; ⟨_, _, S6.unsuite ok, q6⟩
          | cont => exact let ⟨σ6, H6, S6, q6⟩ := hsp; ⟨_, _, S6.unsuite ok, q6⟩
          | ret u => exact let ⟨v6, σ6, H6, S6, r6, q6⟩ := hsp; ⟨_, _, _, S6.unsuite ok, r6, q6⟩
        | false => exact ih (hno rfl)
      | @consAs x n i c ts b₀ suite np pos' hds2 l2 hi hln hc hsu r ih =>
        intro w
        obtain ⟨b, hb1, hyes, hno⟩ := w
        refine wpAny_handleBy_cons (codeAny_handlers_test ?_) (by intro q; cases q)
        refine test hc ((PySem.W.exm_one (M := model X.prog X.w) (J3.kIn) LT hb1).here ?_)
        cases b with
        | true =>
          refine codeAny_handlers_suite_as ?_
          refine HandSPX.lands_againZ fl3 fun h4 fl4 up4 => ?_
          have J4 : Inv X pins σ' H' { s' with heap := h4 } := J.landed nb fl4.1 ((up.trans up3).trans up4) os ag
          obtain ⟨oe4, vs4, he4, hz4, hd4⟩ := fl4.there
          have S4 := J4.suite he4 hd4 na nL nF
          refine store_ok (X := X.suite a ((a, oe4) :: (X.pn ++ pins))) (v := .ref a) S4 hN hi (.inl hln) rfl (fun s5 S5 => ?_) (.inr hln)
          refine wpAny_mono ((hsu a oe4 cls d (X.pn ++ pins) hz4 ⟨_, hd4⟩).run [] s5 _ H' _ S5 (hyes rfl a na)) (fun f s6 hsp => ?_) (fun _ _ z => False.elim z)
          have end_ : ∀ {σ6 : L2.St} {H6 : Hp} {Q : Shared → Prop}, Inv (X.suite a ((a, oe4) :: (X.pn ++ pins))) [] σ6 H6 s6 → (∀ s7, Inv X pins (σ6.set i none) H6 s7 → Q s7) →
              wpAny (model X.prog X.w) X.A (do bindName X.env n .none; unbindBehindTheSuite X.env n pos') (fun _ s7 => Q s7) X.xe s6 := fun {σ6 H6 Q} S6 hq => gone_ok (S6.unsuite ok) hN hi hln hq
          cases f with
          | next => exact let ⟨σ6, H6, S6, q6⟩ := hsp; end_ S6 fun s7 J7 => ⟨_, _, J7, q6⟩
          | brk => exact let ⟨σ6, H6, S6, q6⟩ := hsp; end_ S6 fun s7 J7 => ⟨_, _, J7, q6⟩
          | cont => exact let ⟨σ6, H6, S6, q6⟩ := hsp; end_ S6 fun s7 J7 => ⟨_, _, J7, q6⟩
          | ret u => exact let ⟨v6, σ6, H6, S6, r6, q6⟩ := hsp; end_ S6 fun s7 J7 => ⟨_, _, _, J7, r6, q6⟩
        | false => exact ih (hno rfl)
    exact go hh w
  · cases f with
    | next => exact let ⟨σ6, H6, S6, q6⟩ := hsp; wpAny_execs_nil ⟨_, _, S6.ofTry ok, q6⟩
    | brk => exact let ⟨σ6, H6, S6, q6⟩ := hsp; ⟨_, _, S6.ofTry ok, q6⟩
    | cont => exact let ⟨σ6, H6, S6, q6⟩ := hsp; ⟨_, _, S6.ofTry ok, q6⟩
    | ret u => exact let ⟨v6, σ6, H6, S6, r6, q6⟩ := hsp; ⟨_, _, _, S6.ofTry ok, r6, q6⟩
end
/-! ### the caught one: its fields, isinstance -/
def uXf (a : Addr) (cls : Value) (d : Option Addr) (C : Addr) (f : Str) (te : TE) : TE := fun σ H Q => te σ H fun x H1 => x = .ref a ∧ cls = .ref C ∧ match d with
  | some dd => ∃ (fs : List (Str × V)) (v : V), H1 dd = some (.xd fs) ∧ fs.lookup f = some v ∧ Q v H1
  | none => False
theorem pe_uxf {X : Cx} {a C : Addr} {oe : Obj} {cls : Value} {d : Option Addr} {pn : List (Addr × Obj)} {e : Expr} {te : TE} {pos : Pos} {n : Str} (T : XfC X.K C) (hno : PySem.W.findIn X.K (.ref C) n = some none)
    (hz : Zc cls d oe) (hf : ∃ vs, oe.data = .fields vs) (he : PE (X.suite a ((a, oe) :: pn)) e te) (hb : attributeBase e n X.env (eval e X.env) = eval e X.env := by rfl) :
    PE (X.suite a ((a, oe) :: pn)) (.Attribute e n pos) (uXf a cls d C n te) := pe_i (pe_xf T hno hz hf (pe_cl he) hb) fun σ H Q q => ⟨_, q, fun x H1 ⟨e1, e2, q2⟩ => by
  cases d with
  | none => exact q2.elim
  | some dd =>
    obtain ⟨fs, v, h1, h2, h3⟩ := q2
    exact ⟨e1, e2, dd, fs, v, rfl, h1, h2, h3⟩⟩
/-- what isinstance asks of the class of a caught exception -/
structure XIs (K : PySem.W.Frag) (C : Addr) : Prop where
  cl : (PySem.W.clsIn K C).isSome = true
  ga : PySem.W.findIn K (.ref C) "__getattribute__" = some (some (.builtin "BaseException.__getattribute__"))
  gt : PySem.W.findIn K (.ref C) "__getattr__" = some none
  ex : PySem.W.subIn K (.ref C) (.type "BaseException") = some true
  ha : PySem.W.findIn K (.ref C) "__class__" = some (some (.builtin "object.__class__"))
  hn : PySem.W.specialIn K (.builtin "object.__class__") "__get__" = some (some (.builtin "getset_descriptor.__get__"))
  ht : PySem.W.takesIn K (.builtin "object.__class__") = some true
  hm : PySem.W.mroIn K C (.type "object") = some true
/-- isinstance(e, c), e the exception that the suite holds -/
def uIsE (K : PySem.W.Frag) (cls : Value) (d : Option Addr) (a : Addr) : List V → Hp → VK → Prop := fun xs H Q => match xs with
  | [.ref b, c] => b = a ∧ ∃ (C dd : Addr) (fs : List (Str × V)) (cv : Value) (r : Bool), cls = .ref C ∧ d = some dd ∧ H dd = some (.xd fs) ∧ XIs K C ∧ (∀ u, RelV c u → u = cv) ∧ PySem.W.kitOne K (.ref C) cv = some r ∧ Q (.bl r) H
  | _ => False
theorem c_isE {X : Cx} {a : Addr} {oe : Obj} {cls : Value} {d : Option Addr} {pn : List (Addr × Obj)} (hz : Zc cls d oe) (hf : ∃ vs, oe.data = .fields vs) : CallR (X.suite a ((a, oe) :: pn)) (.builtin "isinstance") (uIsE X.K cls d a) := by
  intro pins s σ H xs us Q I r h
  unfold uIsE at h
  split at h
  · rename_i b c
    obtain ⟨rfl, C, dd, fs, cv, rr, rfl, rfl, ed, T, hcv, hk, q⟩ := h
    obtain ⟨u1, u2, rfl, r1, r2⟩ := vals2 r
    obtain rfl : u1 = Value.ref b := r1
    obtain rfl := hcv _ r2
    obtain ⟨ha, _⟩ := I.pin (b, oe) (List.mem_append_left _ List.mem_cons_self)
    obtain ⟨vs, hd⟩ := hf
    have hx : ObjOk X.prog X.w H s.heap dd (.xd fs) := I.hok dd _ ed
    obtain ⟨mA, hns, hr⟩ := hx
    obtain ⟨od, ho, hl⟩ := lookIn_ns hns
    have J : PySem.W.InstAt s.heap b oe C (some od) := ⟨ha, hz.1, by unfold PySem.W.notCls; rw [hd] <;> rfl, by rw [hz.2]; exact ho⟩
    exact PySem.W.kia_one (PySem.W.kitx_exc T.cl T.ga T.gt T.ex T.ha T.hn T.ht T.hm) I.kIn J hk (fun z => nomatch z) fun tk => ⟨.bl rr, H, I.tok tk, rfl, q⟩
  · exact h.elim
end U

set_option Elab.async false
set_option linter.all false
set_option maxRecDepth 100000
set_option maxHeartbeats 4000000
/-! U14: the end: a law whose def is kept where no repr is under way -/
namespace U
open PySem PySem.Spec PyProof.Rows L2
theorem law_callG {P : Program} {w : World} {K : PySem.W.Frag} {mg mb : Str → Option Value} {k : Nat} {fa a : Addr} {fd : FuncData} {x : Str} {sp : Sp} {s₁ : Shared} {vs : List Value} {ns : List Int}
    (KX : K.In s₁.heap) (hns : s₁.heap.Ns mainGlobals mg) (hb : s₁.heap.Ns builtinsNs mb) (hbb : ∀ x : Str, x ≠ "__name__" → mb x = bootBuiltins x) (hlim : s₁.heap.NoLimit) (hg : s₁.gens = #[])
    (ha : s₁.heap.get? a = some { cls := .type "list", data := .seq vs.toArray }) (hi : IntsAre vs ns) (hl : ns.length ≤ sizeLine) (hr : RG k callerA)
    (F : ∀ base : Heap, K.In base → base.Ns mainGlobals mg → FnG P w K mg base k fa fd [x] sp) (hbind : ∀ (s : Shared) (u : Value), BindsTo s fd ⟨[u], []⟩ [(x, u)])
    (hsp : ∀ H : Hp, Only H → SqL K H a (ns.map V.int) → sp [.ref a] H (fun v _ => v = .bl true) fun _ _ _ => False) :
    codeAny (model P w) callerA (.call (.ref fa) ⟨[.ref a], []⟩) (fun r s' => r = .ok (.ret (.bool true)) ∧ OldK s₁.heap s'.heap ∧ s'.os = s₁.os ∧ AllBare s'.gens) s₁ := by
  have rv := vals_ints hi
  have lenV := hi.length
  -- from an abstract heap in which nothing but the script may be tracked
  have core : ∀ H : Hp, Only H → SqL K H a (ns.map V.int) → HOk P w H s₁.heap → (∀ b, H b ≠ none → b = a) → (H a ≠ none → K.lookup a = none) →
      codeAny (model P w) callerA (.call (.ref fa) ⟨[.ref a], []⟩) (fun r s' => r = .ok (.ret (.bool true)) ∧ OldK s₁.heap s'.heap ∧ s'.os = s₁.os ∧ AllBare s'.gens) s₁ := by
    intro H hO hS hok hA hK
    have base_of : ∀ {b : Addr} {o : Obj}, s₁.heap.get? b = some o → H b = none → (hidT s₁.heap H).get? b = some o := fun e n => hidT_get e n
    have noA : ∀ {b : Addr} {o : Obj} {es : Array DictEntry} {ep : Nat}, s₁.heap.get? b = some o → o.data = .dict es ep → H b = none := fun {b o es ep} e d => by
      cases q : H b with
      | none => rfl
      | some u =>
        have e' : b = a := hA b (by rw [q]; simp)
        subst e'
        rw [ha] at e; cases e
        have d' : Data.seq vs.toArray _ = Data.dict es ep := d
        cases d'
    have nsK : ∀ {b : Addr} {m : Str → Option Value}, s₁.heap.Ns b m → (hidT s₁.heap H).Ns b m := fun {b m} ⟨o, es, ep, e, d, r⟩ => ⟨o, es, ep, base_of e (noA e d), d, r⟩
    have hKb : K.In (hidT s₁.heap H) := fun b o e => base_of (KX b o e) (by
      cases q : H b with
      | none => rfl
      | some u =>
        have e' : b = a := hA b (by rw [q]; simp)
        subst e'
        rw [hK (by rw [q]; simp)] at e; cases e)
    have hM : Mod K mg (hidT s₁.heap H) := ⟨hKb, nsK hns, ⟨mb, nsK hb, hbb⟩, let ⟨mc, h1, h2⟩ := hlim; ⟨mc, nsK h1, h2⟩⟩
    have e0 : Env0 P w K mg (hidT s₁.heap H) callerA [] s₁ H := ⟨rfl, hM, fun b o e => of_hidT e, Nat.le_of_eq (hidT_size _ _), trivial, fun b hb => absurd (show b ∈ ([] : List Addr) from hb) (by simp), hok, .of_eq hg⟩
    refine codeAny_mono ((F _ hKb (nsK hns)).run callerA [] s₁ H ⟨[.ref a], []⟩ [.ref a] [.ref a] _ _ hr e0 (hbind s₁ (.ref a)) (.cons rfl .nil) (hsp H hO hS)) fun r s' h => ?_
    cases r with
    | error e => exact (by obtain ⟨_, _, _, _, _, _, _, _, _, _, _, _, z⟩ := h; exact z.elim)
    | ok fl =>
      cases fl with
      | next => exact False.elim h
      | brk => exact False.elim h
      | cont => exact False.elim h
      | ret u =>
        obtain ⟨v, H', os, bare, un, hok', r', q⟩ := h
        have q' : v = .bl true := q
        subst q'
        obtain rfl : u = Value.bool true := r'
        refine ⟨rfl, OldK.of_keep fun b o e => ?_, os, bare⟩
        cases q : H b with
        | none => exact un.keep b o e q (by intro z; exact absurd (show b ∈ ([] : List Addr) from z) (by simp)) (by simp)
        | some u =>
          rcases hO b with z | ⟨ob, xs, z⟩
          · rw [q] at z; cases z
          · have z2 := un.frzs b ob _ z
            obtain ⟨e1, _⟩ := hok b _ z
            obtain ⟨e2, _⟩ := hok' b _ z2
            rw [e] at e1; cases e1
            exact e2
  cases hk : K.lookup a with
  | some o =>
    -- the script is one of the module's own objects
    have e := KX a o hk
    rw [ha] at e
    cases e
    refine core (fun _ => none) (fun _ => .inl rfl) (.inr ⟨_, vs.toArray, _, hk, rfl, rfl, rfl, by rw [List.size_toArray, lenV]; exact hl, by simpa using rv⟩) (fun b u z => by have z' : (none : Option HO) = some u := z; cases z') (fun b z => absurd rfl z) fun z => absurd rfl z
  | none =>
    refine core (fun b => if b = a then some (.frz { cls := .type "list", data := .seq vs.toArray } (.lst (ns.map V.int))) else none) (fun b => ?_) (.inl (.inr ⟨{ cls := .type "list", data := .seq vs.toArray }, if_pos rfl⟩)) (fun b u z => ?_) (fun b z => ?_) fun _ => hk
    · by_cases hb : b = a
      · exact .inr ⟨_, _, if_pos hb⟩
      · exact .inl (if_neg hb)
    · by_cases hb : b = a
      · have z' := (if_pos hb).symm.trans z
        cases z'
        subst hb
        exact ⟨ha, by rw [List.length_map]; exact hl, vs, _, rv, ha⟩
      · have z' := (if_neg hb).symm.trans z
        cases z'
    · by_cases hb : b = a
      · exact hb
      · exact absurd (if_neg hb) z
theorem walk_G {l : PySem.W.OpenLaw} {n k : Nat} {q : Program} {loose : List Str} {XP : (Str → Option Value) → Heap → Prop} {YP : World → Heap → Prop} {d : DefRec} {K : Params → PySem.W.Frag} {sp : PySem.W.Frag → Sp} {x : Str}
    (hn : l.most = some n) (hn2 : n ≤ sizeLine) (hdf : d.params.defaults = []) (hr : RG k callerA) (hY : ∀ (w : World) (h : Heap), YP w h → (K w.params).In h)
    (F : ∀ (w : World) (mg : Str → Option Value) (fa : Addr) (h : Heap), (K w.params).In h → h.Ns mainGlobals mg → mg d.name = some (.ref fa) →
      ∃ fd : FuncData, (∀ (s : Shared) (u : Value), BindsTo s fd ⟨[u], []⟩ [(x, u)]) ∧
        ∀ base : Heap, (K w.params).In base → base.Ns mainGlobals mg → FnG l.prog w (K w.params) mg base k fa fd [x] (sp (K w.params)))
    (hsp : ∀ (K : PySem.W.Frag) (H : Hp) (a : Addr) (ns : List Int), ns.length ≤ n → (∀ z ∈ ns, Builtin.Int.intBits z ≤ 1048576) → SqL K H a (ns.map V.int) → sp K [.ref a] H (fun v _ => v = .bl true) fun _ _ _ => False) :
    PySem.W.WalkO q loose XP YP l.row.toRowW d [] (fun f vs => PySem.call f vs) := by
  refine Att.attach_callB hn hdf fun w s₀ s₁ mg mb fa o pm cd doc a vs ns G Y ho hd hcd hmg hobj hints hlen hbits hg => ?_
  have KX := hY w _ Y
  obtain ⟨fd, hb, hF⟩ := F w mg fa _ KX G.T.g hmg
  exact law_callG KX G.T.g G.T.b G.T.builtins G.T.nolimit hg hobj hints (Nat.le_trans hlen hn2) hr hF hb (fun H hO hS => hsp (K w.params) H a ns hlen hbits hS)
end U

set_option Elab.async false
set_option linter.all false
set_option maxRecDepth 100000
set_option maxHeartbeats 4000000
/-! U15: dicts with text keys, isinstance, own exceptions' inits by their fields -/
namespace U
open PySem PySem.Spec PyProof.Rows L2
section
variable {X : Cx} {o i e value : Expr} {td ty tv : TE} {pos pos' : Pos}
def uDget (td ty : TE) : TE := fun σ H Q => td σ H fun x H1 => ty σ H1 fun y H2 => match x, y with
  | .ref a, .str s => ∃ (kvs : List (Key × V)) (v : V), H2 a = some (.dK kvs) ∧ valV kvs (.inr s) = some v ∧ Q v H2
  | _, _ => False
theorem pe_udget {k : Nat} (hr : RG k X.A) (ho : PE X o td) (hi : PE X i ty) (hs : NoSl i) : PE X (.Subscript o i pos) (uDget td ty) :=
  pe_i (pe_dget (by have := hr.r.un; omega) (pe_cl ho) (pe_cl hi) hs) fun σ H Q q => ⟨_, q, fun x H1 hx => ⟨_, hx, fun y H2 hy => by
    split at hy
    · obtain ⟨kvs, v, h1, h2, h3⟩ := hy
      exact ⟨_, v, rfl, by rw [← h2]; exact DGet.k (k := Sum.inr _) h1, h3⟩
    · exact hy.elim⟩⟩
def uDput (td ty tv : TE) : TS := fun D σ H => tv σ H fun v H1 => td σ H1 fun x H2 => ty σ H2 fun y H3 => match x, y with
  | .ref a, .str s => ∃ (kvs : List (Key × V)), H3 a = some (.dK kvs) ∧ kvs.length < sizeLine ∧ D.nx σ (upd H3 a (.dK (putK kvs (.inr s) v)))
  | _, _ => False
theorem ps_udput {k : Nat} (hr : RG k X.A) (ho : PE X o td) (hi : PE X i ty) (hv : PE X value tv) (hs : swapsWith value (some (.Subscript o i pos')) pos.line X.env = pure false := by rfl) : PS X (.Assign [.Subscript o i pos'] value pos) (uDput td ty tv) :=
  ps_i (ps_dput (by have := hr.r.un; omega) (pe_cl ho) (pe_cl hi) (pe_cl hv) hs) fun D σ H q => ⟨_, q, fun v H1 hv => ⟨_, hv, fun x H2 hx => ⟨_, hx, fun y H3 hy => by
    split at hy
    · obtain ⟨kvs, h1, h2, h3⟩ := hy
      exact ⟨_, _, rfl, DPut.k (k := Sum.inr _) h1 h2, h3⟩
    · exact hy.elim⟩⟩⟩
/-- isinstance(x, c) of plain values -/
def uIsi (K : PySem.W.Frag) : List V → Hp → VK → Prop := fun xs H Q => match xs with
  | [x, c] => ∃ (t u : Value) (b : Bool), ClsV c u ∧ TyX K H x t ∧ PySem.W.kitOne K t u = some b ∧ Q (.bl b) H
  | _ => False
theorem c_isi : CallR X (.builtin "isinstance") (uIsi X.K) := call_i call_isi fun xs H Q q => by
  unfold uIsi at q
  split at q
  · obtain ⟨t, u, b, h1, h2, h3, h4⟩ := q
    exact ⟨_, _, t, u, b, rfl, h1, h2, h3, h4⟩
  · exact q.elim
end
/-! ### the inits of own exceptions with two fields, one, none -/
theorem pure_err2 {K : PySem.W.Frag} {C : Addr} {fam : Bool} (T : Own K fam C) {f g m : Str} (nf : PySem.W.findIn K (.ref C) f = some none) (ng : PySem.W.findIn K (.ref C) g = some none) (N : List Str) (hN : N.length = 3) (vs : List V) (H : Hp) (Q : VK) (E : XK) (h : sp_err C [f, g] vs H Q E) :
    (tSeq (tDrop (uInit K fam (tCons (uV 0) (tCons (tC (.str m)) tNil)))) (tSeq (uOst K f (uV 0) (uV 1)) (uOst K g (uV 0) (uV 2)))) { nx := fun _ H' => Q .non H', rt := Q } (start N vs) H := by
  obtain ⟨a, args, rfl, hl, ha, k⟩ := h
  match args, hl, N, hN with
  | [x, y], _, [_, _, _], _ =>
    refine ⟨by show 1 ≤ 1000; decide, ⟨C, T, ha⟩, fam, C, T, nf, .inl ⟨ha, fun dx hd ne => ?_⟩⟩
    have e1 : upd (upd H dx (exd dx [(f, x)])) a (exo a C (some dx)) a = some (exo a C (some dx)) := upd_same
    have e2 : upd (upd H dx (exd dx [(f, x)])) a (exo a C (some dx)) dx = some (exd dx [(f, x)]) := by rw [upd_ne ne, upd_same]
    refine ⟨fam, C, T, ng, .inr ⟨dx, _, e1, e2, Nat.le_of_ble_eq_true rfl, k dx _ hd ne ?_ ?_ fun b h1 h2 => ?_⟩⟩
    · rw [upd_ne (Ne.symm ne), upd_same]
    · rw [upd_same]; rfl
    · rw [upd_ne h2, upd_ne h1, upd_ne h2]
theorem pure_err1 {K : PySem.W.Frag} {C : Addr} {fam : Bool} (T : Own K fam C) {f m : Str} (nf : PySem.W.findIn K (.ref C) f = some none) (N : List Str) (hN : N.length = 2) (vs : List V) (H : Hp) (Q : VK) (E : XK) (h : sp_err C [f] vs H Q E) :
    (tSeq (tDrop (uInit K fam (tCons (uV 0) (tCons (tC (.str m)) tNil)))) (uOst K f (uV 0) (uV 1))) { nx := fun _ H' => Q .non H', rt := Q } (start N vs) H := by
  obtain ⟨a, args, rfl, hl, ha, k⟩ := h
  match args, hl, N, hN with
  | [x], _, [_, _], _ =>
    refine ⟨by show 1 ≤ 1000; decide, ⟨C, T, ha⟩, fam, C, T, nf, .inl ⟨ha, fun dx hd ne => k dx _ hd ne upd_same ?_ fun b h1 h2 => ?_⟩⟩
    · rw [upd_ne ne, upd_same]; rfl
    · rw [upd_ne h1, upd_ne h2]
end U

set_option Elab.async false
set_option linter.all false
set_option maxRecDepth 100000
set_option maxHeartbeats 4000000
/-! K0: what the written part says, put together -/
namespace U
open PySem PySem.Spec PyProof.Rows L2
theorem exm_of {K : PySem.W.Frag} {C : Addr} {cls : Value} {b : Bool} (h1 : PySem.W.subIn K (.ref C) (.type "BaseException") = some true) (h2 : PySem.W.isClsIn K C = true) (h3 : PySem.W.typeIn K (.ref C) = some (.type "type")) (h4 : PySem.W.subIn K cls (.ref C) = some b) :
    PySem.W.exmOne K cls (.ref C) = some b := by
  have e2 : ((PySem.W.clsIn K C).isSome && PySem.W.typeIn K (.ref C) == some (.type "type")) = true := by
    rw [show (PySem.W.clsIn K C).isSome = true from h2, h3]
    rfl
  unfold PySem.W.exmOne
  rw [h1, if_pos (by rfl)]
  unfold PySem.W.kitCls
  dsimp only
  rw [if_pos e2]
  exact h4
theorem kit_of {K : PySem.W.Frag} {B C : Addr} {b : Bool} (h2 : PySem.W.isClsIn K C = true) (h3 : PySem.W.typeIn K (.ref C) = some (.type "type")) (h4 : PySem.W.subIn K (.ref B) (.ref C) = some b) (hs : b = true ∨ B ≠ C) :
    PySem.W.kitOne K (.ref B) (.ref C) = some b := by
  have e2 : ((PySem.W.clsIn K C).isSome && PySem.W.typeIn K (.ref C) == some (.type "type")) = true := by
    rw [show (PySem.W.clsIn K C).isSome = true from h2, h3]
    rfl
  unfold PySem.W.kitOne
  by_cases e : B = C
  · subst e
    rcases hs with h | h
    · rw [if_pos (by simp), h]
    · exact absurd rfl h
  · rw [if_neg (by simpa using e)]
    unfold PySem.W.kitCls
    dsimp only
    rw [if_pos e2]
    exact h4
theorem sqT_empty {K : PySem.W.Frag} {H : Hp} {p : Addr} {d : Option Addr} {n : Nat} {sl : Array (Option Value)} (e : K.lookup p = some ⟨.type "tuple", d, .seq #[] n, sl⟩) : SqT K H p [] :=
  .inr ⟨_, #[], _, e, rfl, rfl, by simp, .nil⟩
theorem len_err {C : Addr} {fs : List Str} {vs : List V} {H : Hp} {Q : VK} {E : XK} {n : Nat} (h : sp_err C fs vs H Q E) (hn : n = fs.length + 1 := by rfl) : vs.length = n := by
  obtain ⟨a, args, rfl, hl, _⟩ := h
  rw [hn, List.length_cons, hl]
end U

set_option Elab.async false
set_option linter.all false
set_option maxRecDepth 100000
set_option maxHeartbeats 4000000
/-! U16: comprehensions by what they have made so far; small helpers -/
namespace U
open PySem PySem.Spec PyProof.Rows L2
/-- a statement by what holds behind it -/
def cS (t : TS) : TS := fun D σ H => ∃ N : L2.St → Hp → Prop, t { D with nx := N } σ H ∧ ∀ σ' H', N σ' H' → D.nx σ' H'
theorem ps_cl {X : Cx} {s : Stmt} {t : TS} (h : PS X s t) : PS X s (cS t) := ⟨fun pins s σ H D I ⟨N, q, k⟩ => wpAny_mono (h.run pins s σ H _ I q) (fun f s1 hf => by
  cases f with
  | next => exact let ⟨σ1, H1, I1, z⟩ := hf; ⟨σ1, H1, I1, k _ _ z⟩
  | brk => exact hf
  | cont => exact hf
  | ret u => exact hf) fun _ _ x => x⟩
/-- a list in the making at D: R of the turn, what is made, what is known for good -/
structure Lc (R : Nat → List V → Hp → Prop) (S : Addr → Prop) (G H : Hp) (D : Addr) (i : Nat) (H' : Hp) : Prop where
  ex : ∃ acc G', acc.length ≤ i ∧ H' D = some (.lst acc) ∧ G' D = none ∧ Grow S G H G' H' ∧ R i acc G'
section
variable {R : Nat → List V → Hp → Prop} {S : Addr → Prop} {G H G' H4 : Hp} {D : Addr} {i : Nat} {acc : List V} {y : V}
theorem Lc.add (hD : H D = none) (hi : i < 16000000) (hl : acc.length ≤ i) (hg : G' D = none) (hd : H4 D = some (.lst acc)) (g : Grow S G H G' H4) (r : R (i + 1) (acc ++ [y]) G') :
    ∃ acc, H4 D = some (.lst acc) ∧ acc.length < sizeLine ∧ Lc R S G H D (i + 1) (upd H4 D (.lst (acc ++ [y]))) := by
  have line : sizeLine = 16777216 := sizeLine_eq
  exact ⟨acc, hd, by omega, ⟨_, G', by rw [List.length_append]; exact Nat.succ_le_succ hl, upd_same, hg, g.wr hg (.inl hD), r⟩⟩
theorem Lc.skip (hl : acc.length ≤ i) (hg : G' D = none) (hd : H4 D = some (.lst acc)) (g : Grow S G H G' H4) (r : R (i + 1) acc G') : Lc R S G H D (i + 1) H4 := ⟨acc, G', Nat.le_succ_of_le hl, hd, hg, g, r⟩
theorem lc_g {J : It} {n : Nat} {Gd : Hp → Prop} {Y : Nat → Hp → V → Hp → Prop} (w : Walk J n Gd Y) {g : TG} {tt : TT} {te : TE} {vs : List Nat} {σ : L2.St} {Qd : Hp → Prop} (R : Nat → List V → Hp → Prop) (S : Addr → Prop) (sub : Same G H) (hD : H D = none) (r0 : R 0 [] G)
    (hG : ∀ i H', Lc R S G H D i H' → Gd H')
    (hs : ∀ i x acc G' H1 H1', i < n → acc.length ≤ i → H1 D = some (.lst acc) → G' D = none → Grow S G H G' H1 → R i acc G' → Y i H1 x H1' → g x (wipe σ vs) H1' fun σ2 H2 => wipe σ2 vs = wipe σ vs ∧ tt σ2 H2 fun b H3 =>
      if b = true then te σ2 H3 fun y H4 => ∃ acc, H4 D = some (.lst acc) ∧ acc.length < sizeLine ∧ Lc R S G H D (i + 1) (upd H4 D (.lst (acc ++ [y]))) else Lc R S G H D (i + 1) H3)
    (hd : ∀ acc G' H', acc.length ≤ n → H' D = some (.lst acc) → G' D = none → Grow S G H G' H' → R n acc G' → Qd H') :
    ∃ W : Nat → Nat → Hp → Prop, (∃ m, W 0 m (upd H D (.lst []))) ∧ ∀ i m H, W i m H →
      (J.stop i H ∧ Qd H) ∨ (J.go i H ∧ ∃ Nx : Hp → Prop, (∀ H', Nx H' → ∃ m', m' < m ∧ W (i + 1) m' H') ∧ ∀ x H', J.yld i H x H' → g x (wipe σ vs) H' fun σ2 H2 => wipe σ2 vs = wipe σ vs ∧ tt σ2 H2 fun b H3 =>
        if b = true then te σ2 H3 fun y H4 => ∃ acc, H4 D = some (.lst acc) ∧ acc.length < sizeLine ∧ Nx (upd H4 D (.lst (acc ++ [y]))) else Nx H3) :=
  lc_it w (fun i H' => Lc R S G H D i H') ⟨[], G, Nat.le_refl _, upd_same, sub_none sub hD, (Grow.refl sub).av hD, r0⟩ (fun i H' _ l => hG i H' l)
    (fun i x H1 H1' hi ⟨acc, G', h1, h2, h3, h4, h5⟩ y => hs i x acc G' H1 H1' hi h1 h2 h3 h4 h5 y) fun H' ⟨acc, G', h1, h2, h3, h4, h5⟩ => hd acc G' H' h1 h2 h3 h4 h5
end
/-- what was made known for good on the way is forgotten -/
theorem Grow.closeG {S : Addr → Prop} {G H G' H' : Hp} (g : Grow S G H G' H') : Grow S G H G H' := ⟨Same.refl G, g.gs.trans g.sub, g.keep, fun _ _ _ n => n, g.dom⟩
/-- .. seen from less that is known for good -/
theorem Grow.low {S : Addr → Prop} {G G1 H H' : Hp} (g : Grow S G1 H G1 H') (sm : Same G G1) : Grow S G H G H' := ⟨Same.refl G, sm.trans g.sub, g.keep, fun _ _ _ n => n, g.dom⟩
/-- what stood stays -/
theorem Grow.at' {S : Addr → Prop} {G H G' H' : Hp} {a : Addr} {o : HO} (g : Grow S G H G' H') (h : H a = some o) (hs : ¬ S a) : H' a = some o := g.keep a o hs h
theorem grow_ne {S : Addr → Prop} {G H G' H' : Hp} {a : Addr} (g : Grow S G H G' H') {o : HO} (h : H a = some o) {b : Addr} (hb : H' b = none) : a ≠ b := by
  obtain ⟨o', e⟩ := g.dom a o h
  exact ne_of_none e hb
theorem sqB_keep {K : PySem.W.Frag} {b : Bool} {H H' : Hp} {a : Addr} {xs : List V} (k : ∀ o, H a = some o → H' a = some o) (h : SqB K b H a xs) : SqB K b H' a xs := by
  cases b
  · rcases h with (h | ⟨o, h⟩) | h
    · exact .inl (.inl (k _ h))
    · exact .inl (.inr ⟨o, k _ h⟩)
    · exact .inr h
  · rcases h with (h | ⟨o, h⟩) | h
    · exact .inl (.inl (k _ h))
    · exact .inl (.inr ⟨o, k _ h⟩)
    · exact .inr h
theorem sqB_grow {K : PySem.W.Frag} {b : Bool} {G H G' H' : Hp} {a : Addr} {xs : List V} (g : Grow NoS G H G' H') (h : SqB K b H a xs) : SqB K b H' a xs := sqB_keep (fun o e => g.keep a o (fun z => z) e) h
theorem sqT_keep {K : PySem.W.Frag} {H H' : Hp} {a : Addr} {xs : List V} (k : ∀ o, H a = some o → H' a = some o) (h : SqT K H a xs) : SqT K H' a xs := sqB_keep (b := false) k h
theorem mapV_at {α : Type} {f : α → V} {xs : List α} {i : Nat} {v : V} (h : (xs.map f)[i]? = some v) : ∃ x, xs[i]? = some x ∧ v = f x := by
  rw [List.getElem?_map] at h
  obtain ⟨x, h1, h2⟩ := Option.map_eq_some_iff.mp h
  exact ⟨x, h1, h2.symm⟩
theorem iteNf {A B : Prop} (h : A) : if (!false) = true then A else B := by rw [if_pos (by rfl)]; exact h
theorem iteNt {A B : Prop} (h : B) : if (!true) = true then A else B := by rw [if_neg (by decide)]; exact h
theorem iteTt {A B : Prop} (h : A) : if true = true then A else B := by rw [if_pos rfl]; exact h
theorem iteFf {A B : Prop} (h : B) : if false = true then A else B := by rw [if_neg (by decide)]; exact h
theorem perm_map_ex {α β : Type} {f : α → β} {zs ws : List β} (p : zs.Perm ws) : ∀ {l : List α}, ws = l.map f → ∃ l' : List α, l'.Perm l ∧ zs = l'.map f := by
  induction p with
  | nil =>
    intro l e
    exact ⟨l, .refl _, e⟩
  | @cons x zs ws p ih =>
    intro l e
    cases l with
    | nil => cases e
    | cons a l =>
      obtain ⟨e1, e2⟩ := List.cons.inj e
      obtain ⟨l', h1, h2⟩ := ih e2
      exact ⟨a :: l', h1.cons a, by rw [List.map_cons, e1, h2]⟩
  | swap x y l0 =>
    intro l e
    match l, e with
    | a :: b :: l, e =>
      obtain ⟨e1, e2⟩ := List.cons.inj e
      obtain ⟨e3, e4⟩ := List.cons.inj e2
      exact ⟨b :: a :: l, List.Perm.swap a b l, by rw [List.map_cons, List.map_cons, e1, e3, e4]⟩
  | trans p1 p2 ih1 ih2 =>
    intro l e
    obtain ⟨l1, h1, e1⟩ := ih2 e
    obtain ⟨l2, h2, e2⟩ := ih1 e1
    exact ⟨l2, h2.trans h1, e2⟩
/-! ### slices, in -/
theorem cut_to (xs : List V) (k : Nat) : cutV xs none (some (k : Int)) = xs.take k := by
  unfold cutV
  rw [HT.sIx_nat, HT.sIx_none, List.drop_zero, Nat.sub_zero]
  by_cases h : k ≤ xs.length
  · rw [Nat.min_eq_left h]
  · rw [Nat.min_eq_right (by omega), List.take_length, List.take_of_length_le (by omega)]
theorem cut_from (xs : List V) (k : Nat) : cutV xs (some (k : Int)) none = xs.drop k := by
  unfold cutV
  rw [HT.sIx_nat, HT.sIx_none]
  by_cases h : k ≤ xs.length
  · rw [Nat.min_eq_left h, List.take_of_length_le (by rw [List.length_drop]; omega)]
  · rw [Nat.min_eq_right (by omega), List.drop_eq_nil_of_le (by omega), List.drop_eq_nil_of_le (by omega), List.take_nil]
theorem cut_mid (xs : List V) (a b : Nat) : cutV xs (some (a : Int)) (some (b : Int)) = (xs.drop a).take (b - a) := by
  unfold cutV
  rw [HT.sIx_nat, HT.sIx_nat]
  by_cases h : a ≤ xs.length
  · rw [Nat.min_eq_left h]
    by_cases h2 : b ≤ xs.length
    · rw [Nat.min_eq_left h2]
    · rw [Nat.min_eq_right (by omega), List.take_of_length_le (by rw [List.length_drop]; omega), List.take_of_length_le (by rw [List.length_drop]; omega)]
  · have e1 : xs.drop xs.length = [] := List.drop_eq_nil_of_le (Nat.le_refl _)
    have e2 : xs.drop a = [] := List.drop_eq_nil_of_le (by omega)
    rw [Nat.min_eq_right (a := a) (by omega), e1, e2, List.take_nil, List.take_nil]
theorem inV_str (s : Str) : ∀ ks : List Str, inV (.str s) (ks.map V.str) = decide (s ∈ ks)
  | [] => rfl
  | k :: ks => by
    have ih := inV_str s ks
    unfold inV at ih ⊢
    rw [List.map_cons, List.any_cons, ih]
    by_cases h : k = s
    · subst h; simp [eqV]
    · have h' : ¬ s = k := fun z => h z.symm
      simp [eqV, h, h']
theorem flat_strs : ∀ ks : List Str, (ks.map V.str).all flatV = true
  | [] => rfl
  | k :: ks => by rw [List.map_cons, List.all_cons, flat_strs ks]; rfl
/-- the object that a slice of such a thing makes -/
def oB (b : Bool) (xs : List V) : HO := if b then .lst xs else .tup xs
theorem SqB.of_oB {K : PySem.W.Frag} {b : Bool} {H : Hp} {a : Addr} {xs : List V} (h : H a = some (oB b xs)) : SqB K b H a xs := by
  cases b
  · exact .inl (.inl h)
  · exact .inl (.inl h)
/-- the thing itself, or one new object at l -/
def One1 (b : Bool) (H H' : Hp) (a l : Addr) (xs ys : List V) : Prop := (H' = H ∧ l = a ∧ ys = xs) ∨ (H l = none ∧ H' = upd H l (oB b ys))
theorem Grow.one {S : Addr → Prop} {b : Bool} {G H G1 H1 H' : Hp} {a l : Addr} {xs ys : List V} (g : Grow S G H G1 H1) (h : One1 b H1 H' a l xs ys) : Grow S G H G1 H' := by
  rcases h with ⟨rfl, _⟩ | ⟨hn, rfl⟩
  · exact g
  · exact g.av hn
theorem One1.keep {b : Bool} {H H' : Hp} {a l : Addr} {xs ys : List V} {u : HO} {c : Addr} (h : One1 b H H' a l xs ys) (e : H c = some u) : H' c = some u := by
  rcases h with ⟨rfl, _⟩ | ⟨hn, rfl⟩
  · exact e
  · rw [upd_ne (ne_of_none e hn)]; exact e
theorem uSl_B {K : PySem.W.Frag} {b : Bool} {H : Hp} {a : Addr} {xs : List V} {lo hi : Option Int} {Q : VK} (h : SqB K b H a xs) (k : ∀ l H', One1 b H H' a l xs (cutV xs lo hi) → SqB K b H' l (cutV xs lo hi) → Q (.ref l) H') : uSl K (.ref a) lo hi H Q := by
  unfold uSl
  cases b
  · exact .inr ⟨xs, h, fun e => k a H (.inl ⟨rfl, rfl, e⟩) (by rw [e]; exact h), fun p hp => k p _ (.inr ⟨hp, rfl⟩) (.of_oB upd_same)⟩
  · exact .inl ⟨xs, h, fun p hp => k p _ (.inr ⟨hp, rfl⟩) (.of_oB upd_same)⟩
theorem uSl_L {K : PySem.W.Frag} {H : Hp} {a : Addr} {xs : List V} {lo hi : Option Int} {Q : VK} (h : SqL K H a xs) (k : ∀ l, H l = none → Q (.ref l) (upd H l (.lst (cutV xs lo hi)))) : uSl K (.ref a) lo hi H Q := by
  unfold uSl
  exact .inl ⟨xs, h, k⟩
theorem uSl_S {K : PySem.W.Frag} {H : Hp} {z : Str} {lo hi : Option Int} {Q : VK} (hz : z.length ≤ sizeLine) (k : Q (.str (cutS z lo hi)) H) : uSl K (.str z) lo hi H Q := by
  unfold uSl
  exact ⟨hz, k⟩
theorem Sh.str {s : Str} (h : PyData.strOk s = true) : Sh 0 (.str s) := ⟨h, by simp [PyData.depth]⟩
/-- signs below 128 -/
def ascii (s : Str) : Prop := ∀ c ∈ s.cps.toList, c < 128
/-! ### names -/
def lows : List Nat := ("abcdefghijklmnopqrstuvwxyz" : Str).cps.toList
/-- whether a text is a name -/
def isName (s : Str) : Bool := decide (0 < s.length) && decide (s.length ≤ 6) && s.cps.toList.all fun c => decide (c ∈ lows)
theorem ascii_ok {s : Str} (h : ascii s) : PyData.strOk s = true := by
  unfold PyData.strOk
  rw [Array.all_eq_true_iff_forall_mem]
  intro c hc
  have := h c (by simpa using hc)
  simp
  omega
theorem isName_ascii {s : Str} (h : isName s = true) : ascii s := fun c hc => by
  unfold isName at h
  simp only [Bool.and_eq_true, List.all_eq_true, decide_eq_true_eq] at h
  have key : ∀ c ∈ lows, c < 128 := by decide +kernel
  exact key c (h.2 c hc)
theorem isName_len {s : Str} (h : isName s = true) : s.length ≤ 6 := by
  unfold isName at h
  simp only [Bool.and_eq_true, decide_eq_true_eq] at h
  exact h.1.2
end U

set_option Elab.async false
set_option linter.all false
set_option maxRecDepth 100000
set_option maxHeartbeats 4000000
/-! P2: names and tables of the program -/
namespace U
open PySem PySem.Spec PyProof.Rows L2
/-! ### is_name -/
def sp_is_name (K : PySem.W.Frag) : Sp := fun vs H Q _ => ∃ (s : Str) (G : Hp), vs = [.str s] ∧ Same G H ∧ s.length ≤ 1000 ∧ ∀ H', Grow NoS G H G H' → Q (.bl (isName s)) H'
/-! is_name: 0=value 1=letter -/
def t_is_name (K : PySem.W.Frag) (W : WX) : TS :=
  (tSeq (tIfS (tOr (tNot (uT K (tCB (uIsi K) (tCons (uV 0) (tCons (tC (.ty "str")) tNil))))) (tNot (uB (uCh uLt uLe (tC (.int 0)) (tCB (uLen K) (tCons (uV 0) tNil)) (tC (.int 6)))))) (tRet (tC (.bl false))) tNext) (tRet (tCB (uAll K fun bs => bs.all id) (tCons (tLc (uiStr (uV 0)) (gName 1) tYes (tOp (uIn K false) (uV 1) (tC (.str "abcdefghijklmnopqrstuvwxyz"))) [1]) tNil))))
theorem pure_is_name {K : PySem.W.Frag} {W : WX} (vs : List V) (H : Hp) (Q : VK) (E : XK) (h : sp_is_name K vs H Q E) : t_is_name K W { nx := fun _ H' => Q .non H', rt := Q } (start ["value", "letter"] vs) H := by
  obtain ⟨s, G, rfl, sub, hl, k⟩ := h
  have line : sizeLine = 16777216 := sizeLine_eq
  refine ⟨.type "str", .type "str", true, .ty _, .base (.str _), rfl, ?_⟩
  refine ⟨by omega, ?_⟩
  refine iteD (fun h0 => ?_) fun h0 => ?_
  · refine iteN (fun h1 => ?_) fun h1 => ?_
    · have e : isName s = false := by
        unfold isName
        have : ¬ s.length ≤ 6 := fun z => h1 (by omega)
        simp [this]
      have := k H (Grow.refl sub)
      rw [e] at this
      exact this
    · refine fun D hD => ?_
      refine lc_g walk_str (fun i acc _ => acc = (s.cps.toList.take i).map fun c => V.bl (decide (c ∈ lows))) NoS sub hD rfl (fun _ _ _ => trivial) ?_ ?_
      · rintro i x acc G' H1 H1' hi hl hd hg g rfl ⟨rfl, c, hc, rfl⟩
        have ec : s.cps.toList.take (i + 1) = s.cps.toList.take i ++ [c] := by
          rw [List.take_succ, Array.getElem?_toList, hc]; rfl
        refine ⟨rfl, c, rfl, Lc.add hD (by have : s.cps.size = s.length := rfl; omega) hl hg hd g ?_⟩
        rw [ec, List.map_append]
        rfl
      · rintro acc G' H' hl hd hg g rfl
        have e : isName s = ((s.cps.toList.take s.cps.size).map fun c => decide (c ∈ lows)).all id := by
          have e2 : s.cps.toList.take s.cps.size = s.cps.toList := List.take_of_length_le (by simp)
          rw [e2, List.all_map]
          unfold isName
          have h2 : 0 < s.length := by omega
          have h3 : s.length ≤ 6 := by omega
          simp [h2, h3, Function.comp_def]
        refine ⟨(s.cps.toList.take s.cps.size).map fun c => decide (c ∈ lows), SqL.of (by rw [hd, List.map_map]; rfl), ?_⟩
        have := k H' g.closeG
        rw [e] at this
        exact this
  · have e : isName s = false := by
      unfold isName
      have : ¬ 0 < s.length := fun z => h0 (by omega)
      simp [this]
    refine iteNf ?_
    have := k H (Grow.refl sub)
    rw [e] at this
    exact this
/-! ### check_kinds -/
/-- the kind at i cannot stand there -/
def badK (ks : List Str) (i : Nat) : Bool := !isName (ks.getD i "") || decide (ks.getD i "" ∈ ks.take i)
/-- the first violation by the kinds of a table -/
def chkK (ks : List Str) : Option (Str × Int) := if 0 < ks.length ∧ ks.length ≤ 12 then ((List.range ks.length).find? (badK ks)).map fun i => ("name", (i : Int)) else some ("count", -1)
/-- what InvalidTable keeps -/
abbrev xdT (w : Str) (i : Int) : HO := .xd [("at", .int i), ("word", .str w)]
def sp_check_kinds (K : PySem.W.Frag) (C : Addr) : Sp := fun vs H Q E => ∃ (a : Addr) (b : Bool) (ks : List Str) (G : Hp), vs = [.ref a] ∧ Same G H ∧ SqB K b H a (ks.map V.str) ∧ (∀ s ∈ ks, s.length ≤ 1000) ∧ ks.length ≤ 1000 ∧
  (chkK ks = none → ∀ H', Grow NoS G H G H' → Q .non H') ∧ (∀ x i, chkK ks = some (x, i) → ∀ d H', H d = none → Grow NoS G H G H' → H' d = some (xdT x i) → E (.ref C) (some d) H')
/-! check_kinds: 0=kinds 1=at 2=kind -/
def t_check_kinds (K : PySem.W.Frag) (cInvalidTable : Addr) (W : WX) : TS :=
  (tSeq (tIfS (tNot (uB (uCh uLt uLe (tC (.int 0)) (tCB (uLen K) (tCons (uV 0) tNil)) (tC (.int 12))))) (uRaise W cInvalidTable ["word", "at"] (tCons (tC (.str "count")) (tCons (tUn uNeg (tC (.int 1))) tNil))) tNext) (tFor (uiEnum K (uV 0)) (uTup K 2 (uGc (gName 1) (uGc (gName 2) uGn))) (tIfS (tOr (tNot (uT K (uCall (sp_is_name K) [] W (tCons (uV 2) tNil)))) (uB (tOp (uIn K false) (uV 2) (tSl (uSl K) (uV 0) tNoPart (uPart (uV 1)))))) (uRaise W cInvalidTable ["word", "at"] (tCons (tC (.str "name")) (tCons (uV 1) tNil))) tNext)))
theorem find_range (p : Nat → Bool) {n i : Nat} (hi : i < n) (h : p i = true) (hb : ∀ j, j < i → p j = false) : (List.range n).find? p = some i := L2.find_range p hi h hb
theorem pure_check_kinds {K : PySem.W.Frag} {W : WX} {C : Addr} (vs : List V) (H : Hp) (Q : VK) (E : XK) (h : sp_check_kinds K C vs H Q E) : t_check_kinds K C (WF E) { nx := fun _ H' => Q .non H', rt := Q } (start ["kinds", "at", "kind"] vs) H := by
  obtain ⟨a, b, ks, G, rfl, sub, ha, hs, hl, k1, k2⟩ := h
  have line : sizeLine = 16777216 := sizeLine_eq
  refine ⟨_, ha.or, ?_⟩
  rw [List.length_map]
  have count : ¬ (0 < ks.length ∧ ks.length ≤ 12) → uRaise (WF E) C ["word", "at"] (tCons (tC (.str "count")) (tCons (tUn uNeg (tC (.int 1))) tNil)) { nx := fun _ H' => Q .non H', rt := Q } (start ["kinds", "at", "kind"] [.ref a]) H := fun hn => by
    refine ⟨rfl, fun d hd => ?_⟩
    refine k2 "count" (-1) (by unfold chkK; rw [if_neg hn]) d _ hd ((Grow.refl sub).av hd) upd_same
  refine iteD (fun h0 => ?_) fun h0 => ?_
  · refine iteN (fun h1 => ?_) fun h1 => ?_
    · exact count fun z => h1 (by omega)
    · have hn : (ks.map V.str).length = ks.length := List.length_map ..
      refine ⟨b, _, ha, ?_⟩
      refine for_it walk_eB (fun i σ H' => ∃ x1 x2, σ = [some (.ref a), x1, x2] ∧ Grow NoS G H G H' ∧ ∀ j, j < i → badK ks j = false) ⟨none, none, rfl, Grow.refl sub, fun j hj => absurd hj (Nat.not_lt_zero _)⟩
        (fun i σ H' _ ⟨_, _, _, g, _⟩ => sqB_grow g ha) ?_ ?_
      · rintro i x σ H1 H1' hi ⟨x1, x2, rfl, g, hb⟩ ⟨T, u, v, rfl, hT, rfl, hu, hv⟩
        cases hu
        obtain ⟨s, hks, rfl⟩ := mapV_at hv
        rw [hn] at hi
        have hsm : s ∈ ks := List.mem_of_getElem? hks
        have gT := g.av (o := .tup [.int (i : Nat), .str s]) hT
        refine ⟨_, .inl (.inl upd_same), rfl, ?_⟩
        have bad : badK ks i = (!isName s || decide (s ∈ ks.take i)) := by
          unfold badK
          rw [List.getD_eq_getElem?_getD, hks]
          rfl
        have raise : badK ks i = true → ∀ (D : Ends) H2, Grow NoS G H G H2 → uRaise (WF E) C ["word", "at"] (tCons (tC (.str "name")) (tCons (uV 1) tNil)) D [some (.ref a), some (.int (i : Nat)), some (.str s)] H2 := fun hbad D H2 g2 => by
          refine ⟨rfl, fun d hd => ?_⟩
          refine k2 "name" i ?_ d _ (g2.free hd) (g2.av hd) upd_same
          unfold chkK
          rw [if_pos ⟨by omega, by omega⟩, find_range _ hi hbad hb]
          rfl
        refine ⟨s, G, rfl, gT.sub, hs s hsm, fun H2 g2 => ?_⟩
        have g3 := gT.trans g2
        generalize upd H1 T (.tup [.int (i : Nat), .str s]) = H1T at *
        refine iteNB (fun hf => iteTt (raise (by rw [bad, hf]; rfl) _ _ g3)) fun ht => ?_
        refine uSl_B (sqB_grow g3 ha) fun l H3 one hsl => ?_
        have g4 := g3.one one
        have e : inV (.str s) (cutV (ks.map V.str) none (some ((i : Nat) : Int))) = decide (s ∈ ks.take i) := by rw [cut_to, ← List.map_take, inV_str]
        have fl : (cutV (ks.map V.str) none (some ((i : Nat) : Int))).all flatV = true := by rw [cut_to, ← List.map_take, flat_strs]
        refine ⟨_, hsl.or, rfl, fl, ?_⟩
        refine iteB (fun h => ?_) fun h => ?_
        · have h' : inV (.str s) (cutV (ks.map V.str) none (some ((i : Nat) : Int))) = true := h
          exact raise (by rw [bad, ht, ← e, h']; rfl) _ _ g4
        · have h' : inV (.str s) (cutV (ks.map V.str) none (some ((i : Nat) : Int))) = false := h
          refine ⟨_, _, rfl, g4, fun j hj => ?_⟩
          rcases Nat.lt_succ_iff_lt_or_eq.mp hj with h | h
          · exact hb j h
          · rw [h, bad, ht, ← e, h']; rfl
      · rintro σ H' ⟨x1, x2, rfl, g, hb⟩
        rw [hn] at hb
        refine k1 ?_ H' g
        unfold chkK
        rw [if_pos ⟨by omega, by omega⟩]
        have : (List.range ks.length).find? (badK ks) = none := by
          rw [List.find?_eq_none]
          intro i hi
          rw [hb i (List.mem_range.mp hi)]
          decide
        rw [this]
        rfl
  · refine iteNf ?_
    exact count fun z => h0 (by omega)
/-! ### the order of texts and pairs -/
theorem toks_txts : ∀ a b : List Str, PySem.W.keyToksAll (a.map .str) = PySem.W.keyToksAll (b.map .str) → a = b
  | [], [], _ => rfl
  | [], y :: b, h => by simp [PySem.W.keyToksAll] at h
  | x :: a, [], h => by simp [PySem.W.keyToksAll] at h
  | x :: a, y :: b, h => by
    simp only [List.map_cons, PySem.W.keyToksAll, PySem.W.keyToks, List.cons_append, List.nil_append, List.cons.injEq, Sum.inr.injEq, true_and] at h
    rw [toks_txts a b h.2]
    have : x = y := by
      obtain ⟨x⟩ := x
      obtain ⟨y⟩ := y
      have e := congrArg List.toArray h.1
      simpa using e
    rw [this]
open PySem.W (dataLe AllAlike Sortable)
/-- pairs, by Python's order of tuples -/
def leP (a b : List Str) : Bool := dataLe false id (dW a) (dW b)
theorem leP_anti {a b : List Str} (h1 : leP a b = true) (h2 : leP b a = true) : a = b := by
  have e1 : (listOrd itemOrd).blt (PySem.W.keyToks (dW b)) (PySem.W.keyToks (dW a)) = false := by simpa [leP, dataLe, PySem.W.sortLe] using h1
  have e2 : (listOrd itemOrd).blt (PySem.W.keyToks (dW a)) (PySem.W.keyToks (dW b)) = false := by simpa [leP, dataLe, PySem.W.sortLe] using h2
  have e := (listOrd itemOrd).total _ _ e2 e1
  refine toks_txts a b ?_
  have e' : PySem.W.keyToks (.tuple (a.map .str)) = PySem.W.keyToks (.tuple (b.map .str)) := e
  unfold PySem.W.keyToks at e'
  exact e'
theorem perm_eq {α : Type} {le : α → α → Bool} (anti : ∀ a b, le a b = true → le b a = true → a = b) : ∀ {l m : List α}, l.Pairwise (fun a b => le a b = true) → m.Pairwise (fun a b => le a b = true) → l.Perm m → l = m
  | [], m, _, _, p => (List.nil_perm.mp p).symm
  | a :: l, [], _, _, p => by
    have := p.length_eq
    simp at this
  | a :: l, b :: m, h1, h2, p => by
    have e : a = b := by
      have ha : a ∈ b :: m := p.mem_iff.mp List.mem_cons_self
      have hb : b ∈ a :: l := p.mem_iff.mpr List.mem_cons_self
      rcases List.mem_cons.mp ha with e | ha
      · exact e
      · rcases List.mem_cons.mp hb with e | hb
        · exact e.symm
        · exact anti a b ((List.pairwise_cons.mp h1).1 b hb) ((List.pairwise_cons.mp h2).1 a ha)
    subst e
    rw [perm_eq anti (List.pairwise_cons.mp h1).2 (List.pairwise_cons.mp h2).2 (List.Perm.cons_inv p)]
/-- each once -/
def nub {α : Type} [DecidableEq α] : List α → List α
  | [] => []
  | x :: xs => if x ∈ nub xs then nub xs else x :: nub xs
theorem mem_nub {α : Type} [DecidableEq α] {x : α} : ∀ {xs : List α}, x ∈ nub xs ↔ x ∈ xs
  | [] => by simp [nub]
  | y :: xs => by
    unfold nub
    split
    · rename_i h
      rw [mem_nub, List.mem_cons]
      constructor
      · exact Or.inr
      · rintro (e | h')
        · rw [e]; exact mem_nub.mp h
        · exact h'
    · rw [List.mem_cons, List.mem_cons, mem_nub]
theorem nodup_nub {α : Type} [DecidableEq α] : ∀ xs : List α, (nub xs).Nodup
  | [] => List.nodup_nil
  | y :: xs => by
    unfold nub
    split
    · exact nodup_nub xs
    · rename_i h
      exact List.nodup_cons.mpr ⟨h, nodup_nub xs⟩
theorem nodup_le {α : Type} [DecidableEq α] : ∀ (l D : List α), l.Nodup → (∀ x ∈ l, x ∈ D) → l.length ≤ D.length
  | [], _, _, _ => Nat.zero_le _
  | x :: l, D, hn, hs => by
    obtain ⟨h1, h2⟩ := List.nodup_cons.mp hn
    have hx : x ∈ D := hs x List.mem_cons_self
    have ih := nodup_le l (D.erase x) h2 fun y hy => (List.mem_erase_of_ne fun e : y = x => h1 (by rw [← e]; exact hy)).2 (hs y (List.mem_cons_of_mem _ hy))
    rw [List.length_erase_of_mem hx] at ih
    have hp : 0 < D.length := List.length_pos_of_mem hx
    rw [List.length_cons]
    omega
theorem perm_of_mem {α : Type} [DecidableEq α] {l m : List α} (h1 : l.Nodup) (h2 : m.Nodup) (h : ∀ x, x ∈ l ↔ x ∈ m) : l.Perm m := (List.perm_ext_iff_of_nodup h1 h2).mpr h
/-- two kinds, the lesser first -/
def pairS (a b : Str) : List Str := if a.cps.toList < b.cps.toList then [a, b] else [b, a]
theorem cps_inj {a b : Str} (h : a.cps.toList = b.cps.toList) : a = b := by
  obtain ⟨a⟩ := a
  obtain ⟨b⟩ := b
  have e := congrArg List.toArray h
  have e' : a = b := by simpa using e
  rw [e']
theorem pairS_comm {a b : Str} (h : a ≠ b) : pairS a b = pairS b a := by
  unfold pairS
  by_cases h1 : a.cps.toList < b.cps.toList
  · have h2 : ¬ b.cps.toList < a.cps.toList := fun z => List.lt_asymm h1 z
    rw [if_pos h1, if_neg h2]
  · by_cases h2 : b.cps.toList < a.cps.toList
    · rw [if_neg h1, if_pos h2]
    · exact absurd (cps_inj (List.le_antisymm (List.not_lt.mp h2) (List.not_lt.mp h1))) h
theorem pairS_ne (a b : Str) : pairS a b ≠ [] := by
  unfold pairS
  split <;> simp
def tri : Nat → Nat
  | 0 => 0
  | n + 1 => n + tri n
def half : List Str → List (List Str)
  | [] => []
  | a :: ks => ks.map (pairS a) ++ half ks
theorem half_len : ∀ ks : List Str, (half ks).length = tri ks.length
  | [] => rfl
  | a :: ks => by
    unfold half
    rw [List.length_append, List.length_map, half_len ks]
    rfl
theorem tri_mono : ∀ {m n : Nat}, m ≤ n → tri m ≤ tri n := by
  intro m n h
  induction n with
  | zero => rw [Nat.le_zero.mp h]; exact Nat.le_refl _
  | succ n ih =>
    rcases Nat.lt_succ_iff_lt_or_eq.mp (Nat.lt_succ_of_le h) with h | h
    · have := ih (by omega)
      show tri m ≤ n + tri n
      omega
    · rw [h]; exact Nat.le_refl _
theorem mem_half {a b : Str} (h : a ≠ b) : ∀ {ks : List Str}, a ∈ ks → b ∈ ks → pairS a b ∈ half ks
  | c :: ks, ha, hb => by
    unfold half
    rcases List.mem_cons.mp ha with ea | ha
    · rcases List.mem_cons.mp hb with eb | hb
      · exact absurd (ea.trans eb.symm) h
      · rw [ea]
        exact List.mem_append_left _ (List.mem_map.mpr ⟨b, hb, rfl⟩)
    · rcases List.mem_cons.mp hb with eb | hb
      · rw [pairS_comm h, eb]
        exact List.mem_append_left _ (List.mem_map.mpr ⟨a, ha, rfl⟩)
      · exact List.mem_append_right _ (mem_half h ha hb)
/-- ascending -/
def sortS (ks : List Str) : List Str := ks.mergeSort fun a b => decide (a.cps.toList ≤ b.cps.toList)
theorem sort_strs (ks : List Str) : (dSrt (ks.map V.str) (ks.map PyData.str)).map Prod.fst = (sortS ks).map V.str := by
  have e : (ks.map V.str).zip (ks.map PyData.str) = ks.map fun k => (V.str k, PyData.str k) := by
    induction ks with
    | nil => rfl
    | cons k ks ih => rw [List.map_cons, List.map_cons, List.zip_cons_cons, ih, List.map_cons]
  unfold dSrt sortS
  rw [e, ← PySem.W.sort_maps (r := fun a b : Str => decide (a.cps.toList ≤ b.cps.toList)) (fun k => (V.str k, PyData.str k)) fun a _ b _ => ?_, List.map_map]
  · rfl
  · have := congrFun (congrFun (PySem.W.dataLe_str (β := Str) fun k => k) a) b
    exact this.symm
/-- free pairs as a table keeps them -/
def pairsOf (ps : List (Str × Str)) : List (List Str) := (nub (ps.map fun p => pairS p.1 p.2)).mergeSort leP
theorem pairsOf_eq {ps : List (Str × Str)} {L : List (List Str)} (h1 : L.Nodup) (h2 : L.Pairwise fun a b => leP a b = true) (h3 : ∀ q, q ∈ L ↔ ∃ p ∈ ps, q = pairS p.1 p.2) : L = pairsOf ps := by
  have sp : (pairsOf ps).Pairwise fun a b => leP a b = true := by
    have e : leP = PySem.W.dataLe false dW := rfl
    unfold pairsOf
    rw [e]
    exact PySem.W.sort_pairwise (PySem.W.sortLe_total _ _ _) _
  refine perm_eq (fun a b => leP_anti) h2 sp ?_
  refine (perm_of_mem h1 (nodup_nub _) fun q => ?_).trans (List.mergeSort_perm _ _).symm
  rw [h3, mem_nub, List.mem_map]
  constructor
  · rintro ⟨p, hp, e⟩; exact ⟨p, hp, e.symm⟩
  · rintro ⟨p, hp, e⟩; exact ⟨p, hp, e.symm⟩
/-! ### in_pair -/
def sp_in_pair (K : PySem.W.Frag) : Sp := fun vs H Q _ => ∃ a b : Str, vs = [.str a, .str b] ∧ ∀ t, H t = none → Q (.ref t) (upd H t (.tup ((pairS a b).map V.str)))
/-! in_pair: 0=one 1=other -/
def t_in_pair (K : PySem.W.Frag) (W : WX) : TS :=
  (tRet (tIf (uB (tOp uLt (uV 0) (uV 1))) (tTup (tCons (uV 0) (tCons (uV 1) tNil))) (tTup (tCons (uV 1) (tCons (uV 0) tNil)))))
theorem pure_in_pair {K : PySem.W.Frag} {W : WX} (vs : List V) (H : Hp) (Q : VK) (E : XK) (h : sp_in_pair K vs H Q E) : t_in_pair K W { nx := fun _ H' => Q .non H', rt := Q } (start ["one", "other"] vs) H := by
  obtain ⟨a, b, rfl, k⟩ := h
  refine iteD (fun h0 => ?_) fun h0 => ?_
  · refine ⟨Nat.le_of_ble_eq_true rfl, fun t ht => ?_⟩
    have := k t ht
    unfold pairS at this
    rw [if_pos h0] at this
    exact this
  · refine ⟨Nat.le_of_ble_eq_true rfl, fun t ht => ?_⟩
    have := k t ht
    unfold pairS at this
    rw [if_neg h0] at this
    exact this
/-! ### Table -/
/-- the first pair that cannot stand -/
def badP (ks : List Str) (p : Str × Str) : Bool := !decide (p.1 ∈ ks) || (!decide (p.2 ∈ ks) || decide (p.1 = p.2))
def chkT (ks : List Str) (ps : List (Str × Str)) : Option (Str × Int) := match chkK ks with
  | some e => some e
  | none => ((List.range ps.length).find? fun i => badP ks (ps.getD i ("", ""))).map fun i => ("pair", (i : Int))
/-- the kinds that are not free with s -/
def linksS (ks : List Str) (ps : List (List Str)) (s : Str) : List Str := ks.filter fun o => !decide (pairS s o ∈ ps)
/-- pairs as tuples, at these addresses -/
def PairsAt (K : PySem.W.Frag) (H : Hp) (as : List Addr) (qs : List (List Str)) : Prop := as.length = qs.length ∧ ∀ (i : Nat) a q, as[i]? = some a → qs[i]? = some q → SqT K H a (q.map V.str)
/-- a table, at x -/
structure TabAt (K : PySem.W.Frag) (C : Addr) (G : Hp) (x : Addr) (ks : List Str) (ps : List (List Str)) : Prop where
  ex : ∃ (dx k p l : Addr) (as : List Addr) (kvs : List (Key × V)), G x = some (.ins C dx [("kinds", .ref k), ("pairs", .ref p), ("linked", .ref l)]) ∧ SqT K G k (ks.map V.str) ∧ SqT K G p (as.map V.ref) ∧ PairsAt K G as ps ∧ G l = some (.dK kvs) ∧
    ∀ s ∈ ks, ∃ t, valV kvs (.inr s) = some (.ref t) ∧ SqT K G t ((linksS ks ps s).map V.str)
/-- the pairs that were given -/
abbrev raw (p : Str × Str) : List Str := [p.1, p.2]
def sp_Table (K : PySem.W.Frag) (C CI : Addr) : Sp := fun vs H Q E => ∃ (x dx k p : Addr) (bk bp : Bool) (ks : List Str) (as : List Addr) (ps : List (Str × Str)) (G H0 : Hp),
  vs = [.ref x, .ref k, .ref p] ∧ H = upd (upd H0 dx (.own x)) x (.ins C dx []) ∧ H0 x = none ∧ H0 dx = none ∧ dx ≠ x ∧ Same G H0 ∧ SqB K bk H0 k (ks.map V.str) ∧ (∀ s ∈ ks, s.length ≤ 1000) ∧ ks.length ≤ 1000 ∧
  SqB K bp H0 p (as.map V.ref) ∧ PairsAt K H0 as (ps.map raw) ∧ as.length ≤ 10000 ∧
  (chkT ks ps = none → ∀ G' H', Grow NoS G H0 G' H' → TabAt K C G' x (sortS ks) (pairsOf ps) → Q .non H') ∧
  ∀ w i, chkT ks ps = some (w, i) → ∀ d H', H0 d = none → Grow NoS G H0 G H' → H' d = some (xdT w i) → E (.ref CI) (some d) H'
/-! Table.__init__: 0=self 1=kinds 2=pairs 3=found 4=at 5=pair 6=one 7=other 8=kind -/
def t_Table (K : PySem.W.Frag) (P : Program) (w : World) (cInvalidTable : Addr) (W : WX) : TS :=
  (tSeq (tDrop (uCall (sp_check_kinds K cInvalidTable) [] W (tCons (uV 1) tNil))) (tSeq (tAsg (tCB (uSet0 P w) tNil) (gName 3)) (tSeq (tFor (uiEnum K (uV 2)) (uTup K 2 (uGc (gName 4) (uGc (gName 5) uGn))) (tSeq (tAsg (uV 5) (uTup K 2 (uGc (gName 6) (uGc (gName 7) uGn)))) (tSeq (tIfS (tOr (uB (tOp (uIn K true) (uV 6) (uV 1))) (tOr (uB (tOp (uIn K true) (uV 7) (uV 1))) (uB (tOp (uEq K) (uV 6) (uV 7))))) (uRaise W cInvalidTable ["word", "at"] (tCons (tC (.str "pair")) (tCons (uV 4) tNil))) tNext) (tDrop (uSAdd K P w (uV 3) (tCons (uCall (sp_in_pair K) [] W (tCons (uV 6) (tCons (uV 7) tNil))) tNil)))))) (tSeq (uSetF K "kinds" (uV 0) (tCB (uTuple K) (tCons (tCB (uSorted K) (tCons (uV 1) tNil)) tNil))) (tSeq (uSetF K "pairs" (uV 0) (tCB (uTuple K) (tCons (tCB (uSortedW K P w) (tCons (uV 3) tNil)) tNil))) (tSeq (uSetF K "linked" (uV 0) tDNewK) (tFor (uiSeq K (uFld K "kinds" (uV 0))) (gName 8) (uDput (uFld K "linked" (uV 0)) (uV 8) (tCB (uTuple K) (tCons (tLc (uiSeq K (uFld K "kinds" (uV 0))) (gName 7) (uB (tOp (uSIn K P w true) (uCall (sp_in_pair K) [] W0 (tCons (uV 8) (tCons (uV 7) tNil))) (uV 3))) (uV 7) [7]) tNil))))))))))
theorem sqT_upd {K : PySem.W.Frag} {H : Hp} {F b : Addr} {o o' : HO} {ys : List V} (hF : H F = some o') (nt : ∀ xs, o' ≠ .tup xs) (nf : ∀ ob u, o' ≠ .frz ob u) (h : SqT K H b ys) : SqT K (upd H F o) b ys := by
  rcases h with (h | ⟨ob, h⟩) | h
  · exact .inl (.inl (by rw [upd_ne fun z => by rw [z, hF] at h; exact nt _ (Option.some.inj h)]; exact h))
  · exact .inl (.inr ⟨ob, by rw [upd_ne fun z => by rw [z, hF] at h; exact nf _ _ (Option.some.inj h)]; exact h⟩)
  · exact .inr h
theorem setW_tup {P : Program} {w : World} {F : Addr} {L : List (Addr × List Str)} (xs : List V) : SetWO P w F L ≠ .tup xs := fun z => by
  have z' : HO.ext _ = HO.tup xs := z
  cases z'
theorem setW_frz {P : Program} {w : World} {F : Addr} {L : List (Addr × List Str)} (ob : Obj) (u : HO) : SetWO P w F L ≠ .frz ob u := fun z => by
  have z' : HO.ext _ = HO.frz ob u := z
  cases z'
theorem setW_ins {P : Program} {w : World} {F : Addr} {L : List (Addr × List Str)} {C dx : Addr} {fs : List (Str × V)} : SetWO P w F L ≠ .ins C dx fs := fun z => by
  have z' : HO.ext _ = HO.ins C dx fs := z
  cases z'
theorem same_upd {G : Hp} {t : Addr} {o : HO} (h : G t = none) : Same G (upd G t o) := fun b u e => by rw [upd_ne (ne_of_none e h)]; exact e
theorem chkK_len {ks : List Str} (h : chkK ks = none) : ks.length ≤ 12 := by
  unfold chkK at h
  split at h
  · rename_i c; exact c.2
  · cases h
theorem raw_at {K : PySem.W.Frag} {H : Hp} {as : List Addr} {ps : List (Str × Str)} (h : PairsAt K H as (ps.map raw)) {i : Nat} {a : Addr} (ha : as[i]? = some a) : ∃ q, ps[i]? = some q ∧ SqT K H a [.str q.1, .str q.2] := by
  have hi : i < ps.length := by
    have h1 := (List.getElem?_eq_some_iff.mp ha).1
    have h2 := h.1
    rw [List.length_map] at h2
    omega
  refine ⟨ps[i], List.getElem?_eq_getElem hi, ?_⟩
  have := h.2 i a (raw ps[i]) ha (by rw [List.getElem?_map, List.getElem?_eq_getElem hi]; rfl)
  exact this
theorem badP_no {ks : List Str} {p : Str × Str} (h : badP ks p = false) : p.1 ∈ ks ∧ p.2 ∈ ks ∧ p.1 ≠ p.2 := by
  unfold badP at h
  simpa using h
/-- what the loop over the pairs has put in -/
structure Put (K : PySem.W.Frag) (ks : List Str) (ps : List (Str × Str)) (i : Nat) (H : Hp) (L : List (Addr × List Str)) : Prop where
  at_ : ∀ q ∈ L, SqT K H q.1 (q.2.map V.str)
  nd : (L.map (·.2)).Nodup
  mem : ∀ q, q ∈ L.map (·.2) ↔ ∃ j pr, j < i ∧ ps[j]? = some pr ∧ q = pairS pr.1 pr.2
  ok : ∀ j pr, j < i → ps[j]? = some pr → badP ks pr = false
theorem Put.zero {K : PySem.W.Frag} {ks : List Str} {ps : List (Str × Str)} {H : Hp} : Put K ks ps 0 H [] where
  at_ := fun q hq => (by cases hq)
  nd := List.nodup_nil
  mem := fun q => ⟨fun z => (by cases z), fun ⟨j, pr, hj, _⟩ => absurd hj (Nat.not_lt_zero _)⟩
  ok := fun j pr hj => absurd hj (Nat.not_lt_zero _)
theorem Put.step {K : PySem.W.Frag} {ks : List Str} {ps : List (Str × Str)} {i : Nat} {H H' : Hp} {L L' : List (Addr × List Str)} {t : Addr} {q : Str × Str} (h : Put K ks ps i H L) (hq : ps[i]? = some q) (ok : badP ks q = false)
    (hat : ∀ r ∈ (t, pairS q.1 q.2) :: L, SqT K H' r.1 (r.2.map V.str)) (e1 : pairS q.1 q.2 ∈ L.map (·.2) → L' = L) (e2 : pairS q.1 q.2 ∉ L.map (·.2) → L'.Perm ((t, pairS q.1 q.2) :: L)) : Put K ks ps (i + 1) H' L' := by
  have okk : ∀ j pr, j < i + 1 → ps[j]? = some pr → badP ks pr = false := fun j pr hj hp => by
    rcases Nat.lt_succ_iff_lt_or_eq.mp hj with hj | hj
    · exact h.ok j pr hj hp
    · rw [hj, hq] at hp
      rw [← Option.some.inj hp]
      exact ok
  have key : ∀ r, (r = pairS q.1 q.2 ∨ r ∈ L.map (·.2)) ↔ ∃ j pr, j < i + 1 ∧ ps[j]? = some pr ∧ r = pairS pr.1 pr.2 := fun r => by
    constructor
    · rintro (e | hm)
      · exact ⟨i, q, Nat.lt_succ_self i, hq, e⟩
      · obtain ⟨j, pr, hj, hp, e⟩ := (h.mem r).mp hm
        exact ⟨j, pr, Nat.lt_succ_of_lt hj, hp, e⟩
    · rintro ⟨j, pr, hj, hp, e⟩
      rcases Nat.lt_succ_iff_lt_or_eq.mp hj with hj | hj
      · exact .inr ((h.mem r).mpr ⟨j, pr, hj, hp, e⟩)
      · rw [hj, hq] at hp
        rw [← Option.some.inj hp] at e
        exact .inl e
  by_cases hm : pairS q.1 q.2 ∈ L.map (·.2)
  · rw [e1 hm]
    refine ⟨fun r hr => hat r (List.mem_cons_of_mem _ hr), h.nd, fun r => ?_, okk⟩
    rw [← key r]
    exact ⟨Or.inr, fun z => z.elim (fun e => by rw [e]; exact hm) id⟩
  · have p := e2 hm
    refine ⟨fun r hr => hat r (p.mem_iff.mp hr), ?_, fun r => ?_, okk⟩
    · exact (p.map (·.2)).nodup_iff.mpr (List.nodup_cons.mpr ⟨hm, h.nd⟩)
    · rw [← key r, (p.map (·.2)).mem_iff, List.map_cons, List.mem_cons]
theorem Put.len {K : PySem.W.Frag} {ks : List Str} {ps : List (Str × Str)} {i : Nat} {H : Hp} {L : List (Addr × List Str)} (h : Put K ks ps i H L) (hk : ks.length ≤ 12) : L.length ≤ 66 := by
  have h1 := nodup_le (L.map (·.2)) (half ks) h.nd fun q hq => by
    obtain ⟨j, pr, hj, hp, rfl⟩ := (h.mem q).mp hq
    obtain ⟨a, b, c⟩ := badP_no (h.ok j pr hj hp)
    exact mem_half c a b
  rw [List.length_map, half_len] at h1
  have h2 : tri ks.length ≤ tri 12 := tri_mono hk
  have h3 : tri 12 = 66 := by decide
  omega
theorem pure_Table {K : PySem.W.Frag} {P : Program} {w : World} {C CI : Addr} (cl : Cls K C) (nk : NoAttr K C "kinds") (np : NoAttr K C "pairs") (nl : NoAttr K C "linked") (vs : List V) (H : Hp) (Q : VK) (E : XK) (h : sp_Table K C CI vs H Q E) :
    t_Table K P w CI (WF E) { nx := fun _ H' => Q .non H', rt := Q } (start ["self", "kinds", "pairs", "found", "at", "pair", "one", "other", "kind"] vs) H := by
  obtain ⟨x, dx, k, p, bk, bp, ks, as, ps, G, H0, rfl, rfl, hx, hdx, hne, sub, hk, hks, hkl, hp, hps, hpl, kq, ke⟩ := h
  have line : sizeLine = 16777216 := sizeLine_eq
  have g1 := ((Grow.refl (S := NoS) sub).av (o := .own x) hdx).av (p := x) (o := .ins C dx []) (by rw [upd_ne (Ne.symm hne)]; exact hx)
  have x1 : upd (upd H0 dx (.own x)) x (.ins C dx []) x = some (.ins C dx []) := upd_same
  generalize upd (upd H0 dx (.own x)) x (.ins C dx []) = H1 at g1 x1 ⊢
  -- the kinds
  refine ⟨k, bk, ks, G, rfl, g1.sub, sqB_grow g1 hk, hks, hkl, fun hn H2 g2 => ?_, fun y i hy d H2 hd g2 hv => ?_⟩
  · have hk12 := chkK_len hn
    refine ⟨rfl, fun F hF => ?_⟩
    have g3 := (g1.trans g2).av (o := SetWO P w F []) hF
    have x2 : H2 x = some (.ins C dx []) := g2.keep _ _ (fun z => z) x1
    have x3 : upd H2 F (SetWO P w F []) x = some (.ins C dx []) := by rw [upd_ne (ne_of_none x2 hF)]; exact x2
    have f3 : upd H2 F (SetWO P w F []) F = some (SetWO P w F []) := upd_same
    have hFn : H0 F = none := (g1.trans g2).free hF
    generalize upd H2 F (SetWO P w F []) = H3 at g3 x3 f3 ⊢
    have hap : (as.map V.ref).length = ps.length := by rw [List.length_map, hps.1, List.length_map]
    refine ⟨bp, _, sqB_grow g3 hp, ?_⟩
    refine for_it walk_eB (fun i σ H' => ∃ x4 x5 x6 x7 L Gi, σ = [some (.ref x), some (.ref k), some (.ref p), some (.ref F), x4, x5, x6, x7, none] ∧ Grow NoS G H0 Gi H' ∧ Gi x = none ∧ Gi F = none ∧ H' x = some (.ins C dx []) ∧ H' F = some (SetWO P w F L) ∧ Put K ks ps i Gi L)
      ⟨none, none, none, none, [], G, rfl, g3, sub_none sub hx, sub_none sub hFn, x3, f3, Put.zero⟩
      (fun i σ H' _ ⟨_, _, _, _, _, _, _, g, _⟩ => sqB_grow g hp) ?_ ?_
    · rintro i v σ Ha Hb hi ⟨x4, x5, x6, x7, L, Gi, rfl, g, gx, gF, xa, fa, put⟩ ⟨T, u, v', rfl, hT, rfl, hu, hv⟩
      cases hu
      obtain ⟨a, ha, rfl⟩ := mapV_at hv
      obtain ⟨q, hq, hqT⟩ := raw_at hps ha
      rw [hap] at hi
      have gT := g.av (o := .tup [.int (i : Nat), .ref a]) hT
      have xb : upd Ha T (.tup [.int (i : Nat), .ref a]) x = some (.ins C dx []) := by rw [upd_ne (ne_of_none xa hT)]; exact xa
      have fb : upd Ha T (.tup [.int (i : Nat), .ref a]) F = some (SetWO P w F L) := by rw [upd_ne (ne_of_none fa hT)]; exact fa
      have pb : ∀ r ∈ L, SqT K (upd Ha T (.tup [.int (i : Nat), .ref a])) r.1 (r.2.map V.str) := fun r hr => sqT_same gT.sub (put.at_ r hr)
      have qb : SqT K (upd Ha T (.tup [.int (i : Nat), .ref a])) a [.str q.1, .str q.2] := sqT_keep (fun o e => gT.keep _ _ (fun z => z) e) hqT
      have Tb : SqT K (upd Ha T (.tup [.int (i : Nat), .ref a])) T [.int (i : Nat), .ref a] := .inl (.inl upd_same)
      generalize upd Ha T (.tup [.int (i : Nat), .ref a]) = Hb at gT xb fb pb qb Tb ⊢
      refine ⟨_, Tb, rfl, _, qb, rfl, ?_⟩
      have kb := sqB_grow gT hk
      have i1 : inV (.str q.1) (ks.map V.str) = decide (q.1 ∈ ks) := inV_str _ _
      have i2 : inV (.str q.2) (ks.map V.str) = decide (q.2 ∈ ks) := inV_str _ _
      have raise : badP ks q = true → ∀ D : Ends, uRaise (WF E) CI ["word", "at"] (tCons (tC (.str "pair")) (tCons (uV 4) tNil)) D [some (.ref x), some (.ref k), some (.ref p), some (.ref F), some (.int (i : Nat)), some (.ref a), some (.str q.1), some (.str q.2), none] Hb := fun hbad D => by
        refine ⟨rfl, fun d hd => ?_⟩
        refine ke "pair" i ?_ d _ (gT.free hd) (gT.av hd).closeG upd_same
        unfold chkT
        rw [hn]
        have e : (List.range ps.length).find? (fun i => badP ks (ps.getD i ("", ""))) = some i := by
          refine find_range _ hi (by rw [List.getD_eq_getElem?_getD, hq]; exact hbad) fun j hj => ?_
          have hjl : j < ps.length := by omega
          have hjs := List.getElem?_eq_getElem hjl
          rw [List.getD_eq_getElem?_getD, hjs]
          exact put.ok j _ hj hjs
        show (((List.range ps.length).find? fun i => badP ks (ps.getD i ("", ""))).map fun i => (("pair" : Str), (i : Int))) = _
        rw [e]
        rfl
      refine ⟨_, kb.or, rfl, flat_strs ks, ?_⟩
      refine iteB (fun h => ?_) fun h => ?_
      · have h' : (!inV (.str q.1) (ks.map V.str)) = true := h
        refine iteTt (raise ?_ _)
        rw [i1] at h'
        unfold badP
        rw [h']
        rfl
      have h1 : (!inV (.str q.1) (ks.map V.str)) = false := h
      rw [i1] at h1
      refine ⟨_, kb.or, rfl, flat_strs ks, ?_⟩
      refine iteB (fun h => ?_) fun h => ?_
      · have h' : (!inV (.str q.2) (ks.map V.str)) = true := h
        refine iteTt (raise ?_ _)
        rw [i2] at h'
        unfold badP
        rw [h1, h']
        rfl
      have h2 : (!inV (.str q.2) (ks.map V.str)) = false := h
      rw [i2] at h2
      refine iteD (fun h => ?_) fun h => ?_
      · refine raise ?_ _
        unfold badP
        rw [h1, h2, decide_eq_true h]
        rfl
      have ok : badP ks q = false := by
        unfold badP
        rw [h1, h2, decide_eq_false h]
        rfl
      -- the pair is put in
      refine ⟨L, fb, _, _, rfl, fun t ht => ?_⟩
      have Ft : F ≠ t := ne_of_none fb ht
      have gt := gT.al (o := .tup ((pairS q.1 q.2).map V.str)) ht
      have xt : upd Hb t (.tup ((pairS q.1 q.2).map V.str)) x = some (.ins C dx []) := by rw [upd_ne (ne_of_none xb ht)]; exact xb
      have ft : upd Hb t (.tup ((pairS q.1 q.2).map V.str)) F = some (SetWO P w F L) := by rw [upd_ne Ft]; exact fb
      have pt : ∀ r ∈ L, SqT K (upd Hb t (.tup ((pairS q.1 q.2).map V.str))) r.1 (r.2.map V.str) := fun r hr => sqT_keep (fun o e => by rw [upd_ne (ne_of_none e ht)]; exact e) (pb r hr)
      have tt : SqT K (upd Hb t (.tup ((pairS q.1 q.2).map V.str))) t ((pairS q.1 q.2).map V.str) := .inl (.inl upd_same)
      generalize upd Hb t (.tup ((pairS q.1 q.2).map V.str)) = Hc at gt xt ft pt tt ⊢
      have hL := put.len hk12
      refine ⟨ft, t, pairS q.1 q.2, rfl, tt, pt, by omega, fun L' e1 e2 => ?_⟩
      have xF : x ≠ F := fun z => by
        rw [z, ft] at xt
        cases xt
      have xtn : x ≠ t := ne_of_none xb ht
      refine ⟨_, _, _, _, L', _, rfl, gt.wr (by rw [upd_ne Ft]; exact gF) (.inl hFn), by rw [upd_ne xtn]; exact gx, by rw [upd_ne Ft]; exact gF, by rw [upd_ne xF]; exact xt, upd_same, put.step hq ok (fun r hr => ?_) e1 e2⟩
      rcases List.mem_cons.mp hr with e | hr
      · rw [e]; exact .inl (.inl upd_same)
      · exact sqT_keep (fun o e => by rw [upd_ne (ne_of_none (gT.sub _ _ e) ht)]; exact e) (put.at_ r hr)
    · rintro σ Ha ⟨x4, x5, x6, x7, L, Gi, rfl, g, gx, gF, xa, fa, put⟩
      rw [hap] at put
      have hL := put.len hk12
      have xF : x ≠ F := fun z => by
        rw [z, fa] at xa
        cases xa
      have fine : chkT ks ps = none := by
        unfold chkT
        rw [hn]
        have e : (List.range ps.length).find? (fun i => badP ks (ps.getD i ("", ""))) = none := by
          rw [List.find?_eq_none]
          intro j hj
          have hjl := List.mem_range.mp hj
          have hjs := List.getElem?_eq_getElem hjl
          rw [List.getD_eq_getElem?_getD, hjs]
          have := put.ok j _ hjl hjs
          simp only [Option.getD_some]
          rw [this]
          decide
        show (((List.range ps.length).find? fun i => badP ks (ps.getD i ("", ""))).map fun i => (("pair" : Str), (i : Int))) = _
        rw [e]
        rfl
      -- self.kinds
      refine ⟨ks.map V.str, ks.map PyData.str, (sqB_grow g hk).or, dpA_strs ks, .of fun b b' => by simp [PySem.W.alike], .others fun b => ⟨by simp, fun xs => by simp⟩, fun d hd => ?_, fun s1 hs1 => ?_⟩
      · obtain ⟨b, _, rfl⟩ := List.mem_map.mp hd
        simp [PyData.depth]
      rw [sort_strs]
      have ga := g.av (o := .lst ((sortS ks).map V.str)) hs1
      have xb : upd Ha s1 (.lst ((sortS ks).map V.str)) x = some (.ins C dx []) := by rw [upd_ne (ne_of_none xa hs1)]; exact xa
      have fb : upd Ha s1 (.lst ((sortS ks).map V.str)) F = some (SetWO P w F L) := by rw [upd_ne (ne_of_none fa hs1)]; exact fa
      have s1b : upd Ha s1 (.lst ((sortS ks).map V.str)) s1 = some (.lst ((sortS ks).map V.str)) := upd_same
      generalize upd Ha s1 (.lst ((sortS ks).map V.str)) = Hb at ga xb fb s1b ⊢
      refine ⟨_, .inl ⟨SqL.of s1b, fun kT hkT => ?_⟩⟩
      have xk : x ≠ kT := ne_of_none xb hkT
      have Fk : F ≠ kT := ne_of_none fb hkT
      have gb := ga.al (o := .tup ((sortS ks).map V.str)) hkT
      have xc : upd Hb kT (.tup ((sortS ks).map V.str)) x = some (.ins C dx []) := by rw [upd_ne xk]; exact xb
      have fc : upd Hb kT (.tup ((sortS ks).map V.str)) F = some (SetWO P w F L) := by rw [upd_ne Fk]; exact fb
      have gx1 : upd Gi kT (.tup ((sortS ks).map V.str)) x = none := by rw [upd_ne xk]; exact gx
      have gF1 : upd Gi kT (.tup ((sortS ks).map V.str)) F = none := by rw [upd_ne Fk]; exact gF
      have kG : SqT K (upd Gi kT (.tup ((sortS ks).map V.str))) kT ((sortS ks).map V.str) := .inl (.inl upd_same)
      have pG : ∀ r ∈ L, SqT K (upd Gi kT (.tup ((sortS ks).map V.str))) r.1 (r.2.map V.str) := fun r hr => sqT_keep (fun o e => by rw [upd_ne (ne_of_none (ga.sub _ _ e) hkT)]; exact e) (put.at_ r hr)
      generalize upd Hb kT (.tup ((sortS ks).map V.str)) = Hc at gb xc fc ⊢
      generalize upd Gi kT (.tup ((sortS ks).map V.str)) = Gc at gb gx1 gF1 kG pG ⊢
      refine ⟨C, dx, [], xc, cl, nk, by show 0 < 1000; decide, ?_⟩
      have gd := gb.wr (o := .ins C dx (putF "kinds" (.ref kT) [])) gx1 (.inl hx)
      have xd : upd Hc x (.ins C dx (putF "kinds" (.ref kT) [])) x = some (.ins C dx [("kinds", .ref kT)]) := upd_same
      have fd : upd Hc x (.ins C dx (putF "kinds" (.ref kT) [])) F = some (SetWO P w F L) := by rw [upd_ne (Ne.symm xF)]; exact fc
      generalize upd Hc x (.ins C dx (putF "kinds" (.ref kT) [])) = Hd at gd xd fd ⊢
      -- self.pairs
      have ne : ∀ r ∈ L, r.2 ≠ [] := fun r hr => by
        obtain ⟨j, pr, _, _, e⟩ := (put.mem r.2).mp (List.mem_map.mpr ⟨r, hr, rfl⟩)
        rw [e]
        exact pairS_ne _ _
      refine ⟨L, fd, fun r hr => ⟨sqT_same gd.sub (pG r hr), ne r hr⟩, fun L' s2 pm pw hs2 => ?_⟩
      have ge := gd.av (o := .lst (L'.map fun q => V.ref q.1)) hs2
      have xe : upd Hd s2 (.lst (L'.map fun q => V.ref q.1)) x = some (.ins C dx [("kinds", .ref kT)]) := by rw [upd_ne (ne_of_none xd hs2)]; exact xd
      have fe : upd Hd s2 (.lst (L'.map fun q => V.ref q.1)) F = some (SetWO P w F L) := by rw [upd_ne (ne_of_none fd hs2)]; exact fd
      have s2e : upd Hd s2 (.lst (L'.map fun q => V.ref q.1)) s2 = some (.lst (L'.map fun q => V.ref q.1)) := upd_same
      generalize upd Hd s2 (.lst (L'.map fun q => V.ref q.1)) = He at ge xe fe s2e ⊢
      refine ⟨_, .inl ⟨SqL.of s2e, fun pT hpT => ?_⟩⟩
      have xp : x ≠ pT := ne_of_none xe hpT
      have Fp : F ≠ pT := ne_of_none fe hpT
      have gf := ge.al (o := .tup (L'.map fun q => V.ref q.1)) hpT
      have xf : upd He pT (.tup (L'.map fun q => V.ref q.1)) x = some (.ins C dx [("kinds", .ref kT)]) := by rw [upd_ne xp]; exact xe
      have ff : upd He pT (.tup (L'.map fun q => V.ref q.1)) F = some (SetWO P w F L) := by rw [upd_ne Fp]; exact fe
      have gx2 : upd Gc pT (.tup (L'.map fun q => V.ref q.1)) x = none := by rw [upd_ne xp]; exact gx1
      have keepG : ∀ {b : Addr} {ys : List V}, SqT K Gc b ys → SqT K (upd Gc pT (.tup (L'.map fun q => V.ref q.1))) b ys := fun {b ys} z => sqT_keep (fun o e => by rw [upd_ne (ne_of_none (ge.sub _ _ e) hpT)]; exact e) z
      have kG2 := keepG kG
      have pG2 : ∀ r ∈ L, SqT K (upd Gc pT (.tup (L'.map fun q => V.ref q.1))) r.1 (r.2.map V.str) := fun r hr => keepG (pG r hr)
      have pTG : SqT K (upd Gc pT (.tup (L'.map fun q => V.ref q.1))) pT (L'.map fun q => V.ref q.1) := .inl (.inl upd_same)
      generalize upd He pT (.tup (L'.map fun q => V.ref q.1)) = Hf at gf xf ff ⊢
      generalize upd Gc pT (.tup (L'.map fun q => V.ref q.1)) = Gf at gf gx2 kG2 pG2 pTG ⊢
      refine ⟨C, dx, _, xf, cl, np, by show 1 < 1000; decide, ?_⟩
      have gg := gf.wr (o := .ins C dx (putF "pairs" (.ref pT) [("kinds", .ref kT)])) gx2 (.inl hx)
      have xg : upd Hf x (.ins C dx (putF "pairs" (.ref pT) [("kinds", .ref kT)])) x = some (.ins C dx [("kinds", .ref kT), ("pairs", .ref pT)]) := upd_same
      have fg : upd Hf x (.ins C dx (putF "pairs" (.ref pT) [("kinds", .ref kT)])) F = some (SetWO P w F L) := by rw [upd_ne (Ne.symm xF)]; exact ff
      generalize upd Hf x (.ins C dx (putF "pairs" (.ref pT) [("kinds", .ref kT)])) = Hg at gg xg fg ⊢
      -- self.linked
      refine fun l hl => ?_
      have xl : x ≠ l := ne_of_none xg hl
      have Fl : F ≠ l := ne_of_none fg hl
      have gh := gg.av (o := .dK []) hl
      have xh : upd Hg l (.dK []) x = some (.ins C dx [("kinds", .ref kT), ("pairs", .ref pT)]) := by rw [upd_ne xl]; exact xg
      have fh : upd Hg l (.dK []) F = some (SetWO P w F L) := by rw [upd_ne Fl]; exact fg
      have lh : upd Hg l (.dK []) l = some (.dK []) := upd_same
      have hl0 : H0 l = none := gg.free hl
      have gl : Gf l = none := sub_none gg.sub hl
      generalize upd Hg l (.dK []) = Hh at gh xh fh lh ⊢
      refine ⟨C, dx, _, xh, cl, nl, by show 2 < 1000; decide, ?_⟩
      have gi := gh.wr (o := .ins C dx (putF "linked" (.ref l) [("kinds", .ref kT), ("pairs", .ref pT)])) gx2 (.inl hx)
      have xi : upd Hh x (.ins C dx (putF "linked" (.ref l) [("kinds", .ref kT), ("pairs", .ref pT)])) x = some (.ins C dx [("kinds", .ref kT), ("pairs", .ref pT), ("linked", .ref l)]) := upd_same
      have fi : upd Hh x (.ins C dx (putF "linked" (.ref l) [("kinds", .ref kT), ("pairs", .ref pT)])) F = some (SetWO P w F L) := by rw [upd_ne (Ne.symm xF)]; exact fh
      have li : upd Hh x (.ins C dx (putF "linked" (.ref l) [("kinds", .ref kT), ("pairs", .ref pT)])) l = some (.dK []) := by rw [upd_ne (Ne.symm xl)]; exact lh
      generalize upd Hh x (.ins C dx (putF "linked" (.ref l) [("kinds", .ref kT), ("pairs", .ref pT)])) = Hi at gi xi fi li ⊢
      have eL : L'.map (·.2) = pairsOf ps := by
        refine pairsOf_eq ((pm.map (·.2)).nodup_iff.mpr put.nd) ?_ fun q => ?_
        · exact List.pairwise_map.mpr pw
        · rw [(pm.map (·.2)).mem_iff, put.mem]
          constructor
          · rintro ⟨j, pr, hj, hp, e⟩; exact ⟨pr, List.mem_of_getElem? hp, e⟩
          · rintro ⟨pr, hp, e⟩
            obtain ⟨j, hj, he⟩ := List.getElem_of_mem hp
            exact ⟨j, pr, hj, by rw [List.getElem?_eq_getElem hj, he], e⟩
      have memL : ∀ q, decide (q ∈ L.map (·.2)) = decide (q ∈ pairsOf ps) := fun q => by
        rw [← eL]
        exact decide_eq_decide.mpr (pm.map (·.2)).mem_iff.symm
      have xkT : Hi kT = some (.tup ((sortS ks).map V.str)) ∨ True := .inr trivial
      have slen : (sortS ks).length = ks.length := List.length_mergeSort ..
      have mlen : ((sortS ks).map V.str).length = ks.length := by rw [List.length_map, slen]
      refine ⟨C, dx, _, .ref kT, xi, cl, nk, rfl, false, _, sqT_same gi.sub kG2, ?_⟩
      refine for_it walk_B (fun i σ H' => ∃ x7 x8 kvs Gj, σ = [some (.ref x), some (.ref k), some (.ref p), some (.ref F), x4, x5, x6, x7, x8] ∧ Grow NoS G H0 Gj H' ∧ Same Gf Gj ∧ Gj x = none ∧ Gj l = none ∧
          H' x = some (.ins C dx [("kinds", .ref kT), ("pairs", .ref pT), ("linked", .ref l)]) ∧ H' F = some (SetWO P w F L) ∧ H' l = some (.dK kvs) ∧ kvs.length ≤ i ∧
          ∀ j s, j < i → (sortS ks)[j]? = some s → ∃ t, valV kvs (.inr s) = some (.ref t) ∧ SqT K Gj t ((linksS (sortS ks) (pairsOf ps) s).map V.str))
        ⟨x7, none, [], Gf, rfl, gi, Same.refl Gf, gx2, gl, xi, fi, li, Nat.le_refl _, fun j s hj => absurd hj (Nat.not_lt_zero _)⟩ (fun i σ H' _ ⟨_, _, _, _, _, g, sm, _⟩ => sqT_same g.sub (sqT_same sm kG2)) ?_ ?_
      · rintro i v σ Hj Hj' hi ⟨y7, y8, kvs, Gj, rfl, gj, sm, gxj, glj, xj, fj, lj, kl, links⟩ ⟨rfl, hv⟩
        obtain ⟨s, hs, rfl⟩ := mapV_at hv
        rw [mlen] at hi
        refine ⟨C, dx, _, .ref kT, xj, cl, nk, rfl, false, _, sqT_same gj.sub (sqT_same sm kG2), fun D hD => ?_⟩
        refine lc_g walk_B (fun i acc _ => acc = (((sortS ks).take i).filter fun o => !decide (pairS s o ∈ pairsOf ps)).map V.str) NoS gj.sub hD rfl (fun i H' c => by
          obtain ⟨acc, G', _, _, _, g, _⟩ := c.ex
          exact sqT_same g.sub (sqT_same g.gs (sqT_same sm kG2))) ?_ ?_
        · rintro i2 v2 acc G' H1 H1' hi2 hl2 hd2 hg2 g2 rfl ⟨rfl, hv2⟩
          obtain ⟨o, ho, rfl⟩ := mapV_at hv2
          refine ⟨rfl, s, o, rfl, fun t ht => ?_⟩
          have f1 := g2.keep _ _ (fun z => z) fj
          have Dt : D ≠ t := ne_of_none hd2 ht
          have ec : (sortS ks).take (i2 + 1) = (sortS ks).take i2 ++ [o] := by rw [List.take_succ, ho]; rfl
          have g3 := g2.av (o := .tup ((pairS s o).map V.str)) ht
          have d3 : upd H1' t (.tup ((pairS s o).map V.str)) D = some (.lst ((((sortS ks).take i2).filter fun o => !decide (pairS s o ∈ pairsOf ps)).map V.str)) := by rw [upd_ne Dt]; exact hd2
          refine ⟨pairS s o, L, .inl (.inl upd_same), by rw [upd_ne (ne_of_none f1 ht)]; exact f1, fun r hr => ?_, ?_⟩
          · exact sqT_same g3.sub (sqT_same g2.gs (sqT_same sm (pG2 r hr)))
          · refine iteB (fun h => ?_) fun h => ?_
            · have h' : (!decide (pairS s o ∈ L.map (·.2))) = true := h
              rw [memL] at h'
              refine Lc.add hD (by rw [mlen] at hi2; omega) hl2 hg2 d3 g3 ?_
              show _ = (((sortS ks).take (i2 + 1)).filter _).map V.str
              have e1 : [o].filter (fun o => !decide (pairS s o ∈ pairsOf ps)) = [o] := List.filter_cons_of_pos (by exact h')
              rw [ec, List.filter_append, e1, List.map_append]
              rfl
            · have h' : (!decide (pairS s o ∈ L.map (·.2))) = false := h
              rw [memL] at h'
              refine Lc.skip hl2 hg2 d3 g3 ?_
              show _ = (((sortS ks).take (i2 + 1)).filter _).map V.str
              have e1 : [o].filter (fun o => !decide (pairS s o ∈ pairsOf ps)) = [] := List.filter_cons_of_neg (by show ¬ (!decide (pairS s o ∈ pairsOf ps)) = true; rw [h']; decide)
              rw [ec, List.filter_append, e1, List.append_nil]
        · rintro acc G' H1 hl2 hd2 hg2 g2 rfl
          rw [mlen, List.take_of_length_le (by rw [slen]; exact Nat.le_refl _)] at hd2
          refine ⟨_, .inl ⟨SqL.of hd2, fun tT htT => ?_⟩⟩
          have gk := gj.trans g2
          have xk1 := g2.keep _ _ (fun z => z) xj
          have fk1 := g2.keep _ _ (fun z => z) fj
          have lk1 := g2.keep _ _ (fun z => z) lj
          have xt := ne_of_none xk1 htT
          have ft := ne_of_none fk1 htT
          have lt := ne_of_none lk1 htT
          have gm := gk.al (o := .tup (((sortS ks).filter fun o => !decide (pairS s o ∈ pairsOf ps)).map V.str)) htT
          have x2' : upd H1 tT (.tup (((sortS ks).filter fun o => !decide (pairS s o ∈ pairsOf ps)).map V.str)) x = some (.ins C dx [("kinds", .ref kT), ("pairs", .ref pT), ("linked", .ref l)]) := by rw [upd_ne xt]; exact xk1
          have f2' : upd H1 tT (.tup (((sortS ks).filter fun o => !decide (pairS s o ∈ pairsOf ps)).map V.str)) F = some (SetWO P w F L) := by rw [upd_ne ft]; exact fk1
          have l2' : upd H1 tT (.tup (((sortS ks).filter fun o => !decide (pairS s o ∈ pairsOf ps)).map V.str)) l = some (.dK kvs) := by rw [upd_ne lt]; exact lk1
          have gxm : upd G' tT (.tup (((sortS ks).filter fun o => !decide (pairS s o ∈ pairsOf ps)).map V.str)) x = none := by rw [upd_ne xt]; exact g2.new _ _ xj gxj
          have glm : upd G' tT (.tup (((sortS ks).filter fun o => !decide (pairS s o ∈ pairsOf ps)).map V.str)) l = none := by rw [upd_ne lt]; exact g2.new _ _ lj glj
          have smm : Same Gj (upd G' tT (.tup (((sortS ks).filter fun o => !decide (pairS s o ∈ pairsOf ps)).map V.str))) := g2.gs.trans (same_upd (sub_none g2.sub htT))
          have tG : SqT K (upd G' tT (.tup (((sortS ks).filter fun o => !decide (pairS s o ∈ pairsOf ps)).map V.str))) tT ((linksS (sortS ks) (pairsOf ps) s).map V.str) := .inl (.inl upd_same)
          generalize upd H1 tT (.tup (((sortS ks).filter fun o => !decide (pairS s o ∈ pairsOf ps)).map V.str)) = H2 at gm x2' f2' l2' ⊢
          generalize upd G' tT (.tup (((sortS ks).filter fun o => !decide (pairS s o ∈ pairsOf ps)).map V.str)) = G2 at gm gxm glm smm tG ⊢
          refine ⟨C, dx, _, .ref l, x2', cl, nl, rfl, kvs, l2', by omega, ?_⟩
          have Fl' : F ≠ l := Fl
          refine ⟨_, _, _, G2, rfl, gm.wr glm (.inl hl0), sm.trans smm, gxm, glm, by rw [upd_ne xl]; exact x2', by rw [upd_ne Fl]; exact f2', upd_same, ?_, fun j s' hj hs' => ?_⟩
          · unfold putK
            split
            · rw [List.length_map]; omega
            · rw [List.length_append]; exact Nat.succ_le_succ kl
          · rw [valV_put]
            by_cases e : s' = s
            · rw [if_pos (by rw [e]), e]
              exact ⟨tT, rfl, tG⟩
            · rw [if_neg (by intro z; exact e (Sum.inr.inj z))]
              rcases Nat.lt_succ_iff_lt_or_eq.mp hj with hj | hj
              · obtain ⟨t, h1, h2⟩ := links j s' hj hs'
                exact ⟨t, h1, sqT_same smm h2⟩
              · rw [hj, hs] at hs'
                exact absurd (Option.some.inj hs').symm e
      · rintro σ Hj ⟨y7, y8, kvs, Gj, rfl, gj, sm, gxj, glj, xj, fj, lj, kl, links⟩
        have g1' := gj.fz xj hx gxj
        have g2' := g1'.fz lj hl0 (by rw [upd_ne (Ne.symm xl)]; exact glj)
        have sm1 : Same Gf (upd (upd Gj x (.ins C dx [("kinds", .ref kT), ("pairs", .ref pT), ("linked", .ref l)])) l (.dK kvs)) := (sm.trans (same_upd gxj)).trans (same_upd (by rw [upd_ne (Ne.symm xl)]; exact glj))
        have sm2 : Same Gj (upd (upd Gj x (.ins C dx [("kinds", .ref kT), ("pairs", .ref pT), ("linked", .ref l)])) l (.dK kvs)) := (same_upd gxj).trans (same_upd (by rw [upd_ne (Ne.symm xl)]; exact glj))
        refine kq fine _ Hj g2' ⟨dx, kT, pT, l, L'.map (·.1), kvs, by rw [upd_ne xl, upd_same], sqT_same sm1 kG2, ?_, ⟨by rw [← eL, List.length_map, List.length_map], fun i a q ha hq => ?_⟩, upd_same, fun s hs => ?_⟩
        · rw [List.map_map]
          exact sqT_same sm1 pTG
        · rw [← eL] at hq
          rw [List.getElem?_map] at ha hq
          obtain ⟨r, h1, rfl⟩ := Option.map_eq_some_iff.mp ha
          rw [h1] at hq
          cases hq
          exact sqT_same sm1 (pG2 r (pm.mem_iff.mp (List.mem_of_getElem? h1)))
        · obtain ⟨j, hj, e⟩ := List.getElem_of_mem hs
          obtain ⟨t, h1, h2⟩ := links j s (by rw [mlen, ← slen]; exact hj) (by rw [List.getElem?_eq_getElem hj, e])
          exact ⟨t, h1, sqT_same sm2 h2⟩
  · refine ke y i ?_ d H2 (g1.free hd) (g1.trans g2) hv
    unfold chkT
    rw [hy]
end U

set_option Elab.async false
set_option linter.all false
set_option maxRecDepth 100000
set_option maxHeartbeats 4000000
/-! P1: the laws' own source of draws, names and pairs -/
namespace U
open PySem PySem.Spec PyProof.Rows L2
/-! ### the deal: a list of great cells and a number -/
def DealAt (H : Hp) (p q : Addr) : Prop := ∃ (cs : List Int) (m : Int), H p = some (.lst [.ref q, .int m]) ∧ H q = some (.lst (cs.map V.int)) ∧ 0 ≤ m ∧ m < 2147483647 ∧ (∀ c ∈ cs, 0 ≤ c) ∧ cs.length ≤ 63
def Two (p q : Addr) : Addr → Prop := fun b => b = p ∨ b = q
/-- the state of a law's helper: G what is known for good, the deal at p, q -/
structure WD (G H : Hp) (p q : Addr) : Prop where
  sub : Same G H
  gp : G p = none
  gq : G q = none
  deal : DealAt H p q
section
variable {G H G' H' : Hp} {p q a : Addr} {o : HO}
theorem DealAt.ne (h : DealAt H p q) : p ≠ q := by
  obtain ⟨cs, m, hp, hq, _⟩ := h
  refine ne_of hp hq fun e => ?_
  injection e with e
  cases cs with
  | nil => cases e
  | cons c cs =>
    injection e with e1 e2
    cases e1
theorem DealAt.keep (h : DealAt H p q) (k : ∀ b o, H b = some o → H' b = some o) : DealAt H' p q := by
  obtain ⟨cs, m, hp, hq, r⟩ := h
  exact ⟨cs, m, k _ _ hp, k _ _ hq, r⟩
theorem WD.ne_p (w : WD G H p q) (h : H a = none) : a ≠ p := by
  obtain ⟨cs, m, hp, hq, r⟩ := w.deal
  exact (ne_of_none hp h).symm
theorem WD.ne_q (w : WD G H p q) (h : H a = none) : a ≠ q := by
  obtain ⟨cs, m, hp, hq, r⟩ := w.deal
  exact (ne_of_none hq h).symm
theorem WD.grow (w : WD G H p q) (g : Grow (Two p q) G H G' H') (d : DealAt H' p q) : WD G' H' p q := by
  obtain ⟨cs, m, hp, hq, r⟩ := w.deal
  exact ⟨g.sub, g.new _ _ hp w.gp, g.new _ _ hq w.gq, d⟩
theorem WD.grow0 (w : WD G H p q) (g : Grow NoS G H G' H') : WD G' H' p q := w.grow g.of0 (w.deal.keep fun b o e => g.keep b o (fun z => z) e)
theorem WD.al (w : WD G H p q) (h : H a = none) : WD (upd G a o) (upd H a o) p q := w.grow0 ((Grow.refl w.sub).al h)
theorem WD.av (w : WD G H p q) (h : H a = none) : WD G (upd H a o) p q := w.grow0 ((Grow.refl w.sub).av h)
/-- a change of what is not known for good, and not the deal's -/
theorem WD.wr (w : WD G H p q) (hg : G a = none) (hp : a ≠ p) (hq : a ≠ q) : WD G (upd H a o) p q := by
  refine ⟨fun b u e => ?_, w.gp, w.gq, ?_⟩
  · have hb : b ≠ a := fun z => by rw [z, hg] at e; cases e
    rw [upd_ne hb]; exact w.sub _ _ e
  · obtain ⟨cs, m, h1, h2, r⟩ := w.deal
    exact ⟨cs, m, by rw [upd_ne (Ne.symm hp)]; exact h1, by rw [upd_ne (Ne.symm hq)]; exact h2, r⟩
end

theorem WD.fz {G H : Hp} {p q l : Addr} {o : HO} (w : WD G H p q) (h : H l = some o) (hg : G l = none) (hp : l ≠ p) (hq : l ≠ q) : WD (upd G l o) H p q := by
  refine ⟨fun b u e => ?_, by rw [upd_ne (Ne.symm hp)]; exact w.gp, by rw [upd_ne (Ne.symm hq)]; exact w.gq, w.deal⟩
  by_cases hb : b = l
  · rw [hb, upd_same] at e; rw [hb, ← e]; exact h
  · rw [upd_ne hb] at e; exact w.sub _ _ e
theorem WD.low {G G1 H : Hp} {p q : Addr} (w : WD G1 H p q) (sm : Same G G1) : WD G H p q := ⟨sm.trans w.sub, sub_none sm w.gp, sub_none sm w.gq, w.deal⟩
theorem same_up {G : Hp} {t : Addr} {o : HO} (h : G t = none) : Same G (upd G t o) := fun b u e => by rw [upd_ne (ne_of_none e h)]; exact e
/-! ### draw -/
def sp_draw (K : PySem.W.Frag) : Sp := fun vs H Q _ => ∃ (p q : Addr) (G : Hp) (k : Int), vs = [.ref p, .int k] ∧ WD G H p q ∧ 0 < k ∧ k ≤ 100000000000000000000 ∧
  ∀ n H', 0 ≤ n → n < k → Grow (Two p q) G H G H' → WD G H' p q → Q (.int n) H'
theorem eqv_nil (ds : List PyData) : PyData.eqv (.list ds) (.list []) = ds.isEmpty := by
  cases ds <;> simp [PyData.eqv, PyData.eqvAll]
theorem sh_nil : SeqAt.shaped (.list []) = true := rfl
theorem dp_ints {K : PySem.W.Frag} {H : Hp} {a : Addr} {ns : List Int} (h : SqL K H a (ns.map V.int)) : Dp K H (.ref a) (.list (ns.map .int)) := .lst h (dpA_ints ns)
theorem dp_nil {K : PySem.W.Frag} {H : Hp} {a : Addr} (h : SqL K H a []) : Dp K H (.ref a) (.list []) := .lst h .nil
theorem atI_of {α : Type} {xs : List α} {i : Int} {j : Nat} {x : α} (hi : i = j) (hx : xs[j]? = some x) : atI xs i = some x := by
  subst hi
  have hj : j < xs.length := (List.getElem?_eq_some_iff.mp hx).1
  unfold atI ixN
  rw [if_pos (by omega), if_pos (by omega)]
  exact hx
theorem ixN_of {n j : Nat} {i : Int} (hi : i = j) (hj : j < n) : ixN n i = some j := by
  subst hi
  unfold ixN
  rw [if_pos (by omega), if_pos (by omega)]
  rfl
theorem log20 {k : Int} (h0 : 0 < k) (h : k ≤ 100000000000000000000) : CDivW 0 k := wide_div (b := 70) h0 (by omega) (by decide) (by decide)
/-! _law_draw: 0=deal_here 1=many 2=left 3=digit -/
def t_draw (K : PySem.W.Frag) (W : WX) : TS :=
  (tSeq (tIfS (uB (tOp (uNe K) (tOp (uIx K) (uV 0) (tC (.int 0))) (tLst tNil))) (tSeq (tAsg (tOp (uIx K) (tOp (uIx K) (uV 0) (tC (.int 0))) (tOp uSub (tCB (uLen K) (tCons (tOp (uIx K) (uV 0) (tC (.int 0))) tNil)) (tC (.int 1)))) (gName 2)) (tSeq (tAsg (tOp uMod (uV 2) (uV 1)) (gName 3)) (tSeq (tIfS (uB (tOp uGt (tOp uFdv (uV 2) (uV 1)) (tC (.int 0)))) (tAsg (tOp uFdv (uV 2) (uV 1)) (gSub (tOp (uIx K) (uV 0) (tC (.int 0))) (tOp uSub (tCB (uLen K) (tCons (tOp (uIx K) (uV 0) (tC (.int 0))) tNil)) (tC (.int 1))) uSetL)) (tDrop (uLm fPop (tOp (uIx K) (uV 0) (tC (.int 0))) tNil))) (tRet (uV 3))))) tNext) (tSeq (tAsg (tOp uMod (tOp uAdd (tOp uMul (tOp (uIx K) (uV 0) (tC (.int 1))) (tC (.int 48271))) (tC (.int 11))) (tC (.int 2147483647))) (gSub (uV 0) (tC (.int 1)) uSetL)) (tRet (tOp uMod (tOp uFdv (tOp (uIx K) (uV 0) (tC (.int 1))) (tC (.int 97))) (uV 1)))))
theorem pure_draw {K : PySem.W.Frag} {W : WX} (vs : List V) (H : Hp) (Q : VK) (E : XK) (h : sp_draw K vs H Q E) : t_draw K W { nx := fun _ H' => Q .non H', rt := Q } (start ["deal", "many", "left", "digit"] vs) H := by
  obtain ⟨p, q, G, k, rfl, w, hk, hb, kp⟩ := h
  obtain ⟨cs, m, hp, hq, hm0, hm1, hc, hl⟩ := w.deal
  have hpq := w.deal.ne
  have hdv := log20 hk hb
  refine ⟨_, _, .inl (SqL.of hp), rfl, (by decide), fun e he => ?_⟩
  have ep : p ≠ e := ne_of_none hp he
  have eq : q ≠ e := ne_of_none hq he
  have w1 := w.av (o := .lst []) he
  have hp1 : upd H e (.lst []) p = some (.lst [.ref q, .int m]) := by rw [upd_ne ep]; exact hp
  have hq1 : upd H e (.lst []) q = some (.lst (cs.map V.int)) := by rw [upd_ne eq]; exact hq
  have gr := (Grow.refl (S := Two p q) w.sub).av (o := .lst []) he
  refine ⟨_, _, dp_ints (SqL.of hq1), dp_nil (SqL.of upd_same), (Sh.ints cs).shaped, sh_nil, ?_⟩
  generalize upd H e (.lst []) = H1 at w1 hp1 hq1 gr ⊢
  refine iteNB (fun hne => ?_) fun hne => ?_
  · -- a great cell is taken
    rw [eqv_nil] at hne
    have hln : cs.length ≠ 0 := fun z => by
      rw [List.length_eq_zero_iff.mp z] at hne
      cases hne
    obtain ⟨c, hcl⟩ : ∃ c, cs[cs.length - 1]? = some c := ⟨cs[cs.length - 1]'(by omega), by simp [hln]⟩
    have hc0 : 0 ≤ c := hc c (List.mem_of_getElem? hcl)
    have hix : (((cs.map V.int).length : Nat) : Int) - 1 = ((cs.length - 1 : Nat) : Int) := by rw [List.length_map]; omega
    refine ⟨_, _, .inl (SqL.of hp1), rfl, _, _, .inl (SqL.of hp1), rfl, _, .inl (SqL.of hq1), _, .int c, .inl (SqL.of hq1), atI_of hix (by rw [List.getElem?_map, hcl]; rfl), hk, hdv, ?_⟩
    have cut : ∀ (H' : Hp) (cs' : List Int), H' = upd H1 q (.lst (cs'.map V.int)) → (∀ z ∈ cs', 0 ≤ z) → cs'.length ≤ 63 → Grow (Two p q) G H G H' ∧ WD G H' p q := fun H' cs' e1 h0 h63 => by
      subst e1
      have g2 := gr.wr (p := q) (o := .lst (cs'.map V.int)) w.gq (.inr (.inr rfl))
      exact ⟨g2, w.grow g2 ⟨cs', m, by rw [upd_ne hpq]; exact hp1, upd_same, hm0, hm1, h0, h63⟩⟩
    have hn0 : 0 ≤ c % k := Int.emod_nonneg _ (by omega)
    have hn1 : c % k < k := Int.emod_lt_of_pos _ hk
    refine iteD (fun hd => ?_) fun hd => ?_
    · refine ⟨hdv, _, _, .inl (SqL.of hp1), rfl, _, _, .inl (SqL.of hp1), rfl, _, .inl (SqL.of hq1), _, _, hq1, ixN_of hix (by rw [List.length_map]; omega), ?_⟩
      obtain ⟨g2, w2⟩ := cut _ (cs.set (cs.length - 1) (c / k)) (by rw [List.map_set]) (fun z hz => by
        rcases List.mem_or_eq_of_mem_set hz with h | h
        · exact hc z h
        · omega) (by rw [List.length_set]; exact hl)
      exact kp _ _ hn0 hn1 g2 w2
    · refine ⟨_, _, .inl (SqL.of hp1), rfl, ⟨_, hq1⟩, _, hq1, .int c, by rw [List.length_map, List.getElem?_map, hcl]; rfl, ?_⟩
      obtain ⟨g2, w2⟩ := cut _ cs.dropLast (by rw [List.map_dropLast]) (fun z hz => hc z (List.dropLast_subset _ hz)) (by rw [List.length_dropLast]; omega)
      exact kp _ _ hn0 hn1 g2 w2
  · -- the next number
    have hcm : CMulW m 48271 := wide_mul (a := 31) (b := 16) (by omega) (by decide) (by decide) (by decide) (by decide)
    refine ⟨_, _, .inl (SqL.of hp1), rfl, hcm, by decide, _, _, hp1, rfl, ?_⟩
    have hn0 : 0 ≤ (m * 48271 + 11) % 2147483647 := Int.emod_nonneg _ (by decide)
    have hn1 : (m * 48271 + 11) % 2147483647 < 2147483647 := Int.emod_lt_of_pos _ (by decide)
    have g2 := gr.wr (p := p) (o := .lst [.ref q, .int ((m * 48271 + 11) % 2147483647)]) w.gp (.inr (.inl rfl))
    have w2 := w.grow g2 ⟨cs, _, upd_same, by rw [upd_ne (Ne.symm hpq)]; exact hq1, hn0, hn1, hc, hl⟩
    refine ⟨_, _, .inl (SqL.of upd_same), rfl, ⟨by decide, by decide⟩, hk, ?_⟩
    exact kp _ _ (Int.emod_nonneg _ (by omega)) (Int.emod_lt_of_pos _ hk) g2 w2

/-! ### mixed: the items in some order -/
def sp_mixed (K : PySem.W.Frag) : Sp := fun vs H Q _ => ∃ (p q a : Addr) (G : Hp) (b : Bool) (ws : List V) (ds : List PyData), vs = [.ref p, .ref a] ∧ WD G H p q ∧ SqB K b G a ws ∧ DpAll K G ws ds ∧ (∀ d ∈ ds, Sh 60 d) ∧ ws.length ≤ 1000 ∧
  ∀ l H' zs, H l = none → zs.Perm ws → Grow (Two p q) G H G H' → WD G H' p q → H' l = some (.lst zs) → Q (.ref l) H'
theorem dpA_perm {K : PySem.W.Frag} {G : Hp} {ws : List V} {ds : List PyData} (h : DpAll K G ws ds) (hs : ∀ d ∈ ds, Sh 60 d) : ∀ {zs : List V}, (∀ z ∈ zs, z ∈ ws) → ∃ es, DpAll K G zs es ∧ ∀ d ∈ es, Sh 60 d
  | [], _ => ⟨[], .nil, fun d hd => by cases hd⟩
  | z :: zs, hz => by
    obtain ⟨es, h1, h2⟩ := dpA_perm h hs (zs := zs) fun y hy => hz y (List.mem_cons_of_mem _ hy)
    obtain ⟨i, hi, e⟩ := List.getElem_of_mem (hz z List.mem_cons_self)
    obtain ⟨d, hd, hdp⟩ := dpA_get h (i := i) (v := z) (by rw [List.getElem?_eq_getElem hi, e])
    refine ⟨d :: es, .cons hdp h1, fun x hx => ?_⟩
    rcases List.mem_cons.mp hx with e | hx
    · rw [e]; exact hs d (List.mem_of_getElem? hd)
    · exact h2 x hx
theorem seqIx_of {i : Int} {j n : Nat} (hi : i = j) (hj : j < n) : seqIndex? i n = some j := by
  subst hi
  have h0 : ¬ (j : Int) < 0 := by omega
  unfold seqIndex?
  simp [hj, h0]
theorem erase_perm {α : Type} : ∀ {xs : List α} {j : Nat} {y : α}, xs[j]? = some y → (y :: xs.eraseIdx j).Perm xs
  | [], _, _, h => by simp at h
  | x :: xs, 0, y, h => by simp at h; subst h; exact .refl _
  | x :: xs, j + 1, y, h => by
    have ih := erase_perm (xs := xs) (j := j) (y := y) (by simpa using h)
    rw [List.eraseIdx_cons_succ]
    exact (List.Perm.swap x y _).trans (ih.cons x)
/-! _law_mixed: 0=deal_here 1=items 2=left 3=found -/
def t_mixed (K : PySem.W.Frag) (W : WX) : TS :=
  (tSeq (uPar 2 3 (tCons (tCB (uList K) (tCons (uV 1) tNil)) (tCons (tLst tNil) tNil))) (tSeq (tWhile (cT (uB (tOp (uNe K) (uV 2) (tLst tNil)))) (tDrop (uLm fApp (uV 3) (tCons (uLm fPopI (uV 2) (tCons (uCall (sp_draw K) [] W (tCons (uV 0) (tCons (tCB (uLen K) (tCons (uV 2) tNil)) tNil))) tNil)) tNil)))) (tRet (uV 3))))
theorem pure_mixed {K : PySem.W.Frag} {W : WX} (vs : List V) (H : Hp) (Q : VK) (E : XK) (h : sp_mixed K vs H Q E) : t_mixed K W { nx := fun _ H' => Q .non H', rt := Q } (start ["deal", "items", "left", "found"] vs) H := by
  obtain ⟨p, q, a, G, b, ws, ds, rfl, w, ha, hd, hs, hl, kp⟩ := h
  have line : sizeLine = 16777216 := sizeLine_eq
  refine ⟨ws, (ha.same w.sub).or, fun l1 n1 => ⟨by decide, fun l2 n2 => ?_⟩⟩
  have g1 := (Grow.refl (S := Two p q) w.sub).av (o := .lst ws) n1
  have w1 := w.av (o := .lst ws) n1
  have g2 := g1.av (o := .lst []) n2
  have w2 := w1.av (o := .lst []) n2
  have l12 : l1 ≠ l2 := ne_of_none (upd_same (H := H) (o := .lst ws)) n2
  have n2H : H l2 = none := by
    rw [upd_ne (Ne.symm l12)] at n2
    exact n2
  have gl1 : G l1 = none := sub_none w.sub n1
  have gl2 : G l2 = none := sub_none w.sub n2H
  refine while_c (fun σ H' => ∃ xs ys, σ = [some (.ref p), some (.ref a), some (.ref l1), some (.ref l2)] ∧ WD G H' p q ∧ Grow (Two p q) G H G H' ∧ H' l1 = some (.lst xs) ∧ H' l2 = some (.lst ys) ∧ (xs ++ ys).Perm ws)
    (fun σ H' => match H' l1 with
      | some (.lst xs) => xs.length
      | _ => 0) ⟨ws, [], rfl, w2, g2, by rw [upd_ne l12, upd_same], upd_same, by rw [List.append_nil]⟩ ?_
  rintro σ H' ⟨xs, ys, rfl, w', g', h1, h2, pm⟩
  refine ⟨by decide, fun e he => ?_⟩
  have e1 : l1 ≠ e := ne_of_none h1 he
  have e2 : l2 ≠ e := ne_of_none h2 he
  have hlen := pm.length_eq
  rw [List.length_append] at hlen
  obtain ⟨es, hes, hse⟩ := dpA_perm hd hs (zs := xs) fun z hz => pm.mem_iff.mp (List.mem_append_left _ hz)
  have w3 := w'.av (o := .lst []) he
  have g3 := g'.av (o := .lst []) he
  have h1' : upd H' e (.lst []) l1 = some (.lst xs) := by rw [upd_ne e1]; exact h1
  have h2' : upd H' e (.lst []) l2 = some (.lst ys) := by rw [upd_ne e2]; exact h2
  refine ⟨_, _, .lst (SqL.of h1') (dpA_same w3.sub hes), dp_nil (SqL.of upd_same), (Sh.list hse).shaped, sh_nil, ?_⟩
  generalize upd H' e (.lst []) = H3 at w3 g3 h1' h2' ⊢
  refine iteNB (fun hne => ?_) fun hne => ?_
  · -- one more is taken
    rw [eqv_nil] at hne
    have hx0 : 0 < xs.length := by
      rw [dpA_len hes]
      cases es with
      | nil => cases hne
      | cons _ _ => exact Nat.succ_pos _
    refine ⟨⟨_, h2'⟩, ⟨_, h1'⟩, _, .inl (SqL.of h1'), p, q, G, (xs.length : Int), rfl, w3, by omega, by omega, fun n H4 hn0 hn1 g4 w4 => ?_⟩
    have lp1 : l1 ≠ p := w.ne_p n1
    have lq1 : l1 ≠ q := w.ne_q n1
    have lp2 : l2 ≠ p := w.ne_p n2H
    have lq2 : l2 ≠ q := w.ne_q n2H
    have h1b : H4 l1 = some (.lst xs) := g4.keep _ _ (fun z => z.elim lp1 lq1) h1'
    have h2b : H4 l2 = some (.lst ys) := g4.keep _ _ (fun z => z.elim lp2 lq2) h2'
    have g5 := g3.trans g4
    obtain ⟨j, hj⟩ : ∃ j : Nat, n = j := ⟨n.toNat, by omega⟩
    have hjx : j < xs.length := by omega
    obtain ⟨y, hy⟩ : ∃ y, xs[j]? = some y := ⟨xs[j], by simp [hjx]⟩
    refine ⟨xs, h1b, n, rfl, j, y, by omega, by omega, seqIx_of hj hjx, hy, ys, ?_⟩
    have w6 := w4.wr (a := l1) (o := .lst (xs.eraseIdx j)) gl1 lp1 lq1
    have g6 := g5.wr (p := l1) (o := .lst (xs.eraseIdx j)) gl1 (.inl n1)
    refine ⟨by rw [upd_ne (Ne.symm l12)]; exact h2b, by omega, ?_⟩
    have w7 := w6.wr (a := l2) (o := .lst (ys ++ [y])) gl2 lp2 lq2
    have g7 := g6.wr (p := l2) (o := .lst (ys ++ [y])) gl2 (.inl n2H)
    refine ⟨⟨xs.eraseIdx j, ys ++ [y], rfl, w7, g7, by rw [upd_ne l12, upd_same], upd_same, ?_⟩, ?_⟩
    · have hjy : xs[j] = y := (List.getElem?_eq_some_iff.mp hy).2
      have p1 : (y :: xs.eraseIdx j).Perm xs := erase_perm hy
      refine List.Perm.trans ?_ pm
      rw [← List.append_assoc]
      refine (List.perm_append_comm (l₁ := xs.eraseIdx j ++ ys) (l₂ := [y])).trans ?_
      exact p1.append_right ys
    · rw [upd_ne l12, upd_same, h1]
      show (xs.eraseIdx j).length < xs.length
      rw [List.length_eraseIdx]
      split <;> omega
  · rw [eqv_nil] at hne
    have hx0 : xs = [] := by
      cases es with
      | nil => exact List.length_eq_zero_iff.mp (dpA_len hes)
      | cons _ _ => cases hne
    subst hx0
    exact kp l2 H3 ys n2H pm g3 w3 h2'

/-! ### the deal is made -/
def sp_deal (K : PySem.W.Frag) : Sp := fun vs H Q _ => ∃ (a : Addr) (G : Hp) (ns : List Int) (z : Int), vs = [.ref a, .int z] ∧ Same G H ∧ SqL K G a (ns.map V.int) ∧ ns.length ≤ 63 ∧ 0 ≤ z ∧ z ≤ 1000 ∧
  ∀ p q H', H p = none → H q = none → Grow NoS G H G H' → WD G H' p q → Q (.ref p) H'
/-! _law_deal: 0=script 1=base 2=cells 3=mixed_here 4=cell -/
def t_deal (K : PySem.W.Frag) (W : WX) : TS :=
  (tSeq (tAsg (tLc (uiSeq K (tSl (uSl K) (uV 0) (uPart (uV 1)) (uPart (tC (.int 63))))) (gName 4) tYes (tCB uMax (tCons (uV 4) (tCons (tOp uSub (tC (.int 0)) (uV 4)) tNil))) [4]) (gName 2)) (tSeq (tAsg (tOp uAdd (tC (.int 86028121)) (tOp uMul (tC (.int 7)) (uV 1))) (gName 3)) (tSeq (tFor (uiSeq K (uV 2)) (gName 4) (tAsg (tOp uMod (tOp uAdd (tOp uMul (uV 3) (tC (.int 16807))) (tOp uMod (uV 4) (tC (.int 2147483629)))) (tC (.int 2147483647))) (gName 3))) (tRet (tLst (tCons (uRev K (tLc (uiSeq K (uV 2)) (gName 4) (uB (tOp uGe (uV 4) (tOp uPow (tC (.int 10)) (tC (.int 18))))) (uV 4) [4])) (tCons (uV 3) tNil)))))))
theorem pure_deal {K : PySem.W.Frag} {W : WX} (vs : List V) (H : Hp) (Q : VK) (E : XK) (h : sp_deal K vs H Q E) : t_deal K W { nx := fun _ H' => Q .non H', rt := Q } (start ["script", "base", "cells", "mixed", "cell"] vs) H := by
  obtain ⟨a, G, ns, z, rfl, sub, ha, hl, hz0, hz1, kp⟩ := h
  have line : sizeLine = 16777216 := sizeLine_eq
  -- the slice of the script
  refine uSl_L (sqL_same sub ha) fun e he => ?_
  refine ⟨true, _, SqL.of upd_same, fun D hD => ?_⟩
  have g1 := (Grow.refl (S := NoS) sub).av (o := .lst (cutV (ns.map V.int) (some z) (some 63))) he
  obtain ⟨ms, hms, hml⟩ : ∃ ms : List Int, cutV (ns.map V.int) (some z) (some 63) = ms.map V.int ∧ ms.length ≤ 63 := by
    refine ⟨(ns.drop (HT.sIx ns.length 0 (some z))).take (HT.sIx ns.length ns.length (some 63) - HT.sIx ns.length 0 (some z)), ?_, ?_⟩
    · unfold cutV
      rw [List.length_map, List.map_take, List.map_drop]
    · rw [List.length_take, List.length_drop]
      omega
  rw [hms] at g1 hD ⊢
  have eH : upd H e (.lst (ms.map V.int)) e = some (.lst (ms.map V.int)) := upd_same
  generalize upd H e (.lst (ms.map V.int)) = H1 at g1 hD eH ⊢
  have heD : e ≠ D := ne_of_none eH hD
  have g2 := g1.av (o := .lst []) hD
  have hDn : H D = none := g1.free hD
  refine lc_it walk_B (fun i H2 => ∃ os : List Int, os.length = i ∧ (∀ c ∈ os, 0 ≤ c) ∧ H2 D = some (.lst (os.map V.int)) ∧ H2 e = some (.lst (ms.map V.int)) ∧ Grow NoS G H G H2) ⟨[], rfl, fun c hc => (by cases hc), upd_same, by rw [upd_ne heD]; exact eH, g2⟩
    (fun i H2 _ ⟨_, _, _, _, h, _⟩ => SqL.of h) ?_ ?_
  · rintro i x H2 H2' hi ⟨os, h1, h2, h3, h4, h5⟩ ⟨rfl, hx⟩
    rw [List.getElem?_map] at hx
    obtain ⟨c, hc, rfl⟩ := Option.map_eq_some_iff.mp hx
    refine ⟨rfl, ?_⟩
    show ∃ acc, _
    refine ⟨os.map V.int, h3, by rw [List.length_map]; have := List.length_map (f := V.int) (as := ms); omega, os ++ [if 0 - c > c then 0 - c else c], by rw [List.length_append, h1]; rfl, fun y hy => ?_, by rw [upd_same, List.map_append]; rfl, by rw [upd_ne heD]; exact h4, h5.wr (sub_none sub hDn) (.inl hDn)⟩
    rcases List.mem_append.mp hy with h | h
    · exact h2 y h
    · rw [List.mem_singleton] at h
      subst h
      split <;> omega
  · intro H2 ⟨os, h1, h2, h3, h4, h5⟩
    have gD : G D = none := sub_none sub hDn
    have hoc : os.length ≤ 63 := by rw [h1, List.length_map]; exact hml
    have c1 : CMulW 7 z := wide_mul (a := 3) (b := 10) (by decide) (by omega) (by decide) (by decide) (by decide)
    refine ⟨c1, ?_⟩
    refine ⟨true, _, SqL.of h3, ?_⟩
    have m0 : 0 ≤ 86028121 + 7 * z ∧ 86028121 + 7 * z < 2147483647 := by omega
    refine for_it walk_B (fun i σ H' => H' = H2 ∧ ∃ m x, σ = [some (.ref a), some (.int z), some (.ref D), some (.int m), x] ∧ 0 ≤ m ∧ m < 2147483647) ⟨rfl, _, none, rfl, m0.1, m0.2⟩
      (fun i σ H' _ ⟨h, _⟩ => by rw [h]; exact SqL.of h3) ?_ ?_
    · rintro i x σ H' H'' hi ⟨rfl, m, x0, rfl, p0, p1⟩ ⟨rfl, hx⟩
      rw [List.getElem?_map] at hx
      obtain ⟨c, hc, rfl⟩ := Option.map_eq_some_iff.mp hx
      have hcm : CMulW m 16807 := wide_mul (a := 31) (b := 16) (by omega) (by omega) (by decide) (by decide) (by decide)
      refine ⟨hcm, by decide, by decide, rfl, _, _, rfl, Int.emod_nonneg _ (by decide), Int.emod_lt_of_pos _ (by decide)⟩
    · rintro σ H' ⟨rfl, m, x0, rfl, p0, p1⟩
      refine ⟨true, _, SqL.of h3, fun D2 hD2 => ?_⟩
      have dD2 : D ≠ D2 := ne_of_none h3 hD2
      have h3' : upd H' D2 (.lst []) D = some (.lst (os.map V.int)) := by rw [upd_ne dD2]; exact h3
      have g6 := h5.av (o := .lst []) hD2
      have hD2n : H D2 = none := h5.free hD2
      have gD2 : G D2 = none := sub_none sub hD2n
      refine lc_it walk_B (fun i H3 => ∃ us : List Int, us.length ≤ i ∧ (∀ c ∈ us, 0 ≤ c) ∧ H3 D2 = some (.lst (us.map V.int)) ∧ H3 D = some (.lst (os.map V.int)) ∧ Grow NoS G H G H3) ⟨[], Nat.le_refl _, fun c hc => (by cases hc), upd_same, h3', g6⟩
        (fun i H3 _ ⟨_, _, _, _, h, _⟩ => SqL.of h) ?_ ?_
      · rintro i x H3 H3' hi ⟨us, u1, u2, u3, u4, u5⟩ ⟨rfl, hx⟩
        rw [List.getElem?_map] at hx
        obtain ⟨c, hc, rfl⟩ := Option.map_eq_some_iff.mp hx
        rw [List.length_map] at hi
        refine ⟨rfl, ⟨by decide, by decide, by decide⟩, ?_⟩
        refine iteD (fun hd => ?_) fun hd => ?_
        · refine ⟨us.map V.int, u3, by rw [List.length_map]; omega, us ++ [c], by rw [List.length_append]; exact Nat.succ_le_succ u1, fun y hy => ?_, by rw [upd_same, List.map_append]; rfl, by rw [upd_ne dD2]; exact u4, u5.wr gD2 (.inl hD2n)⟩
          rcases List.mem_append.mp hy with h | h
          · exact u2 y h
          · rw [List.mem_singleton] at h
            subst h
            exact h2 _ (List.mem_of_getElem? hc)
        · exact ⟨us, Nat.le_succ_of_le u1, u2, u3, u4, u5⟩
      · intro H3 ⟨us, u1, u2, u3, u4, u5⟩
        rw [List.length_map] at u1
        refine ⟨_, SqL.of u3, fun p hp => ?_⟩
        have g7 := u5.av (o := .lst (us.map V.int).reverse) hp
        have hpn := u5.free hp
        have e1 : upd H3 p (.lst (us.map V.int).reverse) p = some (.lst (us.map V.int).reverse) := upd_same
        generalize upd H3 p (.lst (us.map V.int).reverse) = H4 at g7 e1 ⊢
        refine ⟨by rw [line]; exact Nat.le_of_ble_eq_true rfl, fun q hq => ?_⟩
        have g8 := g7.av (o := .lst [.ref p, .int m]) hq
        have hqn := g7.free hq
        have pq : p ≠ q := ne_of_none e1 hq
        refine kp q p _ hqn hpn g8 ⟨g8.sub, sub_none sub hqn, sub_none sub hpn, us.reverse, m, upd_same, ?_, p0, p1, fun c hc => u2 c (List.mem_reverse.mp hc), by rw [List.length_reverse]; omega⟩
        rw [upd_ne pq, e1, List.map_reverse]
/-! ### names -/
def sing (c : Nat) : Str := ⟨#[c]⟩
theorem lows_get {n : Nat} (h : n < 26) : lows[n]? = some (97 + n) := by
  have key : ∀ n : Fin 26, lows[n.val]? = some (97 + n.val) := by decide +kernel
  exact key ⟨n, h⟩
theorem low_mem {n : Nat} (h : n < 26) : 97 + n ∈ lows := List.mem_of_getElem? (lows_get h)
theorem isName_of {s : Str} (h0 : 0 < s.cps.toList.length) (h6 : s.cps.toList.length ≤ 6) (h : ∀ c ∈ s.cps.toList, c ∈ lows) : isName s = true := by
  have e : s.length = s.cps.toList.length := by
    show s.cps.size = _
    simp
  unfold isName
  rw [e, decide_eq_true h0, decide_eq_true h6]
  simp only [Bool.true_and, List.all_eq_true, decide_eq_true_eq]
  exact h
theorem app_cps (a b : Str) : (a ++ b).cps.toList = a.cps.toList ++ b.cps.toList := by
  show (a.cps ++ b.cps).toList = _
  simp
theorem nodup_range {f : Nat → Str} (n : Nat) (h : ∀ j k, j < k → k < n → f j ≠ f k) : ((List.range n).map f).Nodup := by
  refine List.pairwise_map.mpr ?_
  have := List.pairwise_lt_range (n := n)
  refine List.Pairwise.imp_of_mem (fun {a b} ha hb hab => ?_) this
  exact h a b hab (List.mem_range.mp hb)
theorem cps_eq {a b : Str} (h : a.cps.toList = b.cps.toList) : a = b := by
  obtain ⟨a⟩ := a
  obtain ⟨b⟩ := b
  have e := congrArg List.toArray h
  have e' : a = b := by simpa using e
  rw [e']
theorem fold_sing : ∀ (l : List Nat) (x : Array Nat), ((l.map sing).foldl (fun (acc : Array Nat) (p : Str) => acc ++ ("" : Str).cps ++ p.cps) x).toList = x.toList ++ l
  | [], x => by simp
  | c :: l, x => by
    rw [List.map_cons, List.foldl_cons, fold_sing l]
    have e : ("" : Str).cps = #[] := by decide
    simp [e, sing]
theorem join_sing (cs : List Nat) : (Txt.join "" (cs.map sing)).cps.toList = cs := by
  unfold Txt.join Builtin.Str.glued
  cases cs with
  | nil => decide
  | cons c cs =>
    show (((cs.map sing).foldl (fun (acc : Array Nat) (p : Str) => acc ++ ("" : Str).cps ++ p.cps) (sing c).cps)).toList = _
    rw [fold_sing]
    rfl
theorem sum_sing : ∀ cs : List Nat, ((cs.map sing).map (·.length)).sum = cs.length
  | [] => rfl
  | c :: cs => by
    rw [List.map_cons, List.map_cons, List.sum_cons, sum_sing cs, List.length_cons]
    show 1 + cs.length = _
    omega
theorem len_cps (s : Str) : s.length = s.cps.toList.length := by
  show s.cps.size = _
  simp
theorem cutS_to (z : Str) (k : Nat) : (cutS z none (some (k : Int))).cps.toList = z.cps.toList.take k := by
  unfold cutS
  rw [HT.sIx_nat, HT.sIx_none, List.drop_zero, Nat.sub_zero, len_cps]
  by_cases h : k ≤ z.cps.toList.length
  · rw [Nat.min_eq_left h]
  · rw [Nat.min_eq_right (by omega), List.take_length, List.take_of_length_le (by omega)]
theorem cutS_from (z : Str) (k : Nat) : (cutS z (some (k : Int)) none).cps.toList = z.cps.toList.drop k := by
  unfold cutS
  rw [HT.sIx_nat, HT.sIx_none, len_cps]
  by_cases h : k ≤ z.cps.toList.length
  · rw [Nat.min_eq_left h, List.take_of_length_le (by rw [List.length_drop]; omega)]
  · rw [Nat.min_eq_right (by omega), List.drop_eq_nil_of_le (Nat.le_refl _), List.drop_eq_nil_of_le (by omega), List.take_nil]
/-- different names -/
structure NameL (ns : List Str) : Prop where
  nd : ns.Nodup
  nm : ∀ s ∈ ns, isName s = true
theorem NameL.perm {ns ms : List Str} (h : NameL ns) (p : ms.Perm ns) : NameL ms := ⟨p.nodup_iff.mpr h.nd, fun s hs => h.nm s (p.mem_iff.mp hs)⟩
/-- letters -/
def nmA (t k : Nat) : Str := sing (97 + (t + 7 * k) % 26)
theorem nmA_list (t m : Nat) (hm : m ≤ 12) : NameL ((List.range m).map (nmA t)) := by
  refine ⟨nodup_range m fun j k h1 h2 e => ?_, fun s hs => ?_⟩
  · have e' : 97 + (t + 7 * j) % 26 = 97 + (t + 7 * k) % 26 := by
      have := congrArg (fun s : Str => s.cps.toList) e
      simpa [nmA, sing] using this
    omega
  · obtain ⟨k, _, rfl⟩ := List.mem_map.mp hs
    refine isName_of (by simp [nmA, sing]) (by simp [nmA, sing]) fun c hc => ?_
    have : c = 97 + (t + 7 * k) % 26 := by simpa [nmA, sing] using hc
    rw [this]
    exact low_mem (Nat.mod_lt _ (by decide))
/-- a letter within a stem -/
def nmB (stem : List Nat) (a : Nat) (s : Str) : Str := ⟨(stem.take a ++ s.cps.toList ++ stem.drop a).toArray⟩
theorem nmB_list {stem : List Nat} {a : Nat} (hs : stem.length = 5) (hl : ∀ c ∈ stem, c ∈ lows) {ns : List Str} (hn : NameL ns) (h1 : ∀ s ∈ ns, s.cps.toList.length = 1) : NameL (ns.map (nmB stem a)) := by
  refine ⟨?_, fun s hs' => ?_⟩
  · refine List.pairwise_map.mpr (List.Pairwise.imp_of_mem (fun {x y} hx hy hne e => ?_) hn.nd)
    have e' := congrArg (fun s : Str => s.cps.toList) e
    simp only [nmB] at e'
    rw [List.append_assoc, List.append_assoc] at e'
    have e2 := List.append_cancel_left e'
    have e3 := List.append_cancel_right e2
    exact hne (cps_eq e3)
  · obtain ⟨x, hx, rfl⟩ := List.mem_map.mp hs'
    have hx1 := h1 x hx
    have hlen : (stem.take a).length + (stem.drop a).length = 5 := by rw [List.length_take, List.length_drop]; omega
    refine isName_of (by simp only [nmB, List.length_append]; omega) (by simp only [nmB, List.length_append]; omega) fun c hc => ?_
    have hc' : c ∈ stem.take a ++ x.cps.toList ++ stem.drop a := hc
    rcases List.mem_append.mp hc' with h | h
    · rcases List.mem_append.mp h with h | h
      · exact hl c (List.mem_of_mem_take h)
      · have nm := hn.nm x hx
        unfold isName at nm
        simp only [Bool.and_eq_true, List.all_eq_true, decide_eq_true_eq] at nm
        exact nm.2 c h
    · exact hl c (List.mem_of_mem_drop h)
/-- names that begin alike -/
def tailC : List Nat := ("kqzjxv" : Str).cps.toList
def nmC (t k : Nat) : Str := ⟨((97 + (t + 7 * (k / 6)) % 26) :: tailC.take (k % 6)).toArray⟩
theorem nmC_list (t m : Nat) (hm : m ≤ 12) : NameL ((List.range m).map (nmC t)) := by
  have ht : tailC.length = 6 := by decide
  refine ⟨nodup_range m fun j k h1 h2 e => ?_, fun s hs => ?_⟩
  · have e' := congrArg (fun s : Str => s.cps.toList) e
    simp only [nmC] at e'
    obtain ⟨e1, e2⟩ := List.cons.inj e'
    have e3 := congrArg List.length e2
    rw [List.length_take, List.length_take, ht] at e3
    omega
  · obtain ⟨k, _, rfl⟩ := List.mem_map.mp hs
    refine isName_of (by simp [nmC]) (by simp only [nmC, List.length_cons, List.length_take, ht]; omega) fun c hc => ?_
    have hc' : c ∈ (97 + (t + 7 * (k / 6)) % 26) :: tailC.take (k % 6) := hc
    rcases List.mem_cons.mp hc' with h | h
    · rw [h]; exact low_mem (Nat.mod_lt _ (by decide))
    · have key : ∀ c ∈ tailC, c ∈ lows := by decide +kernel
      exact key c (List.mem_of_mem_take h)
/-- words -/
def wordsL : List Str := ["free", "kinds", "main", "do", "out", "move", "row", "form", "root", "count", "join", "undo"]
def nmD (r m : Nat) : List Str := ((wordsL ++ wordsL).drop r).take m
theorem nmD_list {r m : Nat} (hr : r < 12) (hm : m ≤ 12) : NameL (nmD r m) ∧ (nmD r m).length = m := by
  have h1 : ∀ r : Fin 12, ((wordsL ++ wordsL).drop r.val).take 12 |>.Nodup := by decide +kernel
  have h2 : ∀ s ∈ wordsL ++ wordsL, isName s = true := by decide +kernel
  have h3 : (wordsL ++ wordsL).length = 24 := by decide
  have e : nmD r m = (((wordsL ++ wordsL).drop r).take 12).take m := by
    unfold nmD
    rw [List.take_take, Nat.min_eq_left hm]
  refine ⟨⟨?_, fun s hs => h2 s (List.mem_of_mem_drop (List.mem_of_mem_take hs))⟩, ?_⟩
  · rw [e]
    exact (h1 ⟨r, hr⟩).sublist (List.take_sublist _ _)
  · unfold nmD
    rw [List.length_take, List.length_drop, h3]
    omega
def sp_names (K : PySem.W.Frag) : Sp := fun vs H Q _ => ∃ (p q : Addr) (G : Hp) (m : Nat), vs = [.ref p, .int m] ∧ WD G H p q ∧ 1 ≤ m ∧ m ≤ 12 ∧
  ∀ l H' ns, H l = none → G l = none → NameL ns → ns.length = m → Grow (Two p q) G H G H' → WD G H' p q → H' l = some (.lst (ns.map V.str)) → Q (.ref l) H'
/-! _law_names: 0=deal_here 1=many 2=letters 3=form 4=turn 5=found 6=at 7=stem 8=words 9=k 10=letter -/
def t_names (K : PySem.W.Frag) (W : WX) : TS :=
  (tSeq (tAsg (tTup (tCons (tC (.str "abcdefghijklmnopqrstuvwxyz")) (tCons (uCall (sp_draw K) [] W (tCons (uV 0) (tCons (tC (.int 5)) tNil))) (tCons (uCall (sp_draw K) [] W (tCons (uV 0) (tCons (tC (.int 26)) tNil))) tNil)))) (uTup K 3 (uGc (gName 2) (uGc (gName 3) (uGc (gName 4) uGn))))) (tSeq (tAsg (tLc (uiR1 (uV 1)) (gName 9) tYes (tOp (uIx K) (uV 2) (tOp uMod (tOp uAdd (uV 4) (tOp uMul (tC (.int 7)) (uV 9))) (tC (.int 26)))) [9]) (gName 5)) (tSeq (cS (tIfS (uB (tOp (uEq K) (uV 3) (tC (.int 1)))) (tSeq (tAsg (tTup (tCons (uCall (sp_draw K) [] W (tCons (uV 0) (tCons (tC (.int 6)) tNil))) (tCons (uSm (fJoin K) (tC (.str "")) (tLc (uiR1 (tC (.int 5))) (gName 9) tYes (tOp (uIx K) (uV 2) (uCall (sp_draw K) [] W0 (tCons (uV 0) (tCons (tC (.int 16)) tNil)))) [9])) tNil))) (uTup K 2 (uGc (gName 6) (uGc (gName 7) uGn)))) (tAsg (tLc (uiSeq K (uV 5)) (gName 10) tYes (tOp uAdd (tOp uAdd (tSl (uSl K) (uV 7) tNoPart (uPart (uV 6))) (uV 10)) (tSl (uSl K) (uV 7) (uPart (uV 6)) tNoPart)) [10]) (gName 5))) tNext)) (tSeq (cS (tIfS (uB (tOp (uEq K) (uV 3) (tC (.int 2)))) (tAsg (tLc (uiR1 (uV 1)) (gName 9) tYes (tOp uAdd (tOp (uIx K) (uV 2) (tOp uMod (tOp uAdd (uV 4) (tOp uMul (tC (.int 7)) (tOp uFdv (uV 9) (tC (.int 6))))) (tC (.int 26)))) (tSl (uSl K) (tC (.str "kqzjxv")) tNoPart (uPart (tOp uMod (uV 9) (tC (.int 6)))))) [9]) (gName 5)) tNext)) (tSeq (cS (tIfS (uB (tOp (uEq K) (uV 3) (tC (.int 3)))) (tSeq (tAsg (tLst (tCons (tC (.str "free")) (tCons (tC (.str "kinds")) (tCons (tC (.str "main")) (tCons (tC (.str "do")) (tCons (tC (.str "out")) (tCons (tC (.str "move")) (tCons (tC (.str "row")) (tCons (tC (.str "form")) (tCons (tC (.str "root")) (tCons (tC (.str "count")) (tCons (tC (.str "join")) (tCons (tC (.str "undo")) tNil))))))))))))) (gName 8)) (tAsg (tSl (uSl K) (tOp uAdd (uV 8) (uV 8)) (uPart (tOp uMod (uV 4) (tC (.int 12)))) (uPart (tOp uAdd (tOp uMod (uV 4) (tC (.int 12))) (uV 1)))) (gName 5))) tNext)) (tRet (uCall (sp_mixed K) [] W (tCons (uV 0) (tCons (uV 5) tNil)))))))))
theorem pure_names {K : PySem.W.Frag} {W : WX} (vs : List V) (H : Hp) (Q : VK) (E : XK) (h : sp_names K vs H Q E) : t_names K W { nx := fun _ H' => Q .non H', rt := Q } (start ["deal", "many", "letters", "form", "turn", "found", "at", "stem", "words", "k", "letter"] vs) H := by
  obtain ⟨p, q, G, m, rfl, w, hm1, hm12, kp⟩ := h
  have line : sizeLine = 16777216 := sizeLine_eq
  refine ⟨p, q, G, 5, rfl, w, by decide, by decide, fun f H1 hf0 hf1 g1 w1 => ?_⟩
  refine ⟨p, q, G, 26, rfl, w1, by decide, by decide, fun tz H2 ht0 ht1 g2 w2 => ?_⟩
  obtain ⟨t, rfl⟩ : ∃ t : Nat, tz = t := ⟨tz.toNat, by omega⟩
  have g3 := g1.trans g2
  refine ⟨Nat.le_of_ble_eq_true rfl, fun T hT => ⟨_, .inl (.inl upd_same), rfl, ?_⟩⟩
  have w3 := w2.av (o := .tup [.str "abcdefghijklmnopqrstuvwxyz", .int f, .int (t : Nat)]) hT
  have g4 := g3.av (o := .tup [.str "abcdefghijklmnopqrstuvwxyz", .int f, .int (t : Nat)]) hT
  generalize upd H2 T (.tup [.str "abcdefghijklmnopqrstuvwxyz", .int f, .int (t : Nat)]) = H3 at w3 g4 ⊢
  -- the letters
  refine ⟨by omega, by omega, fun D hD => ?_⟩
  refine lc_g walk_range (fun i acc _ => acc = ((List.range i).map (nmA t)).map V.str) NoS w3.sub hD rfl (fun _ _ _ => trivial) ?_ ?_
  · rintro i x acc G' H4 H4' hi hl hd hg g rfl ⟨rfl, rfl⟩
    have hi' : i < m := by omega
    have hmod : (((t : Nat) : Int) + 7 * (0 + (i : Int))) % 26 = (((t + 7 * i) % 26 : Nat) : Int) := by omega
    refine ⟨rfl, wide_mul (a := 3) (b := 10) (by decide) (by omega) (by decide) (by decide) (by decide), by decide, 97 + (t + 7 * i) % 26, by rw [line]; decide, atI_of hmod (lows_get (Nat.mod_lt _ (by decide))), Lc.add hD (by omega) hl hg hd g ?_⟩
    rw [List.range_succ, List.map_append, List.map_append]
    rfl
  rintro acc G' H4 hl hd hg g rfl
  have g5 := g4.trans g.of0.closeG
  have w5 := w3.grow0 g.closeG
  have Dn : H D = none := g4.free hD
  have nA := nmA_list t m hm12
  have mt : (Int.toNat (m : Int)) = m := rfl
  rw [mt] at hd
  -- the end: in some order
  have fin : ∀ (l : Addr) (Hh : Hp) (ns : List Str) (x6 x7 x8 : Option V), Grow (Two p q) G H G Hh → WD G Hh p q → H l = none → G l = none → Hh l = some (.lst (ns.map V.str)) → NameL ns → ns.length = m →
      tRet (uCall (sp_mixed K) [] W (tCons (uV 0) (tCons (uV 5) tNil))) { nx := fun _ H' => Q .non H', rt := Q } [some (.ref p), some (.int m), some (.str "abcdefghijklmnopqrstuvwxyz"), some (.int f), some (.int (t : Nat)), some (.ref l), x6, x7, x8, none, none] Hh := by
    intro l Hh ns x6 x7 x8 gh wh hl hgl hll hns hlen
    have lp : l ≠ p := w.ne_p hl
    have lq : l ≠ q := w.ne_q hl
    have wf := wh.fz hll hgl lp lq
    have sm : Same G (upd G l (.lst (ns.map V.str))) := same_up hgl
    refine ⟨p, q, l, _, true, ns.map V.str, ns.map PyData.str, rfl, wf, SqL.of upd_same, dpA_strs ns, fun d hd => ?_, by rw [List.length_map]; omega, fun l2 H5 zs hl2 hp5 g5 w5 h5 => ?_⟩
    · obtain ⟨s, hs, rfl⟩ := List.mem_map.mp hd
      exact (Sh.str (ascii_ok (isName_ascii (hns.nm s hs)))).mono
    · obtain ⟨ns', hp', rfl⟩ := perm_map_ex hp5 rfl
      exact kp l2 H5 ns' (gh.free hl2) (sub_none gh.sub hl2) (hns.perm hp') (hp'.length_eq.trans hlen) (gh.trans (g5.low sm)) (w5.low sm) h5
  -- what holds behind each if
  have Dq : D ≠ q := w3.ne_q hD
  let Inv : L2.St → Hp → Prop := fun σ Hh => ∃ l ns x6 x7 x8, σ = [some (.ref p), some (.int m), some (.str "abcdefghijklmnopqrstuvwxyz"), some (.int f), some (.int (t : Nat)), some (.ref l), x6, x7, x8, none, none] ∧ Grow (Two p q) G H G Hh ∧ WD G Hh p q ∧ H l = none ∧ G l = none ∧ Hh l = some (.lst (ns.map V.str)) ∧ NameL ns ∧ ns.length = m
  have I0 : Inv _ H4 := ⟨D, (List.range m).map (nmA t), none, none, none, rfl, g5, w5, Dn, sub_none w.sub Dn, hd, nA, by rw [List.length_map, List.length_range]⟩
  refine ⟨Inv, ?_, ?_⟩
  · refine iteD (fun hf => ?_) fun hf => I0
    have Dp : D ≠ p := w.ne_p Dn
    have Dq' : D ≠ q := w.ne_q Dn
    have nTwo : ¬ Two p q D := fun z => z.elim Dp Dq'
    refine ⟨p, q, G, 6, rfl, w5, by decide, by decide, fun az H5 ha0 ha1 g6 w6 => ?_⟩
    obtain ⟨a, rfl⟩ : ∃ a : Nat, az = a := ⟨az.toNat, by omega⟩
    refine ⟨by decide, by decide, fun D2 hD2 => ?_⟩
    have g7 := g5.trans g6
    have d7 := g6.keep _ _ nTwo hd
    have DD : D ≠ D2 := ne_of_none d7 hD2
    have D2n : H D2 = none := g7.free hD2
    have D2p : ¬ Two p q D2 := fun z => z.elim (w.ne_p D2n) (w.ne_q D2n)
    refine lc_it walk_range (fun i H' => ∃ cs : List Nat, H' D2 = some (.lst ((cs.map sing).map V.str)) ∧ cs.length = i ∧ (∀ c ∈ cs, c ∈ lows) ∧ Grow (Two p q) G H G H' ∧ WD G H' p q ∧ H' D = some (.lst (((List.range m).map (nmA t)).map V.str)))
      ⟨[], upd_same, rfl, fun c hc => (by cases hc), g7.av hD2, w6.av hD2, by rw [upd_ne DD]; exact d7⟩ (fun _ _ _ _ => trivial) ?_ ?_
    · rintro i x H6 H6' hi ⟨cs, c1, c2, c3, c4, c5, c6⟩ ⟨rfl, rfl⟩
      refine ⟨rfl, p, q, G, 16, rfl, c5, by decide, by decide, fun n H7 hn0 hn1 g8 w8 => ?_⟩
      obtain ⟨n, rfl⟩ : ∃ k : Nat, n = k := ⟨n.toNat, by omega⟩
      have e2 := g8.keep _ _ D2p c1
      refine ⟨97 + n, by rw [line]; decide, atI_of rfl (lows_get (by omega)), _, e2, by rw [List.length_map, List.length_map, c2]; have : (Int.toNat (5 : Int)) = 5 := rfl; omega, cs ++ [97 + n], ?_, by rw [List.length_append, c2]; rfl, fun c hc => ?_, (c4.trans g8).wr (sub_none w.sub D2n) (.inl D2n), w8.wr (sub_none w.sub D2n) (w.ne_p D2n) (w.ne_q D2n), by rw [upd_ne DD]; exact g8.keep _ _ nTwo c6⟩
      · rw [upd_same, List.map_append, List.map_append]; rfl
      · rcases List.mem_append.mp hc with h | h
        · exact c3 c h
        · rw [List.mem_singleton.mp h]; exact low_mem (by omega)
    · rintro H6 ⟨cs, c1, c2, c3, c4, c5, c6⟩
      have c2' : cs.length = 5 := c2
      refine ⟨cs.map sing, .inl (SqL.of c1), ?_, ?_⟩
      · rw [sum_sing, List.length_map]
        have e : ("" : Str).length = 0 := by decide
        rw [e, c2']
        decide
      obtain ⟨stem, hstem⟩ : ∃ z, z = Txt.join "" (cs.map sing) := ⟨_, rfl⟩
      have est : stem.cps.toList = cs := by rw [hstem]; exact join_sing cs
      rw [← hstem]
      refine ⟨Nat.le_of_ble_eq_true rfl, fun T2 hT2 => ⟨_, .inl (.inl upd_same), rfl, ?_⟩⟩
      have c7 := c4.av (o := .tup [.int (a : Nat), .str stem]) hT2
      have w7 := c5.av (o := .tup [.int (a : Nat), .str stem]) hT2
      have d8 : upd H6 T2 (.tup [.int (a : Nat), .str stem]) D = some (.lst (((List.range m).map (nmA t)).map V.str)) := by rw [upd_ne (ne_of_none c6 hT2)]; exact c6
      generalize upd H6 T2 (.tup [.int (a : Nat), .str stem]) = H7 at c7 w7 d8 ⊢
      refine ⟨true, _, SqL.of d8, fun D3 hD3 => ?_⟩
      have hlenA : (((List.range m).map (nmA t)).map V.str).length = m := by rw [List.length_map, List.length_map, List.length_range]
      refine lc_g walk_B (fun i acc _ => acc = ((((List.range m).map (nmA t)).take i).map (nmB cs a)).map V.str) NoS w7.sub hD3 rfl (fun i H' c => by
        obtain ⟨acc, G', _, _, _, g, _⟩ := c.ex
        exact SqL.of (g.keep _ _ (fun z => z) d8)) ?_ ?_
      · rintro i x acc G' H8 H8' hi hl hd' hg' g' rfl ⟨rfl, hx⟩
        obtain ⟨s, hs, rfl⟩ := mapV_at hx
        have s1 : s.cps.toList.length = 1 := by
          obtain ⟨k, _, rfl⟩ := List.mem_map.mp (List.mem_of_getElem? hs)
          rfl
        have l1 : stem.length = 5 := by rw [len_cps, est, c2']
        have e1 := cutS_to stem a
        have e2 := cutS_from stem a
        rw [est] at e1 e2
        have q1 : (cutS stem none (some ((a : Nat) : Int))).length ≤ 5 := by rw [len_cps, e1, List.length_take]; omega
        have q2 : (cutS stem (some ((a : Nat) : Int)) none).length ≤ 5 := by rw [len_cps, e2, List.length_drop]; omega
        have q3 : s.length = 1 := by rw [len_cps, s1]
        refine ⟨rfl, ?_⟩
        refine uSl_S (by omega) ?_
        refine ⟨by omega, ?_⟩
        refine uSl_S (by omega) ?_
        have q4 : (cutS stem none (some ((a : Nat) : Int)) ++ s).length ≤ 6 := by rw [len_cps, app_cps, e1, List.length_append, List.length_take, s1]; omega
        refine ⟨by omega, Lc.add hD3 (by rw [hlenA] at hi; omega) hl hg' hd' g' ?_⟩
        rw [List.take_succ, hs, List.map_append, List.map_append]
        have e3 : cutS stem none (some ((a : Nat) : Int)) ++ s ++ cutS stem (some ((a : Nat) : Int)) none = nmB cs a s := by
          refine cps_eq ?_
          rw [app_cps, app_cps, e1, e2]
          rfl
        rw [e3]
        rfl
      · rintro acc G' H8 hl hd' hg' g' rfl
        rw [hlenA, List.take_of_length_le (by rw [List.length_map, List.length_range]; exact Nat.le_refl _)] at hd'
        have D3n : H D3 = none := c7.free hD3
        exact ⟨D3, _, _, _, _, rfl, c7.trans g'.of0.closeG, w7.grow0 g'.closeG, D3n, sub_none w.sub D3n, hd', nmB_list c2' c3 nA (fun s hs => by obtain ⟨k, _, rfl⟩ := List.mem_map.mp hs; rfl), by rw [List.length_map, List.length_map, List.length_range]⟩
  rintro σ1 H5 ⟨l, ns, x6, x7, x8, rfl, gh, wh, hl0, hgl, hll, hns, hlen⟩
  refine ⟨Inv, ?_, ?_⟩
  · refine iteD (fun hf => ?_) fun hf => ⟨l, ns, x6, x7, x8, rfl, gh, wh, hl0, hgl, hll, hns, hlen⟩
    refine ⟨by omega, by omega, fun D2 hD2 => ?_⟩
    refine lc_g walk_range (fun i acc _ => acc = ((List.range i).map (nmC t)).map V.str) NoS wh.sub hD2 rfl (fun _ _ _ => trivial) ?_ ?_
    · rintro i x acc G' H6 H6' hi hl' hd' hg' g' rfl ⟨rfl, rfl⟩
      have hi' : i < m := by omega
      have hmod : (((t : Nat) : Int) + 7 * ((0 + (i : Int)) / 6)) % 26 = (((t + 7 * (i / 6)) % 26 : Nat) : Int) := by omega
      have hmod2 : ((0 + (i : Int)) % 6) = ((i % 6 : Nat) : Int) := by omega
      have cm : CMulW 7 ((0 + (i : Int)) / 6) := wide_mul (a := 3) (b := 10) (by decide) (by omega) (by decide) (by decide) (by decide)
      refine ⟨rfl, wide_div (b := 70) (by decide) (by decide) (by decide) (by decide), cm, by decide, 97 + (t + 7 * (i / 6)) % 26, by rw [line]; decide, atI_of hmod (lows_get (Nat.mod_lt _ (by decide))), by decide, ?_⟩
      rw [hmod2]
      refine uSl_S (by rw [line]; decide) ?_
      have ek : ("kqzjxv" : Str).cps.toList = tailC := rfl
      have e1 := cutS_to "kqzjxv" (i % 6)
      rw [ek] at e1
      have q1 : (cutS "kqzjxv" none (some ((i % 6 : Nat) : Int))).length ≤ 6 := by
        rw [len_cps, e1, List.length_take]
        have : tailC.length = 6 := by decide
        omega
      refine ⟨by show 1 + _ ≤ _; omega, Lc.add hD2 (by omega) hl' hg' hd' g' ?_⟩
      rw [List.range_succ, List.map_append, List.map_append]
      have e3 : (⟨#[97 + (t + 7 * (i / 6)) % 26]⟩ : Str) ++ cutS "kqzjxv" none (some ((i % 6 : Nat) : Int)) = nmC t i := by
        refine cps_eq ?_
        rw [app_cps, e1]
        rfl
      rw [e3]
      rfl
    · rintro acc G' H6 hl' hd' hg' g' rfl
      have D2n : H D2 = none := gh.free hD2
      exact ⟨D2, (List.range m).map (nmC t), _, _, _, rfl, gh.trans g'.of0.closeG, wh.grow0 g'.closeG, D2n, sub_none w.sub D2n, hd', nmC_list t m hm12, by rw [List.length_map, List.length_range]⟩
  rintro σ2 H6 ⟨l, ns, x6, x7, x8, rfl, gh, wh, hl0, hgl, hll, hns, hlen⟩
  refine ⟨Inv, ?_, ?_⟩
  · refine iteD (fun hf => ?_) fun hf => ⟨l, ns, x6, x7, x8, rfl, gh, wh, hl0, hgl, hll, hns, hlen⟩
    refine ⟨Nat.le_of_ble_eq_true rfl, fun D2 hD2 => ?_⟩
    have gi := gh.av (o := .lst (wordsL.map V.str)) hD2
    have wi := wh.av (o := .lst (wordsL.map V.str)) hD2
    have di : upd H6 D2 (.lst (wordsL.map V.str)) D2 = some (.lst (wordsL.map V.str)) := upd_same
    generalize hh : upd H6 D2 (.lst [V.str "free", V.str "kinds", V.str "main", V.str "do", V.str "out", V.str "move", V.str "row", V.str "form", V.str "root", V.str "count", V.str "join", V.str "undo"]) = H7
    have hh' : upd H6 D2 (.lst (wordsL.map V.str)) = H7 := hh
    rw [hh'] at gi wi di
    refine ⟨_, _, di, di, by rw [line]; decide, fun D3 hD3 => ?_⟩
    have gj := gi.av (o := .lst (wordsL.map V.str ++ wordsL.map V.str)) hD3
    have wj := wi.av (o := .lst (wordsL.map V.str ++ wordsL.map V.str)) hD3
    have dj : upd H7 D3 (.lst (wordsL.map V.str ++ wordsL.map V.str)) D3 = some (.lst (wordsL.map V.str ++ wordsL.map V.str)) := upd_same
    generalize upd H7 D3 (.lst (wordsL.map V.str ++ wordsL.map V.str)) = H8 at gj wj dj ⊢
    have r1 : ((t : Nat) : Int) % 12 = ((t % 12 : Nat) : Int) := by omega
    have r2 : ((t : Nat) : Int) % 12 + (m : Int) = ((t % 12 + m : Nat) : Int) := by omega
    refine ⟨by decide, by decide, ?_⟩
    refine uSl_L (SqL.of dj) fun D4 hD4 => ?_
    have e : cutV (wordsL.map V.str ++ wordsL.map V.str) (some (((t : Nat) : Int) % 12)) (some (((t : Nat) : Int) % 12 + (m : Int))) = (nmD (t % 12) m).map V.str := by
      rw [r2, r1, cut_mid, ← List.map_append, ← List.map_drop, ← List.map_take]
      have : t % 12 + m - t % 12 = m := by omega
      rw [this]
      rfl
    rw [e]
    have gk := gj.av (o := .lst ((nmD (t % 12) m).map V.str)) hD4
    have wk := wj.av (o := .lst ((nmD (t % 12) m).map V.str)) hD4
    have D4n : H D4 = none := gj.free hD4
    obtain ⟨n1, n2⟩ := nmD_list (r := t % 12) (Nat.mod_lt _ (by decide)) hm12
    exact ⟨D4, nmD (t % 12) m, _, _, _, rfl, gk, wk, D4n, sub_none w.sub D4n, upd_same, n1, n2⟩
  rintro σ2 H6 ⟨l, ns, x6, x7, x8, rfl, gh, wh, hl0, hgl, hll, hns, hlen⟩
  exact fin l H6 ns x6 x7 x8 gh wh hl0 hgl hll hns hlen
/-! ### pairs -/
theorem pairS_inj {a b c d : Str} (h : pairS a b = pairS c d) : (a = c ∧ b = d) ∨ (a = d ∧ b = c) := by
  unfold pairS at h
  split at h <;> split at h <;> simp at h
  · exact .inl h
  · exact .inr h
  · exact .inr ⟨h.2, h.1⟩
  · exact .inl ⟨h.2, h.1⟩
abbrev pS (p : Str × Str) : List Str := pairS p.1 p.2
/-- pairs of kinds, each once -/
structure PairL (ks : List Str) (qs : List (Str × Str)) : Prop where
  ok : ∀ p ∈ qs, p.1 ∈ ks ∧ p.2 ∈ ks ∧ p.1 ≠ p.2
  nd : (qs.map pS).Nodup
theorem PairL.len {ks : List Str} {qs : List (Str × Str)} (h : PairL ks qs) (hk : ks.length ≤ 12) : qs.length ≤ 66 := by
  have h1 := nodup_le (qs.map pS) (half ks) h.nd fun q hq => by
    obtain ⟨pr, hp, rfl⟩ := List.mem_map.mp hq
    obtain ⟨a, b, c⟩ := h.ok pr hp
    exact mem_half c a b
  rw [List.length_map, half_len] at h1
  have h2 : tri ks.length ≤ tri 12 := tri_mono hk
  have h3 : tri 12 = 66 := by decide
  omega
theorem PairL.perm {ks : List Str} {qs rs : List (Str × Str)} (h : PairL ks qs) (p : rs.Perm qs) : PairL ks rs := ⟨fun x hx => h.ok x (p.mem_iff.mp hx), (p.map pS).nodup_iff.mpr h.nd⟩
/-- the pairs made so far: of kinds j > k, j < i, or j = i and k < i2 -/
structure PairI (ks : List Str) (i i2 : Nat) (qs : List (Str × Str)) : Prop extends PairL ks qs where
  at_ : ∀ r ∈ qs.map pS, ∃ j k x y, k < j ∧ (j < i ∨ (j = i ∧ k < i2)) ∧ ks[j]? = some x ∧ ks[k]? = some y ∧ r = pairS x y
theorem nodup_ix {α : Type} {l : List α} (h : l.Nodup) {i j : Nat} {x : α} (hi : l[i]? = some x) (hj : l[j]? = some x) : i = j := by
  obtain ⟨h1, e1⟩ := List.getElem?_eq_some_iff.mp hi
  obtain ⟨h2, e2⟩ := List.getElem?_eq_some_iff.mp hj
  exact (List.getElem_inj h).mp (e1.trans e2.symm)
theorem PairI.more {ks : List Str} {i i2 : Nat} {qs : List (Str × Str)} (hk : ks.Nodup) (h : PairI ks i i2 qs) {x y : Str} (hx : ks[i]? = some x) (hy : ks[i2]? = some y) (hlt : i2 < i) {p : Str × Str} (hp : p = (x, y) ∨ p = (y, x)) : PairI ks i (i2 + 1) (qs ++ [p]) := by
  have ne : x ≠ y := fun e => by
    rw [e] at hx
    have := nodup_ix hk hx hy
    omega
  have e : pS p = pairS x y := by
    rcases hp with e | e
    · rw [e]
    · rw [e]; exact pairS_comm (Ne.symm ne)
  have new : pairS x y ∉ qs.map pS := fun hm => by
    obtain ⟨j, k, x', y', hkj, hc, h1, h2, e2⟩ := h.at_ _ hm
    rcases pairS_inj e2 with ⟨rfl, rfl⟩ | ⟨rfl, rfl⟩
    · have a := nodup_ix hk hx h1
      have b := nodup_ix hk hy h2
      omega
    · have a := nodup_ix hk hx h2
      have b := nodup_ix hk hy h1
      omega
  have mx := List.mem_of_getElem? hx
  have my := List.mem_of_getElem? hy
  refine ⟨⟨fun r hr => ?_, ?_⟩, fun r hr => ?_⟩
  · rcases List.mem_append.mp hr with hr | hr
    · exact h.ok r hr
    · rw [List.mem_singleton] at hr
      subst hr
      rcases hp with e | e
      · rw [e]; exact ⟨mx, my, ne⟩
      · rw [e]; exact ⟨my, mx, Ne.symm ne⟩
  · rw [List.map_append, List.nodup_append]
    refine ⟨h.nd, by simp, fun a ha b hb z => ?_⟩
    have hb' : b = pS p := by simpa using hb
    rw [z, hb', e] at ha
    exact new ha
  · rw [List.map_append] at hr
    rcases List.mem_append.mp hr with hr | hr
    · obtain ⟨j, k, x', y', a1, a2, a3⟩ := h.at_ r hr
      exact ⟨j, k, x', y', a1, by omega, a3⟩
    · have hr' : r = pS p := by simpa using hr
      exact ⟨i, i2, x, y, hlt, .inr ⟨rfl, Nat.lt_succ_self i2⟩, hx, hy, hr'.trans e⟩
theorem PairI.skip {ks : List Str} {i i2 : Nat} {qs : List (Str × Str)} (h : PairI ks i i2 qs) : PairI ks i (i2 + 1) qs := ⟨h.toPairL, fun r hr => by
  obtain ⟨j, k, x', y', a1, a2, a3⟩ := h.at_ r hr
  exact ⟨j, k, x', y', a1, by omega, a3⟩⟩
theorem PairI.next {ks : List Str} {i : Nat} {qs : List (Str × Str)} (h : PairI ks i i qs) : PairI ks (i + 1) 0 qs := ⟨h.toPairL, fun r hr => by
  obtain ⟨j, k, x', y', a1, a2, a3⟩ := h.at_ r hr
  exact ⟨j, k, x', y', a1, by omega, a3⟩⟩
end U

set_option Elab.async false
set_option linter.all false
set_option maxRecDepth 100000
set_option maxHeartbeats 4000000
/-! P3: the laws' pairs -/
namespace U
open PySem PySem.Spec PyProof.Rows L2
def sp_pairs (K : PySem.W.Frag) : Sp := fun vs H Q _ => ∃ (p q a : Addr) (b : Bool) (ks : List Str) (G : Hp), vs = [.ref p, .ref a] ∧ WD G H p q ∧ SqB K b G a (ks.map V.str) ∧ NameL ks ∧ ks.length ≤ 12 ∧
  ∀ l H' G' as qs, H l = none → G' l = none → Grow (Two p q) G H G' H' → WD G' H' p q → H' l = some (.lst (as.map V.ref)) → PairsAt K G' as (qs.map raw) → PairL ks qs → Q (.ref l) H'
/-! _law_pairs: 0=deal_here 1=kinds 2=form 3=found 4=at 5=kind 6=to 7=other 8=chance -/
def t_pairs (K : PySem.W.Frag) (W : WX) : TS :=
  (tSeq (uPar 2 3 (tCons (uCall (sp_draw K) [] W (tCons (uV 0) (tCons (tC (.int 8)) tNil))) (tCons (tLst tNil) tNil))) (tSeq (tFor (uiEnum K (uV 1)) (uTup K 2 (uGc (gName 4) (uGc (gName 5) uGn))) (tFor (uiEnum K (tSl (uSl K) (uV 1) tNoPart (uPart (uV 4)))) (uTup K 2 (uGc (gName 6) (uGc (gName 7) uGn))) (tSeq (tAsg (tOp (uIx K) (tLst (tCons (tC (.int 0)) (tCons (tC (.int 4)) (tCons (tOp uMul (tC (.int 4)) (tCB uInt (tCons (tOp uGt (tOp uSub (uV 4) (uV 6)) (tC (.int 1))) tNil))) (tCons (tC (.int 1)) (tCons (tC (.int 2)) (tCons (tC (.int 2)) (tCons (tC (.int 3)) (tCons (tC (.int 3)) tNil))))))))) (uV 2)) (gName 8)) (tIfS (uB (tOp uLt (uCall (sp_draw K) [] W (tCons (uV 0) (tCons (tC (.int 4)) tNil))) (uV 8))) (tDrop (uLm fApp (uV 3) (tCons (tOp (uIx K) (tLst (tCons (tTup (tCons (uV 5) (tCons (uV 7) tNil))) (tCons (tTup (tCons (uV 7) (tCons (uV 5) tNil))) tNil))) (uCall (sp_draw K) [] W (tCons (uV 0) (tCons (tC (.int 2)) tNil)))) tNil))) tNext)))) (tRet (uCall (sp_mixed K) [] W (tCons (uV 0) (tCons (uV 3) tNil))))))
theorem pairs_same {K : PySem.W.Frag} {G G' : Hp} {as : List Addr} {qs : List (List Str)} (sm : Same G G') (h : PairsAt K G as qs) : PairsAt K G' as qs := ⟨h.1, fun i a q ha hq => sqT_same sm (h.2 i a q ha hq)⟩
theorem pairs_snoc {K : PySem.W.Frag} {G : Hp} {as : List Addr} {qs : List (List Str)} {a : Addr} {q : List Str} (h : PairsAt K G as qs) (ha : SqT K G a (q.map V.str)) : PairsAt K G (as ++ [a]) (qs ++ [q]) := by
  refine ⟨by rw [List.length_append, List.length_append, h.1]; rfl, fun i b r hb hr => ?_⟩
  by_cases hi : i < as.length
  · rw [List.getElem?_append_left hi] at hb
    rw [List.getElem?_append_left (by rw [← h.1]; exact hi)] at hr
    exact h.2 i b r hb hr
  · rw [List.getElem?_append_right (by omega)] at hb
    rw [List.getElem?_append_right (by rw [← h.1]; omega), ← h.1] at hr
    have e : i - as.length = 0 := by
      have := (List.getElem?_eq_some_iff.mp hb).1
      simp at this
      omega
    rw [e] at hb hr
    simp at hb hr
    rw [← hb, ← hr]
    exact ha
theorem pairs_zip {K : PySem.W.Frag} {G : Hp} {as : List Addr} {qs : List (Str × Str)} (h : PairsAt K G as (qs.map raw)) {r : Addr × Str × Str} (hr : r ∈ as.zip qs) : SqT K G r.1 [.str r.2.1, .str r.2.2] := by
  obtain ⟨i, hi, e⟩ := List.getElem_of_mem hr
  have e1 : (as.zip qs)[i]? = some r := by rw [List.getElem?_eq_getElem hi, e]
  rw [List.getElem?_zip_eq_some] at e1
  exact h.2 i r.1 (raw r.2) e1.1 (by rw [List.getElem?_map, e1.2]; rfl)
theorem pairs_of {K : PySem.W.Frag} {G : Hp} {rs : List (Addr × Str × Str)} (h : ∀ r ∈ rs, SqT K G r.1 [.str r.2.1, .str r.2.2]) : PairsAt K G (rs.map (·.1)) ((rs.map (·.2)).map raw) := by
  refine ⟨by rw [List.length_map, List.length_map, List.length_map], fun i a q ha hq => ?_⟩
  rw [List.getElem?_map] at ha hq
  rw [List.getElem?_map] at hq
  obtain ⟨r, h1, rfl⟩ := Option.map_eq_some_iff.mp ha
  rw [h1] at hq
  cases hq
  exact h r (List.mem_of_getElem? h1)
abbrev dRaw (p : Str × Str) : PyData := .tuple [.str p.1, .str p.2]
theorem dp_pairs {K : PySem.W.Frag} {G : Hp} : ∀ {rs : List (Addr × Str × Str)}, (∀ r ∈ rs, SqT K G r.1 [.str r.2.1, .str r.2.2]) → DpAll K G (rs.map fun r => V.ref r.1) (rs.map fun r => dRaw r.2)
  | [], _ => .nil
  | r :: rs, h => .cons (.tup (h r List.mem_cons_self) (.cons (.str _) (.cons (.str _) .nil))) (dp_pairs fun x hx => h x (List.mem_cons_of_mem _ hx))
theorem sh_pair {p : Str × Str} (h1 : ascii p.1) (h2 : ascii p.2) : Sh 60 (dRaw p) := by
  refine (Sh.tuple (n := 0) fun d hd => ?_).mono
  simp only [List.mem_cons, List.not_mem_nil, or_false] at hd
  rcases hd with rfl | rfl
  · exact Sh.str (ascii_ok h1)
  · exact Sh.str (ascii_ok h2)
theorem pure_pairs {K : PySem.W.Frag} {W : WX} (vs : List V) (H : Hp) (Q : VK) (E : XK) (h : sp_pairs K vs H Q E) : t_pairs K W { nx := fun _ H' => Q .non H', rt := Q } (start ["deal", "kinds", "form", "found", "at", "kind", "to", "other", "chance"] vs) H := by
  obtain ⟨p, q, a, b, ks, G, rfl, w, ha, hns, hk12, kp⟩ := h
  have line : sizeLine = 16777216 := sizeLine_eq
  refine ⟨p, q, G, 8, rfl, w, by decide, by decide, fun fz H1 hf0 hf1 g1 w1 => ?_⟩
  obtain ⟨f, rfl⟩ : ∃ f : Nat, fz = f := ⟨fz.toNat, by omega⟩
  refine ⟨by decide, fun l hl => ?_⟩
  have g2 := g1.av (o := .lst []) hl
  have w2 := w1.av (o := .lst []) hl
  have l2 : upd H1 l (.lst []) l = some (.lst []) := upd_same
  have hln : H l = none := g1.free hl
  have gl0 : G l = none := sub_none w.sub hln
  have lp : l ≠ p := w.ne_p hln
  have lq : l ≠ q := w.ne_q hln
  have nT : ¬ Two p q l := fun z => z.elim lp lq
  generalize upd H1 l (.lst []) = H2 at g2 w2 l2 ⊢
  have mlen : (ks.map V.str).length = ks.length := List.length_map ..
  refine ⟨b, _, sqB_keep (fun o e => g2.sub _ _ e) ha, ?_⟩
  -- what holds before (i, i2)
  let St : Nat → Nat → L2.St → Hp → Prop := fun i i2 σ H' => ∃ x4 x5 x6 x7 x8 as qs G', σ = [some (.ref p), some (.ref a), some (.int (f : Nat)), some (.ref l), x4, x5, x6, x7, x8] ∧ Grow (Two p q) G H G' H' ∧ WD G' H' p q ∧ G' l = none ∧ H' l = some (.lst (as.map V.ref)) ∧ PairsAt K G' as (qs.map raw) ∧ PairI ks i i2 qs
  have base : ∀ {i i2 σ H'}, St i i2 σ H' → SqB K b H' a (ks.map V.str) := fun ⟨_, _, _, _, _, _, _, _, _, g, w, _⟩ => sqB_keep (fun o e => w.sub _ _ (g.gs _ _ e)) ha
  refine for_it walk_eB (fun i σ H' => St i 0 σ H') ⟨none, none, none, none, none, [], [], G, rfl, g2, w2, gl0, l2, ⟨rfl, fun i a q ha => (by simp at ha)⟩, ⟨⟨fun r hr => (by cases hr), List.nodup_nil⟩, fun r hr => (by cases hr)⟩⟩ (fun i σ H' _ st => base st) ?_ ?_
  · rintro i v σ H3 H3' hi st ⟨T, u, v', rfl, hT, rfl, hu, hv⟩
    obtain ⟨x4, x5, x6, x7, x8, as, qs, G3, rfl, g3, w3, gl3, l3, pa, pi⟩ := st
    cases hu
    obtain ⟨s, hs, rfl⟩ := mapV_at hv
    rw [mlen] at hi
    have g4 := g3.av (o := .tup [.int (i : Nat), .str s]) hT
    have w4 := w3.av (o := .tup [.int (i : Nat), .str s]) hT
    have l4 : upd H3 T (.tup [.int (i : Nat), .str s]) l = some (.lst (as.map V.ref)) := by rw [upd_ne (ne_of_none l3 hT)]; exact l3
    have T4 : SqT K (upd H3 T (.tup [.int (i : Nat), .str s])) T [.int (i : Nat), .str s] := .inl (.inl upd_same)
    generalize upd H3 T (.tup [.int (i : Nat), .str s]) = H4 at g4 w4 l4 T4 ⊢
    refine ⟨_, T4, rfl, ?_⟩
    refine uSl_B (b := b) (xs := ks.map V.str) (sqB_keep (fun o e => w4.sub _ _ (g4.gs _ _ e)) ha) fun l' H5 one hsl => ?_
    have ec : cutV (ks.map V.str) none (some ((i : Nat) : Int)) = (ks.take i).map V.str := by rw [cut_to, List.map_take]
    rw [ec] at hsl one
    obtain ⟨G5, g5, w5, gl5, l5, pa5, hsG⟩ : ∃ G5, Grow (Two p q) G H G5 H5 ∧ WD G5 H5 p q ∧ G5 l = none ∧ H5 l = some (.lst (as.map V.ref)) ∧ PairsAt K G5 as (qs.map raw) ∧ SqB K b G5 l' ((ks.take i).map V.str) := by
      rcases one with ⟨rfl, rfl, e⟩ | ⟨hn, rfl⟩
      · exact ⟨G3, g4, w4, gl3, l4, pa, by rw [e]; exact sqB_keep (fun o e => g4.gs _ _ e) ha⟩
      · have ll : l ≠ l' := ne_of_none l4 hn
        exact ⟨_, g4.al hn, w4.al hn, by rw [upd_ne ll]; exact gl3, by rw [upd_ne ll]; exact l4, pairs_same (same_up (sub_none w4.sub hn)) pa, .of_oB upd_same⟩
    have tl : ((ks.take i).map V.str).length = i := by rw [List.length_map, List.length_take]; omega
    refine ⟨b, _, hsl, ?_⟩
    let St2 : Nat → L2.St → Hp → Prop := fun i2 σ H' => ∃ x6 x7 x8 as qs G', σ = [some (.ref p), some (.ref a), some (.int (f : Nat)), some (.ref l), some (.int (i : Nat)), some (.str s), x6, x7, x8] ∧ Grow (Two p q) G H G' H' ∧ WD G' H' p q ∧ G' l = none ∧ H' l = some (.lst (as.map V.ref)) ∧ PairsAt K G' as (qs.map raw) ∧ PairI ks i i2 qs ∧ SqB K b G' l' ((ks.take i).map V.str)
    refine for_it walk_eB (fun i2 σ H' => St2 i2 σ H') ⟨x6, x7, x8, as, qs, G5, rfl, g5, w5, gl5, l5, pa5, pi, hsG⟩ (fun i2 σ H' _ ⟨_, _, _, _, _, _, _, _, w, _, _, _, _, h⟩ => sqB_keep (fun o e => w.sub _ _ e) h) ?_ ?_
    · rintro i2 v2 σ H6 H6' hi2 ⟨y6, y7, y8, bs, rs, G6, rfl, g6, w6, gl6, l6, pb, pj, sl6⟩ ⟨T2, u2, v2', rfl, hT2, rfl, hu2, hv2⟩
      cases hu2
      obtain ⟨o, ho, rfl⟩ := mapV_at hv2
      rw [tl] at hi2
      have ho' : ks[i2]? = some o := by
        rw [List.getElem?_take] at ho
        rw [if_pos hi2] at ho
        exact ho
      have hso : ∀ {pr : Str × Str}, (pr = (s, o) ∨ pr = (o, s)) → PairI ks i (i2 + 1) (rs ++ [pr]) := fun h => pj.more hns.nd hs ho' hi2 h
      have g7 := g6.av (o := .tup [.int (i2 : Nat), .str o]) hT2
      have w7 := w6.av (o := .tup [.int (i2 : Nat), .str o]) hT2
      have l7 : upd H6 T2 (.tup [.int (i2 : Nat), .str o]) l = some (.lst (bs.map V.ref)) := by rw [upd_ne (ne_of_none l6 hT2)]; exact l6
      have T7 : SqT K (upd H6 T2 (.tup [.int (i2 : Nat), .str o])) T2 [.int (i2 : Nat), .str o] := .inl (.inl upd_same)
      generalize upd H6 T2 (.tup [.int (i2 : Nat), .str o]) = H7 at g7 w7 l7 T7 ⊢
      refine ⟨_, T7, rfl, ?_⟩
      -- the chance
      obtain ⟨e, he⟩ : ∃ e : Int, e = (if decide (1 < (i : Int) - (i2 : Int)) = true then 1 else 0) := ⟨_, rfl⟩
      have e01 : e = 0 ∨ e = 1 := by rw [he]; split <;> simp
      have hcm : CMulW 4 (if decide (1 < (i : Int) - (i2 : Int)) = true then 1 else 0) := by
        rw [← he]
        rcases e01 with h | h <;> rw [h] <;> exact wide_mul (a := 3) (b := 3) (by decide) (by decide) (by decide) (by decide) (by decide)
      refine ⟨hcm, ?_⟩
      refine ⟨Nat.le_of_ble_eq_true rfl, fun L hL => ?_⟩
      obtain ⟨cs, hcs⟩ : ∃ cs : List Int, cs = [0, 4, 4 * (if decide (1 < (i : Int) - (i2 : Int)) = true then 1 else 0), 1, 2, 2, 3, 3] := ⟨_, rfl⟩
      have g8 := g7.av (o := .lst (cs.map V.int)) hL
      have w8 := w7.av (o := .lst (cs.map V.int)) hL
      have l8 : upd H7 L (.lst (cs.map V.int)) l = some (.lst (bs.map V.ref)) := by rw [upd_ne (ne_of_none l7 hL)]; exact l7
      have L8 : upd H7 L (.lst (cs.map V.int)) L = some (.lst (cs.map V.int)) := upd_same
      have eL : upd H7 L (.lst (cs.map V.int)) = upd H7 L (.lst [.int 0, .int 4, .int (4 * (if decide (1 < (i : Int) - (i2 : Int)) = true then 1 else 0)), .int 1, .int 2, .int 2, .int 3, .int 3]) := by rw [hcs]; rfl
      rw [eL] at g8 w8 l8 L8
      generalize upd H7 L (.lst [.int 0, .int 4, .int (4 * (if decide (1 < (i : Int) - (i2 : Int)) = true then 1 else 0)), .int 1, .int 2, .int 2, .int 3, .int 3]) = H8 at g8 w8 l8 L8 ⊢
      have hcl : f < cs.length := by rw [hcs]; show f < 8; omega
      obtain ⟨c, hc⟩ : ∃ c, cs[f]? = some c := ⟨cs[f], List.getElem?_eq_getElem hcl⟩
      refine ⟨_, .int c, .inl (SqL.of L8), atI_of rfl (by rw [List.getElem?_map, hc]; rfl), ?_⟩
      refine ⟨p, q, G6, 4, rfl, w8, by decide, by decide, fun n H9 hn0 hn1 g9 w9 => ?_⟩
      have l9 := g9.keep _ _ nT l8
      have g10 := g8.trans g9
      refine iteD (fun hlt => ?_) fun hlt => ⟨_, _, _, bs, rs, G6, rfl, g10, w9, gl6, l9, pb, pj.skip, sl6⟩
      have ks' := isName_ascii (hns.nm s (List.mem_of_getElem? hs))
      refine ⟨⟨_, l9⟩, Nat.le_of_ble_eq_true rfl, fun t1 ht1 => ?_⟩
      have g11 := g10.al (o := .tup [.str s, .str o]) ht1
      have w11 := w9.al (o := .tup [.str s, .str o]) ht1
      have ne1 : l ≠ t1 := ne_of_none l9 ht1
      have l11 : upd H9 t1 (.tup [.str s, .str o]) l = some (.lst (bs.map V.ref)) := by rw [upd_ne ne1]; exact l9
      have sm1 : Same G6 (upd G6 t1 (.tup [.str s, .str o])) := same_up (sub_none w9.sub ht1)
      have gl11 : upd G6 t1 (.tup [.str s, .str o]) l = none := by rw [upd_ne ne1]; exact gl6
      have q11 : SqT K (upd G6 t1 (.tup [.str s, .str o])) t1 ((raw (s, o)).map V.str) := .inl (.inl upd_same)
      generalize upd H9 t1 (.tup [.str s, .str o]) = Ha at g11 w11 l11 ⊢
      generalize upd G6 t1 (.tup [.str s, .str o]) = Ga at g11 w11 sm1 gl11 q11 ⊢
      refine ⟨Nat.le_of_ble_eq_true rfl, fun t2 ht2 => ?_⟩
      have g12 := g11.al (o := .tup [.str o, .str s]) ht2
      have w12 := w11.al (o := .tup [.str o, .str s]) ht2
      have ne2 : l ≠ t2 := ne_of_none l11 ht2
      have l12 : upd Ha t2 (.tup [.str o, .str s]) l = some (.lst (bs.map V.ref)) := by rw [upd_ne ne2]; exact l11
      have sm2 : Same Ga (upd Ga t2 (.tup [.str o, .str s])) := same_up (sub_none w11.sub ht2)
      have gl12 : upd Ga t2 (.tup [.str o, .str s]) l = none := by rw [upd_ne ne2]; exact gl11
      have q12 : SqT K (upd Ga t2 (.tup [.str o, .str s])) t2 ((raw (o, s)).map V.str) := .inl (.inl upd_same)
      have q13 := sqT_same sm2 q11
      generalize upd Ha t2 (.tup [.str o, .str s]) = Hb at g12 w12 l12 ⊢
      generalize upd Ga t2 (.tup [.str o, .str s]) = Gb at g12 w12 sm2 gl12 q12 q13 ⊢
      refine ⟨Nat.le_of_ble_eq_true rfl, fun L2 hL2 => ?_⟩
      have g14 := g12.av (o := .lst [.ref t1, .ref t2]) hL2
      have w14 := w12.av (o := .lst [.ref t1, .ref t2]) hL2
      have ne3 : l ≠ L2 := ne_of_none l12 hL2
      have l14 : upd Hb L2 (.lst [.ref t1, .ref t2]) l = some (.lst (bs.map V.ref)) := by rw [upd_ne ne3]; exact l12
      have L14 : upd Hb L2 (.lst [.ref t1, .ref t2]) L2 = some (.lst [.ref t1, .ref t2]) := upd_same
      have L2n : H L2 = none := g12.free hL2
      have nT2 : ¬ Two p q L2 := fun z => z.elim (w.ne_p L2n) (w.ne_q L2n)
      generalize upd Hb L2 (.lst [.ref t1, .ref t2]) = Hc at g14 w14 l14 L14 ⊢
      refine ⟨p, q, Gb, 2, rfl, w14, by decide, by decide, fun n2 Hd h20 h21 g15 w15 => ?_⟩
      have l15 := g15.keep _ _ nT l14
      have L15 := g15.keep _ _ nT2 L14
      have g16 := g14.trans g15
      have smm : Same G6 Gb := sm1.trans sm2
      have bl : bs.length = rs.length := by rw [pb.1, List.length_map]
      have r66 := pj.toPairL.len hk12
      -- one of the two
      have fin : ∀ (t : Addr) (pr : Str × Str), (pr = (s, o) ∨ pr = (o, s)) → SqT K Gb t ((raw pr).map V.str) → St2 (i2 + 1) [some (.ref p), some (.ref a), some (.int (f : Nat)), some (.ref l), some (.int (i : Nat)), some (.str s), some (.int (i2 : Nat)), some (.str o), some (.int c)] (upd Hd l (.lst (bs.map V.ref ++ [.ref t]))) := fun t pr hpr hT => by
        refine ⟨_, _, _, bs ++ [t], rs ++ [pr], Gb, rfl, g16.wr gl12 (.inl hln), w15.wr gl12 lp lq, gl12, by rw [upd_same, List.map_append]; rfl, ?_, hso hpr, sqB_keep (fun o e => smm _ _ e) sl6⟩
        rw [List.map_append]
        exact pairs_snoc (pairs_same smm pb) hT
      have n2c : n2 = 0 ∨ n2 = 1 := by omega
      rcases n2c with rfl | rfl
      · exact ⟨_, .ref t1, .inl (SqL.of L15), rfl, _, l15, by rw [List.length_map]; omega, fin t1 (s, o) (.inl rfl) q13⟩
      · exact ⟨_, .ref t2, .inl (SqL.of L15), rfl, _, l15, by rw [List.length_map]; omega, fin t2 (o, s) (.inr rfl) q12⟩
    · rintro σ H6 ⟨y6, y7, y8, bs, rs, G6, rfl, g6, w6, gl6, l6, pb, pj, sl6⟩
      rw [tl] at pj
      exact ⟨_, _, _, _, _, bs, rs, G6, rfl, g6, w6, gl6, l6, pb, pj.next⟩
  · rintro σ H3 ⟨x4, x5, x6, x7, x8, as, qs, G3, rfl, g3, w3, gl3, l3, pa, pi⟩
    rw [mlen] at pi
    have wf := w3.fz l3 gl3 lp lq
    have sm : Same G3 (upd G3 l (.lst (as.map V.ref))) := same_up gl3
    have zl : as.length = qs.length := by rw [pa.1, List.length_map]
    have z1 : (as.zip qs).map (fun r => V.ref r.1) = as.map V.ref := by
      have e : (as.zip qs).map (fun r => V.ref r.1) = ((as.zip qs).map Prod.fst).map V.ref := by rw [List.map_map]; rfl
      rw [e, List.map_fst_zip (by omega)]
    have z2 : (as.zip qs).map (·.2) = qs := List.map_snd_zip (by omega)
    have at3 : ∀ r ∈ as.zip qs, SqT K (upd G3 l (.lst (as.map V.ref))) r.1 [.str r.2.1, .str r.2.2] := fun r hr => sqT_same sm (pairs_zip pa hr)
    have hq66 := pi.toPairL.len hk12
    have dpp := dp_pairs at3
    rw [z1] at dpp
    refine ⟨p, q, l, _, true, as.map V.ref, (as.zip qs).map fun r => dRaw r.2, rfl, wf, SqL.of upd_same, dpp, fun d hd => ?_, by rw [List.length_map]; omega, fun l2 H5 zs hl2 hp5 g5 w5 h5 => ?_⟩
    · obtain ⟨r, hr, rfl⟩ := List.mem_map.mp hd
      have hm : r.2 ∈ qs := by rw [← z2]; exact List.mem_map.mpr ⟨r, hr, rfl⟩
      obtain ⟨a1, a2, _⟩ := pi.ok r.2 hm
      exact sh_pair (isName_ascii (hns.nm _ a1)) (isName_ascii (hns.nm _ a2))
    · obtain ⟨rs, hp', rfl⟩ := perm_map_ex hp5 z1.symm
      have e1 : rs.map (fun r => V.ref r.1) = (rs.map (·.1)).map V.ref := by rw [List.map_map]; rfl
      rw [e1] at h5
      refine kp l2 H5 G3 (rs.map (·.1)) (rs.map (·.2)) (g3.free hl2) (sub_none g3.sub hl2) (g3.trans (g5.low sm)) (w5.low sm) h5 (pairs_of fun r hr => pairs_zip pa (hp'.mem_iff.mp hr)) ?_
      have := hp'.map (·.2)
      rw [z2] at this
      exact pi.toPairL.perm this
end U

set_option Elab.async false
set_option linter.all false
set_option maxRecDepth 100000
set_option maxHeartbeats 4000000
/-! K03P: what the law of refused tables does -/
namespace U
open PySem PySem.Spec PyProof.Rows L2
/-! ### the law's own is_name -/
def sp_lis_name (K : PySem.W.Frag) : Sp := fun vs H Q _ => ∃ (s : Str) (G : Hp), vs = [.str s] ∧ Same G H ∧ ascii s ∧ s.length ≤ 1000 ∧ ∀ H', Grow NoS G H G H' → Q (.bl (isName s)) H'
/-! _law_is_name: 0=word 1=letter -/
def t_lis_name (K : PySem.W.Frag) (W : WX) : TS :=
  (tRet (uAnd (uCh uLt uLt (tC (.int 0)) (tCB (uLen K) (tCons (uV 0) tNil)) (tC (.int 7))) (tOp (uEq K) (tLc (uiStr (uV 0)) (gName 1) (uB (tOp (uIn K true) (uV 1) (tC (.str "abcdefghijklmnopqrstuvwxyz")))) (uV 1) [1]) (tLst tNil))))
theorem pure_lis_name {K : PySem.W.Frag} {W : WX} (vs : List V) (H : Hp) (Q : VK) (E : XK) (h : sp_lis_name K vs H Q E) : t_lis_name K W { nx := fun _ H' => Q .non H', rt := Q } (start ["word", "letter"] vs) H := by
  obtain ⟨s, G, rfl, sub, has, hl, k⟩ := h
  have line : sizeLine = 16777216 := sizeLine_eq
  refine ⟨by omega, ?_⟩
  have no : ∀ b, isName s = b → ∀ H', Grow NoS G H G H' → Q (.bl b) H' := fun b e H' g => by rw [← e]; exact k H' g
  refine iteD (fun h0 => ?_) fun h0 => ?_
  · refine iteD (fun h1 => ?_) fun h1 => ?_
    · refine fun D hD => ?_
      refine lc_g walk_str (fun i acc _ => acc = ((s.cps.toList.take i).filter fun c => !decide (c ∈ lows)).map fun c => V.str (sing c)) NoS sub hD rfl (fun _ _ _ => trivial) ?_ ?_
      · rintro i x acc G' H1 H1' hi hl' hd hg g rfl ⟨rfl, c, hc, rfl⟩
        have ec : s.cps.toList.take (i + 1) = s.cps.toList.take i ++ [c] := by
          rw [List.take_succ, Array.getElem?_toList, hc]; rfl
        refine ⟨rfl, c, rfl, ?_⟩
        refine iteB (fun h => ?_) fun h => ?_
        · have h' : (!decide (c ∈ lows)) = true := h
          have e1 : [c].filter (fun c => !decide (c ∈ lows)) = [c] := List.filter_cons_of_pos (by exact h')
          refine Lc.add hD (by have : s.cps.size = s.length := rfl; omega) hl' hg hd g ?_
          rw [ec, List.filter_append, e1, List.map_append]
          rfl
        · have h' : (!decide (c ∈ lows)) = false := h
          have e1 : [c].filter (fun c => !decide (c ∈ lows)) = [] := List.filter_cons_of_neg (by show ¬ (!decide (c ∈ lows)) = true; rw [h']; decide)
          refine Lc.skip hl' hg hd g ?_
          rw [ec, List.filter_append, e1, List.append_nil]
      · rintro acc G' H1 hl' hd hg g rfl
        have et : s.cps.toList.take s.cps.size = s.cps.toList := List.take_of_length_le (by simp)
        rw [et] at hd
        refine ⟨Nat.le_of_ble_eq_true rfl, fun e he => ?_⟩
        have de := ne_of_none hd he
        have g2 := g.av (o := .lst []) he
        have d2 : upd H1 e (.lst []) D = some (.lst ((s.cps.toList.filter fun c => !decide (c ∈ lows)).map fun c => V.str (sing c))) := by rw [upd_ne de]; exact hd
        have e2 : upd H1 e (.lst []) e = some (.lst []) := upd_same
        generalize upd H1 e (.lst []) = H2 at g2 d2 e2 ⊢
        have dd : DpAll K H2 ((s.cps.toList.filter fun c => !decide (c ∈ lows)).map fun c => V.str (sing c)) (((s.cps.toList.filter fun c => !decide (c ∈ lows)).map sing).map PyData.str) := by
          have := dpA_strs (K := K) (H := H2) ((s.cps.toList.filter fun c => !decide (c ∈ lows)).map sing)
          rw [List.map_map] at this
          exact this
        refine ⟨_, _, .lst (SqL.of d2) dd, dp_nil (SqL.of e2), (Sh.list (n := 0) fun d hd' => ?_).shaped, sh_nil, ?_⟩
        · obtain ⟨z, hz, rfl⟩ := List.mem_map.mp hd'
          obtain ⟨c, hc, rfl⟩ := List.mem_map.mp hz
          refine Sh.str (ascii_ok fun c' hc' => ?_)
          have : c' = c := by simpa [sing] using hc'
          rw [this]
          exact has c (List.mem_filter.mp hc).1
        · rw [eqv_nil]
          refine no _ ?_ H2 g2.closeG
          have h2 : 0 < s.length := by omega
          have h3 : s.length ≤ 6 := by omega
          unfold isName
          rw [decide_eq_true h2, decide_eq_true h3, Bool.true_and, Bool.true_and]
          have hb : ∀ l : List Nat, (l.all fun c => decide (c ∈ lows)) = (((l.filter fun c => !decide (c ∈ lows)).map sing).map PyData.str).isEmpty := by
            intro l
            induction l with
            | nil => rfl
            | cons c l ih =>
              rw [List.all_cons, ih]
              by_cases h : c ∈ lows
              · have e1 : (c :: l).filter (fun c => !decide (c ∈ lows)) = l.filter fun c => !decide (c ∈ lows) := List.filter_cons_of_neg (by simp [h])
                rw [e1, decide_eq_true h, Bool.true_and]
              · have e1 : (c :: l).filter (fun c => !decide (c ∈ lows)) = c :: l.filter fun c => !decide (c ∈ lows) := List.filter_cons_of_pos (by simp [h])
                rw [e1, decide_eq_false h]
                rfl
          exact hb _
    · refine no false ?_ H (Grow.refl sub)
      unfold isName
      have : ¬ s.length ≤ 6 := fun z => h1 (by omega)
      simp [this]
  · refine no false ?_ H (Grow.refl sub)
    unfold isName
    have : ¬ 0 < s.length := fun z => h0 (by omega)
    simp [this]
/-! ### what is due -/
/-- the first violation as data -/
def dueD : Option (Str × Int) → PyData
  | none => .none
  | some (w, i) => .tuple [.str w, .int i]
def sp_due03 (K : PySem.W.Frag) : Sp := fun vs H Q _ => ∃ (a l : Addr) (b b' : Bool) (ks : List Str) (as : List Addr) (qs : List (Str × Str)) (G : Hp), vs = [.ref a, .ref l] ∧ Same G H ∧ SqB K b G a (ks.map V.str) ∧ SqB K b' G l (as.map V.ref) ∧ PairsAt K G as (qs.map raw) ∧
  (∀ s ∈ ks, ascii s ∧ s.length ≤ 1000) ∧ ks.length ≤ 1000 ∧ as.length ≤ 10000 ∧ ∀ v H' G', Grow NoS G H G' H' → Dp K G' v (dueD (chkT ks qs)) → Q v H'
/-! _law_due: 0=kinds 1=pairs_here 2=at 3=kind 4=pair -/
def t_due03 (K : PySem.W.Frag) (W : WX) : TS :=
  (tSeq (tIfS (tNot (uB (uCh uLt uLt (tC (.int 0)) (tCB (uLen K) (tCons (uV 0) tNil)) (tC (.int 13))))) (tRet (tTup (tCons (tC (.str "count")) (tCons (tOp uSub (tC (.int 0)) (tC (.int 1))) tNil)))) tNext) (tSeq (tFor (uiEnum K (uV 0)) (uTup K 2 (uGc (gName 2) (uGc (gName 3) uGn))) (tIfS (tOr (tNot (uT K (uCall (sp_lis_name K) [] W (tCons (uV 3) tNil)))) (uB (tOp (uIn K false) (uV 3) (tSl (uSl K) (uV 0) tNoPart (uPart (uV 2)))))) (tRet (tTup (tCons (tC (.str "name")) (tCons (uV 2) tNil)))) tNext)) (tSeq (tFor (uiEnum K (uV 1)) (uTup K 2 (uGc (gName 2) (uGc (gName 4) uGn))) (tIfS (tOr (uB (tOp (uIn K true) (tOp (uIx K) (uV 4) (tC (.int 0))) (uV 0))) (tOr (uB (tOp (uIn K true) (tOp (uIx K) (uV 4) (tC (.int 1))) (uV 0))) (uB (tOp (uEq K) (tOp (uIx K) (uV 4) (tC (.int 0))) (tOp (uIx K) (uV 4) (tC (.int 1))))))) (tRet (tTup (tCons (tC (.str "pair")) (tCons (uV 2) tNil)))) tNext)) (tRet (tC .non)))))
theorem pure_due03 {K : PySem.W.Frag} {W : WX} (vs : List V) (H : Hp) (Q : VK) (E : XK) (h : sp_due03 K vs H Q E) : t_due03 K W { nx := fun _ H' => Q .non H', rt := Q } (start ["kinds", "pairs", "at", "kind", "pair"] vs) H := by
  obtain ⟨a, l, b, b', ks, as, qs, G, rfl, sub, ha, hl, hps, hks, hkl, hpl, kp⟩ := h
  have line : sizeLine = 16777216 := sizeLine_eq
  -- a violation is told
  have tell : ∀ (w : Str) (i : Int) (H' : Hp) (T : Addr), chkT ks qs = some (w, i) → Grow NoS G H G H' → H' T = none → Q (.ref T) (upd H' T (.tup [.str w, .int i])) := fun w i H' T e g hT => by
    refine kp _ _ (upd G T (.tup [.str w, .int i])) (g.al hT) ?_
    rw [e]
    exact .tup (.inl (.inl upd_same)) (.cons (.str _) (.cons (.int _) .nil))
  refine ⟨_, (ha.same sub).or, ?_⟩
  rw [List.length_map]
  have count : ¬ (0 < ks.length ∧ ks.length ≤ 12) → ∀ T, H T = none → Q (.ref T) (upd H T (.tup [.str "count", .int (-1)])) := fun hn T hT => by
    refine tell "count" (-1) H T ?_ (Grow.refl sub) hT
    unfold chkT chkK
    rw [if_neg hn]
  refine iteD (fun h0 => ?_) fun h0 => ?_
  · refine iteN (fun h1 => ?_) fun h1 => ?_
    · exact ⟨Nat.le_of_ble_eq_true rfl, fun T hT => count (fun z => h1 (by omega)) T hT⟩
    · have hn : (ks.map V.str).length = ks.length := List.length_map ..
      have hap : (as.map V.ref).length = qs.length := by rw [List.length_map, hps.1, List.length_map]
      refine ⟨b, _, ha.same sub, ?_⟩
      refine for_it walk_eB (fun i σ H' => ∃ x2 x3, σ = [some (.ref a), some (.ref l), x2, x3, none] ∧ Grow NoS G H G H' ∧ ∀ j, j < i → badK ks j = false) ⟨none, none, rfl, Grow.refl sub, fun j hj => absurd hj (Nat.not_lt_zero _)⟩
        (fun i σ H' _ ⟨_, _, _, g, _⟩ => ha.same g.sub) ?_ ?_
      · rintro i x σ H1 H1' hi ⟨x1, x2, rfl, g, hb⟩ ⟨T, u, v, rfl, hT, rfl, hu, hv⟩
        cases hu
        obtain ⟨s, hs, rfl⟩ := mapV_at hv
        rw [hn] at hi
        have hsm : s ∈ ks := List.mem_of_getElem? hs
        have gT := g.av (o := .tup [.int (i : Nat), .str s]) hT
        refine ⟨_, .inl (.inl upd_same), rfl, ?_⟩
        have bad : badK ks i = (!isName s || decide (s ∈ ks.take i)) := by
          unfold badK
          rw [List.getD_eq_getElem?_getD, hs]
          rfl
        have name : badK ks i = true → chkT ks qs = some (("name" : Str), (i : Int)) := fun hbad => by
          unfold chkT chkK
          rw [if_pos ⟨by omega, by omega⟩, find_range _ hi hbad hb]
          rfl
        refine ⟨s, G, rfl, gT.sub, (hks s hsm).1, (hks s hsm).2, fun H2 g2 => ?_⟩
        have g3 := gT.trans g2
        generalize upd H1 T (.tup [.int (i : Nat), .str s]) = H1T at *
        refine iteNB (fun hf => iteTt ⟨Nat.le_of_ble_eq_true rfl, fun T2 hT2 => tell "name" i H2 T2 (name (by rw [bad, hf]; rfl)) g3 hT2⟩) fun ht => ?_
        refine uSl_B (ha.same g3.sub) fun l2 H3 one hsl => ?_
        have g4 := g3.one one
        have e : inV (.str s) (cutV (ks.map V.str) none (some ((i : Nat) : Int))) = decide (s ∈ ks.take i) := by rw [cut_to, ← List.map_take, inV_str]
        have fl : (cutV (ks.map V.str) none (some ((i : Nat) : Int))).all flatV = true := by rw [cut_to, ← List.map_take, flat_strs]
        refine ⟨_, hsl.or, rfl, fl, ?_⟩
        refine iteB (fun h => ?_) fun h => ?_
        · have h' : inV (.str s) (cutV (ks.map V.str) none (some ((i : Nat) : Int))) = true := h
          exact ⟨Nat.le_of_ble_eq_true rfl, fun T2 hT2 => tell "name" i H3 T2 (name (by rw [bad, ht, ← e, h']; rfl)) g4 hT2⟩
        · have h' : inV (.str s) (cutV (ks.map V.str) none (some ((i : Nat) : Int))) = false := h
          refine ⟨_, _, rfl, g4, fun j hj => ?_⟩
          rcases Nat.lt_succ_iff_lt_or_eq.mp hj with h | h
          · exact hb j h
          · rw [h, bad, ht, ← e, h']; rfl
      · rintro σ H1 ⟨x2, x3, rfl, g, hb⟩
        rw [hn] at hb
        have ck : chkK ks = none := by
          unfold chkK
          rw [if_pos ⟨by omega, by omega⟩]
          have : (List.range ks.length).find? (badK ks) = none := by
            rw [List.find?_eq_none]
            intro i hi
            rw [hb i (List.mem_range.mp hi)]
            decide
          rw [this]
          rfl
        refine ⟨b', _, hl.same g.sub, ?_⟩
        refine for_it walk_eB (fun i σ H' => ∃ x2 x3 x4, σ = [some (.ref a), some (.ref l), x2, x3, x4] ∧ Grow NoS G H G H' ∧ ∀ j pr, j < i → qs[j]? = some pr → badP ks pr = false) ⟨_, _, _, rfl, g, fun j pr hj => absurd hj (Nat.not_lt_zero _)⟩
          (fun i σ H' _ ⟨_, _, _, _, g, _⟩ => hl.same g.sub) ?_ ?_
        · rintro i x σ H2 H2' hi ⟨y2, y3, y4, rfl, g2, hq⟩ ⟨T, u, v, rfl, hT, rfl, hu, hv⟩
          cases hu
          obtain ⟨r, hr, rfl⟩ := mapV_at hv
          obtain ⟨pr, hpr, hrT⟩ := raw_at hps hr
          rw [hap] at hi
          have gT := g2.av (o := .tup [.int (i : Nat), .ref r]) hT
          refine ⟨_, .inl (.inl upd_same), rfl, ?_⟩
          have rT := sqT_same gT.sub hrT
          have aT := ha.same gT.sub
          generalize upd H2 T (.tup [.int (i : Nat), .ref r]) = H3 at gT rT aT ⊢
          have i1 : inV (.str pr.1) (ks.map V.str) = decide (pr.1 ∈ ks) := inV_str _ _
          have i2 : inV (.str pr.2) (ks.map V.str) = decide (pr.2 ∈ ks) := inV_str _ _
          have told : badP ks pr = true → ∀ T2, H3 T2 = none → Q (.ref T2) (upd H3 T2 (.tup [.str "pair", .int (i : Nat)])) := fun hbad T2 hT2 => by
            refine tell "pair" i H3 T2 ?_ gT hT2
            unfold chkT
            rw [ck]
            have e : (List.range qs.length).find? (fun i => badP ks (qs.getD i ("", ""))) = some i := by
              refine find_range _ hi (by rw [List.getD_eq_getElem?_getD, hpr]; exact hbad) fun j hj => ?_
              have hjl : j < qs.length := by omega
              have hjs := List.getElem?_eq_getElem hjl
              rw [List.getD_eq_getElem?_getD, hjs]
              exact hq j _ hj hjs
            show (((List.range qs.length).find? fun i => badP ks (qs.getD i ("", ""))).map fun i => (("pair" : Str), (i : Int))) = _
            rw [e]
            rfl
          refine ⟨_, _, .inr rT, rfl, _, aT.or, rfl, flat_strs ks, ?_⟩
          refine iteB (fun h => ?_) fun h => ?_
          · have h' : (!inV (.str pr.1) (ks.map V.str)) = true := h
            refine iteTt ⟨Nat.le_of_ble_eq_true rfl, told ?_⟩
            rw [i1] at h'
            unfold badP
            rw [h']
            rfl
          have h1' : (!inV (.str pr.1) (ks.map V.str)) = false := h
          rw [i1] at h1'
          refine ⟨_, _, .inr rT, rfl, _, aT.or, rfl, flat_strs ks, ?_⟩
          refine iteB (fun h => ?_) fun h => ?_
          · have h' : (!inV (.str pr.2) (ks.map V.str)) = true := h
            refine iteTt ⟨Nat.le_of_ble_eq_true rfl, told ?_⟩
            rw [i2] at h'
            unfold badP
            rw [h1', h']
            rfl
          have h2' : (!inV (.str pr.2) (ks.map V.str)) = false := h
          rw [i2] at h2'
          refine ⟨_, _, .inr rT, rfl, _, _, .inr rT, rfl, ?_⟩
          refine iteD (fun h => ?_) fun h => ?_
          · refine ⟨Nat.le_of_ble_eq_true rfl, told ?_⟩
            unfold badP
            rw [h1', h2', decide_eq_true h]
            rfl
          refine ⟨_, _, _, rfl, gT, fun j pr' hj hp' => ?_⟩
          rcases Nat.lt_succ_iff_lt_or_eq.mp hj with hj | hj
          · exact hq j pr' hj hp'
          · rw [hj, hpr] at hp'
            rw [← Option.some.inj hp']
            unfold badP
            rw [h1', h2', decide_eq_false h]
            rfl
        · rintro σ H2 ⟨y2, y3, y4, rfl, g2, hq⟩
          rw [hap] at hq
          refine kp .non H2 G g2 ?_
          have e : (List.range qs.length).find? (fun i => badP ks (qs.getD i ("", ""))) = none := by
            rw [List.find?_eq_none]
            intro j hj
            have hjl := List.mem_range.mp hj
            have hjs := List.getElem?_eq_getElem hjl
            rw [List.getD_eq_getElem?_getD, hjs]
            have := hq j _ hjl hjs
            simp only [Option.getD_some]
            rw [this]
            decide
          have ec : chkT ks qs = none := by
            unfold chkT
            rw [ck]
            show (((List.range qs.length).find? fun i => badP ks (qs.getD i ("", ""))).map fun i => (("pair" : Str), (i : Int))) = _
            rw [e]
            rfl
          rw [ec]
          exact .non
  · refine iteNf ?_
    exact ⟨Nat.le_of_ble_eq_true rfl, fun T hT => count (fun z => h0 (by omega)) T hT⟩
/-! ### what Table does -/
theorem look_word (a b : V) : List.lookup ("word" : Str) [(("at" : Str), a), (("word" : Str), b)] = some b := by
  have e : (("word" : Str) == ("at" : Str)) = false := by decide
  simp [List.lookup, e]
theorem look_at' (a b : V) : List.lookup ("at" : Str) [(("at" : Str), a), (("word" : Str), b)] = some a := by simp [List.lookup]
def sp_told03 (K : PySem.W.Frag) : Sp := fun vs H Q E => sp_due03 K vs H Q E
/-! _law_told: 0=kinds 1=pairs_here 2=found 3=e -/
def t_told03 (K : PySem.W.Frag) (cTable : Addr) (cUndoError : Addr) (cInvalidTable : Addr) (cInvalidText : Addr) (W : WX) : TS :=
  (tSeq (tAsg (tC .non) (gName 2)) (tSeq (uTry K W (((.ref cInvalidTable), (some 3), fun ea ec ed => (tAsg (tIf (uT K (tCB (uIsE K ec ed ea) (tCons (uV 3) (tCons (tC (.ref cInvalidText)) tNil)))) (tTup (tCons (tC (.str "other")) tNil)) (tTup (tCons (uXf ea ec ed cInvalidTable "word" (uV 3)) (tCons (uXf ea ec ed cInvalidTable "at" (uV 3)) tNil)))) (gName 2))) :: (((.ref cUndoError), none, fun ea ec ed => (tAsg (tTup (tCons (tC (.str "other")) tNil)) (gName 2))) :: [])) (fun Wb => (tDrop (uMake cTable (sp_Table K cTable cInvalidTable) [] Wb (tCons (uV 0) (tCons (uV 1) tNil)))))) (tRet (uV 2))))
theorem pure_told03 {K : PySem.W.Frag} {CT CU CI CX : Addr} (ex : PySem.W.exmOne K (.ref CI) (.ref CI) = some true) (kt : PySem.W.kitOne K (.ref CI) (.ref CX) = some false) (xi : XIs K CI) (vs : List V) (H : Hp) (Q : VK) (E : XK) (h : sp_told03 K vs H Q E) :
    t_told03 K CT CU CI CX (WF E) { nx := fun _ H' => Q .non H', rt := Q } (start ["kinds", "pairs", "found", "e"] vs) H := by
  obtain ⟨a, l, b, b', ks, as, qs, G, rfl, sub, ha, hl, hps, hks, hkl, hpl, kp⟩ := h
  have line : sizeLine = 16777216 := sizeLine_eq
  refine fun x dx hx hdx hne => ?_
  refine ⟨x, dx, a, l, b, b', ks, as, qs, G, H, rfl, rfl, hx, hdx, hne, sub, ha.same sub, fun s hs => (hks s hs).2, hkl, hl.same sub, ⟨hps.1, fun i a q h1 h2 => sqT_same sub (hps.2 i a q h1 h2)⟩, hpl, fun ok G' H' g tab => ?_, fun w i bad d H' hd g hv => ?_⟩
  · refine ⟨rfl, ?_⟩
    have d0 : Dp K G' .non (dueD (chkT ks qs)) := by
      rw [ok]
      exact .non
    exact kp .non H' G' g d0
  · refine ⟨true, ex, fun _ e he => ?_, fun z => by cases z⟩
    refine ⟨rfl, CI, d, _, .ref CX, false, rfl, rfl, hv, xi, fun u hu => hu, kt, ?_⟩
    refine ⟨rfl, rfl, _, .str w, hv, look_word _ _, rfl, rfl, _, .int i, hv, look_at' _ _, ?_⟩
    refine ⟨Nat.le_of_ble_eq_true rfl, fun T hT => ?_⟩
    refine kp _ _ (upd G T (.tup [.str w, .int i])) (g.al hT) ?_
    rw [bad]
    exact .tup (.inl (.inl upd_same)) (.cons (.str _) (.cons (.int _) .nil))
end U

set_option Elab.async false
set_option linter.all false
set_option maxRecDepth 100000
set_option maxHeartbeats 4000000
/-! K03Q: bent tables -/
namespace U
open PySem PySem.Spec PyProof.Rows L2
theorem ascii_app {a b : Str} (ha : ascii a) (hb : ascii b) : ascii (a ++ b) := fun c hc => by
  rw [app_cps] at hc
  rcases List.mem_append.mp hc with h | h
  · exact ha c h
  · exact hb c h
theorem upper_ascii {s : Str} (h : ascii s) : ascii (Txt.upper s) := by
  have key : ∀ c : Fin 128, ∀ d ∈ Unicode.upperOf c.val, d < 128 := by decide +kernel
  intro d hd
  have hd' : d ∈ (s.cps.mapIdx fun _ c => (Unicode.upperOf c).toArray).flatten := by
    have : d ∈ (Txt.upper s).cps := by simpa using hd
    exact this
  rw [Array.mem_flatten] at hd'
  obtain ⟨xs, h1, h2⟩ := hd'
  rw [Array.mem_mapIdx] at h1
  obtain ⟨i, hi, rfl⟩ := h1
  have hc := h s.cps[i] (by simp)
  exact key ⟨s.cps[i], hc⟩ d (by simpa using h2)
theorem te_splice {K : PySem.W.Frag} {Gd : Hp → Prop} {σ : L2.St} {ta ty : TE} {p1 p2 : TO} {a : Addr} {xs : List V} {y : V} {i j : Nat} {H : Hp} {Q : VK}
    (av : ∀ {H' l o}, Gd H' → H' l = none → Gd (upd H' l o)) (gd : Gd H) (ha : ∀ {H'}, Gd H' → H' a = some (.lst xs)) (hl : xs.length ≤ 10000)
    (h1 : ∀ {H' : Hp} {Q : VK}, Q (.ref a) H' → ta σ H' Q) (h2 : ∀ {H' : Hp} {Q : Option Int → Hp → Prop}, Q (some ((i : Nat) : Int)) H' → p1 σ H' Q) (h3 : ∀ {H' : Hp} {Q : VK}, Q y H' → ty σ H' Q)
    (h4 : ∀ {H' : Hp} {Q : Option Int → Hp → Prop}, Q (some ((j : Nat) : Int)) H' → p2 σ H' Q)
    (k : ∀ l H', Gd H' → H' l = none → Q (.ref l) (upd H' l (.lst (xs.take i ++ [y] ++ xs.drop j)))) :
    tOp uAdd (tOp uAdd (tSl (uSl K) ta tNoPart p1) (tLst (tCons ty tNil))) (tSl (uSl K) ta p2 tNoPart) σ H Q := by
  have line : sizeLine = 16777216 := sizeLine_eq
  show ta σ H _
  refine h1 ?_
  show p1 σ H _
  refine h2 ?_
  show uSl K (.ref a) none (some ((i : Nat) : Int)) H _
  refine uSl_L (SqL.of (ha gd)) fun l1 hl1 => ?_
  rw [cut_to]
  show ty σ _ _
  refine h3 ?_
  have d1 := av (o := .lst (xs.take i)) gd hl1
  have e1 : upd H l1 (.lst (xs.take i)) l1 = some (.lst (xs.take i)) := upd_same
  generalize upd H l1 (.lst (xs.take i)) = H1 at d1 e1 ⊢
  refine ⟨Nat.le_of_ble_eq_true rfl, fun l2 hl2 => ?_⟩
  have d2 := av (o := .lst [y]) d1 hl2
  have e2 : upd H1 l2 (.lst [y]) l2 = some (.lst [y]) := upd_same
  have e1' : upd H1 l2 (.lst [y]) l1 = some (.lst (xs.take i)) := by rw [upd_ne (ne_of_none e1 hl2)]; exact e1
  generalize upd H1 l2 (.lst [y]) = H2 at d2 e2 e1' ⊢
  have tl : (xs.take i).length ≤ 10000 := by rw [List.length_take]; omega
  refine ⟨_, _, e1', e2, by show (xs.take i).length + 1 ≤ _; omega, fun l3 hl3 => ?_⟩
  have d3 := av (o := .lst (xs.take i ++ [y])) d2 hl3
  have e3 : upd H2 l3 (.lst (xs.take i ++ [y])) l3 = some (.lst (xs.take i ++ [y])) := upd_same
  generalize upd H2 l3 (.lst (xs.take i ++ [y])) = H3 at d3 e3 ⊢
  show ta σ H3 _
  refine h1 ?_
  show p2 σ H3 _
  refine h4 ?_
  show uSl K (.ref a) (some ((j : Nat) : Int)) none H3 _
  refine uSl_L (SqL.of (ha d3)) fun l4 hl4 => ?_
  rw [cut_from]
  have d4 := av (o := .lst (xs.drop j)) d3 hl4
  have e4 : upd H3 l4 (.lst (xs.drop j)) l4 = some (.lst (xs.drop j)) := upd_same
  have e3' : upd H3 l4 (.lst (xs.drop j)) l3 = some (.lst (xs.take i ++ [y])) := by rw [upd_ne (ne_of_none e3 hl4)]; exact e3
  generalize upd H3 l4 (.lst (xs.drop j)) = H4 at d4 e4 e3' ⊢
  refine ⟨_, _, e3', e4, by rw [List.length_append, List.length_drop]; show (xs.take i).length + 1 + _ ≤ _; omega, fun l5 hl5 => ?_⟩
  exact k l5 H4 d4 hl5
/-- kinds and pairs as the law has them -/
structure KQ (K : PySem.W.Frag) (G : Hp) (a l : Addr) (ks : List Str) (as : List Addr) (qs : List (Str × Str)) (B N : Nat) : Prop where
  a : G a = some (.lst (ks.map V.str))
  l : G l = some (.lst (as.map V.ref))
  p : PairsAt K G as (qs.map raw)
  s : ∀ s ∈ ks, ascii s ∧ s.length ≤ B
  kl : ks.length ≤ N
  al : as.length ≤ N
theorem KQ.same {K : PySem.W.Frag} {G G' : Hp} {a l : Addr} {ks : List Str} {as : List Addr} {qs : List (Str × Str)} {B N : Nat} (h : KQ K G a l ks as qs B N) (sm : Same G G') : KQ K G' a l ks as qs B N := ⟨sm _ _ h.a, sm _ _ h.l, pairs_same sm h.p, h.s, h.kl, h.al⟩
theorem pairs_splice {K : PySem.W.Frag} {G : Hp} {as : List Addr} {qs : List (Str × Str)} {a : Addr} {pr : Str × Str} (h : PairsAt K G as (qs.map raw)) (ha : SqT K G a ((raw pr).map V.str)) (i : Nat) :
    PairsAt K G (as.take i ++ [a] ++ as.drop i) ((qs.take i ++ [pr] ++ qs.drop i).map raw) := by
  have zl : as.length = qs.length := by rw [h.1, List.length_map]
  have z1 : (as.zip qs).map (·.1) = as := List.map_fst_zip (by omega)
  have z2 : (as.zip qs).map (·.2) = qs := List.map_snd_zip (by omega)
  have := pairs_of (K := K) (G := G) (rs := (as.zip qs).take i ++ [(a, pr)] ++ (as.zip qs).drop i) fun r hr => by
    rcases List.mem_append.mp hr with hr | hr
    · rcases List.mem_append.mp hr with hr | hr
      · exact pairs_zip h (List.mem_of_mem_take hr)
      · rw [List.mem_singleton.mp hr]; exact ha
    · exact pairs_zip h (List.mem_of_mem_drop hr)
  rw [List.map_append, List.map_append, List.map_take, List.map_drop, z1, List.map_append (f := fun x : Addr × Str × Str => x.2), List.map_append (f := fun x : Addr × Str × Str => x.2), List.map_take, List.map_drop, z2] at this
  exact this
def sp_bent03 (K : PySem.W.Frag) : Sp := fun vs H Q _ => ∃ (p q a l : Addr) (ks : List Str) (as : List Addr) (qs : List (Str × Str)) (G : Hp) (B N : Nat), vs = [.ref p, .ref a, .ref l] ∧ WD G H p q ∧ KQ K G a l ks as qs B N ∧ 7 ≤ B ∧ B ≤ 300 ∧ N ≤ 500 ∧
  ∀ t H' G' a' l' ks' as' qs', Grow (Two p q) G H G' H' → WD G' H' p q → SqT K G' t [.ref a', .ref l'] → KQ K G' a' l' ks' as' qs' (3 * B + 1) (N + 14) → Q (.ref t) H'
/-! _law_bent: 0=deal_here 1=kinds 2=pairs_here 3=at 4=form 5=some 6=name 7=odd 8=spot 9=pair 10=letter -/
def t_bent03 (K : PySem.W.Frag) (W : WX) : TS :=
  (tSeq (uPar3 3 4 5 (tCons (uCall (sp_draw K) [] W (tCons (uV 0) (tCons (tOp uAdd (tCB (uLen K) (tCons (uV 1) tNil)) (tC (.int 1))) tNil))) (tCons (uCall (sp_draw K) [] W (tCons (uV 0) (tCons (tC (.int 9)) tNil))) (tCons (tOp uAdd (uV 1) (tLst (tCons (tC (.str "q")) tNil))) tNil)))) (tSeq (tAsg (tOp (uIx K) (uV 5) (uCall (sp_draw K) [] W (tCons (uV 0) (tCons (tCB (uLen K) (tCons (uV 5) tNil)) tNil)))) (gName 6)) (tSeq (tAsg (tLst (tCons (tC (.str "")) (tCons (tC (.str "A")) (tCons (tC (.str "aB")) (tCons (tC (.str "abcdefg")) (tCons (tC (.str "a b")) (tCons (tC (.str "a1")) (tCons (tOp uAdd (uV 6) (tC (.str " "))) (tCons (tOp uAdd (tC (.str "\n")) (uV 6)) (tCons (uV 6) (tCons (tC (.str "a_b")) (tCons (tC (.str "a.b")) (tCons (uSm0 fUpper (uV 6)) tNil))))))))))))) (gName 7)) (tSeq (tAsg (tOp (uIx K) (uV 7) (uCall (sp_draw K) [] W (tCons (uV 0) (tCons (tC (.int 12)) tNil)))) (gName 7)) (tSeq (cS (tIfS (uB (tOp uLt (uV 4) (tC (.int 3)))) (tRet (tTup (tCons (tOp uAdd (tOp uAdd (tSl (uSl K) (uV 1) tNoPart (uPart (uV 3))) (tLst (tCons (uV 7) tNil))) (tSl (uSl K) (uV 1) (uPart (tOp uAdd (uV 3) (tOp uMod (uV 4) (tC (.int 2))))) tNoPart)) (tCons (uV 2) tNil)))) tNext)) (tSeq (cS (tIfS (uB (tOp (uEq K) (uV 4) (tC (.int 3)))) (tRet (tTup (tCons (tLst tNil) (tCons (uV 2) tNil)))) tNext)) (tSeq (cS (tIfS (uB (tOp (uEq K) (uV 4) (tC (.int 4)))) (tRet (tTup (tCons (tSl (uSl K) (tLc (uiStr (tC (.str "abcdefghijklm"))) (gName 10) tYes (tOp uAdd (uV 10) (tC (.str "x"))) [10]) tNoPart (uPart (tOp uAdd (tC (.int 12)) (uCall (sp_draw K) [] W (tCons (uV 0) (tCons (tC (.int 2)) tNil)))))) (tCons (uV 2) tNil)))) tNext)) (tSeq (tAsg (uCall (sp_draw K) [] W (tCons (uV 0) (tCons (tOp uAdd (tCB (uLen K) (tCons (uV 2) tNil)) (tC (.int 1))) tNil))) (gName 8)) (tSeq (tAsg (tOp (uIx K) (tLst (tCons (tTup (tCons (uV 6) (tCons (uV 6) tNil))) (tCons (tTup (tCons (uV 6) (tCons (uV 7) tNil))) (tCons (tTup (tCons (uV 7) (tCons (uV 6) tNil))) (tCons (tTup (tCons (tC (.str "zqzqzq")) (tCons (uV 6) tNil))) (tCons (tTup (tCons (uV 6) (tCons (tC (.str "zqzqzq")) tNil))) tNil)))))) (uCall (sp_draw K) [] W (tCons (uV 0) (tCons (tC (.int 5)) tNil)))) (gName 9)) (tRet (tTup (tCons (uV 1) (tCons (tOp uAdd (tOp uAdd (tSl (uSl K) (uV 2) tNoPart (uPart (uV 8))) (tLst (tCons (uV 9) tNil))) (tSl (uSl K) (uV 2) (uPart (uV 8)) tNoPart)) tNil)))))))))))))
theorem pure_bent03 {K : PySem.W.Frag} {W : WX} (vs : List V) (H : Hp) (Q : VK) (E : XK) (h : sp_bent03 K vs H Q E) : t_bent03 K W { nx := fun _ H' => Q .non H', rt := Q } (start ["deal", "kinds", "pairs", "at", "form", "some", "name", "odd", "spot", "pair", "letter"] vs) H := by
  obtain ⟨p, q, a, l, ks, as, qs, G, B, N, rfl, w, kq, hB, hB2, hN, kp⟩ := h
  have line : sizeLine = 16777216 := sizeLine_eq
  have hka := kq.kl
  have hla := kq.al
  have ka : ∀ {H' : Hp}, Same G H' → H' a = some (.lst (ks.map V.str)) := fun s => s _ _ kq.a
  have kl : ∀ {H' : Hp}, Same G H' → H' l = some (.lst (as.map V.ref)) := fun s => s _ _ kq.l
  refine ⟨_, .inl (SqL.of (ka w.sub)), ?_⟩
  refine ⟨p, q, G, ((ks.map V.str).length : Int) + 1, rfl, w, by omega, by rw [List.length_map]; omega, fun az H1 ha0 ha1 g1 w1 => ?_⟩
  refine ⟨p, q, G, 9, rfl, w1, by decide, by decide, fun fz H2 hf0 hf1 g2 w2 => ?_⟩
  refine ⟨Nat.le_of_ble_eq_true rfl, fun Lq hLq => ?_⟩
  have g3 := (g1.trans g2).av (o := .lst [.str "q"]) hLq
  have w3 := w2.av (o := .lst [.str "q"]) hLq
  have q3 : upd H2 Lq (.lst [.str "q"]) Lq = some (.lst [.str "q"]) := upd_same
  generalize upd H2 Lq (.lst [.str "q"]) = H3 at g3 w3 q3 ⊢
  refine ⟨_, _, ka w3.sub, q3, by rw [List.length_map]; show ks.length + 1 ≤ _; omega, fun S hS => ?_⟩
  have g4 := g3.av (o := .lst (ks.map V.str ++ [.str "q"])) hS
  have w4 := w3.av (o := .lst (ks.map V.str ++ [.str "q"])) hS
  have s4 : upd H3 S (.lst (ks.map V.str ++ [.str "q"])) S = some (.lst ((ks ++ [("q" : Str)]).map V.str)) := by rw [upd_same, List.map_append]; rfl
  have Sn : H S = none := g3.free hS
  have nS : ¬ Two p q S := fun z => z.elim (w.ne_p Sn) (w.ne_q Sn)
  generalize upd H3 S (.lst (ks.map V.str ++ [.str "q"])) = H4 at g4 w4 s4 ⊢
  rw [List.length_map] at ha1
  obtain ⟨at_, rfl⟩ : ∃ k : Nat, az = k := ⟨az.toNat, by omega⟩
  obtain ⟨f, rfl⟩ : ∃ k : Nat, fz = k := ⟨fz.toNat, by omega⟩
  -- a name
  have sl : ((ks ++ [("q" : Str)]).map V.str).length = ks.length + 1 := by rw [List.length_map, List.length_append]; rfl
  refine ⟨_, .inl (SqL.of s4), ?_⟩
  refine ⟨p, q, G, (((ks ++ [("q" : Str)]).map V.str).length : Int), rfl, w4, by rw [sl]; omega, by rw [sl]; omega, fun nz H5 hn0 hn1 g5 w5 => ?_⟩
  rw [sl] at hn1
  obtain ⟨n, rfl⟩ : ∃ k : Nat, nz = k := ⟨nz.toNat, by omega⟩
  have s5 := g5.keep _ _ nS s4
  have hnl : n < (ks ++ [("q" : Str)]).length := by rw [List.length_append]; show n < ks.length + 1; omega
  obtain ⟨nm, hnm⟩ : ∃ s, (ks ++ [("q" : Str)])[n]? = some s := ⟨_, List.getElem?_eq_getElem hnl⟩
  have nmo : ascii nm ∧ nm.length ≤ B := by
    rcases List.mem_append.mp (List.mem_of_getElem? hnm) with h | h
    · exact kq.s nm h
    · rw [List.mem_singleton.mp h]
      refine ⟨by unfold ascii; decide, ?_⟩
      show 1 ≤ B
      omega
  refine ⟨_, .str nm, .inl (SqL.of s5), atI_of rfl (by rw [List.getElem?_map, hnm]; rfl), ?_⟩
  have Bn := nmo.2
  -- the odd ones
  have lup : (Txt.upper nm).length ≤ 3 * nm.length := len_upper nm
  have lA : (nm ++ (" " : Str)).length = nm.length + 1 := by rw [Str.length_append]; rfl
  have lB : (("\n" : Str) ++ nm).length = nm.length + 1 := by rw [Str.length_append, Nat.add_comm]; rfl
  refine ⟨by show nm.length + 1 ≤ _; omega, by show 1 + nm.length ≤ _; omega, by omega, Nat.le_of_ble_eq_true rfl, fun L hL => ?_⟩
  obtain ⟨odds, ho⟩ : ∃ odds : List Str, odds = (["", "A", "aB", "abcdefg", "a b", "a1", nm ++ (" " : Str), ("\n" : Str) ++ nm, nm, "a_b", "a.b", Txt.upper nm] : List Str) := ⟨_, rfl⟩
  have oks : ∀ s ∈ odds, ascii s ∧ s.length ≤ 3 * B + 1 := by
    have lit : ∀ s : Str, (∀ c ∈ s.cps.toList, c < 128) → s.length ≤ 7 → ascii s ∧ s.length ≤ 3 * B + 1 := fun s h1 h2 => ⟨h1, by omega⟩
    intro s hs
    rw [ho] at hs
    simp only [List.mem_cons, List.not_mem_nil, or_false] at hs
    rcases hs with rfl | rfl | rfl | rfl | rfl | rfl | rfl | rfl | rfl | rfl | rfl | rfl
    · exact lit _ (by decide) (Nat.le_of_ble_eq_true rfl)
    · exact lit _ (by decide) (Nat.le_of_ble_eq_true rfl)
    · exact lit _ (by decide) (Nat.le_of_ble_eq_true rfl)
    · exact lit _ (by decide) (Nat.le_of_ble_eq_true rfl)
    · exact lit _ (by decide) (Nat.le_of_ble_eq_true rfl)
    · exact lit _ (by decide) (Nat.le_of_ble_eq_true rfl)
    · exact ⟨ascii_app nmo.1 (by unfold ascii; decide), by omega⟩
    · exact ⟨ascii_app (by unfold ascii; decide) nmo.1, by omega⟩
    · exact ⟨nmo.1, by omega⟩
    · exact lit _ (by decide) (Nat.le_of_ble_eq_true rfl)
    · exact lit _ (by decide) (Nat.le_of_ble_eq_true rfl)
    · exact ⟨upper_ascii nmo.1, by omega⟩
  have ol : odds.length = 12 := by rw [ho]; rfl
  have eL : H5 = H5 := rfl
  have g6 := (g4.trans g5).av (o := .lst (odds.map V.str)) hL
  have w6 := w5.av (o := .lst (odds.map V.str)) hL
  have s6 : upd H5 L (.lst (odds.map V.str)) L = some (.lst (odds.map V.str)) := upd_same
  have Ln : H L = none := (g4.trans g5).free hL
  have nL : ¬ Two p q L := fun z => z.elim (w.ne_p Ln) (w.ne_q Ln)
  have eU : upd H5 L (.lst (odds.map V.str)) = upd H5 L (.lst [.str "", .str "A", .str "aB", .str "abcdefg", .str "a b", .str "a1", .str (nm ++ (" " : Str)), .str (("\n" : Str) ++ nm), .str nm, .str "a_b", .str "a.b", .str (Txt.upper nm)]) := by rw [ho]; rfl
  rw [eU] at g6 w6 s6
  generalize upd H5 L (.lst [.str "", .str "A", .str "aB", .str "abcdefg", .str "a b", .str "a1", .str (nm ++ (" " : Str)), .str (("\n" : Str) ++ nm), .str nm, .str "a_b", .str "a.b", .str (Txt.upper nm)]) = H6 at g6 w6 s6 ⊢
  refine ⟨p, q, G, 12, rfl, w6, by decide, by decide, fun oz H7 ho0 ho1 g7 w7 => ?_⟩
  obtain ⟨o, rfl⟩ : ∃ k : Nat, oz = k := ⟨oz.toNat, by omega⟩
  have g8 := g6.trans g7
  have s7 := g7.keep _ _ nL s6
  have hol : o < odds.length := by omega
  obtain ⟨odd, hodd⟩ : ∃ s, odds[o]? = some s := ⟨_, List.getElem?_eq_getElem hol⟩
  have oo := oks odd (List.mem_of_getElem? hodd)
  refine ⟨_, .str odd, .inl (SqL.of s7), atI_of rfl (by rw [List.getElem?_map, hodd]; rfl), ?_⟩
  have ks3 : ∀ s ∈ ks, ascii s ∧ s.length ≤ 3 * B + 1 := fun s hs => ⟨(kq.s s hs).1, by have := (kq.s s hs).2; omega⟩
  let Inv : L2.St → Hp → Prop := fun σ H' => ∃ x8 x9 x10, σ = [some (.ref p), some (.ref a), some (.ref l), some (.int (at_ : Nat)), some (.int (f : Nat)), some (.ref S), some (.str nm), some (.str odd), x8, x9, x10] ∧ H' = H7
  let Gd : Hp → Prop := fun H' => Grow (Two p q) G H G H' ∧ WD G H' p q
  have gav : ∀ {H' : Hp} {l' o}, Gd H' → H' l' = none → Gd (upd H' l' o) := fun d h => ⟨d.1.av h, d.2.av h⟩
  have gd7 : Gd H7 := ⟨g8, w7⟩
  -- other kinds, the same pairs
  have kinds' : ∀ (r : Addr) (H' : Hp) (ms : List Str), (∀ s ∈ ms, ascii s ∧ s.length ≤ 3 * B + 1) → ms.length ≤ N + 14 → Gd H' → H' r = none → ∀ t, upd H' r (.lst (ms.map V.str)) t = none → Q (.ref t) (upd (upd H' r (.lst (ms.map V.str))) t (.tup [.ref r, .ref l])) := fun r H' ms hms hml d hr t ht => by
    have ga := d.1.al (o := .lst (ms.map V.str)) hr
    have wa := d.2.al (o := .lst (ms.map V.str)) hr
    have sa : Same G (upd G r (.lst (ms.map V.str))) := same_up (sub_none d.2.sub hr)
    have ea : upd G r (.lst (ms.map V.str)) r = some (.lst (ms.map V.str)) := upd_same
    generalize upd H' r (.lst (ms.map V.str)) = Ha at ga wa ht ⊢
    generalize upd G r (.lst (ms.map V.str)) = Ga at ga wa sa ea
    have sb : Same Ga (upd Ga t (.tup [.ref r, .ref l])) := same_up (sub_none wa.sub ht)
    exact kp t _ (upd Ga t (.tup [.ref r, .ref l])) r l ms as qs (ga.al ht) (wa.al ht) (.inl (.inl upd_same)) ⟨sb _ _ ea, sb _ _ (sa _ _ kq.l), pairs_same (sa.trans sb) kq.p, hms, hml, Nat.le_trans kq.al (by omega)⟩
  have cat' : ∀ (i j : Nat), (ks.take i ++ [odd] ++ ks.drop j).length ≤ 2 * N + 1 ∧ ∀ s ∈ ks.take i ++ [odd] ++ ks.drop j, ascii s ∧ s.length ≤ 3 * B + 1 := fun i j => by
    refine ⟨by rw [List.length_append, List.length_append, List.length_take, List.length_drop]; show _ + 1 + _ ≤ _; omega, fun s hs => ?_⟩
    rcases List.mem_append.mp hs with hs | hs
    · rcases List.mem_append.mp hs with hs | hs
      · exact ks3 s (List.mem_of_mem_take hs)
      · rw [List.mem_singleton.mp hs]; exact oo
    · exact ks3 s (List.mem_of_mem_drop hs)
  refine ⟨Inv, iteD (fun hlt => ?_) fun hlt => ⟨_, _, _, rfl, rfl⟩, ?_⟩
  · obtain ⟨j, hj⟩ : ∃ j : Nat, (at_ : Int) + (f : Int) % 2 = (j : Nat) := ⟨((at_ : Int) + (f : Int) % 2).toNat, by omega⟩
    refine te_splice (i := at_) (j := j) (y := .str odd) (xs := ks.map V.str) (a := a) gav gd7 (fun d => ka d.2.sub) (by rw [List.length_map]; omega) (fun q => q) (fun q => q) (fun q => q) (fun q => ⟨by decide, by rw [← hj] at q; exact q⟩) fun r H' d hr => ?_
    have e : (ks.map V.str).take at_ ++ [.str odd] ++ (ks.map V.str).drop j = (ks.take at_ ++ [odd] ++ ks.drop j).map V.str := by rw [List.map_append, List.map_append, List.map_take, List.map_drop]; rfl
    rw [e]
    refine ⟨Nat.le_of_ble_eq_true rfl, fun t ht => ?_⟩
    refine kinds' r H' _ (cat' _ _).2 ?_ d hr t ht
    rw [List.length_append, List.length_append, List.length_take, List.length_drop]
    show _ + 1 + _ ≤ _
    omega
  rintro σ H' ⟨x8, x9, x10, rfl, rfl⟩
  refine ⟨Inv, iteD (fun hlt => ?_) fun hlt => ⟨_, _, _, rfl, rfl⟩, ?_⟩
  · refine ⟨Nat.le_of_ble_eq_true rfl, fun r hr => ?_⟩
    refine ⟨Nat.le_of_ble_eq_true rfl, fun t ht => ?_⟩
    exact kinds' r _ [] (fun s hs => by cases hs) (by show 0 ≤ _; omega) gd7 hr t ht
  rintro σ H' ⟨x8, x9, x10, rfl, rfl⟩
  refine ⟨Inv, iteD (fun hlt => ?_) fun hlt => ⟨_, _, _, rfl, rfl⟩, ?_⟩
  · refine fun D hD => ?_
    refine lc_g walk_str (fun i acc _ => acc = ((("abcdefghijklm" : Str).cps.toList.take i).map fun c => sing c ++ ("x" : Str)).map V.str) NoS w7.sub hD rfl (fun _ _ _ => trivial) ?_ ?_
    · rintro i x acc G' H1 H1' hi hl' hd hg g rfl ⟨rfl, c, hc, rfl⟩
      have ec : ("abcdefghijklm" : Str).cps.toList.take (i + 1) = ("abcdefghijklm" : Str).cps.toList.take i ++ [c] := by
        rw [List.take_succ, Array.getElem?_toList, hc]; rfl
      have i13 : i < 13 := hi
      refine ⟨rfl, Nat.le_of_ble_eq_true rfl, Lc.add hD (by omega) hl' hg hd g ?_⟩
      rw [ec, List.map_append, List.map_append]
      rfl
    · rintro acc G' H8 hl' hd hg g rfl
      have g9 := g8.trans g.of0.closeG
      have w9 := w7.grow0 g.closeG
      have Dn : H D = none := g8.free hD
      have nD : ¬ Two p q D := fun z => z.elim (w.ne_p Dn) (w.ne_q Dn)
      obtain ⟨cs, hcs⟩ : ∃ cs : List Str, cs = (("abcdefghijklm" : Str).cps.toList.take ("abcdefghijklm" : Str).cps.size).map fun c => sing c ++ ("x" : Str) := ⟨_, rfl⟩
      have csl : cs.length ≤ 13 := by rw [hcs, List.length_map]; exact Nat.le_trans (List.length_take_le _ _) (Nat.le_of_ble_eq_true rfl)
      have cso : ∀ s ∈ cs, ascii s ∧ s.length ≤ 3 * B + 1 := fun s hs => by
        rw [hcs] at hs
        obtain ⟨c, hc, rfl⟩ := List.mem_map.mp hs
        have hc' := List.mem_of_mem_take hc
        have c1 : ∀ c ∈ ("abcdefghijklm" : Str).cps.toList, c < 128 := by decide
        refine ⟨ascii_app (fun d hd => ?_) (by unfold ascii; decide), ?_⟩
        · have : d ∈ [c] := hd
          rw [List.mem_singleton.mp this]; exact c1 c hc'
        · rw [Str.length_append]; show 1 + 1 ≤ _; omega
      rw [← hcs] at hd
      refine ⟨p, q, G, 2, rfl, w9, by decide, by decide, fun z H9 hz0 hz1 g10 w10 => ?_⟩
      obtain ⟨zn, hzn⟩ : ∃ k : Nat, 12 + z = (k : Nat) := ⟨(12 + z).toNat, by omega⟩
      have d9 := g10.keep _ _ nD hd
      show uSl K (.ref D) none (some (12 + z)) H9 _
      rw [hzn]
      refine uSl_L (SqL.of d9) fun r hr => ?_
      rw [cut_to, ← List.map_take]
      refine ⟨Nat.le_of_ble_eq_true rfl, fun t ht => ?_⟩
      exact kinds' r _ (cs.take zn) (fun s hs => cso s (List.mem_of_mem_take hs)) (by rw [List.length_take]; omega) ⟨g9.trans g10, w10⟩ hr t ht
  rintro σ H' ⟨x8, x9, x10, rfl, rfl⟩
  refine ⟨_, .inl (SqL.of (kl w7.sub)), ?_⟩
  refine ⟨p, q, G, ((as.map V.ref).length : Int) + 1, rfl, w7, by omega, by rw [List.length_map]; omega, fun sz H8 hs0 hs1 g9 w9 => ?_⟩
  obtain ⟨s, rfl⟩ : ∃ k : Nat, sz = k := ⟨sz.toNat, by omega⟩
  have ga := g8.trans g9
  -- the five
  obtain ⟨zq, hzq⟩ : ∃ zq : Str, zq = ("zqzqzq" : Str) := ⟨_, rfl⟩
  have zqo : ascii zq ∧ zq.length ≤ 3 * B + 1 := by
    rw [hzq]
    refine ⟨by unfold ascii; decide, ?_⟩
    show 6 ≤ _
    omega
  have nmo' : ascii nm ∧ nm.length ≤ 3 * B + 1 := ⟨nmo.1, by omega⟩
  have p0 : PairsAt K G [] [] := ⟨rfl, fun i a q ha => by cases ha⟩
  have s0 : Same G G := Same.refl G
  refine ⟨Nat.le_of_ble_eq_true rfl, fun t1 h1 => ?_⟩
  obtain ⟨G1, c1, p1, gb1, wb1⟩ : ∃ G', Same G G' ∧ PairsAt K G' [t1] [raw (nm, nm)] ∧ Grow (Two p q) G H G' (upd H8 t1 (.tup [.str nm, .str nm])) ∧ WD G' (upd H8 t1 (.tup [.str nm, .str nm])) p q :=
    ⟨upd G t1 (.tup [.str nm, .str nm]), s0.trans (same_up (sub_none w9.sub h1)), pairs_snoc (as := []) (qs := []) (pairs_same (same_up (sub_none w9.sub h1)) p0) (.inl (.inl upd_same)), ga.al h1, w9.al h1⟩
  generalize upd H8 t1 (.tup [.str nm, .str nm]) = J1 at gb1 wb1 ⊢
  refine ⟨Nat.le_of_ble_eq_true rfl, fun t2 h2 => ?_⟩
  obtain ⟨G2, c2, p2, gb2, wb2⟩ : ∃ G', Same G G' ∧ PairsAt K G' [t1, t2] [raw (nm, nm), raw (nm, odd)] ∧ Grow (Two p q) G H G' (upd J1 t2 (.tup [.str nm, .str odd])) ∧ WD G' (upd J1 t2 (.tup [.str nm, .str odd])) p q :=
    ⟨upd G1 t2 (.tup [.str nm, .str odd]), c1.trans (same_up (sub_none wb1.sub h2)), pairs_snoc (as := [t1]) (qs := [raw (nm, nm)]) (pairs_same (same_up (sub_none wb1.sub h2)) p1) (.inl (.inl upd_same)), gb1.al h2, wb1.al h2⟩
  generalize upd J1 t2 (.tup [.str nm, .str odd]) = J2 at gb2 wb2 ⊢
  refine ⟨Nat.le_of_ble_eq_true rfl, fun t3 h3 => ?_⟩
  obtain ⟨G3, c3, p3, gb3, wb3⟩ : ∃ G', Same G G' ∧ PairsAt K G' [t1, t2, t3] [raw (nm, nm), raw (nm, odd), raw (odd, nm)] ∧ Grow (Two p q) G H G' (upd J2 t3 (.tup [.str odd, .str nm])) ∧ WD G' (upd J2 t3 (.tup [.str odd, .str nm])) p q :=
    ⟨upd G2 t3 (.tup [.str odd, .str nm]), c2.trans (same_up (sub_none wb2.sub h3)), pairs_snoc (as := [t1, t2]) (qs := [raw (nm, nm), raw (nm, odd)]) (pairs_same (same_up (sub_none wb2.sub h3)) p2) (.inl (.inl upd_same)), gb2.al h3, wb2.al h3⟩
  generalize upd J2 t3 (.tup [.str odd, .str nm]) = J3 at gb3 wb3 ⊢
  refine ⟨Nat.le_of_ble_eq_true rfl, fun t4 h4 => ?_⟩
  obtain ⟨G4, c4, p4, gb4, wb4⟩ : ∃ G', Same G G' ∧ PairsAt K G' [t1, t2, t3, t4] [raw (nm, nm), raw (nm, odd), raw (odd, nm), raw (zq, nm)] ∧ Grow (Two p q) G H G' (upd J3 t4 (.tup [.str zq, .str nm])) ∧ WD G' (upd J3 t4 (.tup [.str zq, .str nm])) p q :=
    ⟨upd G3 t4 (.tup [.str zq, .str nm]), c3.trans (same_up (sub_none wb3.sub h4)), pairs_snoc (as := [t1, t2, t3]) (qs := [raw (nm, nm), raw (nm, odd), raw (odd, nm)]) (pairs_same (same_up (sub_none wb3.sub h4)) p3) (.inl (.inl upd_same)), gb3.al h4, wb3.al h4⟩
  rw [hzq] at gb4 wb4
  generalize upd J3 t4 (.tup [.str ("zqzqzq" : Str), .str nm]) = J4 at gb4 wb4 ⊢
  refine ⟨Nat.le_of_ble_eq_true rfl, fun t5 h5 => ?_⟩
  obtain ⟨G5, c5, p5, gb5, wb5⟩ : ∃ G', Same G G' ∧ PairsAt K G' [t1, t2, t3, t4, t5] [raw (nm, nm), raw (nm, odd), raw (odd, nm), raw (zq, nm), raw (nm, zq)] ∧ Grow (Two p q) G H G' (upd J4 t5 (.tup [.str nm, .str zq])) ∧ WD G' (upd J4 t5 (.tup [.str nm, .str zq])) p q :=
    ⟨upd G4 t5 (.tup [.str nm, .str zq]), c4.trans (same_up (sub_none wb4.sub h5)), pairs_snoc (as := [t1, t2, t3, t4]) (qs := [raw (nm, nm), raw (nm, odd), raw (odd, nm), raw (zq, nm)]) (pairs_same (same_up (sub_none wb4.sub h5)) p4) (.inl (.inl upd_same)), gb4.al h5, wb4.al h5⟩
  rw [hzq] at gb5 wb5
  generalize upd J4 t5 (.tup [.str nm, .str ("zqzqzq" : Str)]) = J5 at gb5 wb5 ⊢
  obtain ⟨prs, hprs⟩ : ∃ prs : List (Str × Str), prs = [(nm, nm), (nm, odd), (odd, nm), (zq, nm), (nm, zq)] := ⟨_, rfl⟩
  have p6 : PairsAt K G5 [t1, t2, t3, t4, t5] (prs.map raw) := by rw [hprs]; exact p5
  have prl : prs.length = 5 := by rw [hprs]; rfl
  refine ⟨Nat.le_of_ble_eq_true rfl, fun T hT => ?_⟩
  obtain ⟨ts, hts⟩ : ∃ ts : List Addr, ts = [t1, t2, t3, t4, t5] := ⟨_, rfl⟩
  have tsl : ts.length = 5 := by rw [hts]; rfl
  have gc := gb5.av (o := .lst (ts.map V.ref)) hT
  have wc := wb5.av (o := .lst (ts.map V.ref)) hT
  have sc : upd J5 T (.lst (ts.map V.ref)) T = some (.lst (ts.map V.ref)) := upd_same
  have Tn : H T = none := gb5.free hT
  have nT : ¬ Two p q T := fun z => z.elim (w.ne_p Tn) (w.ne_q Tn)
  have eT : upd J5 T (.lst (ts.map V.ref)) = upd J5 T (.lst [.ref t1, .ref t2, .ref t3, .ref t4, .ref t5]) := by rw [hts]; rfl
  rw [eT] at gc wc sc
  generalize upd J5 T (.lst [.ref t1, .ref t2, .ref t3, .ref t4, .ref t5]) = J6 at gc wc sc ⊢
  rw [← hts] at p6
  refine ⟨p, q, G5, 5, rfl, wc, by decide, by decide, fun kz J7 hk0 hk1 gd wd => ?_⟩
  obtain ⟨kn, rfl⟩ : ∃ k : Nat, kz = k := ⟨kz.toNat, by omega⟩
  have sd := gd.keep _ _ nT sc
  have hkn : kn < ts.length := by omega
  obtain ⟨t', ht'⟩ : ∃ t', ts[kn]? = some t' := ⟨_, List.getElem?_eq_getElem hkn⟩
  obtain ⟨pr, hpr⟩ : ∃ pr, prs[kn]? = some pr := ⟨_, List.getElem?_eq_getElem (by omega : kn < prs.length)⟩
  have at' : SqT K G5 t' ((raw pr).map V.str) := p6.2 kn t' (raw pr) ht' (by rw [List.getElem?_map, hpr]; rfl)
  refine ⟨_, .ref t', .inl (SqL.of sd), atI_of rfl (by rw [List.getElem?_map, ht']; rfl), ?_⟩
  have ge := gc.trans gd
  let Ge : Hp → Prop := fun H' => Grow (Two p q) G H G5 H' ∧ WD G5 H' p q
  refine te_splice (Gd := Ge) (σ := [some (.ref p), some (.ref a), some (.ref l), some (.int (at_ : Nat)), some (.int (f : Nat)), some (.ref S), some (.str nm), some (.str odd), some (.int (s : Nat)), some (.ref t'), x10]) (ta := uV 2) (ty := uV 9) (p1 := uPart (uV 8)) (p2 := uPart (uV 8)) (i := s) (j := s) (y := .ref t') (xs := as.map V.ref) (a := l) (fun d h => ⟨d.1.av h, d.2.av h⟩) ⟨ge, wd⟩ (fun d => kl (c5.trans d.2.sub)) (by rw [List.length_map]; omega) (fun q => q) (fun q => q) (fun q => q) (fun q => q) fun r H' d hr => ?_
  have e : (as.map V.ref).take s ++ [.ref t'] ++ (as.map V.ref).drop s = (as.take s ++ [t'] ++ as.drop s).map V.ref := by rw [List.map_append, List.map_append, List.map_take, List.map_drop]; rfl
  rw [e]
  refine ⟨Nat.le_of_ble_eq_true rfl, fun t ht => ?_⟩
  have gf := d.1.al (o := .lst ((as.take s ++ [t'] ++ as.drop s).map V.ref)) hr
  have wf := d.2.al (o := .lst ((as.take s ++ [t'] ++ as.drop s).map V.ref)) hr
  have sf : Same G5 (upd G5 r (.lst ((as.take s ++ [t'] ++ as.drop s).map V.ref))) := same_up (sub_none d.2.sub hr)
  have ef : upd G5 r (.lst ((as.take s ++ [t'] ++ as.drop s).map V.ref)) r = some (.lst ((as.take s ++ [t'] ++ as.drop s).map V.ref)) := upd_same
  generalize upd H' r (.lst ((as.take s ++ [t'] ++ as.drop s).map V.ref)) = Hf at gf wf ht ⊢
  generalize upd G5 r (.lst ((as.take s ++ [t'] ++ as.drop s).map V.ref)) = Gf at gf wf sf ef
  have sb : Same Gf (upd Gf t (.tup [.ref a, .ref r])) := same_up (sub_none wf.sub ht)
  refine kp t _ (upd Gf t (.tup [.ref a, .ref r])) a r ks (as.take s ++ [t'] ++ as.drop s) (qs.take s ++ [pr] ++ qs.drop s) (gf.al ht) (wf.al ht) (.inl (.inl upd_same)) ⟨sb _ _ (sf _ _ (c5 _ _ kq.a)), sb _ _ ef, pairs_splice (pairs_same (c5.trans (sf.trans sb)) kq.p) (sqT_same (sf.trans sb) at') s, ks3, Nat.le_trans kq.kl (by omega), ?_⟩
  rw [List.length_append, List.length_append, List.length_take, List.length_drop]
  show _ + 1 + _ ≤ _
  omega
end U

set_option Elab.async false
set_option linter.all false
set_option maxRecDepth 100000
set_option maxHeartbeats 4000000
/-! K03R: the law -/
namespace U
open PySem PySem.Spec PyProof.Rows L2
theorem chkT_ok {ks : List Str} {qs : List (Str × Str)} {w : Str} {i : Int} (h : chkT ks qs = some (w, i)) (hk : ks.length ≤ 1000) (hq : qs.length ≤ 10000) : (w = ("count" : Str) ∨ w = ("name" : Str) ∨ w = ("pair" : Str)) ∧ -1 ≤ i ∧ i ≤ 10000 := by
  unfold chkT at h
  split at h
  · rename_i e ck
    rw [← ck] at h
    unfold chkK at h
    split at h
    · obtain ⟨j, hj, e⟩ := Option.map_eq_some_iff.mp h
      obtain ⟨a, ha, ha'⟩ := Option.bind_eq_some_iff.mp hj
      have hm := List.mem_range.mp (List.mem_of_find?_eq_some ha)
      have ea : ((a : Nat) : Int) = j := Option.some.inj ha'
      cases e
      exact ⟨.inr (.inl rfl), by omega, by omega⟩
    · cases h
      exact ⟨.inl rfl, by omega, by omega⟩
  · obtain ⟨j, hj, e⟩ := Option.map_eq_some_iff.mp h
    obtain ⟨a, ha, ha'⟩ := Option.bind_eq_some_iff.mp hj
    have hm := List.mem_range.mp (List.mem_of_find?_eq_some ha)
    have ea : ((a : Nat) : Int) = j := Option.some.inj ha'
    cases e
    exact ⟨.inr (.inr rfl), by omega, by omega⟩
/-- the answer can be shown -/
structure Shown (d : PyData) : Prop where
  sh : d.showable = true
  nd : d.hasDict = false
  dp : d.depth + 1 ≤ 60
  sz : d.shown.length ≤ sizeLine
theorem shown_none : Shown .none := ⟨rfl, rfl, by decide, Nat.le_of_ble_eq_true rfl⟩
theorem shown_due {w : Str} {i : Int} (hw : w = ("count" : Str) ∨ w = ("name" : Str) ∨ w = ("pair" : Str)) (h1 : -1 ≤ i) (h2 : i ≤ 10000) : Shown (.tuple [.str w, .int i]) := by
  have line : sizeLine = 16777216 := sizeLine_eq
  have ok : PyData.strOk w = true := by refine ascii_ok ?_; unfold ascii; rcases hw with rfl | rfl | rfl <;> decide
  have wl : w.length ≤ 100 := by rcases hw with rfl | rfl | rfl <;> exact Nat.le_of_ble_eq_true rfl
  have lg : i.natAbs.log2 < 20 := by
    by_cases h : i.natAbs = 0
    · rw [h]; decide
    · exact (Nat.log2_lt h).mpr (by omega)
  have si : (PyData.shown (.int i)).length ≤ 13 := PyData.shown_int_le2 (by omega) (by omega)
  have short : (PyData.tuple [.str w, .int i]).intsShort 13 = true := by
    simp [PyData.intsShort, PyData.intsShortAll, si]
  have lay : PyData.layable0 (.tuple [.str w, .int i]) = true := by
    simp [PyData.layable0, PyData.canLay0, PyData.canLayAll0, PyData.depth, PyData.depthAll, PyData.weight, PyData.weightAll, ok]
    have : w.cps.size = w.length := rfl
    split <;> omega
  refine ⟨?_, ?_, ?_, Nat.le_trans (shown_le13 lay short) (by omega)⟩
  · simp [PyData.showable, PyData.showableAll, ok]
    omega
  · simp [PyData.hasDict, PyData.hasDictAll]
  · simp [PyData.depth, PyData.depthAll]
theorem shown_dueD {ks : List Str} {qs : List (Str × Str)} (hk : ks.length ≤ 1000) (hq : qs.length ≤ 10000) : Shown (dueD (chkT ks qs)) := by
  cases e : chkT ks qs with
  | none => exact shown_none
  | some r =>
    obtain ⟨w, i⟩ := r
    obtain ⟨h1, h2, h3⟩ := chkT_ok e hk hq
    exact shown_due h1 h2 h3
theorem chk_good {ks : List Str} {qs : List (Str × Str)} (h : NameL ks) (h1 : 1 ≤ ks.length) (h2 : ks.length ≤ 12) (hp : PairL ks qs) : chkT ks qs = none := by
  have ck : chkK ks = none := by
    unfold chkK
    rw [if_pos ⟨h1, h2⟩]
    have e : (List.range ks.length).find? (badK ks) = none := by
      rw [List.find?_eq_none]
      intro i hi
      have hil := List.mem_range.mp hi
      have hs := List.getElem?_eq_getElem hil
      unfold badK
      rw [List.getD_eq_getElem?_getD, hs]
      simp only [Option.getD_some]
      rw [h.nm _ (List.getElem_mem hil)]
      have nm : ¬ ks[i] ∈ ks.take i := fun hm => by
        obtain ⟨j, hj, e⟩ := List.getElem_of_mem hm
        rw [List.length_take] at hj
        rw [List.getElem_take] at e
        have := (List.getElem_inj h.nd).mp e
        omega
      rw [decide_eq_false nm]
      decide
    show ((List.range ks.length).find? (badK ks)).map (fun i => (("name" : Str), (i : Int))) = none
    rw [e]
    rfl
  have e : (List.range qs.length).find? (fun i => badP ks (qs.getD i ("", ""))) = none := by
    rw [List.find?_eq_none]
    intro j hj
    have hjl := List.mem_range.mp hj
    have hjs := List.getElem?_eq_getElem hjl
    rw [List.getD_eq_getElem?_getD, hjs]
    simp only [Option.getD_some]
    obtain ⟨a1, a2, a3⟩ := hp.ok _ (List.getElem_mem hjl)
    unfold badP
    rw [decide_eq_true a1, decide_eq_true a2, decide_eq_false a3]
    decide
  unfold chkT
  rw [ck]
  show (((List.range qs.length).find? fun i => badP ks (qs.getD i ("", ""))).map fun i => (("pair" : Str), (i : Int))) = _
  rw [e]
  rfl
def sp_law (K : PySem.W.Frag) : Sp := fun vs H Q _ => ∃ (a : Addr) (ns : List Int), vs = [.ref a] ∧ SqL K H a (ns.map V.int) ∧ ns.length ≤ 63 ∧ ∀ H', Q (.bl true) H'
/-! law: 0=script 1=base 2=deal_here 3=kinds 4=pairs_here 5=turn 6=one 7=some 8=form 9=told_here -/
def t_law (K : PySem.W.Frag) (W : WX) : TS :=
  (tSeq (tFor (uiR1 (tC (.int 2))) (gName 1) (tSeq (tAsg (uCall (sp_deal K) [] W (tCons (uV 0) (tCons (uV 1) tNil))) (gName 2)) (tSeq (tAsg (uCall (sp_names K) [] W (tCons (uV 2) (tCons (tOp uAdd (tC (.int 1)) (uCall (sp_draw K) [] W (tCons (uV 2) (tCons (tC (.int 12)) tNil)))) tNil))) (gName 3)) (tSeq (tAsg (uCall (sp_pairs K) [] W (tCons (uV 2) (tCons (uV 3) tNil))) (gName 4)) (tSeq (tFor (uiR1 (tC (.int 6))) (gName 5) (tSeq (tAsg (uCall (sp_bent03 K) [] W (tCons (uV 2) (tCons (uV 3) (tCons (uV 4) tNil)))) (uTup K 2 (uGc (gName 6) (uGc (gName 7) uGn)))) (tSeq (cS (tIfS (uB (tOp (uEq K) (uCall (sp_draw K) [] W (tCons (uV 2) (tCons (tC (.int 2)) tNil))) (tC (.int 0)))) (tAsg (uCall (sp_bent03 K) [] W (tCons (uV 2) (tCons (uV 6) (tCons (uV 7) tNil)))) (uTup K 2 (uGc (gName 6) (uGc (gName 7) uGn)))) tNext)) (tFor (uiR1 (tC (.int 2))) (gName 8) (tSeq (tAsg (uCall (sp_told03 K) [] W (tCons (tOp (uIx K) (tLst (tCons (uV 6) (tCons (tCB (uTuple K) (tCons (uV 6) tNil)) tNil))) (uV 8)) (tCons (tOp (uIx K) (tLst (tCons (tCB (uTuple K) (tCons (uV 7) tNil)) (tCons (uV 7) tNil))) (uV 8)) tNil))) (gName 9)) (tIfS (uB (tOp (uNe K) (tCB (uRepr K) (tCons (uV 9) tNil)) (tCB (uRepr K) (tCons (uCall (sp_due03 K) [] W (tCons (uV 6) (tCons (uV 7) tNil))) tNil)))) (tRet (tC (.bl false))) tNext)))))) (tIfS (uB (tOp uIsNot (uCall (sp_told03 K) [] W (tCons (uV 3) (tCons (uV 4) tNil))) (tC .non))) (tRet (tC (.bl false))) tNext)))))) (tRet (tC (.bl true))))
theorem pure_law {K : PySem.W.Frag} {W : WX} (vs : List V) (H : Hp) (Q : VK) (E : XK) (h : sp_law K vs H Q E) : t_law K W { nx := fun _ H' => Q .non H', rt := Q } (start ["script", "base", "deal_here", "kinds", "pairs_here", "turn", "one", "some", "form", "told_here"] vs) H := by
  obtain ⟨a, ns, rfl, ha, hnl, kq⟩ := h
  have line : sizeLine = 16777216 := sizeLine_eq
  refine ⟨by decide, by decide, ?_⟩
  refine for_it walk_range (fun i σ H' => ∃ x1 x2 x3 x4 x5 x6 x7 x8 x9, σ = [some (.ref a), x1, x2, x3, x4, x5, x6, x7, x8, x9] ∧ SqL K H' a (ns.map V.int)) ⟨_, _, _, _, _, _, _, _, _, rfl, ha⟩ (fun _ _ _ _ _ => trivial) ?_ ?_
  · rintro i v σ H0 H1 hi ⟨x1, x2, x3, x4, x5, x6, x7, x8, x9, rfl, h1⟩ ⟨rfl, rfl⟩
    have hi' : i < 2 := hi
    refine ⟨a, H1, ns, 0 + (i : Int), rfl, Same.refl _, h1, hnl, by omega, by omega, fun p q H2 hp hq g1 w1 => ?_⟩
    refine ⟨p, q, H1, 12, rfl, w1, by decide, by decide, fun mz H3 hm0 hm1 g2 w2 => ?_⟩
    obtain ⟨m, hm⟩ : ∃ m : Nat, 1 + mz = (m : Nat) := ⟨(1 + mz).toNat, by omega⟩
    refine ⟨p, q, H1, m, by rw [hm]; rfl, w2, by omega, by omega, fun l H4 ks hl hgl nl len g3 w3 e3 => ?_⟩
    have wf := w3.fz e3 hgl (w2.ne_p hl) (w2.ne_q hl)
    have sf : Same H1 (upd H1 l (.lst (ks.map V.str))) := same_up hgl
    have ef : upd H1 l (.lst (ks.map V.str)) l = some (.lst (ks.map V.str)) := upd_same
    generalize upd H1 l (.lst (ks.map V.str)) = G1 at wf sf ef
    refine ⟨p, q, l, true, ks, G1, rfl, wf, SqL.of ef, nl, by omega, fun l2 H5 G5 as qs hl2 hgl2 g4 w4 e4 pa pl => ?_⟩
    have wg := w4.fz e4 hgl2 (wf.ne_p hl2) (wf.ne_q hl2)
    have sg : Same G5 (upd G5 l2 (.lst (as.map V.ref))) := same_up hgl2
    have eg : upd G5 l2 (.lst (as.map V.ref)) l2 = some (.lst (as.map V.ref)) := upd_same
    generalize upd G5 l2 (.lst (as.map V.ref)) = G at wg sg eg
    have s1 : Same H1 G := sf.trans (g4.gs.trans sg)
    have pl66 := pl.len (by omega)
    have asl : as.length = qs.length := by rw [pa.1, List.length_map]
    have kq0 : KQ K G l l2 ks as qs 7 66 := ⟨(g4.gs.trans sg) _ _ ef, eg, pairs_same sg pa, fun s hs => ⟨isName_ascii (nl.nm s hs), Nat.le_trans (isName_len (nl.nm s hs)) (by decide)⟩, by omega, by omega⟩
    have hG : SqL K G a (ns.map V.int) := sqL_same s1 h1
    refine ⟨by decide, by decide, ?_⟩
    refine for_it walk_range (fun j σ H' => ∃ x5 x6 x7 x8 x9, σ = [some (.ref a), some (.int (0 + (i : Int))), some (.ref p), some (.ref l), some (.ref l2), x5, x6, x7, x8, x9] ∧ WD G H' p q) ⟨_, _, _, _, _, rfl, wg⟩ (fun _ _ _ _ _ => trivial) ?_ ?_
    · rintro j v σ H0' H6 hj ⟨y5, y6, y7, y8, y9, rfl, w6⟩ ⟨rfl, rfl⟩
      refine ⟨p, q, l, l2, ks, as, qs, G, 7, 66, rfl, w6, kq0, by decide, by decide, by decide, fun t1 H7 G7 a7 l7 k7 p7 q7 g7 w7 st7 kq7 => ?_⟩
      refine ⟨_, sqT_same w7.sub st7, rfl, ?_⟩
      let Inv : L2.St → Hp → Prop := fun σ H' => ∃ (G' : Hp) (a' l' : Addr) (ks' : List Str) (as' : List Addr) (qs' : List (Str × Str)) (x8 x9 : Option V), σ = [some (.ref a), some (.int (0 + (i : Int))), some (.ref p), some (.ref l), some (.ref l2), some (.int (0 + (j : Int))), some (.ref a'), some (.ref l'), x8, x9] ∧ WD G' H' p q ∧ Same G G' ∧ KQ K G' a' l' ks' as' qs' 67 94
      refine ⟨Inv, ?_, ?_⟩
      · refine ⟨p, q, G7, 2, rfl, w7, by decide, by decide, fun z H8 hz0 hz1 g8 w8 => ?_⟩
        refine iteD (fun hz => ?_) fun hz => ?_
        · refine ⟨p, q, a7, l7, k7, p7, q7, G7, 22, 80, rfl, w8, kq7, by decide, by decide, by decide, fun t2 H9 G9 a9 l9 k9 p9 q9 g9 w9 st9 kq9 => ?_⟩
          exact ⟨_, sqT_same w9.sub st9, rfl, G9, a9, l9, k9, p9, q9, _, _, rfl, w9, g7.gs.trans g9.gs, kq9⟩
        · exact ⟨G7, a7, l7, k7, p7, q7, _, _, rfl, w8, g7.gs, ⟨kq7.a, kq7.l, kq7.p, fun s hs => ⟨(kq7.s s hs).1, Nat.le_trans (kq7.s s hs).2 (by decide)⟩, Nat.le_trans kq7.kl (by decide), Nat.le_trans kq7.al (by decide)⟩⟩
      · rintro σ H9 ⟨G9, a9, l9, k9, p9, q9, x8, x9, rfl, w9, s9, kq9⟩
        have s9l : ∀ s ∈ k9, ascii s ∧ s.length ≤ 1000 := fun s hs => ⟨(kq9.s s hs).1, Nat.le_trans (kq9.s s hs).2 (by decide)⟩
        have k9l : k9.length ≤ 1000 := Nat.le_trans kq9.kl (by decide)
        have p9l : p9.length ≤ 10000 := Nat.le_trans kq9.al (by decide)
        have q9l : q9.length ≤ 10000 := by have := kq9.p.1; rw [List.length_map] at this; omega
        have sh := shown_dueD (ks := k9) (qs := q9) k9l q9l
        refine ⟨by decide, by decide, ?_⟩
        refine for_it walk_range (fun f σ H' => ∃ x8 x9, σ = [some (.ref a), some (.int (0 + (i : Int))), some (.ref p), some (.ref l), some (.ref l2), some (.int (0 + (j : Int))), some (.ref a9), some (.ref l9), x8, x9] ∧ WD G9 H' p q) ⟨_, _, rfl, w9⟩ (fun _ _ _ _ _ => trivial) ?_ ?_
        · rintro f v σ H0'' Ha hf ⟨z8, z9, rfl, wa⟩ ⟨rfl, rfl⟩
          have hf' : f < 2 := hf
          have A := wa.sub _ _ kq9.a
          have B' := wa.sub _ _ kq9.l
          refine ⟨_, .inl ⟨SqL.of A, fun u hu => ?_⟩⟩
          have wb := wa.al (o := .tup (k9.map V.str)) hu
          have sb : Same G9 (upd G9 u (.tup (k9.map V.str))) := same_up (sub_none wa.sub hu)
          have eu : upd G9 u (.tup (k9.map V.str)) u = some (.tup (k9.map V.str)) := upd_same
          generalize upd Ha u (.tup (k9.map V.str)) = Hb at wb ⊢
          generalize upd G9 u (.tup (k9.map V.str)) = Gb at wb sb eu
          refine ⟨Nat.le_of_ble_eq_true rfl, fun L hL => ?_⟩
          have wc := wb.av (o := .lst [.ref a9, .ref u]) hL
          have eL : upd Hb L (.lst [.ref a9, .ref u]) L = some (.lst [.ref a9, .ref u]) := upd_same
          generalize upd Hb L (.lst [.ref a9, .ref u]) = Hc at wc eL ⊢
          obtain ⟨x, b, hx, bx⟩ : ∃ x b, atI [V.ref a9, V.ref u] (0 + (f : Int)) = some (.ref x) ∧ SqB K b Gb x (k9.map V.str) := by
            rcases (by omega : f = 0 ∨ f = 1) with rfl | rfl
            · exact ⟨a9, true, rfl, SqL.of (sb _ _ kq9.a)⟩
            · exact ⟨u, false, rfl, .inl (.inl eu)⟩
          refine ⟨_, .ref x, .inl (SqL.of eL), hx, ?_⟩
          refine ⟨_, .inl ⟨SqL.of (wc.sub _ _ (sb _ _ kq9.l)), fun u2 hu2 => ?_⟩⟩
          have wd := wc.al (o := .tup (p9.map V.ref)) hu2
          have sd : Same Gb (upd Gb u2 (.tup (p9.map V.ref))) := same_up (sub_none wc.sub hu2)
          have eu2 : upd Gb u2 (.tup (p9.map V.ref)) u2 = some (.tup (p9.map V.ref)) := upd_same
          generalize upd Hc u2 (.tup (p9.map V.ref)) = Hd at wd ⊢
          generalize upd Gb u2 (.tup (p9.map V.ref)) = Gd at wd sd eu2
          refine ⟨Nat.le_of_ble_eq_true rfl, fun L2 hL2 => ?_⟩
          have we := wd.av (o := .lst [.ref u2, .ref l9]) hL2
          have eL2 : upd Hd L2 (.lst [.ref u2, .ref l9]) L2 = some (.lst [.ref u2, .ref l9]) := upd_same
          generalize upd Hd L2 (.lst [.ref u2, .ref l9]) = He at we eL2 ⊢
          obtain ⟨y, b', hy, by'⟩ : ∃ y b', atI [V.ref u2, V.ref l9] (0 + (f : Int)) = some (.ref y) ∧ SqB K b' Gd y (p9.map V.ref) := by
            rcases (by omega : f = 0 ∨ f = 1) with rfl | rfl
            · exact ⟨u2, false, rfl, .inl (.inl eu2)⟩
            · exact ⟨l9, true, rfl, SqL.of (sd _ _ (sb _ _ kq9.l))⟩
          refine ⟨_, .ref y, .inl (SqL.of eL2), hy, ?_⟩
          have s9d := sb.trans sd
          refine ⟨x, y, b, b', k9, p9, q9, Gd, rfl, we.sub, sqB_keep (fun o e => sd _ _ e) bx, by', pairs_same s9d kq9.p, s9l, k9l, p9l, fun v Hf Gf gf df => ?_⟩
          have wf' := we.grow0 gf
          have s9f := s9d.trans gf.gs
          refine ⟨_, dp_same gf.sub df, sh.sh, sh.nd, sh.dp, sh.sz, ?_⟩
          refine ⟨a9, l9, true, true, k9, p9, q9, Gf, rfl, wf'.sub, SqL.of (s9f _ _ kq9.a), SqL.of (s9f _ _ kq9.l), pairs_same s9f kq9.p, s9l, k9l, p9l, fun v2 Hg Gg gg' dg => ?_⟩
          refine ⟨_, dp_same gg'.sub dg, sh.sh, sh.nd, sh.dp, sh.sz, ?_⟩
          exact iteN (fun h => absurd rfl h) fun _ => ⟨_, _, rfl, (wf'.grow0 gg').low (s9f.trans gg'.gs)⟩
        · rintro σ Ha ⟨z8, z9, rfl, wa⟩
          exact ⟨_, _, _, _, _, rfl, wa.low s9⟩
    · rintro σ H6 ⟨y5, y6, y7, y8, y9, rfl, w6⟩
      have hk6 : ∀ s ∈ ks, ascii s ∧ s.length ≤ 1000 := fun s hs => ⟨(kq0.s s hs).1, Nat.le_trans (kq0.s s hs).2 (by decide)⟩
      refine ⟨l, l2, true, true, ks, as, qs, G, rfl, w6.sub, SqL.of kq0.a, SqL.of kq0.l, kq0.p, hk6, Nat.le_trans kq0.kl (by decide), Nat.le_trans kq0.al (by decide), fun v Hf Gf gf df => ?_⟩
      rw [chk_good nl (by omega) (by omega) pl] at df
      cases df
      refine ⟨_, _, _, _, _, _, _, _, _, rfl, ?_⟩
      exact sqL_same ((w6.grow0 gf).low gf.gs).sub hG
  · rintro σ H1 _
    exact kq _
end U

namespace U
open PySem PySem.Spec PyProof.Rows L2
/-! InvalidTable.__init__: 0=self 1=word 2=at -/
def t_InvalidTable (K : PySem.W.Frag) (W : WX) : TS :=
  (tSeq (tDrop (uInit K false (tCons (uV 0) (tCons (tC (.str "invalid table")) tNil)))) (tSeq (uOst K "word" (uV 0) (uV 1)) (uOst K "at" (uV 0) (uV 2))))
def topS (i : Nat) : Stmt := PySem.Challenge.pw_undoamid_k03_tables_refused.main.body.getD i (.Pass ⟨0, 0, 0, 0⟩)
abbrev s_InvalidTable : Stmt := inClass (topS 3) 0
abbrev N_InvalidTable : List Str := ["self", "word", "at"]
abbrev P_InvalidTable : List Str := ["self", "word", "at"]
theorem sc_InvalidTable : FnScope N_InvalidTable P_InvalidTable (defScope s_InvalidTable) := ⟨rfl, rfl, rfl, by decide +kernel, rfl, by decide +kernel, by decide +kernel⟩
abbrev s_is_name : Stmt := topS 9
abbrev N_is_name : List Str := ["value", "letter"]
abbrev P_is_name : List Str := ["value"]
theorem sc_is_name : FnScope N_is_name P_is_name (defScope s_is_name) := ⟨rfl, rfl, rfl, by decide +kernel, rfl, by decide +kernel, by decide +kernel⟩
abbrev s_check_kinds : Stmt := topS 12
abbrev N_check_kinds : List Str := ["kinds", "at", "kind"]
abbrev P_check_kinds : List Str := ["kinds"]
theorem sc_check_kinds : FnScope N_check_kinds P_check_kinds (defScope s_check_kinds) := ⟨rfl, rfl, rfl, by decide +kernel, rfl, by decide +kernel, by decide +kernel⟩
abbrev s_in_pair : Stmt := topS 13
abbrev N_in_pair : List Str := ["one", "other"]
abbrev P_in_pair : List Str := ["one", "other"]
theorem sc_in_pair : FnScope N_in_pair P_in_pair (defScope s_in_pair) := ⟨rfl, rfl, rfl, by decide +kernel, rfl, by decide +kernel, by decide +kernel⟩
abbrev s_Table : Stmt := inClass (topS 17) 0
abbrev N_Table : List Str := ["self", "kinds", "pairs", "found", "at", "pair", "one", "other", "kind"]
abbrev P_Table : List Str := ["self", "kinds", "pairs"]
theorem sc_Table : FnScope N_Table P_Table (defScope s_Table) := ⟨rfl, rfl, rfl, by decide +kernel, rfl, by decide +kernel, by decide +kernel⟩
abbrev s_deal : Stmt := topS 19
abbrev N_deal : List Str := ["_law_script", "_law_base", "_law_cells", "_law_mixed_here", "_law_cell"]
abbrev P_deal : List Str := ["_law_script", "_law_base"]
theorem sc_deal : FnScope N_deal P_deal (defScope s_deal) := ⟨rfl, rfl, rfl, by decide +kernel, rfl, by decide +kernel, by decide +kernel⟩
abbrev s_draw : Stmt := topS 20
abbrev N_draw : List Str := ["_law_deal_here", "_law_many", "_law_left", "_law_digit"]
abbrev P_draw : List Str := ["_law_deal_here", "_law_many"]
theorem sc_draw : FnScope N_draw P_draw (defScope s_draw) := ⟨rfl, rfl, rfl, by decide +kernel, rfl, by decide +kernel, by decide +kernel⟩
abbrev s_mixed : Stmt := topS 21
abbrev N_mixed : List Str := ["_law_deal_here", "_law_items", "_law_left", "_law_found"]
abbrev P_mixed : List Str := ["_law_deal_here", "_law_items"]
theorem sc_mixed : FnScope N_mixed P_mixed (defScope s_mixed) := ⟨rfl, rfl, rfl, by decide +kernel, rfl, by decide +kernel, by decide +kernel⟩
abbrev s_names : Stmt := topS 22
abbrev N_names : List Str := ["_law_deal_here", "_law_many", "_law_letters", "_law_form", "_law_turn", "_law_found", "_law_at", "_law_stem", "_law_words", "_law_k", "_law_letter"]
abbrev P_names : List Str := ["_law_deal_here", "_law_many"]
theorem sc_names : FnScope N_names P_names (defScope s_names) := ⟨rfl, rfl, rfl, by decide +kernel, rfl, by decide +kernel, by decide +kernel⟩
abbrev s_pairs : Stmt := topS 23
abbrev N_pairs : List Str := ["_law_deal_here", "_law_kinds", "_law_form", "_law_found", "_law_at", "_law_kind", "_law_to", "_law_other", "_law_chance"]
abbrev P_pairs : List Str := ["_law_deal_here", "_law_kinds"]
theorem sc_pairs : FnScope N_pairs P_pairs (defScope s_pairs) := ⟨rfl, rfl, rfl, by decide +kernel, rfl, by decide +kernel, by decide +kernel⟩
abbrev s_lis_name : Stmt := topS 24
abbrev N_lis_name : List Str := ["_law_word", "_law_letter"]
abbrev P_lis_name : List Str := ["_law_word"]
theorem sc_lis_name : FnScope N_lis_name P_lis_name (defScope s_lis_name) := ⟨rfl, rfl, rfl, by decide +kernel, rfl, by decide +kernel, by decide +kernel⟩
abbrev s_due03 : Stmt := topS 25
abbrev N_due03 : List Str := ["_law_kinds", "_law_pairs_here", "_law_at", "_law_kind", "_law_pair"]
abbrev P_due03 : List Str := ["_law_kinds", "_law_pairs_here"]
theorem sc_due03 : FnScope N_due03 P_due03 (defScope s_due03) := ⟨rfl, rfl, rfl, by decide +kernel, rfl, by decide +kernel, by decide +kernel⟩
abbrev s_told03 : Stmt := topS 26
abbrev N_told03 : List Str := ["_law_kinds", "_law_pairs_here", "_law_found", "e"]
abbrev P_told03 : List Str := ["_law_kinds", "_law_pairs_here"]
theorem sc_told03 : FnScope N_told03 P_told03 (defScope s_told03) := ⟨rfl, rfl, rfl, by decide +kernel, rfl, by decide +kernel, by decide +kernel⟩
abbrev s_bent03 : Stmt := topS 27
abbrev N_bent03 : List Str := ["_law_deal_here", "_law_kinds", "_law_pairs_here", "_law_at", "_law_form", "_law_some", "_law_name", "_law_odd", "_law_spot", "_law_pair", "_law_letter"]
abbrev P_bent03 : List Str := ["_law_deal_here", "_law_kinds", "_law_pairs_here"]
theorem sc_bent03 : FnScope N_bent03 P_bent03 (defScope s_bent03) := ⟨rfl, rfl, rfl, by decide +kernel, rfl, by decide +kernel, by decide +kernel⟩
abbrev s_law : Stmt := topS 28
abbrev N_law : List Str := ["_law_script", "_law_base", "_law_deal_here", "_law_kinds", "_law_pairs_here", "_law_turn", "_law_one", "_law_some", "_law_form", "_law_told_here"]
abbrev P_law : List Str := ["_law_script"]
theorem sc_law : FnScope N_law P_law (defScope s_law) := ⟨rfl, rfl, rfl, by decide +kernel, rfl, by decide +kernel, by decide +kernel⟩
/-! ### where all stands in the written part -/
structure Adr where
  c_InvalidTable : Addr
  c_Table : Addr
  c_UndoError : Addr
  c_InvalidText : Addr
  k_LONGEST : Tok
  k_LETTERS : Tok
  k_MOST_KINDS : Tok
  f_InvalidTable : Addr
  fd_InvalidTable : FuncData
  f_is_name : Addr
  fd_is_name : FuncData
  f_check_kinds : Addr
  fd_check_kinds : FuncData
  f_in_pair : Addr
  fd_in_pair : FuncData
  f_Table : Addr
  fd_Table : FuncData
  dT_Table : Addr
  dv_Table : List V
  dE_Table : Addr
  f_deal : Addr
  fd_deal : FuncData
  f_draw : Addr
  fd_draw : FuncData
  f_mixed : Addr
  fd_mixed : FuncData
  f_names : Addr
  fd_names : FuncData
  f_pairs : Addr
  fd_pairs : FuncData
  f_lis_name : Addr
  fd_lis_name : FuncData
  f_due03 : Addr
  fd_due03 : FuncData
  f_told03 : Addr
  fd_told03 : FuncData
  f_bent03 : Addr
  fd_bent03 : FuncData
  f_law : Addr
  fd_law : FuncData
structure Txt (K : PySem.W.Frag) (mg : Str → Option Value) (A : Adr) : Prop where
  g_InvalidTable : mg "InvalidTable" = some (.ref A.c_InvalidTable)
  g_Table : mg "Table" = some (.ref A.c_Table)
  g_UndoError : mg "UndoError" = some (.ref A.c_UndoError)
  g_InvalidText : mg "InvalidText" = some (.ref A.c_InvalidText)
  g_LONGEST : mg "LONGEST" = some (.int 6 A.k_LONGEST)
  g_LETTERS : mg "LETTERS" = some (.str "abcdefghijklmnopqrstuvwxyz" A.k_LETTERS)
  g_MOST_KINDS : mg "MOST_KINDS" = some (.int 12 A.k_MOST_KINDS)
  n_isinstance : mg "isinstance" = none
  n_str : mg "str" = none
  n_len : mg "len" = none
  n_all : mg "all" = none
  n_enumerate : mg "enumerate" = none
  n_set : mg "set" = none
  n_tuple : mg "tuple" = none
  n_sorted : mg "sorted" = none
  n_max : mg "max" = none
  n_list : mg "list" = none
  n_range : mg "range" = none
  n_int : mg "int" = none
  n_repr : mg "repr" = none
  F_InvalidTable : FunD K "__init__" "InvalidTable.__init__" (defArgs s_InvalidTable) (defBody s_InvalidTable) (defScope s_InvalidTable) [] [] A.f_InvalidTable A.fd_InvalidTable
  g_is_name : mg "is_name" = some (.ref A.f_is_name)
  F_is_name : FunD K "is_name" "is_name" (defArgs s_is_name) (defBody s_is_name) (defScope s_is_name) [] [] A.f_is_name A.fd_is_name
  g_check_kinds : mg "check_kinds" = some (.ref A.f_check_kinds)
  F_check_kinds : FunD K "check_kinds" "check_kinds" (defArgs s_check_kinds) (defBody s_check_kinds) (defScope s_check_kinds) [] [] A.f_check_kinds A.fd_check_kinds
  g_in_pair : mg "in_pair" = some (.ref A.f_in_pair)
  F_in_pair : FunD K "in_pair" "in_pair" (defArgs s_in_pair) (defBody s_in_pair) (defScope s_in_pair) [] [] A.f_in_pair A.fd_in_pair
  e_Table : ∀ H : Hp, SqT K H A.dE_Table []
  F_Table : FunD K "__init__" "Table.__init__" (defArgs s_Table) (defBody s_Table) (defScope s_Table) [.ref A.dE_Table] [] A.f_Table A.fd_Table
  g_deal : mg "_law_deal" = some (.ref A.f_deal)
  F_deal : FunD K "_law_deal" "_law_deal" (defArgs s_deal) (defBody s_deal) (defScope s_deal) [] [] A.f_deal A.fd_deal
  g_draw : mg "_law_draw" = some (.ref A.f_draw)
  F_draw : FunD K "_law_draw" "_law_draw" (defArgs s_draw) (defBody s_draw) (defScope s_draw) [] [] A.f_draw A.fd_draw
  g_mixed : mg "_law_mixed" = some (.ref A.f_mixed)
  F_mixed : FunD K "_law_mixed" "_law_mixed" (defArgs s_mixed) (defBody s_mixed) (defScope s_mixed) [] [] A.f_mixed A.fd_mixed
  g_names : mg "_law_names" = some (.ref A.f_names)
  F_names : FunD K "_law_names" "_law_names" (defArgs s_names) (defBody s_names) (defScope s_names) [] [] A.f_names A.fd_names
  g_pairs : mg "_law_pairs" = some (.ref A.f_pairs)
  F_pairs : FunD K "_law_pairs" "_law_pairs" (defArgs s_pairs) (defBody s_pairs) (defScope s_pairs) [] [] A.f_pairs A.fd_pairs
  g_lis_name : mg "_law_is_name" = some (.ref A.f_lis_name)
  F_lis_name : FunD K "_law_is_name" "_law_is_name" (defArgs s_lis_name) (defBody s_lis_name) (defScope s_lis_name) [] [] A.f_lis_name A.fd_lis_name
  g_due03 : mg "_law_due" = some (.ref A.f_due03)
  F_due03 : FunD K "_law_due" "_law_due" (defArgs s_due03) (defBody s_due03) (defScope s_due03) [] [] A.f_due03 A.fd_due03
  g_told03 : mg "_law_told" = some (.ref A.f_told03)
  F_told03 : FunD K "_law_told" "_law_told" (defArgs s_told03) (defBody s_told03) (defScope s_told03) [] [] A.f_told03 A.fd_told03
  g_bent03 : mg "_law_bent" = some (.ref A.f_bent03)
  F_bent03 : FunD K "_law_bent" "_law_bent" (defArgs s_bent03) (defBody s_bent03) (defScope s_bent03) [] [] A.f_bent03 A.fd_bent03
  g_law : mg "law" = some (.ref A.f_law)
  F_law : FunD K "law" "law" (defArgs s_law) (defBody s_law) (defScope s_law) [] [] A.f_law A.fd_law
  X_InvalidTable : MkX K false A.c_InvalidTable A.f_InvalidTable
  no_InvalidTable_word : PySem.W.findIn K (.ref A.c_InvalidTable) "word" = some none
  no_InvalidTable_at : PySem.W.findIn K (.ref A.c_InvalidTable) "at" = some none
  cls_Table : Cls K A.c_Table
  M_Table : Mk K A.c_Table A.f_Table
  no_Table_kinds : NoAttr K A.c_Table "kinds"
  no_Table_pairs : NoAttr K A.c_Table "pairs"
  no_Table_linked : NoAttr K A.c_Table "linked"
  B_UndoError : HasInit K false A.c_UndoError
  xf_InvalidTable : XfC K A.c_InvalidTable
  is_InvalidTable : XIs K A.c_InvalidTable
  exm_InvalidTable_InvalidTable : PySem.W.exmOne K (.ref A.c_InvalidTable) (.ref A.c_InvalidTable) = some true
  kit_InvalidTable_InvalidText : PySem.W.kitOne K (.ref A.c_InvalidTable) (.ref A.c_InvalidText) = some false
section
variable {P : Program} {w : World} {K : PySem.W.Frag} {mg : Str → Option Value} {base : Heap} {A : Adr}
theorem b_InvalidTable (T : Txt K mg A) : Binds K A.fd_InvalidTable P_InvalidTable [] := T.F_InvalidTable.bindsN fun _ _ _ _ _ _ us hl => match us, hl with | [_, _, _], _ => rfl
theorem b_is_name (T : Txt K mg A) : Binds K A.fd_is_name P_is_name [] := T.F_is_name.bindsN fun _ _ _ _ _ _ us hl => match us, hl with | [_], _ => rfl
theorem b_check_kinds (T : Txt K mg A) : Binds K A.fd_check_kinds P_check_kinds [] := T.F_check_kinds.bindsN fun _ _ _ _ _ _ us hl => match us, hl with | [_], _ => rfl
theorem b_in_pair (T : Txt K mg A) : Binds K A.fd_in_pair P_in_pair [] := T.F_in_pair.bindsN fun _ _ _ _ _ _ us hl => match us, hl with | [_, _], _ => rfl
theorem b_Table (T : Txt K mg A) : Binds K A.fd_Table P_Table [] := by
  obtain ⟨ds, h1, h2⟩ := T.F_Table.binds1 (ps := P_Table) 3 1 (by simp) rfl fun _ _ _ _ _ _ _ us its hu hi => match us, hu, its, hi with | [_, _, _], _, [_], _ => ⟨_, rfl, rfl⟩
  cases h1
  exact h2
theorem b1_Table (T : Txt K mg A) : Binds K A.fd_Table P_Table [.ref A.dE_Table] := by
  obtain ⟨ds, h1, h2⟩ := T.F_Table.binds1 (ps := P_Table) 2 0 (by simp) rfl fun _ _ _ _ _ _ _ us its hu hi => match us, hu, its, hi with | [_, _], _, [_], _ => ⟨_, rfl, rfl⟩
  cases h1 with
  | cons r t =>
    cases t
    cases r
    exact h2
theorem b_deal (T : Txt K mg A) : Binds K A.fd_deal P_deal [] := T.F_deal.bindsN fun _ _ _ _ _ _ us hl => match us, hl with | [_, _], _ => rfl
theorem b_draw (T : Txt K mg A) : Binds K A.fd_draw P_draw [] := T.F_draw.bindsN fun _ _ _ _ _ _ us hl => match us, hl with | [_, _], _ => rfl
theorem b_mixed (T : Txt K mg A) : Binds K A.fd_mixed P_mixed [] := T.F_mixed.bindsN fun _ _ _ _ _ _ us hl => match us, hl with | [_, _], _ => rfl
theorem b_names (T : Txt K mg A) : Binds K A.fd_names P_names [] := T.F_names.bindsN fun _ _ _ _ _ _ us hl => match us, hl with | [_, _], _ => rfl
theorem b_pairs (T : Txt K mg A) : Binds K A.fd_pairs P_pairs [] := T.F_pairs.bindsN fun _ _ _ _ _ _ us hl => match us, hl with | [_, _], _ => rfl
theorem b_lis_name (T : Txt K mg A) : Binds K A.fd_lis_name P_lis_name [] := T.F_lis_name.bindsN fun _ _ _ _ _ _ us hl => match us, hl with | [_], _ => rfl
theorem b_due03 (T : Txt K mg A) : Binds K A.fd_due03 P_due03 [] := T.F_due03.bindsN fun _ _ _ _ _ _ us hl => match us, hl with | [_, _], _ => rfl
theorem b_told03 (T : Txt K mg A) : Binds K A.fd_told03 P_told03 [] := T.F_told03.bindsN fun _ _ _ _ _ _ us hl => match us, hl with | [_, _], _ => rfl
theorem b_bent03 (T : Txt K mg A) : Binds K A.fd_bent03 P_bent03 [] := T.F_bent03.bindsN fun _ _ _ _ _ _ us hl => match us, hl with | [_, _, _], _ => rfl
theorem b_law (T : Txt K mg A) : Binds K A.fd_law P_law [] := T.F_law.bindsN fun _ _ _ _ _ _ us hl => match us, hl with | [_], _ => rfl
theorem ok_InvalidTable (T : Txt K mg A) : FnG P w K mg base 1 A.f_InvalidTable A.fd_InvalidTable P_InvalidTable (sp_err A.c_InvalidTable ["word", "at"]) := by
  refine FnG.ok T.F_InvalidTable sc_InvalidTable (fun vs H Q E h => len_err h) (fun cdv Ar outer s H vs Q E hr h => ⟨t_InvalidTable K (WF E), ?_, pure_err2 T.X_InvalidTable.own T.no_InvalidTable_word T.no_InvalidTable_at N_InvalidTable rfl vs H Q E h⟩)
  have tk := takes_of (X := cxOf (L2.CX P w) P w K mg base N_InvalidTable "InvalidTable.__init__" (defScope s_InvalidTable) A.f_InvalidTable cdv Ar outer s H E) rfl rfl rfl rfl
  have po := passes_of (X := cxOf (L2.CX P w) P w K mg base N_InvalidTable "InvalidTable.__init__" (defScope s_InvalidTable) A.f_InvalidTable cdv Ar outer s H E) rfl
  exact (pss_cons (ps_expr (pe_uinit T.B_UndoError rfl T.g_UndoError (pa_cons (u_v 0) (pa_cons pe_str pa_nil))))
    (pss_cons (ps_uost (u_v 0) (u_v 1))
    (pss_one (ps_uost (u_v 0) (u_v 2)))))
theorem ok_is_name (T : Txt K mg A) : FnG P w K mg base 1 A.f_is_name A.fd_is_name P_is_name (sp_is_name K) := by
  refine FnG.ok T.F_is_name sc_is_name (fun vs H Q E h => by first | (obtain ⟨_, rfl, _⟩ := h; rfl) | (obtain ⟨_, _, rfl, _⟩ := h; rfl) | (obtain ⟨_, _, _, rfl, _⟩ := h; rfl) | (obtain ⟨_, _, _, _, rfl, _⟩ := h; rfl) | (obtain ⟨_, _, _, _, _, rfl, _⟩ := h; rfl) | (obtain ⟨_, _, _, _, _, _, rfl, _⟩ := h; rfl) | (obtain ⟨_, _, _, _, _, _, _, rfl, _⟩ := h; rfl) | (obtain ⟨_, _, _, _, _, _, _, _, rfl, _⟩ := h; rfl) | (obtain ⟨_, _, _, _, _, _, _, _, _, rfl, _⟩ := h; rfl) | (obtain ⟨_, _, _, _, _, _, _, _, _, _, rfl, _⟩ := h; rfl) | (obtain ⟨_, _, _, _, _, _, _, _, _, _, _, rfl, _⟩ := h; rfl) | (obtain ⟨_, _, _, _, _, _, _, _, _, _, _, _, rfl, _⟩ := h; rfl) | (obtain ⟨_, _, _, _, _, _, _, _, _, _, _, _, _, rfl, _⟩ := h; rfl) | (obtain ⟨_, _, _, _, _, _, _, _, _, _, _, _, _, _, rfl, _⟩ := h; rfl) | (obtain ⟨_, _, _, _, _, _, _, _, _, _, _, _, _, _, _, rfl, _⟩ := h; rfl)) (fun cdv Ar outer s H vs Q E hr h => ⟨t_is_name K (WF E), ?_, pure_is_name vs H Q E h⟩)
  have tk := takes_of (X := cxOf (L2.CX P w) P w K mg base N_is_name "is_name" (defScope s_is_name) A.f_is_name cdv Ar outer s H E) rfl rfl rfl rfl
  have po := passes_of (X := cxOf (L2.CX P w) P w K mg base N_is_name "is_name" (defScope s_is_name) A.f_is_name cdv Ar outer s H E) rfl
  exact (pss_cons (ps_if (PW.pt (pw_or (pt_not (pt_u (pe_callB c_isi (by rfl) T.n_isinstance (by decide +kernel) (pa_cons (u_v 0) (pa_cons (pe_bltn (by rfl) T.n_str (by decide +kernel) rfl) pa_nil))))) (pw_or1 (pt_not (pt_ch o_lt o_le pe_int (pe_callB c_len (by rfl) T.n_len (by decide +kernel) (pa_cons (u_v 0) pa_nil)) (pe_glob rfl T.g_LONGEST ⟨_, rfl⟩)))))) (pss_one (ps_ret pe_bl)) pss_nil)
    (pss_one (ps_ret (pe_callB (c_all rfl) (by rfl) T.n_all (by decide +kernel) (pa_cons (pe_lc (own := [("letter", 1)]) (g := (gName 1)) (tt := tYes) rfl sc_is_name.nd (pi_ustr (u_v 0)) (blkOk_by (N := N_is_name) (sc := defScope s_is_name) (by decide +kernel)) (fun _ _ _ _ _ => (pg_name (i := 1) sc_is_name.nd rfl (by first | exact Or.inl rfl | exact Or.inr rfl))) (fun _ _ _ _ _ => pts_nil) (fun _ _ _ _ _ => (pe_cmpR o_in (u_v 1) (pe_glob rfl T.g_LETTERS ⟨_, rfl⟩) (by rfl)))) pa_nil)))))
theorem ok_check_kinds (T : Txt K mg A) : FnG P w K mg base 3 A.f_check_kinds A.fd_check_kinds P_check_kinds (sp_check_kinds K A.c_InvalidTable) := by
  have G_is_name := ok_is_name (P := P) (w := w) (base := base) T
  have G_InvalidTable := ok_InvalidTable (P := P) (w := w) (base := base) T
  refine FnG.ok T.F_check_kinds sc_check_kinds (fun vs H Q E h => by first | (obtain ⟨_, rfl, _⟩ := h; rfl) | (obtain ⟨_, _, rfl, _⟩ := h; rfl) | (obtain ⟨_, _, _, rfl, _⟩ := h; rfl) | (obtain ⟨_, _, _, _, rfl, _⟩ := h; rfl) | (obtain ⟨_, _, _, _, _, rfl, _⟩ := h; rfl) | (obtain ⟨_, _, _, _, _, _, rfl, _⟩ := h; rfl) | (obtain ⟨_, _, _, _, _, _, _, rfl, _⟩ := h; rfl) | (obtain ⟨_, _, _, _, _, _, _, _, rfl, _⟩ := h; rfl) | (obtain ⟨_, _, _, _, _, _, _, _, _, rfl, _⟩ := h; rfl) | (obtain ⟨_, _, _, _, _, _, _, _, _, _, rfl, _⟩ := h; rfl) | (obtain ⟨_, _, _, _, _, _, _, _, _, _, _, rfl, _⟩ := h; rfl) | (obtain ⟨_, _, _, _, _, _, _, _, _, _, _, _, rfl, _⟩ := h; rfl) | (obtain ⟨_, _, _, _, _, _, _, _, _, _, _, _, _, rfl, _⟩ := h; rfl) | (obtain ⟨_, _, _, _, _, _, _, _, _, _, _, _, _, _, rfl, _⟩ := h; rfl) | (obtain ⟨_, _, _, _, _, _, _, _, _, _, _, _, _, _, _, rfl, _⟩ := h; rfl)) (fun cdv Ar outer s H vs Q E hr h => ⟨t_check_kinds K A.c_InvalidTable (WF E), ?_, pure_check_kinds (W := WF E) vs H Q E h⟩)
  have tk := takes_of (X := cxOf (L2.CX P w) P w K mg base N_check_kinds "check_kinds" (defScope s_check_kinds) A.f_check_kinds cdv Ar outer s H E) rfl rfl rfl rfl
  have po := passes_of (X := cxOf (L2.CX P w) P w K mg base N_check_kinds "check_kinds" (defScope s_check_kinds) A.f_check_kinds cdv Ar outer s H E) rfl
  exact (pss_cons (ps_if (pt_not (pt_ch o_lt o_le pe_int (pe_callB c_len (by rfl) T.n_len (by decide +kernel) (pa_cons (u_v 0) pa_nil)) (pe_glob rfl T.g_MOST_KINDS ⟨_, rfl⟩))) (pss_one (ps_uraise rfl tk T.X_InvalidTable G_InvalidTable (hr.mono (by decide)) (b_InvalidTable T) rfl T.g_InvalidTable (pa_cons pe_str (pa_cons (pe_un o_neg pe_int) pa_nil)))) pss_nil)
    (pss_one (ps_for po rfl (pi_enumA rfl T.n_enumerate (u_v 0)) (pg_utup rfl (pgs_ucons (pg_name (i := 1) sc_check_kinds.nd rfl (by first | exact Or.inl rfl | exact Or.inr rfl)) (pgs_ucons (pg_name (i := 2) sc_check_kinds.nd rfl (by first | exact Or.inl rfl | exact Or.inr rfl)) pgs_unil))) (pss_one (ps_if (PW.pt (pw_or (pt_not (pt_u (ge_call G_is_name (hr.mono (by decide)) rfl T.g_is_name T.F_is_name.kp (b_is_name T) .nil tk (pa_cons (u_v 2) pa_nil)))) (pw_or1 (pt_c o_in (u_v 2) (pe_slice sl_u (u_v 0) po_none (po_u (u_v 1))) (by rfl))))) (pss_one (ps_uraise rfl tk T.X_InvalidTable G_InvalidTable (hr.mono (by decide)) (b_InvalidTable T) rfl T.g_InvalidTable (pa_cons pe_str (pa_cons (u_v 1) pa_nil)))) pss_nil)))))
theorem ok_in_pair (T : Txt K mg A) : FnG P w K mg base 1 A.f_in_pair A.fd_in_pair P_in_pair (sp_in_pair K) := by
  refine FnG.ok T.F_in_pair sc_in_pair (fun vs H Q E h => by first | (obtain ⟨_, rfl, _⟩ := h; rfl) | (obtain ⟨_, _, rfl, _⟩ := h; rfl) | (obtain ⟨_, _, _, rfl, _⟩ := h; rfl) | (obtain ⟨_, _, _, _, rfl, _⟩ := h; rfl) | (obtain ⟨_, _, _, _, _, rfl, _⟩ := h; rfl) | (obtain ⟨_, _, _, _, _, _, rfl, _⟩ := h; rfl) | (obtain ⟨_, _, _, _, _, _, _, rfl, _⟩ := h; rfl) | (obtain ⟨_, _, _, _, _, _, _, _, rfl, _⟩ := h; rfl) | (obtain ⟨_, _, _, _, _, _, _, _, _, rfl, _⟩ := h; rfl) | (obtain ⟨_, _, _, _, _, _, _, _, _, _, rfl, _⟩ := h; rfl) | (obtain ⟨_, _, _, _, _, _, _, _, _, _, _, rfl, _⟩ := h; rfl) | (obtain ⟨_, _, _, _, _, _, _, _, _, _, _, _, rfl, _⟩ := h; rfl) | (obtain ⟨_, _, _, _, _, _, _, _, _, _, _, _, _, rfl, _⟩ := h; rfl) | (obtain ⟨_, _, _, _, _, _, _, _, _, _, _, _, _, _, rfl, _⟩ := h; rfl) | (obtain ⟨_, _, _, _, _, _, _, _, _, _, _, _, _, _, _, rfl, _⟩ := h; rfl)) (fun cdv Ar outer s H vs Q E hr h => ⟨t_in_pair K (WF E), ?_, pure_in_pair vs H Q E h⟩)
  have tk := takes_of (X := cxOf (L2.CX P w) P w K mg base N_in_pair "in_pair" (defScope s_in_pair) A.f_in_pair cdv Ar outer s H E) rfl rfl rfl rfl
  have po := passes_of (X := cxOf (L2.CX P w) P w K mg base N_in_pair "in_pair" (defScope s_in_pair) A.f_in_pair cdv Ar outer s H E) rfl
  exact (pss_one (ps_ret (pe_ifExp (pt_c o_lt (u_v 0) (u_v 1)) (pe_tup (pa_cons (u_v 0) (pa_cons (u_v 1) pa_nil))) (pe_tup (pa_cons (u_v 1) (pa_cons (u_v 0) pa_nil))))))
theorem ok_Table (T : Txt K mg A) : FnG P w K mg base 4 A.f_Table A.fd_Table P_Table (sp_Table K A.c_Table A.c_InvalidTable) := by
  have G_check_kinds := ok_check_kinds (P := P) (w := w) (base := base) T
  have G_in_pair := ok_in_pair (P := P) (w := w) (base := base) T
  have G_InvalidTable := ok_InvalidTable (P := P) (w := w) (base := base) T
  refine FnG.ok T.F_Table sc_Table (fun vs H Q E h => by first | (obtain ⟨_, rfl, _⟩ := h; rfl) | (obtain ⟨_, _, rfl, _⟩ := h; rfl) | (obtain ⟨_, _, _, rfl, _⟩ := h; rfl) | (obtain ⟨_, _, _, _, rfl, _⟩ := h; rfl) | (obtain ⟨_, _, _, _, _, rfl, _⟩ := h; rfl) | (obtain ⟨_, _, _, _, _, _, rfl, _⟩ := h; rfl) | (obtain ⟨_, _, _, _, _, _, _, rfl, _⟩ := h; rfl) | (obtain ⟨_, _, _, _, _, _, _, _, rfl, _⟩ := h; rfl) | (obtain ⟨_, _, _, _, _, _, _, _, _, rfl, _⟩ := h; rfl) | (obtain ⟨_, _, _, _, _, _, _, _, _, _, rfl, _⟩ := h; rfl) | (obtain ⟨_, _, _, _, _, _, _, _, _, _, _, rfl, _⟩ := h; rfl) | (obtain ⟨_, _, _, _, _, _, _, _, _, _, _, _, rfl, _⟩ := h; rfl) | (obtain ⟨_, _, _, _, _, _, _, _, _, _, _, _, _, rfl, _⟩ := h; rfl) | (obtain ⟨_, _, _, _, _, _, _, _, _, _, _, _, _, _, rfl, _⟩ := h; rfl) | (obtain ⟨_, _, _, _, _, _, _, _, _, _, _, _, _, _, _, rfl, _⟩ := h; rfl)) (fun cdv Ar outer s H vs Q E hr h => ⟨t_Table K P w A.c_InvalidTable (WF E), ?_, (pure_Table T.cls_Table T.no_Table_kinds T.no_Table_pairs T.no_Table_linked) vs H Q E h⟩)
  have tk := takes_of (X := cxOf (L2.CX P w) P w K mg base N_Table "Table.__init__" (defScope s_Table) A.f_Table cdv Ar outer s H E) rfl rfl rfl rfl
  have po := passes_of (X := cxOf (L2.CX P w) P w K mg base N_Table "Table.__init__" (defScope s_Table) A.f_Table cdv Ar outer s H E) rfl
  exact (pss_cons (ps_expr (ge_call G_check_kinds (hr.mono (by decide)) rfl T.g_check_kinds T.F_check_kinds.kp (b_check_kinds T) .nil tk (pa_cons (u_v 1) pa_nil)))
    (pss_cons (ps_set (i := 3) sc_Table.nd rfl (by first | exact Or.inl rfl | exact Or.inr rfl) (pe_callTy0 c_set0 (by rfl) T.n_set (by decide +kernel)))
    (pss_cons (ps_for po rfl (pi_enumA rfl T.n_enumerate (u_v 2)) (pg_utup rfl (pgs_ucons (pg_name (i := 4) sc_Table.nd rfl (by first | exact Or.inl rfl | exact Or.inr rfl)) (pgs_ucons (pg_name (i := 5) sc_Table.nd rfl (by first | exact Or.inl rfl | exact Or.inr rfl)) pgs_unil))) (pss_cons (ps_asg (u_v 5) (pg_utup rfl (pgs_ucons (pg_name (i := 6) sc_Table.nd rfl (by first | exact Or.inl rfl | exact Or.inr rfl)) (pgs_ucons (pg_name (i := 7) sc_Table.nd rfl (by first | exact Or.inl rfl | exact Or.inr rfl)) pgs_unil))))
    (pss_cons (ps_if (PW.pt (pw_or (pt_c o_notIn (u_v 6) (u_v 1) (by rfl)) (pw_or (pt_c o_notIn (u_v 7) (u_v 1) (by rfl)) (pw_or1 (pt_c (o_eq hr) (u_v 6) (u_v 7)))))) (pss_one (ps_uraise rfl tk T.X_InvalidTable G_InvalidTable (hr.mono (by decide)) (b_InvalidTable T) rfl T.g_InvalidTable (pa_cons pe_str (pa_cons (u_v 4) pa_nil)))) pss_nil)
    (pss_one (ps_expr (pe_sadd hr (u_v 3) (pa_cons (ge_call G_in_pair (hr.mono (by decide)) rfl T.g_in_pair T.F_in_pair.kp (b_in_pair T) .nil tk (pa_cons (u_v 6) (pa_cons (u_v 7) pa_nil))) pa_nil)))))))
    (pss_cons (ps_usetF (u_v 0) (pe_callTy c_tuple (by rfl) T.n_tuple (by decide +kernel) (pa_cons (pe_callB (c_sorted hr) (by rfl) T.n_sorted (by decide +kernel) (pa_cons (u_v 1) pa_nil)) pa_nil)))
    (pss_cons (ps_usetF (u_v 0) (pe_callTy c_tuple (by rfl) T.n_tuple (by decide +kernel) (pa_cons (pe_callB (c_sortedW hr rfl) (by rfl) T.n_sorted (by decide +kernel) (pa_cons (u_v 3) pa_nil)) pa_nil)))
    (pss_cons (ps_usetF (u_v 0) pe_dnewK)
    (pss_one (ps_for po rfl (pi_seq (pe_ufld (u_v 0))) (pg_name (i := 8) sc_Table.nd rfl (by first | exact Or.inl rfl | exact Or.inr rfl)) (pss_one (ps_udput hr (pe_ufld (u_v 0)) (u_v 8) (pe_callTy c_tuple (by rfl) T.n_tuple (by decide +kernel) (pa_cons (pe_lc (own := [("other", 7)]) (g := (gName 7)) (tt := (uB (tOp (uSIn K P w true) (uCall (sp_in_pair K) [] W0 (tCons (uV 8) (tCons (uV 7) tNil))) (uV 3)))) rfl sc_Table.nd (pi_seq (pe_ufld (u_v 0))) (blkOk_by (N := N_Table) (sc := defScope s_Table) (by decide +kernel)) (fun _ _ _ _ _ => (pg_name (i := 7) sc_Table.nd rfl (by first | exact Or.inl rfl | exact Or.inr rfl))) (fun _ _ _ _ _ => (pts_one (pt_c (o_snotin hr) (ge_call G_in_pair (hr.mono (by decide)) rfl T.g_in_pair T.F_in_pair.kp (b_in_pair T) .nil takesN (pa_cons (u_v 8) (pa_cons (u_v 7) pa_nil))) (u_v 3) (by rfl)))) (fun _ _ _ _ _ => (u_v 7))) pa_nil))))))))))))
theorem ok_deal (T : Txt K mg A) : FnG P w K mg base 1 A.f_deal A.fd_deal P_deal (sp_deal K) := by
  refine FnG.ok T.F_deal sc_deal (fun vs H Q E h => by first | (obtain ⟨_, rfl, _⟩ := h; rfl) | (obtain ⟨_, _, rfl, _⟩ := h; rfl) | (obtain ⟨_, _, _, rfl, _⟩ := h; rfl) | (obtain ⟨_, _, _, _, rfl, _⟩ := h; rfl) | (obtain ⟨_, _, _, _, _, rfl, _⟩ := h; rfl) | (obtain ⟨_, _, _, _, _, _, rfl, _⟩ := h; rfl) | (obtain ⟨_, _, _, _, _, _, _, rfl, _⟩ := h; rfl) | (obtain ⟨_, _, _, _, _, _, _, _, rfl, _⟩ := h; rfl) | (obtain ⟨_, _, _, _, _, _, _, _, _, rfl, _⟩ := h; rfl) | (obtain ⟨_, _, _, _, _, _, _, _, _, _, rfl, _⟩ := h; rfl) | (obtain ⟨_, _, _, _, _, _, _, _, _, _, _, rfl, _⟩ := h; rfl) | (obtain ⟨_, _, _, _, _, _, _, _, _, _, _, _, rfl, _⟩ := h; rfl) | (obtain ⟨_, _, _, _, _, _, _, _, _, _, _, _, _, rfl, _⟩ := h; rfl) | (obtain ⟨_, _, _, _, _, _, _, _, _, _, _, _, _, _, rfl, _⟩ := h; rfl) | (obtain ⟨_, _, _, _, _, _, _, _, _, _, _, _, _, _, _, rfl, _⟩ := h; rfl)) (fun cdv Ar outer s H vs Q E hr h => ⟨t_deal K (WF E), ?_, pure_deal vs H Q E h⟩)
  have tk := takes_of (X := cxOf (L2.CX P w) P w K mg base N_deal "_law_deal" (defScope s_deal) A.f_deal cdv Ar outer s H E) rfl rfl rfl rfl
  have po := passes_of (X := cxOf (L2.CX P w) P w K mg base N_deal "_law_deal" (defScope s_deal) A.f_deal cdv Ar outer s H E) rfl
  exact (pss_cons (ps_setLc (i := 2) (own := [("_law_cell", 4)]) (g := (gName 4)) (tt := tYes) rfl sc_deal.nd rfl rfl (sw_true rfl rfl rfl (by decide +kernel)) (pi_seq (pe_slice sl_u (u_v 0) (po_u (u_v 1)) (po_u pe_int))) (blkOk_by (N := N_deal) (sc := defScope s_deal) (by decide +kernel)) (fun _ _ _ _ _ => (pg_name (i := 4) sc_deal.nd rfl (by first | exact Or.inl rfl | exact Or.inr rfl))) (fun _ _ _ _ _ => pts_nil) (fun _ _ _ _ _ => (pe_callB (c_max rfl) (by rfl) T.n_max (by decide +kernel) (pa_cons (u_v 4) (pa_cons (pe_op o_sub pe_int (u_v 4)) pa_nil)))))
    (pss_cons (ps_set (i := 3) sc_deal.nd rfl (by first | exact Or.inl rfl | exact Or.inr rfl) (pe_op o_add pe_int (pe_op o_mul pe_int (u_v 1))))
    (pss_cons (ps_for po rfl (pi_seq (u_v 2)) (pg_name (i := 4) sc_deal.nd rfl (by first | exact Or.inl rfl | exact Or.inr rfl)) (pss_one (ps_set (i := 3) sc_deal.nd rfl (by first | exact Or.inl rfl | exact Or.inr rfl) (pe_op o_mod (pe_op o_add (pe_op o_mul (u_v 3) pe_int) (pe_op o_mod (u_v 4) pe_int)) pe_int))))
    (pss_one (ps_ret (pe_lst (pa_cons (pe_rev (pe_lc (own := [("_law_cell", 4)]) (g := (gName 4)) (tt := (uB (tOp uGe (uV 4) (tOp uPow (tC (.int 10)) (tC (.int 18)))))) rfl sc_deal.nd (pi_seq (u_v 2)) (blkOk_by (N := N_deal) (sc := defScope s_deal) (by decide +kernel)) (fun _ _ _ _ _ => (pg_name (i := 4) sc_deal.nd rfl (by first | exact Or.inl rfl | exact Or.inr rfl))) (fun _ _ _ _ _ => (pts_one (pt_c o_ge (u_v 4) (pe_op o_pow pe_int pe_int)))) (fun _ _ _ _ _ => (u_v 4)))) (pa_cons (u_v 3) pa_nil))))))))
theorem ok_draw (T : Txt K mg A) : FnG P w K mg base 1 A.f_draw A.fd_draw P_draw (sp_draw K) := by
  refine FnG.ok T.F_draw sc_draw (fun vs H Q E h => by first | (obtain ⟨_, rfl, _⟩ := h; rfl) | (obtain ⟨_, _, rfl, _⟩ := h; rfl) | (obtain ⟨_, _, _, rfl, _⟩ := h; rfl) | (obtain ⟨_, _, _, _, rfl, _⟩ := h; rfl) | (obtain ⟨_, _, _, _, _, rfl, _⟩ := h; rfl) | (obtain ⟨_, _, _, _, _, _, rfl, _⟩ := h; rfl) | (obtain ⟨_, _, _, _, _, _, _, rfl, _⟩ := h; rfl) | (obtain ⟨_, _, _, _, _, _, _, _, rfl, _⟩ := h; rfl) | (obtain ⟨_, _, _, _, _, _, _, _, _, rfl, _⟩ := h; rfl) | (obtain ⟨_, _, _, _, _, _, _, _, _, _, rfl, _⟩ := h; rfl) | (obtain ⟨_, _, _, _, _, _, _, _, _, _, _, rfl, _⟩ := h; rfl) | (obtain ⟨_, _, _, _, _, _, _, _, _, _, _, _, rfl, _⟩ := h; rfl) | (obtain ⟨_, _, _, _, _, _, _, _, _, _, _, _, _, rfl, _⟩ := h; rfl) | (obtain ⟨_, _, _, _, _, _, _, _, _, _, _, _, _, _, rfl, _⟩ := h; rfl) | (obtain ⟨_, _, _, _, _, _, _, _, _, _, _, _, _, _, _, rfl, _⟩ := h; rfl)) (fun cdv Ar outer s H vs Q E hr h => ⟨t_draw K (WF E), ?_, pure_draw vs H Q E h⟩)
  have tk := takes_of (X := cxOf (L2.CX P w) P w K mg base N_draw "_law_draw" (defScope s_draw) A.f_draw cdv Ar outer s H E) rfl rfl rfl rfl
  have po := passes_of (X := cxOf (L2.CX P w) P w K mg base N_draw "_law_draw" (defScope s_draw) A.f_draw cdv Ar outer s H E) rfl
  exact (pss_cons (ps_if (pt_c (o_ne hr) (pe_ix x_ix (u_v 0) pe_int (fun _ _ => rfl)) (pe_lst pa_nil)) (pss_cons (ps_set (i := 2) sc_draw.nd rfl (by first | exact Or.inl rfl | exact Or.inr rfl) (pe_ix x_ix (pe_ix x_ix (u_v 0) pe_int (fun _ _ => rfl)) (pe_op o_sub (pe_callB c_len (by rfl) T.n_len (by decide +kernel) (pa_cons (pe_ix x_ix (u_v 0) pe_int (fun _ _ => rfl)) pa_nil)) pe_int) (fun _ _ => rfl)))
    (pss_cons (ps_set (i := 3) sc_draw.nd rfl (by first | exact Or.inl rfl | exact Or.inr rfl) (pe_op o_mod (u_v 2) (u_v 1)))
    (pss_cons (ps_if (pt_c o_gt (pe_op o_fdv (u_v 2) (u_v 1)) pe_int) (pss_one (ps_asg (pe_op o_fdv (u_v 2) (u_v 1)) (pg_sub (pe_ix x_ix (u_v 0) pe_int (fun _ _ => rfl)) (pe_op o_sub (pe_callB c_len (by rfl) T.n_len (by decide +kernel) (pa_cons (pe_ix x_ix (u_v 0) pe_int (fun _ _ => rfl)) pa_nil)) pe_int) set_u))) (pss_one (ps_expr (pe_pop0 (pe_ix x_ix (u_v 0) pe_int (fun _ _ => rfl))))))
    (pss_one (ps_ret (u_v 3)))))) pss_nil)
    (pss_cons (ps_asg (pe_op o_mod (pe_op o_add (pe_op o_mul (pe_ix x_ix (u_v 0) pe_int (fun _ _ => rfl)) pe_int) pe_int) pe_int) (pg_sub (u_v 0) pe_int set_u))
    (pss_one (ps_ret (pe_op o_mod (pe_op o_fdv (pe_ix x_ix (u_v 0) pe_int (fun _ _ => rfl)) pe_int) (u_v 1))))))
theorem ok_mixed (T : Txt K mg A) : FnG P w K mg base 2 A.f_mixed A.fd_mixed P_mixed (sp_mixed K) := by
  have G_draw := ok_draw (P := P) (w := w) (base := base) T
  refine FnG.ok T.F_mixed sc_mixed (fun vs H Q E h => by first | (obtain ⟨_, rfl, _⟩ := h; rfl) | (obtain ⟨_, _, rfl, _⟩ := h; rfl) | (obtain ⟨_, _, _, rfl, _⟩ := h; rfl) | (obtain ⟨_, _, _, _, rfl, _⟩ := h; rfl) | (obtain ⟨_, _, _, _, _, rfl, _⟩ := h; rfl) | (obtain ⟨_, _, _, _, _, _, rfl, _⟩ := h; rfl) | (obtain ⟨_, _, _, _, _, _, _, rfl, _⟩ := h; rfl) | (obtain ⟨_, _, _, _, _, _, _, _, rfl, _⟩ := h; rfl) | (obtain ⟨_, _, _, _, _, _, _, _, _, rfl, _⟩ := h; rfl) | (obtain ⟨_, _, _, _, _, _, _, _, _, _, rfl, _⟩ := h; rfl) | (obtain ⟨_, _, _, _, _, _, _, _, _, _, _, rfl, _⟩ := h; rfl) | (obtain ⟨_, _, _, _, _, _, _, _, _, _, _, _, rfl, _⟩ := h; rfl) | (obtain ⟨_, _, _, _, _, _, _, _, _, _, _, _, _, rfl, _⟩ := h; rfl) | (obtain ⟨_, _, _, _, _, _, _, _, _, _, _, _, _, _, rfl, _⟩ := h; rfl) | (obtain ⟨_, _, _, _, _, _, _, _, _, _, _, _, _, _, _, rfl, _⟩ := h; rfl)) (fun cdv Ar outer s H vs Q E hr h => ⟨t_mixed K (WF E), ?_, pure_mixed vs H Q E h⟩)
  have tk := takes_of (X := cxOf (L2.CX P w) P w K mg base N_mixed "_law_mixed" (defScope s_mixed) A.f_mixed cdv Ar outer s H E) rfl rfl rfl rfl
  have po := passes_of (X := cxOf (L2.CX P w) P w K mg base N_mixed "_law_mixed" (defScope s_mixed) A.f_mixed cdv Ar outer s H E) rfl
  exact (pss_cons (ps_upar (i := 2) (j := 3) rfl sc_mixed.nd rfl rfl (by decide) rfl rfl (pa_cons (pe_callTy c_list (by rfl) T.n_list (by decide +kernel) (pa_cons (u_v 1) pa_nil)) (pa_cons (pe_lst pa_nil) pa_nil)) (by rfl))
    (pss_cons (ps_while po (pt_cl (pt_c (o_ne hr) (u_v 2) (pe_lst pa_nil))) (pss_one (ps_expr (pe_app (u_v 3) (pa_cons (pe_popAt (u_v 2) (pa_cons (ge_call G_draw (hr.mono (by decide)) rfl T.g_draw T.F_draw.kp (b_draw T) .nil tk (pa_cons (u_v 0) (pa_cons (pe_callB c_len (by rfl) T.n_len (by decide +kernel) (pa_cons (u_v 2) pa_nil)) pa_nil))) pa_nil)) pa_nil)))))
    (pss_one (ps_ret (u_v 3)))))
theorem ok_names (T : Txt K mg A) : FnG P w K mg base 3 A.f_names A.fd_names P_names (sp_names K) := by
  have G_draw := ok_draw (P := P) (w := w) (base := base) T
  have G_mixed := ok_mixed (P := P) (w := w) (base := base) T
  refine FnG.ok T.F_names sc_names (fun vs H Q E h => by first | (obtain ⟨_, rfl, _⟩ := h; rfl) | (obtain ⟨_, _, rfl, _⟩ := h; rfl) | (obtain ⟨_, _, _, rfl, _⟩ := h; rfl) | (obtain ⟨_, _, _, _, rfl, _⟩ := h; rfl) | (obtain ⟨_, _, _, _, _, rfl, _⟩ := h; rfl) | (obtain ⟨_, _, _, _, _, _, rfl, _⟩ := h; rfl) | (obtain ⟨_, _, _, _, _, _, _, rfl, _⟩ := h; rfl) | (obtain ⟨_, _, _, _, _, _, _, _, rfl, _⟩ := h; rfl) | (obtain ⟨_, _, _, _, _, _, _, _, _, rfl, _⟩ := h; rfl) | (obtain ⟨_, _, _, _, _, _, _, _, _, _, rfl, _⟩ := h; rfl) | (obtain ⟨_, _, _, _, _, _, _, _, _, _, _, rfl, _⟩ := h; rfl) | (obtain ⟨_, _, _, _, _, _, _, _, _, _, _, _, rfl, _⟩ := h; rfl) | (obtain ⟨_, _, _, _, _, _, _, _, _, _, _, _, _, rfl, _⟩ := h; rfl) | (obtain ⟨_, _, _, _, _, _, _, _, _, _, _, _, _, _, rfl, _⟩ := h; rfl) | (obtain ⟨_, _, _, _, _, _, _, _, _, _, _, _, _, _, _, rfl, _⟩ := h; rfl)) (fun cdv Ar outer s H vs Q E hr h => ⟨t_names K (WF E), ?_, pure_names vs H Q E h⟩)
  have tk := takes_of (X := cxOf (L2.CX P w) P w K mg base N_names "_law_names" (defScope s_names) A.f_names cdv Ar outer s H E) rfl rfl rfl rfl
  have po := passes_of (X := cxOf (L2.CX P w) P w K mg base N_names "_law_names" (defScope s_names) A.f_names cdv Ar outer s H E) rfl
  exact (pss_cons (ps_asg (pe_tup (pa_cons pe_str (pa_cons (ge_call G_draw (hr.mono (by decide)) rfl T.g_draw T.F_draw.kp (b_draw T) .nil tk (pa_cons (u_v 0) (pa_cons pe_int pa_nil))) (pa_cons (ge_call G_draw (hr.mono (by decide)) rfl T.g_draw T.F_draw.kp (b_draw T) .nil tk (pa_cons (u_v 0) (pa_cons pe_int pa_nil))) pa_nil)))) (pg_utup rfl (pgs_ucons (pg_name (i := 2) sc_names.nd rfl (by first | exact Or.inl rfl | exact Or.inr rfl)) (pgs_ucons (pg_name (i := 3) sc_names.nd rfl (by first | exact Or.inl rfl | exact Or.inr rfl)) (pgs_ucons (pg_name (i := 4) sc_names.nd rfl (by first | exact Or.inl rfl | exact Or.inr rfl)) pgs_unil)))))
    (pss_cons (ps_setLc (i := 5) (own := [("_law_k", 9)]) (g := (gName 9)) (tt := tYes) rfl sc_names.nd rfl rfl (sw_true rfl rfl rfl (by decide +kernel)) (pi_r1 rfl T.n_range (u_v 1)) (blkOk_by (N := N_names) (sc := defScope s_names) (by decide +kernel)) (fun _ _ _ _ _ => (pg_name (i := 9) sc_names.nd rfl (by first | exact Or.inl rfl | exact Or.inr rfl))) (fun _ _ _ _ _ => pts_nil) (fun _ _ _ _ _ => (pe_ix x_ix (u_v 2) (pe_op o_mod (pe_op o_add (u_v 4) (pe_op o_mul pe_int (u_v 9))) pe_int) (fun _ _ => rfl))))
    (pss_cons (ps_cl (ps_if (pt_c (o_eq hr) (u_v 3) pe_int) (pss_cons (ps_asg (pe_tup (pa_cons (ge_call G_draw (hr.mono (by decide)) rfl T.g_draw T.F_draw.kp (b_draw T) .nil tk (pa_cons (u_v 0) (pa_cons pe_int pa_nil))) (pa_cons (pe_ujoin pe_str (pe_lc (own := [("_law_k", 9)]) (g := (gName 9)) (tt := tYes) rfl sc_names.nd (pi_r1 rfl T.n_range pe_int) (blkOk_by (N := N_names) (sc := defScope s_names) (by decide +kernel)) (fun _ _ _ _ _ => (pg_name (i := 9) sc_names.nd rfl (by first | exact Or.inl rfl | exact Or.inr rfl))) (fun _ _ _ _ _ => pts_nil) (fun _ _ _ _ _ => (pe_ix x_ix (u_v 2) (ge_call G_draw (hr.mono (by decide)) rfl T.g_draw T.F_draw.kp (b_draw T) .nil takesN (pa_cons (u_v 0) (pa_cons pe_int pa_nil))) (fun _ _ => rfl))))) pa_nil))) (pg_utup rfl (pgs_ucons (pg_name (i := 6) sc_names.nd rfl (by first | exact Or.inl rfl | exact Or.inr rfl)) (pgs_ucons (pg_name (i := 7) sc_names.nd rfl (by first | exact Or.inl rfl | exact Or.inr rfl)) pgs_unil))))
    (pss_one (ps_setLc (i := 5) (own := [("_law_letter", 10)]) (g := (gName 10)) (tt := tYes) rfl sc_names.nd rfl rfl (sw_true rfl rfl rfl (by decide +kernel)) (pi_seq (u_v 5)) (blkOk_by (N := N_names) (sc := defScope s_names) (by decide +kernel)) (fun _ _ _ _ _ => (pg_name (i := 10) sc_names.nd rfl (by first | exact Or.inl rfl | exact Or.inr rfl))) (fun _ _ _ _ _ => pts_nil) (fun _ _ _ _ _ => (pe_op o_add (pe_op o_add (pe_slice sl_u (u_v 7) po_none (po_u (u_v 6))) (u_v 10)) (pe_slice sl_u (u_v 7) (po_u (u_v 6)) po_none)))))) pss_nil))
    (pss_cons (ps_cl (ps_if (pt_c (o_eq hr) (u_v 3) pe_int) (pss_one (ps_setLc (i := 5) (own := [("_law_k", 9)]) (g := (gName 9)) (tt := tYes) rfl sc_names.nd rfl rfl (sw_true rfl rfl rfl (by decide +kernel)) (pi_r1 rfl T.n_range (u_v 1)) (blkOk_by (N := N_names) (sc := defScope s_names) (by decide +kernel)) (fun _ _ _ _ _ => (pg_name (i := 9) sc_names.nd rfl (by first | exact Or.inl rfl | exact Or.inr rfl))) (fun _ _ _ _ _ => pts_nil) (fun _ _ _ _ _ => (pe_op o_add (pe_ix x_ix (u_v 2) (pe_op o_mod (pe_op o_add (u_v 4) (pe_op o_mul pe_int (pe_op o_fdv (u_v 9) pe_int))) pe_int) (fun _ _ => rfl)) (pe_slice sl_u pe_str po_none (po_u (pe_op o_mod (u_v 9) pe_int))))))) pss_nil))
    (pss_cons (ps_cl (ps_if (pt_c (o_eq hr) (u_v 3) pe_int) (pss_cons (ps_set (i := 8) sc_names.nd rfl (by first | exact Or.inl rfl | exact Or.inr rfl) (pe_lst (pa_cons pe_str (pa_cons pe_str (pa_cons pe_str (pa_cons pe_str (pa_cons pe_str (pa_cons pe_str (pa_cons pe_str (pa_cons pe_str (pa_cons pe_str (pa_cons pe_str (pa_cons pe_str (pa_cons pe_str pa_nil))))))))))))))
    (pss_one (ps_set (i := 5) sc_names.nd rfl (by first | exact Or.inl rfl | exact Or.inr rfl) (pe_slice sl_u (pe_op o_add (u_v 8) (u_v 8)) (po_u (pe_op o_mod (u_v 4) pe_int)) (po_u (pe_op o_add (pe_op o_mod (u_v 4) pe_int) (u_v 1))))))) pss_nil))
    (pss_one (ps_ret (ge_call G_mixed (hr.mono (by decide)) rfl T.g_mixed T.F_mixed.kp (b_mixed T) .nil tk (pa_cons (u_v 0) (pa_cons (u_v 5) pa_nil))))))))))
theorem ok_pairs (T : Txt K mg A) : FnG P w K mg base 3 A.f_pairs A.fd_pairs P_pairs (sp_pairs K) := by
  have G_draw := ok_draw (P := P) (w := w) (base := base) T
  have G_mixed := ok_mixed (P := P) (w := w) (base := base) T
  refine FnG.ok T.F_pairs sc_pairs (fun vs H Q E h => by first | (obtain ⟨_, rfl, _⟩ := h; rfl) | (obtain ⟨_, _, rfl, _⟩ := h; rfl) | (obtain ⟨_, _, _, rfl, _⟩ := h; rfl) | (obtain ⟨_, _, _, _, rfl, _⟩ := h; rfl) | (obtain ⟨_, _, _, _, _, rfl, _⟩ := h; rfl) | (obtain ⟨_, _, _, _, _, _, rfl, _⟩ := h; rfl) | (obtain ⟨_, _, _, _, _, _, _, rfl, _⟩ := h; rfl) | (obtain ⟨_, _, _, _, _, _, _, _, rfl, _⟩ := h; rfl) | (obtain ⟨_, _, _, _, _, _, _, _, _, rfl, _⟩ := h; rfl) | (obtain ⟨_, _, _, _, _, _, _, _, _, _, rfl, _⟩ := h; rfl) | (obtain ⟨_, _, _, _, _, _, _, _, _, _, _, rfl, _⟩ := h; rfl) | (obtain ⟨_, _, _, _, _, _, _, _, _, _, _, _, rfl, _⟩ := h; rfl) | (obtain ⟨_, _, _, _, _, _, _, _, _, _, _, _, _, rfl, _⟩ := h; rfl) | (obtain ⟨_, _, _, _, _, _, _, _, _, _, _, _, _, _, rfl, _⟩ := h; rfl) | (obtain ⟨_, _, _, _, _, _, _, _, _, _, _, _, _, _, _, rfl, _⟩ := h; rfl)) (fun cdv Ar outer s H vs Q E hr h => ⟨t_pairs K (WF E), ?_, pure_pairs vs H Q E h⟩)
  have tk := takes_of (X := cxOf (L2.CX P w) P w K mg base N_pairs "_law_pairs" (defScope s_pairs) A.f_pairs cdv Ar outer s H E) rfl rfl rfl rfl
  have po := passes_of (X := cxOf (L2.CX P w) P w K mg base N_pairs "_law_pairs" (defScope s_pairs) A.f_pairs cdv Ar outer s H E) rfl
  exact (pss_cons (ps_upar (i := 2) (j := 3) rfl sc_pairs.nd rfl rfl (by decide) rfl rfl (pa_cons (ge_call G_draw (hr.mono (by decide)) rfl T.g_draw T.F_draw.kp (b_draw T) .nil tk (pa_cons (u_v 0) (pa_cons pe_int pa_nil))) (pa_cons (pe_lst pa_nil) pa_nil)) (by rfl))
    (pss_cons (ps_for po rfl (pi_enumA rfl T.n_enumerate (u_v 1)) (pg_utup rfl (pgs_ucons (pg_name (i := 4) sc_pairs.nd rfl (by first | exact Or.inl rfl | exact Or.inr rfl)) (pgs_ucons (pg_name (i := 5) sc_pairs.nd rfl (by first | exact Or.inl rfl | exact Or.inr rfl)) pgs_unil))) (pss_one (ps_for po rfl (pi_enumA rfl T.n_enumerate (pe_slice sl_u (u_v 1) po_none (po_u (u_v 4)))) (pg_utup rfl (pgs_ucons (pg_name (i := 6) sc_pairs.nd rfl (by first | exact Or.inl rfl | exact Or.inr rfl)) (pgs_ucons (pg_name (i := 7) sc_pairs.nd rfl (by first | exact Or.inl rfl | exact Or.inr rfl)) pgs_unil))) (pss_cons (ps_set (i := 8) sc_pairs.nd rfl (by first | exact Or.inl rfl | exact Or.inr rfl) (pe_ix x_ix (pe_lst (pa_cons pe_int (pa_cons pe_int (pa_cons (pe_op o_mul pe_int (pe_callTy c_int (by rfl) T.n_int (by decide +kernel) (pa_cons (pe_cmpR o_gt (pe_op o_sub (u_v 4) (u_v 6)) pe_int (nomark _)) pa_nil))) (pa_cons pe_int (pa_cons pe_int (pa_cons pe_int (pa_cons pe_int (pa_cons pe_int pa_nil))))))))) (u_v 2) (fun _ _ => rfl)))
    (pss_one (ps_if (pt_c o_lt (ge_call G_draw (hr.mono (by decide)) rfl T.g_draw T.F_draw.kp (b_draw T) .nil tk (pa_cons (u_v 0) (pa_cons pe_int pa_nil))) (u_v 8)) (pss_one (ps_expr (pe_app (u_v 3) (pa_cons (pe_ix x_ix (pe_lst (pa_cons (pe_tup (pa_cons (u_v 5) (pa_cons (u_v 7) pa_nil))) (pa_cons (pe_tup (pa_cons (u_v 7) (pa_cons (u_v 5) pa_nil))) pa_nil))) (ge_call G_draw (hr.mono (by decide)) rfl T.g_draw T.F_draw.kp (b_draw T) .nil tk (pa_cons (u_v 0) (pa_cons pe_int pa_nil))) (fun _ _ => rfl)) pa_nil)))) pss_nil))))))
    (pss_one (ps_ret (ge_call G_mixed (hr.mono (by decide)) rfl T.g_mixed T.F_mixed.kp (b_mixed T) .nil tk (pa_cons (u_v 0) (pa_cons (u_v 3) pa_nil)))))))
theorem ok_lis_name (T : Txt K mg A) : FnG P w K mg base 1 A.f_lis_name A.fd_lis_name P_lis_name (sp_lis_name K) := by
  refine FnG.ok T.F_lis_name sc_lis_name (fun vs H Q E h => by first | (obtain ⟨_, rfl, _⟩ := h; rfl) | (obtain ⟨_, _, rfl, _⟩ := h; rfl) | (obtain ⟨_, _, _, rfl, _⟩ := h; rfl) | (obtain ⟨_, _, _, _, rfl, _⟩ := h; rfl) | (obtain ⟨_, _, _, _, _, rfl, _⟩ := h; rfl) | (obtain ⟨_, _, _, _, _, _, rfl, _⟩ := h; rfl) | (obtain ⟨_, _, _, _, _, _, _, rfl, _⟩ := h; rfl) | (obtain ⟨_, _, _, _, _, _, _, _, rfl, _⟩ := h; rfl) | (obtain ⟨_, _, _, _, _, _, _, _, _, rfl, _⟩ := h; rfl) | (obtain ⟨_, _, _, _, _, _, _, _, _, _, rfl, _⟩ := h; rfl) | (obtain ⟨_, _, _, _, _, _, _, _, _, _, _, rfl, _⟩ := h; rfl) | (obtain ⟨_, _, _, _, _, _, _, _, _, _, _, _, rfl, _⟩ := h; rfl) | (obtain ⟨_, _, _, _, _, _, _, _, _, _, _, _, _, rfl, _⟩ := h; rfl) | (obtain ⟨_, _, _, _, _, _, _, _, _, _, _, _, _, _, rfl, _⟩ := h; rfl) | (obtain ⟨_, _, _, _, _, _, _, _, _, _, _, _, _, _, _, rfl, _⟩ := h; rfl)) (fun cdv Ar outer s H vs Q E hr h => ⟨t_lis_name K (WF E), ?_, pure_lis_name vs H Q E h⟩)
  have tk := takes_of (X := cxOf (L2.CX P w) P w K mg base N_lis_name "_law_is_name" (defScope s_lis_name) A.f_lis_name cdv Ar outer s H E) rfl rfl rfl rfl
  have po := passes_of (X := cxOf (L2.CX P w) P w K mg base N_lis_name "_law_is_name" (defScope s_lis_name) A.f_lis_name cdv Ar outer s H E) rfl
  exact (pss_one (ps_ret (pe_uand (pe_ch o_lt o_lt pe_int (pe_callB c_len (by rfl) T.n_len (by decide +kernel) (pa_cons (u_v 0) pa_nil)) pe_int) (pe_one (pe_cmpR (o_eq hr) (pe_lc (own := [("_law_letter", 1)]) (g := (gName 1)) (tt := (uB (tOp (uIn K true) (uV 1) (tC (.str "abcdefghijklmnopqrstuvwxyz"))))) rfl sc_lis_name.nd (pi_ustr (u_v 0)) (blkOk_by (N := N_lis_name) (sc := defScope s_lis_name) (by decide +kernel)) (fun _ _ _ _ _ => (pg_name (i := 1) sc_lis_name.nd rfl (by first | exact Or.inl rfl | exact Or.inr rfl))) (fun _ _ _ _ _ => (pts_one (pt_c o_notIn (u_v 1) pe_str (by rfl)))) (fun _ _ _ _ _ => (u_v 1))) (pe_lst pa_nil) (nomark _))))))
theorem ok_due03 (T : Txt K mg A) : FnG P w K mg base 2 A.f_due03 A.fd_due03 P_due03 (sp_due03 K) := by
  have G_lis_name := ok_lis_name (P := P) (w := w) (base := base) T
  refine FnG.ok T.F_due03 sc_due03 (fun vs H Q E h => by first | (obtain ⟨_, rfl, _⟩ := h; rfl) | (obtain ⟨_, _, rfl, _⟩ := h; rfl) | (obtain ⟨_, _, _, rfl, _⟩ := h; rfl) | (obtain ⟨_, _, _, _, rfl, _⟩ := h; rfl) | (obtain ⟨_, _, _, _, _, rfl, _⟩ := h; rfl) | (obtain ⟨_, _, _, _, _, _, rfl, _⟩ := h; rfl) | (obtain ⟨_, _, _, _, _, _, _, rfl, _⟩ := h; rfl) | (obtain ⟨_, _, _, _, _, _, _, _, rfl, _⟩ := h; rfl) | (obtain ⟨_, _, _, _, _, _, _, _, _, rfl, _⟩ := h; rfl) | (obtain ⟨_, _, _, _, _, _, _, _, _, _, rfl, _⟩ := h; rfl) | (obtain ⟨_, _, _, _, _, _, _, _, _, _, _, rfl, _⟩ := h; rfl) | (obtain ⟨_, _, _, _, _, _, _, _, _, _, _, _, rfl, _⟩ := h; rfl) | (obtain ⟨_, _, _, _, _, _, _, _, _, _, _, _, _, rfl, _⟩ := h; rfl) | (obtain ⟨_, _, _, _, _, _, _, _, _, _, _, _, _, _, rfl, _⟩ := h; rfl) | (obtain ⟨_, _, _, _, _, _, _, _, _, _, _, _, _, _, _, rfl, _⟩ := h; rfl)) (fun cdv Ar outer s H vs Q E hr h => ⟨t_due03 K (WF E), ?_, pure_due03 vs H Q E h⟩)
  have tk := takes_of (X := cxOf (L2.CX P w) P w K mg base N_due03 "_law_due" (defScope s_due03) A.f_due03 cdv Ar outer s H E) rfl rfl rfl rfl
  have po := passes_of (X := cxOf (L2.CX P w) P w K mg base N_due03 "_law_due" (defScope s_due03) A.f_due03 cdv Ar outer s H E) rfl
  exact (pss_cons (ps_if (pt_not (pt_ch o_lt o_lt pe_int (pe_callB c_len (by rfl) T.n_len (by decide +kernel) (pa_cons (u_v 0) pa_nil)) pe_int)) (pss_one (ps_ret (pe_tup (pa_cons pe_str (pa_cons (pe_op o_sub pe_int pe_int) pa_nil))))) pss_nil)
    (pss_cons (ps_for po rfl (pi_enumA rfl T.n_enumerate (u_v 0)) (pg_utup rfl (pgs_ucons (pg_name (i := 2) sc_due03.nd rfl (by first | exact Or.inl rfl | exact Or.inr rfl)) (pgs_ucons (pg_name (i := 3) sc_due03.nd rfl (by first | exact Or.inl rfl | exact Or.inr rfl)) pgs_unil))) (pss_one (ps_if (PW.pt (pw_or (pt_not (pt_u (ge_call G_lis_name (hr.mono (by decide)) rfl T.g_lis_name T.F_lis_name.kp (b_lis_name T) .nil tk (pa_cons (u_v 3) pa_nil)))) (pw_or1 (pt_c o_in (u_v 3) (pe_slice sl_u (u_v 0) po_none (po_u (u_v 2))) (by rfl))))) (pss_one (ps_ret (pe_tup (pa_cons pe_str (pa_cons (u_v 2) pa_nil))))) pss_nil)))
    (pss_cons (ps_for po rfl (pi_enumA rfl T.n_enumerate (u_v 1)) (pg_utup rfl (pgs_ucons (pg_name (i := 2) sc_due03.nd rfl (by first | exact Or.inl rfl | exact Or.inr rfl)) (pgs_ucons (pg_name (i := 4) sc_due03.nd rfl (by first | exact Or.inl rfl | exact Or.inr rfl)) pgs_unil))) (pss_one (ps_if (PW.pt (pw_or (pt_c o_notIn (pe_ix x_ix (u_v 4) pe_int (fun _ _ => rfl)) (u_v 0) (by rfl)) (pw_or (pt_c o_notIn (pe_ix x_ix (u_v 4) pe_int (fun _ _ => rfl)) (u_v 0) (by rfl)) (pw_or1 (pt_c (o_eq hr) (pe_ix x_ix (u_v 4) pe_int (fun _ _ => rfl)) (pe_ix x_ix (u_v 4) pe_int (fun _ _ => rfl))))))) (pss_one (ps_ret (pe_tup (pa_cons pe_str (pa_cons (u_v 2) pa_nil))))) pss_nil)))
    (pss_one (ps_ret pe_non)))))
theorem ok_told03 (T : Txt K mg A) : FnG P w K mg base 6 A.f_told03 A.fd_told03 P_told03 (sp_told03 K) := by
  have G_Table := ok_Table (P := P) (w := w) (base := base) T
  refine FnG.ok T.F_told03 sc_told03 (fun vs H Q E h => by first | (obtain ⟨_, rfl, _⟩ := h; rfl) | (obtain ⟨_, _, rfl, _⟩ := h; rfl) | (obtain ⟨_, _, _, rfl, _⟩ := h; rfl) | (obtain ⟨_, _, _, _, rfl, _⟩ := h; rfl) | (obtain ⟨_, _, _, _, _, rfl, _⟩ := h; rfl) | (obtain ⟨_, _, _, _, _, _, rfl, _⟩ := h; rfl) | (obtain ⟨_, _, _, _, _, _, _, rfl, _⟩ := h; rfl) | (obtain ⟨_, _, _, _, _, _, _, _, rfl, _⟩ := h; rfl) | (obtain ⟨_, _, _, _, _, _, _, _, _, rfl, _⟩ := h; rfl) | (obtain ⟨_, _, _, _, _, _, _, _, _, _, rfl, _⟩ := h; rfl) | (obtain ⟨_, _, _, _, _, _, _, _, _, _, _, rfl, _⟩ := h; rfl) | (obtain ⟨_, _, _, _, _, _, _, _, _, _, _, _, rfl, _⟩ := h; rfl) | (obtain ⟨_, _, _, _, _, _, _, _, _, _, _, _, _, rfl, _⟩ := h; rfl) | (obtain ⟨_, _, _, _, _, _, _, _, _, _, _, _, _, _, rfl, _⟩ := h; rfl) | (obtain ⟨_, _, _, _, _, _, _, _, _, _, _, _, _, _, _, rfl, _⟩ := h; rfl)) (fun cdv Ar outer s H vs Q E hr h => ⟨t_told03 K A.c_Table A.c_UndoError A.c_InvalidTable A.c_InvalidText (WF E), ?_, (pure_told03 T.exm_InvalidTable_InvalidTable T.kit_InvalidTable_InvalidText T.is_InvalidTable) vs H Q E h⟩)
  have tk := takes_of (X := cxOf (L2.CX P w) P w K mg base N_told03 "_law_told" (defScope s_told03) A.f_told03 cdv Ar outer s H E) rfl rfl rfl rfl
  have po := passes_of (X := cxOf (L2.CX P w) P w K mg base N_told03 "_law_told" (defScope s_told03) A.f_told03 cdv Ar outer s H E) rfl
  exact (pss_cons (ps_set (i := 2) sc_told03.nd rfl (by first | exact Or.inl rfl | exact Or.inr rfl) pe_non)
    (pss_cons (ps_utry rfl rfl sc_told03.nd tk (fun Wb pn xe tkb pob => (pss_one (ps_expr (ge_make T.M_Table G_Table (hr.mono (by decide)) rfl T.g_Table (b_Table T) .nil tkb (pa_cons (u_v 0) (pa_cons (u_v 1) pa_nil)))))) (.consAs (i := 3) rfl rfl ⟨rfl, by decide, .inl T.g_InvalidTable⟩ (fun ea oe ec ed pn hz hf => (pss_one (ps_set (i := 2) sc_told03.nd rfl (by first | exact Or.inl rfl | exact Or.inr rfl) (pe_ifExp (pt_u (pe_callB (c_isE hz hf) (by rfl) T.n_isinstance (by decide +kernel) (pa_cons (u_v 3) (pa_cons (pe_glob rfl T.g_InvalidText rfl) pa_nil)))) (pe_tup (pa_cons pe_str pa_nil)) (pe_tup (pa_cons (pe_uxf T.xf_InvalidTable T.no_InvalidTable_word hz hf (u_v 3)) (pa_cons (pe_uxf T.xf_InvalidTable T.no_InvalidTable_at hz hf (u_v 3)) pa_nil))))))) (.cons ⟨rfl, by decide, .inl T.g_UndoError⟩ (fun ea oe ec ed pn hz hf => (pss_one (ps_set (i := 2) sc_told03.nd rfl (by first | exact Or.inl rfl | exact Or.inr rfl) (pe_tup (pa_cons pe_str pa_nil))))) .nil)))
    (pss_one (ps_ret (u_v 2)))))
theorem ok_bent03 (T : Txt K mg A) : FnG P w K mg base 2 A.f_bent03 A.fd_bent03 P_bent03 (sp_bent03 K) := by
  have G_draw := ok_draw (P := P) (w := w) (base := base) T
  refine FnG.ok T.F_bent03 sc_bent03 (fun vs H Q E h => by first | (obtain ⟨_, rfl, _⟩ := h; rfl) | (obtain ⟨_, _, rfl, _⟩ := h; rfl) | (obtain ⟨_, _, _, rfl, _⟩ := h; rfl) | (obtain ⟨_, _, _, _, rfl, _⟩ := h; rfl) | (obtain ⟨_, _, _, _, _, rfl, _⟩ := h; rfl) | (obtain ⟨_, _, _, _, _, _, rfl, _⟩ := h; rfl) | (obtain ⟨_, _, _, _, _, _, _, rfl, _⟩ := h; rfl) | (obtain ⟨_, _, _, _, _, _, _, _, rfl, _⟩ := h; rfl) | (obtain ⟨_, _, _, _, _, _, _, _, _, rfl, _⟩ := h; rfl) | (obtain ⟨_, _, _, _, _, _, _, _, _, _, rfl, _⟩ := h; rfl) | (obtain ⟨_, _, _, _, _, _, _, _, _, _, _, rfl, _⟩ := h; rfl) | (obtain ⟨_, _, _, _, _, _, _, _, _, _, _, _, rfl, _⟩ := h; rfl) | (obtain ⟨_, _, _, _, _, _, _, _, _, _, _, _, _, rfl, _⟩ := h; rfl) | (obtain ⟨_, _, _, _, _, _, _, _, _, _, _, _, _, _, rfl, _⟩ := h; rfl) | (obtain ⟨_, _, _, _, _, _, _, _, _, _, _, _, _, _, _, rfl, _⟩ := h; rfl)) (fun cdv Ar outer s H vs Q E hr h => ⟨t_bent03 K (WF E), ?_, pure_bent03 vs H Q E h⟩)
  have tk := takes_of (X := cxOf (L2.CX P w) P w K mg base N_bent03 "_law_bent" (defScope s_bent03) A.f_bent03 cdv Ar outer s H E) rfl rfl rfl rfl
  have po := passes_of (X := cxOf (L2.CX P w) P w K mg base N_bent03 "_law_bent" (defScope s_bent03) A.f_bent03 cdv Ar outer s H E) rfl
  exact (pss_cons (ps_upar3 (i := 3) (j := 4) (l := 5) rfl sc_bent03.nd rfl rfl rfl (by decide) (by decide) (by decide) rfl rfl rfl (pa_cons (ge_call G_draw (hr.mono (by decide)) rfl T.g_draw T.F_draw.kp (b_draw T) .nil tk (pa_cons (u_v 0) (pa_cons (pe_op o_add (pe_callB c_len (by rfl) T.n_len (by decide +kernel) (pa_cons (u_v 1) pa_nil)) pe_int) pa_nil))) (pa_cons (ge_call G_draw (hr.mono (by decide)) rfl T.g_draw T.F_draw.kp (b_draw T) .nil tk (pa_cons (u_v 0) (pa_cons pe_int pa_nil))) (pa_cons (pe_op o_add (u_v 1) (pe_lst (pa_cons pe_str pa_nil))) pa_nil))) (by rfl))
    (pss_cons (ps_set (i := 6) sc_bent03.nd rfl (by first | exact Or.inl rfl | exact Or.inr rfl) (pe_ix x_ix (u_v 5) (ge_call G_draw (hr.mono (by decide)) rfl T.g_draw T.F_draw.kp (b_draw T) .nil tk (pa_cons (u_v 0) (pa_cons (pe_callB c_len (by rfl) T.n_len (by decide +kernel) (pa_cons (u_v 5) pa_nil)) pa_nil))) (fun _ _ => rfl)))
    (pss_cons (ps_set (i := 7) sc_bent03.nd rfl (by first | exact Or.inl rfl | exact Or.inr rfl) (pe_lst (pa_cons pe_str (pa_cons pe_str (pa_cons pe_str (pa_cons pe_str (pa_cons pe_str (pa_cons pe_str (pa_cons (pe_op o_add (u_v 6) pe_str) (pa_cons (pe_op o_add pe_str (u_v 6)) (pa_cons (u_v 6) (pa_cons pe_str (pa_cons pe_str (pa_cons (pe_uupper (u_v 6)) pa_nil))))))))))))))
    (pss_cons (ps_set (i := 7) sc_bent03.nd rfl (by first | exact Or.inl rfl | exact Or.inr rfl) (pe_ix x_ix (u_v 7) (ge_call G_draw (hr.mono (by decide)) rfl T.g_draw T.F_draw.kp (b_draw T) .nil tk (pa_cons (u_v 0) (pa_cons pe_int pa_nil))) (fun _ _ => rfl)))
    (pss_cons (ps_cl (ps_if (pt_c o_lt (u_v 4) pe_int) (pss_one (ps_ret (pe_tup (pa_cons (pe_op o_add (pe_op o_add (pe_slice sl_u (u_v 1) po_none (po_u (u_v 3))) (pe_lst (pa_cons (u_v 7) pa_nil))) (pe_slice sl_u (u_v 1) (po_u (pe_op o_add (u_v 3) (pe_op o_mod (u_v 4) pe_int))) po_none)) (pa_cons (u_v 2) pa_nil))))) pss_nil))
    (pss_cons (ps_cl (ps_if (pt_c (o_eq hr) (u_v 4) pe_int) (pss_one (ps_ret (pe_tup (pa_cons (pe_lst pa_nil) (pa_cons (u_v 2) pa_nil))))) pss_nil))
    (pss_cons (ps_cl (ps_if (pt_c (o_eq hr) (u_v 4) pe_int) (pss_one (ps_ret (pe_tup (pa_cons (pe_slice sl_u (pe_lc (own := [("_law_letter", 10)]) (g := (gName 10)) (tt := tYes) rfl sc_bent03.nd (pi_ustr pe_str) (blkOk_by (N := N_bent03) (sc := defScope s_bent03) (by decide +kernel)) (fun _ _ _ _ _ => (pg_name (i := 10) sc_bent03.nd rfl (by first | exact Or.inl rfl | exact Or.inr rfl))) (fun _ _ _ _ _ => pts_nil) (fun _ _ _ _ _ => (pe_op o_add (u_v 10) pe_str))) po_none (po_u (pe_op o_add pe_int (ge_call G_draw (hr.mono (by decide)) rfl T.g_draw T.F_draw.kp (b_draw T) .nil tk (pa_cons (u_v 0) (pa_cons pe_int pa_nil)))))) (pa_cons (u_v 2) pa_nil))))) pss_nil))
    (pss_cons (ps_set (i := 8) sc_bent03.nd rfl (by first | exact Or.inl rfl | exact Or.inr rfl) (ge_call G_draw (hr.mono (by decide)) rfl T.g_draw T.F_draw.kp (b_draw T) .nil tk (pa_cons (u_v 0) (pa_cons (pe_op o_add (pe_callB c_len (by rfl) T.n_len (by decide +kernel) (pa_cons (u_v 2) pa_nil)) pe_int) pa_nil))))
    (pss_cons (ps_set (i := 9) sc_bent03.nd rfl (by first | exact Or.inl rfl | exact Or.inr rfl) (pe_ix x_ix (pe_lst (pa_cons (pe_tup (pa_cons (u_v 6) (pa_cons (u_v 6) pa_nil))) (pa_cons (pe_tup (pa_cons (u_v 6) (pa_cons (u_v 7) pa_nil))) (pa_cons (pe_tup (pa_cons (u_v 7) (pa_cons (u_v 6) pa_nil))) (pa_cons (pe_tup (pa_cons pe_str (pa_cons (u_v 6) pa_nil))) (pa_cons (pe_tup (pa_cons (u_v 6) (pa_cons pe_str pa_nil))) pa_nil)))))) (ge_call G_draw (hr.mono (by decide)) rfl T.g_draw T.F_draw.kp (b_draw T) .nil tk (pa_cons (u_v 0) (pa_cons pe_int pa_nil))) (fun _ _ => rfl)))
    (pss_one (ps_ret (pe_tup (pa_cons (u_v 1) (pa_cons (pe_op o_add (pe_op o_add (pe_slice sl_u (u_v 2) po_none (po_u (u_v 8))) (pe_lst (pa_cons (u_v 9) pa_nil))) (pe_slice sl_u (u_v 2) (po_u (u_v 8)) po_none)) pa_nil))))))))))))))
theorem ok_law (T : Txt K mg A) : FnG P w K mg base 7 A.f_law A.fd_law P_law (sp_law K) := by
  have G_deal := ok_deal (P := P) (w := w) (base := base) T
  have G_names := ok_names (P := P) (w := w) (base := base) T
  have G_draw := ok_draw (P := P) (w := w) (base := base) T
  have G_pairs := ok_pairs (P := P) (w := w) (base := base) T
  have G_bent03 := ok_bent03 (P := P) (w := w) (base := base) T
  have G_told03 := ok_told03 (P := P) (w := w) (base := base) T
  have G_due03 := ok_due03 (P := P) (w := w) (base := base) T
  refine FnG.ok T.F_law sc_law (fun vs H Q E h => by first | (obtain ⟨_, rfl, _⟩ := h; rfl) | (obtain ⟨_, _, rfl, _⟩ := h; rfl) | (obtain ⟨_, _, _, rfl, _⟩ := h; rfl) | (obtain ⟨_, _, _, _, rfl, _⟩ := h; rfl) | (obtain ⟨_, _, _, _, _, rfl, _⟩ := h; rfl) | (obtain ⟨_, _, _, _, _, _, rfl, _⟩ := h; rfl) | (obtain ⟨_, _, _, _, _, _, _, rfl, _⟩ := h; rfl) | (obtain ⟨_, _, _, _, _, _, _, _, rfl, _⟩ := h; rfl) | (obtain ⟨_, _, _, _, _, _, _, _, _, rfl, _⟩ := h; rfl) | (obtain ⟨_, _, _, _, _, _, _, _, _, _, rfl, _⟩ := h; rfl) | (obtain ⟨_, _, _, _, _, _, _, _, _, _, _, rfl, _⟩ := h; rfl) | (obtain ⟨_, _, _, _, _, _, _, _, _, _, _, _, rfl, _⟩ := h; rfl) | (obtain ⟨_, _, _, _, _, _, _, _, _, _, _, _, _, rfl, _⟩ := h; rfl) | (obtain ⟨_, _, _, _, _, _, _, _, _, _, _, _, _, _, rfl, _⟩ := h; rfl) | (obtain ⟨_, _, _, _, _, _, _, _, _, _, _, _, _, _, _, rfl, _⟩ := h; rfl)) (fun cdv Ar outer s H vs Q E hr h => ⟨t_law K (WF E), ?_, pure_law vs H Q E h⟩)
  have tk := takes_of (X := cxOf (L2.CX P w) P w K mg base N_law "law" (defScope s_law) A.f_law cdv Ar outer s H E) rfl rfl rfl rfl
  have po := passes_of (X := cxOf (L2.CX P w) P w K mg base N_law "law" (defScope s_law) A.f_law cdv Ar outer s H E) rfl
  exact (pss_cons (ps_for po rfl (pi_r1 rfl T.n_range pe_int) (pg_name (i := 1) sc_law.nd rfl (by first | exact Or.inl rfl | exact Or.inr rfl)) (pss_cons (ps_set (i := 2) sc_law.nd rfl (by first | exact Or.inl rfl | exact Or.inr rfl) (ge_call G_deal (hr.mono (by decide)) rfl T.g_deal T.F_deal.kp (b_deal T) .nil tk (pa_cons (u_v 0) (pa_cons (u_v 1) pa_nil))))
    (pss_cons (ps_set (i := 3) sc_law.nd rfl (by first | exact Or.inl rfl | exact Or.inr rfl) (ge_call G_names (hr.mono (by decide)) rfl T.g_names T.F_names.kp (b_names T) .nil tk (pa_cons (u_v 2) (pa_cons (pe_op o_add pe_int (ge_call G_draw (hr.mono (by decide)) rfl T.g_draw T.F_draw.kp (b_draw T) .nil tk (pa_cons (u_v 2) (pa_cons pe_int pa_nil)))) pa_nil))))
    (pss_cons (ps_set (i := 4) sc_law.nd rfl (by first | exact Or.inl rfl | exact Or.inr rfl) (ge_call G_pairs (hr.mono (by decide)) rfl T.g_pairs T.F_pairs.kp (b_pairs T) .nil tk (pa_cons (u_v 2) (pa_cons (u_v 3) pa_nil))))
    (pss_cons (ps_for po rfl (pi_r1 rfl T.n_range pe_int) (pg_name (i := 5) sc_law.nd rfl (by first | exact Or.inl rfl | exact Or.inr rfl)) (pss_cons (ps_asg (ge_call G_bent03 (hr.mono (by decide)) rfl T.g_bent03 T.F_bent03.kp (b_bent03 T) .nil tk (pa_cons (u_v 2) (pa_cons (u_v 3) (pa_cons (u_v 4) pa_nil)))) (pg_utup rfl (pgs_ucons (pg_name (i := 6) sc_law.nd rfl (by first | exact Or.inl rfl | exact Or.inr rfl)) (pgs_ucons (pg_name (i := 7) sc_law.nd rfl (by first | exact Or.inl rfl | exact Or.inr rfl)) pgs_unil))))
    (pss_cons (ps_cl (ps_if (pt_c (o_eq hr) (ge_call G_draw (hr.mono (by decide)) rfl T.g_draw T.F_draw.kp (b_draw T) .nil tk (pa_cons (u_v 2) (pa_cons pe_int pa_nil))) pe_int) (pss_one (ps_asg (ge_call G_bent03 (hr.mono (by decide)) rfl T.g_bent03 T.F_bent03.kp (b_bent03 T) .nil tk (pa_cons (u_v 2) (pa_cons (u_v 6) (pa_cons (u_v 7) pa_nil)))) (pg_utup rfl (pgs_ucons (pg_name (i := 6) sc_law.nd rfl (by first | exact Or.inl rfl | exact Or.inr rfl)) (pgs_ucons (pg_name (i := 7) sc_law.nd rfl (by first | exact Or.inl rfl | exact Or.inr rfl)) pgs_unil))))) pss_nil))
    (pss_one (ps_for po rfl (pi_r1 rfl T.n_range pe_int) (pg_name (i := 8) sc_law.nd rfl (by first | exact Or.inl rfl | exact Or.inr rfl)) (pss_cons (ps_set (i := 9) sc_law.nd rfl (by first | exact Or.inl rfl | exact Or.inr rfl) (ge_call G_told03 (hr.mono (by decide)) rfl T.g_told03 T.F_told03.kp (b_told03 T) .nil tk (pa_cons (pe_ix x_ix (pe_lst (pa_cons (u_v 6) (pa_cons (pe_callTy c_tuple (by rfl) T.n_tuple (by decide +kernel) (pa_cons (u_v 6) pa_nil)) pa_nil))) (u_v 8) (fun _ _ => rfl)) (pa_cons (pe_ix x_ix (pe_lst (pa_cons (pe_callTy c_tuple (by rfl) T.n_tuple (by decide +kernel) (pa_cons (u_v 7) pa_nil)) (pa_cons (u_v 7) pa_nil))) (u_v 8) (fun _ _ => rfl)) pa_nil))))
    (pss_one (ps_if (pt_c (o_ne hr) (pe_callB (c_repr hr) (by rfl) T.n_repr (by decide +kernel) (pa_cons (u_v 9) pa_nil)) (pe_callB (c_repr hr) (by rfl) T.n_repr (by decide +kernel) (pa_cons (ge_call G_due03 (hr.mono (by decide)) rfl T.g_due03 T.F_due03.kp (b_due03 T) .nil tk (pa_cons (u_v 6) (pa_cons (u_v 7) pa_nil))) pa_nil))) (pss_one (ps_ret pe_bl)) pss_nil))))))))
    (pss_one (ps_if (pt_c o_isnot (ge_call G_told03 (hr.mono (by decide)) rfl T.g_told03 T.F_told03.kp (b_told03 T) .nil tk (pa_cons (u_v 3) (pa_cons (u_v 4) pa_nil))) pe_non) (pss_one (ps_ret pe_bl)) pss_nil)))))))
    (pss_one (ps_ret pe_bl)))
end
set_option maxHeartbeats 8000000 in
theorem all_mk {l : PySem.W.OpenLaw} {w : World} {K : PySem.W.Frag} {h : Heap} {mg : Str → Option Value} {fa : Addr} {c_InvalidTable : Addr} {c_Table : Addr} {c_UndoError : Addr} {c_InvalidText : Addr} {k_LONGEST : Tok} {k_LETTERS : Tok} {k_MOST_KINDS : Tok} {f_InvalidTable : Addr} {f_is_name : Addr} {f_check_kinds : Addr} {f_in_pair : Addr} {f_Table : Addr} {dT_Table : Addr} {dE_Table : Addr} {f_deal : Addr} {f_draw : Addr} {f_mixed : Addr} {f_names : Addr} {f_pairs : Addr} {f_lis_name : Addr} {f_due03 : Addr} {f_told03 : Addr} {f_bent03 : Addr} {f_law : Addr} (X : K.In h) (G : h.Ns mainGlobals mg) (hfa : mg "law" = some (.ref fa))
    {oc_InvalidTable kV_InvalidTable dc_InvalidTable pm_InvalidTable cd_InvalidTable ct_InvalidTable : Value} {od_InvalidTable an_InvalidTable : Option Addr} {sl_InvalidTable : Array (Option Value)}
    {oc_is_name kV_is_name dc_is_name pm_is_name cd_is_name ct_is_name : Value} {od_is_name an_is_name : Option Addr} {sl_is_name : Array (Option Value)}
    {oc_check_kinds kV_check_kinds dc_check_kinds pm_check_kinds cd_check_kinds ct_check_kinds : Value} {od_check_kinds an_check_kinds : Option Addr} {sl_check_kinds : Array (Option Value)}
    {oc_in_pair kV_in_pair dc_in_pair pm_in_pair cd_in_pair ct_in_pair : Value} {od_in_pair an_in_pair : Option Addr} {sl_in_pair : Array (Option Value)}
    {oc_Table kV_Table dc_Table pm_Table cd_Table ct_Table : Value} {od_Table an_Table : Option Addr} {sl_Table : Array (Option Value)}
    {dd_Table de_Table : Option Addr} {n0_Table n1_Table : Nat} {ds_Table dt_Table : Array (Option Value)}
    {oc_deal kV_deal dc_deal pm_deal cd_deal ct_deal : Value} {od_deal an_deal : Option Addr} {sl_deal : Array (Option Value)}
    {oc_draw kV_draw dc_draw pm_draw cd_draw ct_draw : Value} {od_draw an_draw : Option Addr} {sl_draw : Array (Option Value)}
    {oc_mixed kV_mixed dc_mixed pm_mixed cd_mixed ct_mixed : Value} {od_mixed an_mixed : Option Addr} {sl_mixed : Array (Option Value)}
    {oc_names kV_names dc_names pm_names cd_names ct_names : Value} {od_names an_names : Option Addr} {sl_names : Array (Option Value)}
    {oc_pairs kV_pairs dc_pairs pm_pairs cd_pairs ct_pairs : Value} {od_pairs an_pairs : Option Addr} {sl_pairs : Array (Option Value)}
    {oc_lis_name kV_lis_name dc_lis_name pm_lis_name cd_lis_name ct_lis_name : Value} {od_lis_name an_lis_name : Option Addr} {sl_lis_name : Array (Option Value)}
    {oc_due03 kV_due03 dc_due03 pm_due03 cd_due03 ct_due03 : Value} {od_due03 an_due03 : Option Addr} {sl_due03 : Array (Option Value)}
    {oc_told03 kV_told03 dc_told03 pm_told03 cd_told03 ct_told03 : Value} {od_told03 an_told03 : Option Addr} {sl_told03 : Array (Option Value)}
    {oc_bent03 kV_bent03 dc_bent03 pm_bent03 cd_bent03 ct_bent03 : Value} {od_bent03 an_bent03 : Option Addr} {sl_bent03 : Array (Option Value)}
    {oc_law kV_law dc_law pm_law cd_law ct_law : Value} {od_law an_law : Option Addr} {sl_law : Array (Option Value)}
    {x0_InvalidTable x1_InvalidTable : Str} {x2_InvalidTable : Addr} {x3_InvalidTable x4_InvalidTable : List Value} {x5_InvalidTable : List Str} {x6_InvalidTable : List Value} {x7_InvalidTable : Bool} {x8_InvalidTable : Option Bool} {x9_InvalidTable : Option Addr} {x10_InvalidTable x11_InvalidTable x12_InvalidTable x13_InvalidTable x14_InvalidTable : Option Value}
    (a_c_InvalidTable : PySem.W.nsIn K mainGlobals "InvalidTable" = some (some (.ref c_InvalidTable)))
    (a_c_Table : PySem.W.nsIn K mainGlobals "Table" = some (some (.ref c_Table)))
    (a_c_UndoError : PySem.W.nsIn K mainGlobals "UndoError" = some (some (.ref c_UndoError)))
    (a_c_InvalidText : PySem.W.nsIn K mainGlobals "InvalidText" = some (some (.ref c_InvalidText)))
    (a_k_LONGEST : PySem.W.nsIn K mainGlobals "LONGEST" = some (some (.int 6 k_LONGEST)))
    (a_k_LETTERS : PySem.W.nsIn K mainGlobals "LETTERS" = some (some (.str "abcdefghijklmnopqrstuvwxyz" k_LETTERS)))
    (a_k_MOST_KINDS : PySem.W.nsIn K mainGlobals "MOST_KINDS" = some (some (.int 12 k_MOST_KINDS)))
    (a_n_isinstance : PySem.W.nsIn K mainGlobals "isinstance" = some none)
    (a_n_str : PySem.W.nsIn K mainGlobals "str" = some none)
    (a_n_len : PySem.W.nsIn K mainGlobals "len" = some none)
    (a_n_all : PySem.W.nsIn K mainGlobals "all" = some none)
    (a_n_enumerate : PySem.W.nsIn K mainGlobals "enumerate" = some none)
    (a_n_set : PySem.W.nsIn K mainGlobals "set" = some none)
    (a_n_tuple : PySem.W.nsIn K mainGlobals "tuple" = some none)
    (a_n_sorted : PySem.W.nsIn K mainGlobals "sorted" = some none)
    (a_n_max : PySem.W.nsIn K mainGlobals "max" = some none)
    (a_n_list : PySem.W.nsIn K mainGlobals "list" = some none)
    (a_n_range : PySem.W.nsIn K mainGlobals "range" = some none)
    (a_n_int : PySem.W.nsIn K mainGlobals "int" = some none)
    (a_n_repr : PySem.W.nsIn K mainGlobals "repr" = some none)
    (a_f_InvalidTable : PySem.W.findIn K (.ref c_InvalidTable) "__init__" = some (some (.ref f_InvalidTable)))
    (l_InvalidTable : K.lookup f_InvalidTable = some ⟨oc_InvalidTable, od_InvalidTable, .func (PySem.W.fnOf "__init__" "InvalidTable.__init__" (defArgs s_InvalidTable) (defBody s_InvalidTable) (defScope s_InvalidTable) .none kV_InvalidTable dc_InvalidTable pm_InvalidTable an_InvalidTable cd_InvalidTable ct_InvalidTable), sl_InvalidTable⟩)
    (w_InvalidTable : PySem.W.codeIn K cd_InvalidTable "InvalidTable.__init__" = true)
    (k_InvalidTable : PySem.W.keepIn K (.ref f_InvalidTable) = true)
    (a_f_is_name : PySem.W.nsIn K mainGlobals "is_name" = some (some (.ref f_is_name)))
    (l_is_name : K.lookup f_is_name = some ⟨oc_is_name, od_is_name, .func (PySem.W.fnOf "is_name" "is_name" (defArgs s_is_name) (defBody s_is_name) (defScope s_is_name) .none kV_is_name dc_is_name pm_is_name an_is_name cd_is_name ct_is_name), sl_is_name⟩)
    (w_is_name : PySem.W.codeIn K cd_is_name "is_name" = true)
    (k_is_name : PySem.W.keepIn K (.ref f_is_name) = true)
    (a_f_check_kinds : PySem.W.nsIn K mainGlobals "check_kinds" = some (some (.ref f_check_kinds)))
    (l_check_kinds : K.lookup f_check_kinds = some ⟨oc_check_kinds, od_check_kinds, .func (PySem.W.fnOf "check_kinds" "check_kinds" (defArgs s_check_kinds) (defBody s_check_kinds) (defScope s_check_kinds) .none kV_check_kinds dc_check_kinds pm_check_kinds an_check_kinds cd_check_kinds ct_check_kinds), sl_check_kinds⟩)
    (w_check_kinds : PySem.W.codeIn K cd_check_kinds "check_kinds" = true)
    (k_check_kinds : PySem.W.keepIn K (.ref f_check_kinds) = true)
    (a_f_in_pair : PySem.W.nsIn K mainGlobals "in_pair" = some (some (.ref f_in_pair)))
    (l_in_pair : K.lookup f_in_pair = some ⟨oc_in_pair, od_in_pair, .func (PySem.W.fnOf "in_pair" "in_pair" (defArgs s_in_pair) (defBody s_in_pair) (defScope s_in_pair) .none kV_in_pair dc_in_pair pm_in_pair an_in_pair cd_in_pair ct_in_pair), sl_in_pair⟩)
    (w_in_pair : PySem.W.codeIn K cd_in_pair "in_pair" = true)
    (k_in_pair : PySem.W.keepIn K (.ref f_in_pair) = true)
    (a_f_Table : PySem.W.findIn K (.ref c_Table) "__init__" = some (some (.ref f_Table)))
    (l_Table : K.lookup f_Table = some ⟨oc_Table, od_Table, .func (PySem.W.fnOf "__init__" "Table.__init__" (defArgs s_Table) (defBody s_Table) (defScope s_Table) (.ref dT_Table) kV_Table dc_Table pm_Table an_Table cd_Table ct_Table), sl_Table⟩)
    (w_Table : PySem.W.codeIn K cd_Table "Table.__init__" = true)
    (k_Table : PySem.W.keepIn K (.ref f_Table) = true)
    (q_Table : K.lookup dT_Table = some ⟨.type "tuple", dd_Table, .seq #[.ref dE_Table] n0_Table, ds_Table⟩)
    (e_Table : K.lookup dE_Table = some ⟨.type "tuple", de_Table, .seq #[] n1_Table, dt_Table⟩)
    (a_f_deal : PySem.W.nsIn K mainGlobals "_law_deal" = some (some (.ref f_deal)))
    (l_deal : K.lookup f_deal = some ⟨oc_deal, od_deal, .func (PySem.W.fnOf "_law_deal" "_law_deal" (defArgs s_deal) (defBody s_deal) (defScope s_deal) .none kV_deal dc_deal pm_deal an_deal cd_deal ct_deal), sl_deal⟩)
    (w_deal : PySem.W.codeIn K cd_deal "_law_deal" = true)
    (k_deal : PySem.W.keepIn K (.ref f_deal) = true)
    (a_f_draw : PySem.W.nsIn K mainGlobals "_law_draw" = some (some (.ref f_draw)))
    (l_draw : K.lookup f_draw = some ⟨oc_draw, od_draw, .func (PySem.W.fnOf "_law_draw" "_law_draw" (defArgs s_draw) (defBody s_draw) (defScope s_draw) .none kV_draw dc_draw pm_draw an_draw cd_draw ct_draw), sl_draw⟩)
    (w_draw : PySem.W.codeIn K cd_draw "_law_draw" = true)
    (k_draw : PySem.W.keepIn K (.ref f_draw) = true)
    (a_f_mixed : PySem.W.nsIn K mainGlobals "_law_mixed" = some (some (.ref f_mixed)))
    (l_mixed : K.lookup f_mixed = some ⟨oc_mixed, od_mixed, .func (PySem.W.fnOf "_law_mixed" "_law_mixed" (defArgs s_mixed) (defBody s_mixed) (defScope s_mixed) .none kV_mixed dc_mixed pm_mixed an_mixed cd_mixed ct_mixed), sl_mixed⟩)
    (w_mixed : PySem.W.codeIn K cd_mixed "_law_mixed" = true)
    (k_mixed : PySem.W.keepIn K (.ref f_mixed) = true)
    (a_f_names : PySem.W.nsIn K mainGlobals "_law_names" = some (some (.ref f_names)))
    (l_names : K.lookup f_names = some ⟨oc_names, od_names, .func (PySem.W.fnOf "_law_names" "_law_names" (defArgs s_names) (defBody s_names) (defScope s_names) .none kV_names dc_names pm_names an_names cd_names ct_names), sl_names⟩)
    (w_names : PySem.W.codeIn K cd_names "_law_names" = true)
    (k_names : PySem.W.keepIn K (.ref f_names) = true)
    (a_f_pairs : PySem.W.nsIn K mainGlobals "_law_pairs" = some (some (.ref f_pairs)))
    (l_pairs : K.lookup f_pairs = some ⟨oc_pairs, od_pairs, .func (PySem.W.fnOf "_law_pairs" "_law_pairs" (defArgs s_pairs) (defBody s_pairs) (defScope s_pairs) .none kV_pairs dc_pairs pm_pairs an_pairs cd_pairs ct_pairs), sl_pairs⟩)
    (w_pairs : PySem.W.codeIn K cd_pairs "_law_pairs" = true)
    (k_pairs : PySem.W.keepIn K (.ref f_pairs) = true)
    (a_f_lis_name : PySem.W.nsIn K mainGlobals "_law_is_name" = some (some (.ref f_lis_name)))
    (l_lis_name : K.lookup f_lis_name = some ⟨oc_lis_name, od_lis_name, .func (PySem.W.fnOf "_law_is_name" "_law_is_name" (defArgs s_lis_name) (defBody s_lis_name) (defScope s_lis_name) .none kV_lis_name dc_lis_name pm_lis_name an_lis_name cd_lis_name ct_lis_name), sl_lis_name⟩)
    (w_lis_name : PySem.W.codeIn K cd_lis_name "_law_is_name" = true)
    (k_lis_name : PySem.W.keepIn K (.ref f_lis_name) = true)
    (a_f_due03 : PySem.W.nsIn K mainGlobals "_law_due" = some (some (.ref f_due03)))
    (l_due03 : K.lookup f_due03 = some ⟨oc_due03, od_due03, .func (PySem.W.fnOf "_law_due" "_law_due" (defArgs s_due03) (defBody s_due03) (defScope s_due03) .none kV_due03 dc_due03 pm_due03 an_due03 cd_due03 ct_due03), sl_due03⟩)
    (w_due03 : PySem.W.codeIn K cd_due03 "_law_due" = true)
    (k_due03 : PySem.W.keepIn K (.ref f_due03) = true)
    (a_f_told03 : PySem.W.nsIn K mainGlobals "_law_told" = some (some (.ref f_told03)))
    (l_told03 : K.lookup f_told03 = some ⟨oc_told03, od_told03, .func (PySem.W.fnOf "_law_told" "_law_told" (defArgs s_told03) (defBody s_told03) (defScope s_told03) .none kV_told03 dc_told03 pm_told03 an_told03 cd_told03 ct_told03), sl_told03⟩)
    (w_told03 : PySem.W.codeIn K cd_told03 "_law_told" = true)
    (k_told03 : PySem.W.keepIn K (.ref f_told03) = true)
    (a_f_bent03 : PySem.W.nsIn K mainGlobals "_law_bent" = some (some (.ref f_bent03)))
    (l_bent03 : K.lookup f_bent03 = some ⟨oc_bent03, od_bent03, .func (PySem.W.fnOf "_law_bent" "_law_bent" (defArgs s_bent03) (defBody s_bent03) (defScope s_bent03) .none kV_bent03 dc_bent03 pm_bent03 an_bent03 cd_bent03 ct_bent03), sl_bent03⟩)
    (w_bent03 : PySem.W.codeIn K cd_bent03 "_law_bent" = true)
    (k_bent03 : PySem.W.keepIn K (.ref f_bent03) = true)
    (a_f_law : PySem.W.nsIn K mainGlobals "law" = some (some (.ref f_law)))
    (l_law : K.lookup f_law = some ⟨oc_law, od_law, .func (PySem.W.fnOf "law" "law" (defArgs s_law) (defBody s_law) (defScope s_law) .none kV_law dc_law pm_law an_law cd_law ct_law), sl_law⟩)
    (w_law : PySem.W.codeIn K cd_law "law" = true)
    (k_law : PySem.W.keepIn K (.ref f_law) = true)
    (x_InvalidTable : K.lookup c_InvalidTable = some (excClassObj x0_InvalidTable x1_InvalidTable c_InvalidTable x2_InvalidTable x3_InvalidTable x4_InvalidTable true x5_InvalidTable x6_InvalidTable x7_InvalidTable x8_InvalidTable x9_InvalidTable x10_InvalidTable x11_InvalidTable x12_InvalidTable x13_InvalidTable x14_InvalidTable (newOf false)))
    (sa_InvalidTable : PySem.W.findIn K (.ref c_InvalidTable) "__setattr__" = some (some (.builtin "object.__setattr__")))
    (ex_InvalidTable : PySem.W.subIn K (.ref c_InvalidTable) (.type "BaseException") = some true)
    (ty_InvalidTable : PySem.W.typeIn K (.ref c_InvalidTable) = some (.type "type"))
    (kc_InvalidTable : PySem.W.keepIn K (.ref c_InvalidTable) = true)
    (ti_InvalidTable : PySem.W.typeIn K (.ref f_InvalidTable) = some (.type "function"))
    (no_InvalidTable_word : PySem.W.findIn K (.ref c_InvalidTable) "word" = some none)
    (no_InvalidTable_at : PySem.W.findIn K (.ref c_InvalidTable) "at" = some none)
    (pg_Table : PySem.W.plainGet K c_Table Str.empty = true)
    (hd_Table : PySem.W.hasDictIn K c_Table = true)
    (po_Table : PySem.W.plainOver K c_Table = true)
    (sa_Table : PySem.W.findIn K (.ref c_Table) "__setattr__" = some (some (.builtin "object.__setattr__")))
    (mk_Table : PySem.W.makesIn K c_Table = true)
    (kc_Table : PySem.W.keepIn K (.ref c_Table) = true)
    (fn_Table : PySem.W.isFn K (.ref f_Table) = true)
    (no_Table_kinds : PySem.W.findIn K (.ref c_Table) "kinds" = some none)
    (no_Table_pairs : PySem.W.findIn K (.ref c_Table) "pairs" = some none)
    (no_Table_linked : PySem.W.findIn K (.ref c_Table) "linked" = some none)
    (rd_UndoError : PySem.W.readsIn K c_UndoError (.type "type") = true)
    (gt_UndoError : PySem.W.specialIn K (.ref c_UndoError) "__getattribute__" = some (some (.builtin "type.__getattribute__")))
    (fi_UndoError : PySem.W.findCls K (.ref c_UndoError) (.type "type") "__init__" = some (.val (.builtin (initOf false))))
    (xa_InvalidTable : PySem.W.findIn K (.ref c_InvalidTable) "__getattribute__" = some (some (.builtin "BaseException.__getattribute__")))
    (xb_InvalidTable : PySem.W.findIn K (.ref c_InvalidTable) "__getattr__" = some none)
    (xc_InvalidTable : PySem.W.subIn K (.ref c_InvalidTable) (.type "BaseException") = some true)
    (xd_InvalidTable : PySem.W.hasDictIn K c_InvalidTable = true)
    (y1_InvalidTable : PySem.W.isClsIn K c_InvalidTable = true)
    (y2_InvalidTable : PySem.W.findIn K (.ref c_InvalidTable) "__class__" = some (some (.builtin "object.__class__")))
    (y3_InvalidTable : PySem.W.mroIn K c_InvalidTable (.type "object") = some true)
    (y4_InvalidTable : PySem.W.specialIn K (.builtin "object.__class__") "__get__" = some (some (.builtin "getset_descriptor.__get__")))
    (y5_InvalidTable : PySem.W.takesIn K (.builtin "object.__class__") = some true)
    (z1_InvalidTable : PySem.W.subIn K (.ref c_InvalidTable) (.type "BaseException") = some true)
    (z2_InvalidTable : PySem.W.isClsIn K c_InvalidTable = true)
    (z3_InvalidTable : PySem.W.typeIn K (.ref c_InvalidTable) = some (.type "type"))
    (zz_InvalidTable_InvalidTable : PySem.W.subIn K (.ref c_InvalidTable) (.ref c_InvalidTable) = some true)
    (z1_InvalidText : PySem.W.subIn K (.ref c_InvalidText) (.type "BaseException") = some true)
    (z2_InvalidText : PySem.W.isClsIn K c_InvalidText = true)
    (z3_InvalidText : PySem.W.typeIn K (.ref c_InvalidText) = some (.type "type"))
    (zz_InvalidTable_InvalidText : PySem.W.subIn K (.ref c_InvalidTable) (.ref c_InvalidText) = some false)
    (ne_InvalidTable_InvalidText : c_InvalidTable ≠ c_InvalidText)
    (tl_InvalidTable : ownT (tailOf false) x4_InvalidTable = true)
    : ∃ fd : FuncData, (∀ (s : Shared) (v : Value), BindsTo s fd ⟨[v], []⟩ [("_law_script", v)]) ∧ ∀ base : Heap, K.In base → base.Ns mainGlobals mg → FnG l.prog w K mg base 7 fa fd ["_law_script"] (sp_law K) := by
  have e := hfa.symm.trans (PySem.W.mg_of X G a_f_law)
  cases e
  have T : Txt K mg { c_InvalidTable := c_InvalidTable, c_Table := c_Table, c_UndoError := c_UndoError, c_InvalidText := c_InvalidText, k_LONGEST := k_LONGEST, k_LETTERS := k_LETTERS, k_MOST_KINDS := k_MOST_KINDS, f_InvalidTable := f_InvalidTable, fd_InvalidTable := PySem.W.fnOf "__init__" "InvalidTable.__init__" (defArgs s_InvalidTable) (defBody s_InvalidTable) (defScope s_InvalidTable) .none kV_InvalidTable dc_InvalidTable pm_InvalidTable an_InvalidTable cd_InvalidTable ct_InvalidTable, f_is_name := f_is_name, fd_is_name := PySem.W.fnOf "is_name" "is_name" (defArgs s_is_name) (defBody s_is_name) (defScope s_is_name) .none kV_is_name dc_is_name pm_is_name an_is_name cd_is_name ct_is_name, f_check_kinds := f_check_kinds, fd_check_kinds := PySem.W.fnOf "check_kinds" "check_kinds" (defArgs s_check_kinds) (defBody s_check_kinds) (defScope s_check_kinds) .none kV_check_kinds dc_check_kinds pm_check_kinds an_check_kinds cd_check_kinds ct_check_kinds, f_in_pair := f_in_pair, fd_in_pair := PySem.W.fnOf "in_pair" "in_pair" (defArgs s_in_pair) (defBody s_in_pair) (defScope s_in_pair) .none kV_in_pair dc_in_pair pm_in_pair an_in_pair cd_in_pair ct_in_pair, f_Table := f_Table, fd_Table := PySem.W.fnOf "__init__" "Table.__init__" (defArgs s_Table) (defBody s_Table) (defScope s_Table) (.ref dT_Table) kV_Table dc_Table pm_Table an_Table cd_Table ct_Table, dT_Table := dT_Table, dv_Table := [.ref dE_Table], dE_Table := dE_Table, f_deal := f_deal, fd_deal := PySem.W.fnOf "_law_deal" "_law_deal" (defArgs s_deal) (defBody s_deal) (defScope s_deal) .none kV_deal dc_deal pm_deal an_deal cd_deal ct_deal, f_draw := f_draw, fd_draw := PySem.W.fnOf "_law_draw" "_law_draw" (defArgs s_draw) (defBody s_draw) (defScope s_draw) .none kV_draw dc_draw pm_draw an_draw cd_draw ct_draw, f_mixed := f_mixed, fd_mixed := PySem.W.fnOf "_law_mixed" "_law_mixed" (defArgs s_mixed) (defBody s_mixed) (defScope s_mixed) .none kV_mixed dc_mixed pm_mixed an_mixed cd_mixed ct_mixed, f_names := f_names, fd_names := PySem.W.fnOf "_law_names" "_law_names" (defArgs s_names) (defBody s_names) (defScope s_names) .none kV_names dc_names pm_names an_names cd_names ct_names, f_pairs := f_pairs, fd_pairs := PySem.W.fnOf "_law_pairs" "_law_pairs" (defArgs s_pairs) (defBody s_pairs) (defScope s_pairs) .none kV_pairs dc_pairs pm_pairs an_pairs cd_pairs ct_pairs, f_lis_name := f_lis_name, fd_lis_name := PySem.W.fnOf "_law_is_name" "_law_is_name" (defArgs s_lis_name) (defBody s_lis_name) (defScope s_lis_name) .none kV_lis_name dc_lis_name pm_lis_name an_lis_name cd_lis_name ct_lis_name, f_due03 := f_due03, fd_due03 := PySem.W.fnOf "_law_due" "_law_due" (defArgs s_due03) (defBody s_due03) (defScope s_due03) .none kV_due03 dc_due03 pm_due03 an_due03 cd_due03 ct_due03, f_told03 := f_told03, fd_told03 := PySem.W.fnOf "_law_told" "_law_told" (defArgs s_told03) (defBody s_told03) (defScope s_told03) .none kV_told03 dc_told03 pm_told03 an_told03 cd_told03 ct_told03, f_bent03 := f_bent03, fd_bent03 := PySem.W.fnOf "_law_bent" "_law_bent" (defArgs s_bent03) (defBody s_bent03) (defScope s_bent03) .none kV_bent03 dc_bent03 pm_bent03 an_bent03 cd_bent03 ct_bent03, f_law := fa, fd_law := PySem.W.fnOf "law" "law" (defArgs s_law) (defBody s_law) (defScope s_law) .none kV_law dc_law pm_law an_law cd_law ct_law } := {
    g_InvalidTable := PySem.W.mg_of X G a_c_InvalidTable
    g_Table := PySem.W.mg_of X G a_c_Table
    g_UndoError := PySem.W.mg_of X G a_c_UndoError
    g_InvalidText := PySem.W.mg_of X G a_c_InvalidText
    g_LONGEST := PySem.W.mg_of X G a_k_LONGEST
    g_LETTERS := PySem.W.mg_of X G a_k_LETTERS
    g_MOST_KINDS := PySem.W.mg_of X G a_k_MOST_KINDS
    n_isinstance := PySem.W.mg_none_of X G a_n_isinstance
    n_str := PySem.W.mg_none_of X G a_n_str
    n_len := PySem.W.mg_none_of X G a_n_len
    n_all := PySem.W.mg_none_of X G a_n_all
    n_enumerate := PySem.W.mg_none_of X G a_n_enumerate
    n_set := PySem.W.mg_none_of X G a_n_set
    n_tuple := PySem.W.mg_none_of X G a_n_tuple
    n_sorted := PySem.W.mg_none_of X G a_n_sorted
    n_max := PySem.W.mg_none_of X G a_n_max
    n_list := PySem.W.mg_none_of X G a_n_list
    n_range := PySem.W.mg_none_of X G a_n_range
    n_int := PySem.W.mg_none_of X G a_n_int
    n_repr := PySem.W.mg_none_of X G a_n_repr
    F_InvalidTable := ⟨⟨_, _, _, _, _, _, _, _, _, _, rfl, l_InvalidTable, w_InvalidTable, (.inl ⟨rfl, rfl⟩), .inl rfl⟩, k_InvalidTable⟩
    g_is_name := PySem.W.mg_of X G a_f_is_name
    F_is_name := ⟨⟨_, _, _, _, _, _, _, _, _, _, rfl, l_is_name, w_is_name, (.inl ⟨rfl, rfl⟩), .inl rfl⟩, k_is_name⟩
    g_check_kinds := PySem.W.mg_of X G a_f_check_kinds
    F_check_kinds := ⟨⟨_, _, _, _, _, _, _, _, _, _, rfl, l_check_kinds, w_check_kinds, (.inl ⟨rfl, rfl⟩), .inl rfl⟩, k_check_kinds⟩
    g_in_pair := PySem.W.mg_of X G a_f_in_pair
    F_in_pair := ⟨⟨_, _, _, _, _, _, _, _, _, _, rfl, l_in_pair, w_in_pair, (.inl ⟨rfl, rfl⟩), .inl rfl⟩, k_in_pair⟩
    e_Table := fun H => sqT_empty e_Table
    F_Table := ⟨⟨_, _, _, _, _, _, _, _, _, _, rfl, l_Table, w_Table, (.inr ⟨by simp, _, _, [.ref _], _, rfl, q_Table, rfl, .cons rfl .nil⟩), .inl rfl⟩, k_Table⟩
    g_deal := PySem.W.mg_of X G a_f_deal
    F_deal := ⟨⟨_, _, _, _, _, _, _, _, _, _, rfl, l_deal, w_deal, (.inl ⟨rfl, rfl⟩), .inl rfl⟩, k_deal⟩
    g_draw := PySem.W.mg_of X G a_f_draw
    F_draw := ⟨⟨_, _, _, _, _, _, _, _, _, _, rfl, l_draw, w_draw, (.inl ⟨rfl, rfl⟩), .inl rfl⟩, k_draw⟩
    g_mixed := PySem.W.mg_of X G a_f_mixed
    F_mixed := ⟨⟨_, _, _, _, _, _, _, _, _, _, rfl, l_mixed, w_mixed, (.inl ⟨rfl, rfl⟩), .inl rfl⟩, k_mixed⟩
    g_names := PySem.W.mg_of X G a_f_names
    F_names := ⟨⟨_, _, _, _, _, _, _, _, _, _, rfl, l_names, w_names, (.inl ⟨rfl, rfl⟩), .inl rfl⟩, k_names⟩
    g_pairs := PySem.W.mg_of X G a_f_pairs
    F_pairs := ⟨⟨_, _, _, _, _, _, _, _, _, _, rfl, l_pairs, w_pairs, (.inl ⟨rfl, rfl⟩), .inl rfl⟩, k_pairs⟩
    g_lis_name := PySem.W.mg_of X G a_f_lis_name
    F_lis_name := ⟨⟨_, _, _, _, _, _, _, _, _, _, rfl, l_lis_name, w_lis_name, (.inl ⟨rfl, rfl⟩), .inl rfl⟩, k_lis_name⟩
    g_due03 := PySem.W.mg_of X G a_f_due03
    F_due03 := ⟨⟨_, _, _, _, _, _, _, _, _, _, rfl, l_due03, w_due03, (.inl ⟨rfl, rfl⟩), .inl rfl⟩, k_due03⟩
    g_told03 := PySem.W.mg_of X G a_f_told03
    F_told03 := ⟨⟨_, _, _, _, _, _, _, _, _, _, rfl, l_told03, w_told03, (.inl ⟨rfl, rfl⟩), .inl rfl⟩, k_told03⟩
    g_bent03 := PySem.W.mg_of X G a_f_bent03
    F_bent03 := ⟨⟨_, _, _, _, _, _, _, _, _, _, rfl, l_bent03, w_bent03, (.inl ⟨rfl, rfl⟩), .inl rfl⟩, k_bent03⟩
    g_law := PySem.W.mg_of X G a_f_law
    F_law := ⟨⟨_, _, _, _, _, _, _, _, _, _, rfl, l_law, w_law, (.inl ⟨rfl, rfl⟩), .inl rfl⟩, k_law⟩
    X_InvalidTable := ⟨⟨⟨_, _, _, _, _, _, _, _, _, _, _, _, _, _, _, x_InvalidTable, tl_InvalidTable⟩, sa_InvalidTable, ex_InvalidTable, ty_InvalidTable, kc_InvalidTable⟩, a_f_InvalidTable, ti_InvalidTable⟩
    no_InvalidTable_word := no_InvalidTable_word
    no_InvalidTable_at := no_InvalidTable_at
    cls_Table := ⟨pg_Table, hd_Table, po_Table, sa_Table⟩
    M_Table := ⟨mk_Table, a_f_Table, fn_Table, kc_Table⟩
    no_Table_kinds := no_Table_kinds
    no_Table_pairs := no_Table_pairs
    no_Table_linked := no_Table_linked
    B_UndoError := ⟨rd_UndoError, gt_UndoError, fi_UndoError⟩
    xf_InvalidTable := ⟨xa_InvalidTable, xb_InvalidTable, xc_InvalidTable, xd_InvalidTable⟩
    is_InvalidTable := ⟨y1_InvalidTable, xa_InvalidTable, xb_InvalidTable, xc_InvalidTable, y2_InvalidTable, y4_InvalidTable, y5_InvalidTable, y3_InvalidTable⟩
    exm_InvalidTable_InvalidTable := exm_of z1_InvalidTable z2_InvalidTable z3_InvalidTable zz_InvalidTable_InvalidTable
    kit_InvalidTable_InvalidText := kit_of z2_InvalidText z3_InvalidText zz_InvalidTable_InvalidText (.inr ne_InvalidTable_InvalidText)
  }
  exact ⟨_, fun s v => .of_eq rfl, fun base _ _ => ok_law (P := l.prog) (w := w) (base := base) T⟩
end U
open PySem PySem.W PyProof.Rows
set_option maxRecDepth 100000 in
set_option maxHeartbeats 0 in
theorem PySem.Challenge.cw_undoamid_k03_tables_refused_holds : PySem.Challenge.rw_undoamid_k03_tables_refused.Holds := by
  w_on; o_law; k_head; (case hw => w_witness2)
  k_fill
  refine U.walk_G (l := PySem.Challenge.rw_undoamid_k03_tables_refused) (n := 63) (k := 7) (x := "_law_script") (sp := U.sp_law) rfl (by decide) rfl ⟨⟨rfl, by decide, by decide⟩, rfl⟩ (fun w h Y => PySem.W.kIn_of Y) ?F (fun K H a ns hl hb hS => ⟨a, ns, rfl, hS, hl, fun _ => rfl⟩)
  case F =>
    intro w mg fa h KX G hmg
    refine' U.all_mk KX G hmg ?a_c_InvalidTable ?a_c_Table ?a_c_UndoError ?a_c_InvalidText ?a_k_LONGEST ?a_k_LETTERS ?a_k_MOST_KINDS ?a_n_isinstance ?a_n_str ?a_n_len ?a_n_all ?a_n_enumerate ?a_n_set ?a_n_tuple ?a_n_sorted ?a_n_max ?a_n_list ?a_n_range ?a_n_int ?a_n_repr ?a_f_InvalidTable ?l_InvalidTable ?w_InvalidTable ?k_InvalidTable ?a_f_is_name ?l_is_name ?w_is_name ?k_is_name ?a_f_check_kinds ?l_check_kinds ?w_check_kinds ?k_check_kinds ?a_f_in_pair ?l_in_pair ?w_in_pair ?k_in_pair ?a_f_Table ?l_Table ?w_Table ?k_Table ?q_Table ?e_Table ?a_f_deal ?l_deal ?w_deal ?k_deal ?a_f_draw ?l_draw ?w_draw ?k_draw ?a_f_mixed ?l_mixed ?w_mixed ?k_mixed ?a_f_names ?l_names ?w_names ?k_names ?a_f_pairs ?l_pairs ?w_pairs ?k_pairs ?a_f_lis_name ?l_lis_name ?w_lis_name ?k_lis_name ?a_f_due03 ?l_due03 ?w_due03 ?k_due03 ?a_f_told03 ?l_told03 ?w_told03 ?k_told03 ?a_f_bent03 ?l_bent03 ?w_bent03 ?k_bent03 ?a_f_law ?l_law ?w_law ?k_law ?x_InvalidTable ?sa_InvalidTable ?ex_InvalidTable ?ty_InvalidTable ?kc_InvalidTable ?ti_InvalidTable ?no_InvalidTable_word ?no_InvalidTable_at ?pg_Table ?hd_Table ?po_Table ?sa_Table ?mk_Table ?kc_Table ?fn_Table ?no_Table_kinds ?no_Table_pairs ?no_Table_linked ?rd_UndoError ?gt_UndoError ?fi_UndoError ?xa_InvalidTable ?xb_InvalidTable ?xc_InvalidTable ?xd_InvalidTable ?y1_InvalidTable ?y2_InvalidTable ?y3_InvalidTable ?y4_InvalidTable ?y5_InvalidTable ?z1_InvalidTable ?z2_InvalidTable ?z3_InvalidTable ?zz_InvalidTable_InvalidTable ?z1_InvalidText ?z2_InvalidText ?z3_InvalidText ?zz_InvalidTable_InvalidText ?ne_InvalidTable_InvalidText ?tl_InvalidTable
    (case a_c_InvalidTable => k_is)
    (case a_c_Table => k_is)
    (case a_c_UndoError => k_is)
    (case a_c_InvalidText => k_is)
    (case a_k_LONGEST => k_is)
    (case a_k_LETTERS => k_is)
    (case a_k_MOST_KINDS => k_is)
    (case a_n_isinstance => k_is)
    (case a_n_str => k_is)
    (case a_n_len => k_is)
    (case a_n_all => k_is)
    (case a_n_enumerate => k_is)
    (case a_n_set => k_is)
    (case a_n_tuple => k_is)
    (case a_n_sorted => k_is)
    (case a_n_max => k_is)
    (case a_n_list => k_is)
    (case a_n_range => k_is)
    (case a_n_int => k_is)
    (case a_n_repr => k_is)
    (case a_f_InvalidTable => k_is)
    (case l_InvalidTable => k_is)
    (case w_InvalidTable => k_is)
    (case k_InvalidTable => k_is)
    (case a_f_is_name => k_is)
    (case l_is_name => k_is)
    (case w_is_name => k_is)
    (case k_is_name => k_is)
    (case a_f_check_kinds => k_is)
    (case l_check_kinds => k_is)
    (case w_check_kinds => k_is)
    (case k_check_kinds => k_is)
    (case a_f_in_pair => k_is)
    (case l_in_pair => k_is)
    (case w_in_pair => k_is)
    (case k_in_pair => k_is)
    (case a_f_Table => k_is)
    (case l_Table => k_is)
    (case w_Table => k_is)
    (case k_Table => k_is)
    (case q_Table => k_is)
    (case e_Table => k_is)
    (case a_f_deal => k_is)
    (case l_deal => k_is)
    (case w_deal => k_is)
    (case k_deal => k_is)
    (case a_f_draw => k_is)
    (case l_draw => k_is)
    (case w_draw => k_is)
    (case k_draw => k_is)
    (case a_f_mixed => k_is)
    (case l_mixed => k_is)
    (case w_mixed => k_is)
    (case k_mixed => k_is)
    (case a_f_names => k_is)
    (case l_names => k_is)
    (case w_names => k_is)
    (case k_names => k_is)
    (case a_f_pairs => k_is)
    (case l_pairs => k_is)
    (case w_pairs => k_is)
    (case k_pairs => k_is)
    (case a_f_lis_name => k_is)
    (case l_lis_name => k_is)
    (case w_lis_name => k_is)
    (case k_lis_name => k_is)
    (case a_f_due03 => k_is)
    (case l_due03 => k_is)
    (case w_due03 => k_is)
    (case k_due03 => k_is)
    (case a_f_told03 => k_is)
    (case l_told03 => k_is)
    (case w_told03 => k_is)
    (case k_told03 => k_is)
    (case a_f_bent03 => k_is)
    (case l_bent03 => k_is)
    (case w_bent03 => k_is)
    (case k_bent03 => k_is)
    (case a_f_law => k_is)
    (case l_law => k_is)
    (case w_law => k_is)
    (case k_law => k_is)
    (case x_InvalidTable => k_is)
    (case sa_InvalidTable => k_is)
    (case ex_InvalidTable => k_is)
    (case ty_InvalidTable => k_is)
    (case kc_InvalidTable => k_is)
    (case ti_InvalidTable => k_is)
    (case no_InvalidTable_word => k_is)
    (case no_InvalidTable_at => k_is)
    (case pg_Table => k_is)
    (case hd_Table => k_is)
    (case po_Table => k_is)
    (case sa_Table => k_is)
    (case mk_Table => k_is)
    (case kc_Table => k_is)
    (case fn_Table => k_is)
    (case no_Table_kinds => k_is)
    (case no_Table_pairs => k_is)
    (case no_Table_linked => k_is)
    (case rd_UndoError => k_is)
    (case gt_UndoError => k_is)
    (case fi_UndoError => k_is)
    (case xa_InvalidTable => k_is)
    (case xb_InvalidTable => k_is)
    (case xc_InvalidTable => k_is)
    (case xd_InvalidTable => k_is)
    (case y1_InvalidTable => k_is)
    (case y2_InvalidTable => k_is)
    (case y3_InvalidTable => k_is)
    (case y4_InvalidTable => k_is)
    (case y5_InvalidTable => k_is)
    (case z1_InvalidTable => k_is)
    (case z2_InvalidTable => k_is)
    (case z3_InvalidTable => k_is)
    (case zz_InvalidTable_InvalidTable => k_is)
    (case z1_InvalidText => k_is)
    (case z2_InvalidText => k_is)
    (case z3_InvalidText => k_is)
    (case zz_InvalidTable_InvalidText => k_is)
    (case ne_InvalidTable_InvalidText => decide)
    (case tl_InvalidTable => rfl)
