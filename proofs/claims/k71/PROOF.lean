import PyProof.Rows.All
import Wide.All
import OpenK.AllK
import Wide.FinOn
import HandS.ForMost
import HandS.Flow
import HandS.Style
import HandS.IsInst
import HandS.FStr
import HandS.RaiseMore
import HandS.TupMul
import HandS.Evl
import PyProof.ReprRoads
import PySem.Challenge.RW_undrawn_k71_answer_texts
set_option Elab.async false
set_option linter.all false
set_option maxRecDepth 100000
set_option maxHeartbeats 4000000
namespace Gd
open PySem PySem.Spec PyProof.Rows L2

/-- as FnOk, but only where no repr is under way -/
structure FnG (P : Program) (w : World) (K : PySem.W.Frag) (mg : Str → Option Value) (base : Heap) (CX : CXT) (k : Nat) (f : Addr) (fd : FuncData) (ps : List Str) (sp : Sp) : Prop where
  len : ∀ vs H Q E, sp vs H Q E → vs.length = ps.length
  go : ∀ (A : Around), A.guards = some [] → ∀ (outer : List Env) (s : Shared) (H : Hp) (args : Args) (us : List Value) (vs : List V) (Q : VK) (E : XK), Room k A →
    Env0 P w K mg base A outer s H → BindsTo s fd args (ps.zip us) → Vals vs us → sp vs H Q E → codeAny (model P w) A (.call (.ref f) args) (CR CX outer P w H s Q E) s

section
variable {P : Program} {w : World} {K : PySem.W.Frag} {mg : Str → Option Value} {base : Heap} {CX : CXT} {k : Nat} {f : Addr} {fd : FuncData} {ps : List Str} {sp : Sp}
theorem FnG.of (F : FnOk P w K mg base CX k f fd ps sp) : FnG P w K mg base CX k f fd ps sp :=
  ⟨F.len, fun A _ outer s H args us vs Q E => F.run A outer s H args us vs Q E⟩
theorem FnG.mono {j : Nat} (F : FnG P w K mg base CX j f fd ps sp) (h : j ≤ k) : FnG P w K mg base CX k f fd ps sp :=
  ⟨F.len, fun A g outer s H args us vs Q E hr => F.go A g outer s H args us vs Q E (hr.mono h)⟩
end

section
variable {X : Cx} {CX : CXT} {k : Nat} {f : Addr} {fd : FuncData} {ps : List Str} {sp : Sp} {dvs : List V} {ds : List Value} {E : XK} {x : Str} {p pos : Pos} {e : Expr} {es : List Expr} {t : TA}
theorem runG {pins : List (Addr × Obj)} {σ : L2.St} {H : Hp} {s : Shared} {Q : VK} {us : List Value} {vs : List V} (F : FnG X.prog X.w X.K X.mg X.base CX k f fd ps sp) (gd : X.A.guards = some []) (hr : Room k X.A)
    (hb : Binds X.K fd ps ds) (hd : Vals dvs ds) (hx : Passes CX X E) (I : Inv X pins σ H s) (r : Vals vs us) (h : sp (vs ++ dvs) H Q E) :
    wpAny (model X.prog X.w) X.A (call (.ref f) us) (EP X pins σ Q) X.xe s := by
  have r2 := r.append hd
  have hl : (us ++ ds).length = ps.length := r2.length.symm.trans (F.len _ _ _ _ h)
  refine wpAny_call (codeAny_mono (F.go X.A gd X.stack s H ⟨us, []⟩ _ _ Q E hr I.env0 (hb s us I.kIn hl) r2 h) ?_)
  intro r s' hq
  match r, hq with
  | .error e, hq => exact hx pins σ H s e s' I hq
  | .ok (.ret u), hq => exact I.after hq
  | .ok .next, hq => exact False.elim hq
  | .ok .brk, hq => exact False.elim hq
  | .ok .cont, hq => exact False.elim hq
/-- f(e, ..), f a def that may show things -/
theorem pe_callG (F : FnG X.prog X.w X.K X.mg X.base CX k f fd ps sp) (gd : X.A.guards = some []) (hr : Room k X.A) (hg : Gl X x) (hm : X.mg x = some (.ref f)) (hk : PySem.W.keepIn X.K (.ref f) = true)
    (hb : Binds X.K fd ps ds) (hd : Vals dvs ds) (hx : Passes CX X E) (ha : PA X (e :: es) t) (hdb : (x == ("__debug__" : Str)) = false := by decide)
    (he : starEach (e :: es) X.env = (false, eval e X.env) :: starEach es X.env := by rfl) (hpl : (backTo pos (starEach es X.env)).any (·.1) = false := by rfl) :
    PE X (.Call (.Name x p) (e :: es) [] pos) (tCall sp dvs E t) :=
  ⟨fun pins s σ H Q I h => wpAny_Call_Name_kw (ld_glob I hg hm (PySem.W.callWith_K (h₀ := X.base) I.ok.mod.kin hk
    (thn (ha.run pos pins s σ H _ I h) fun us s1 ⟨vs, H1, I1, r, q⟩ => ⟨I1.kIn, runG F gd hr hb hd hx I1 r q⟩) he hpl) hdb)⟩
end

section
variable {P : Program} {w : World} {K : PySem.W.Frag} {mg : Str → Option Value} {base : Heap}
/-- a def by its body, where no repr is under way -/
theorem okG {x qual : Str} {st : Stmt} {f : Addr} {fd : FuncData} {N ps : List Str} {k : Nat} {sp : Sp} (F : Fun K x qual st f fd) (S : FnScope N ps (defScope st)) (len : ∀ vs H Q E, sp vs H Q E → vs.length = ps.length)
    (hbody : ∀ (cdv : Value) (A : Around) (outer : List Env) (s : Shared) (H : Hp) (vs : List V) (Q : VK) (E : XK), (A.deeper (envOfC qual (defScope st) s.heap.objs.size f cdv)).guards = some [] →
      Room k (A.deeper (envOfC qual (defScope st) s.heap.objs.size f cdv)) → sp vs H Q E →
      ∃ t, PSs (cxOf CX0 P w K mg base N qual (defScope st) f cdv A outer s H E).nox (defBody st) t ∧ t { nx := fun _ H' => Q .non H', rt := Q } (start N vs) H) :
    FnG P w K mg base CX0 (k + 1) f fd ps sp := by
  obtain ⟨oc, od, kV, doc, pm, an, cdv, ct, osl, rfl, lk, hcd⟩ := F.ex
  refine ⟨len, ?_⟩
  intro A gd outer s H args us vs Q E hr e0 hb r hsp
  -- the promise, at this one entry alone: the rule for a def is asked for it
  let sp1 : Sp := fun vs' H' Q' E' => vs' = vs ∧ H' = H ∧ Q' = Q ∧ E' = E ∧ sp vs H Q E
  have KX : K.In s.heap := e0.mod.kin.keeps fun b o e => (e0.bs b o e).1
  have lim : s.heap.NoLimit := e0.mod.nolimit.keeps fun b o e => (e0.bs b o e).1
  have hl := len _ _ _ _ hsp
  have hkind : ∀ y ∈ ps.zip us, (defScope st).names.lookup y.1 = some .local ∨
      ((defScope st).names.lookup y.1 = some .cell ∧ ((cellsFrom (s.heap.objs.size + 1) (defScope st).names []).lookup y.1).isSome = true) := by
    rintro ⟨n, v⟩ hy
    exact (S.par n (List.of_mem_zip hy).1).elim .inl fun q => .inr ⟨q, PySem.W.cellsFrom_some _ _ _ (.inl q)⟩
  refine codeAny_call_function hr.depth (KX _ _ lk) rfl S.co S.gen rfl (PySem.W.codeRec_of KX hcd) (hb _ _ _ _ (wpAny_newFunctionEnv_cells S.kind hkind ?_))
  rintro env rfl s1 x
  refine ⟨lim.keeps x.toInCall.keep, codeAny_func ?_⟩
  obtain ⟨t, h0, hq⟩ := hbody cdv A outer s H vs Q E gd (hr.deeper _) hsp
  have ht := h0.nox
  have I := inv_start (CX := CX0) (E := E) S hr.hd e0 hl r x
  refine wpAny_mono (ht.run [] s1 (start N vs) H _ I hq) ?_ (fun e s' hs => hs)
  intro fl s' hs
  match fl, hs with
  | .ret u, ⟨v, σ', H', J, rv, q⟩ => exact ⟨v, H', J.os, J.bare, J.base, J.hok, rv, q⟩
  | .next, ⟨σ', H', J, q⟩ => exact ⟨V.non, H', J.os, J.bare, J.base, J.hok, rfl, q⟩
  | .brk, ⟨_, _, _, q⟩ => exact False.elim q
  | .cont, ⟨_, _, _, q⟩ => exact False.elim q
end

/-- the call of the law itself: H tracks at most the script, frozen -/
theorem callG {P : Program} {w : World} {K : PySem.W.Frag} {mg mb : Str → Option Value} {k : Nat} {fa a : Addr} {fd : FuncData} {x : Str} {sp : Sp} {s₁ : Shared} {vs : List Value} {H : Hp}
    (KX : K.In s₁.heap) (hns : s₁.heap.Ns mainGlobals mg) (hb : s₁.heap.Ns builtinsNs mb) (hbb : ∀ x : Str, x ≠ "__name__" → mb x = bootBuiltins x) (hlim : s₁.heap.NoLimit) (hg : s₁.gens = #[])
    (ha : s₁.heap.get? a = some { cls := .type "list", data := .seq vs.toArray }) (hr : Room k callerA) (F : ∀ base : Heap, K.In base → base.Ns mainGlobals mg → FnG P w K mg base CX0 k fa fd [x] sp)
    (hbind : ∀ (s : Shared) (u : Value), BindsTo s fd ⟨[u], []⟩ [(x, u)]) (hsp : sp [.ref a] H (fun v _ => v = .bl true) fun _ _ _ => False)
    (hok : HOk P w H s₁.heap) (hA : ∀ b u, H b = some u → b = a ∧ K.lookup a = none ∧ ∃ o xs, u = .frz o (.lst xs)) :
    codeAny (model P w) callerA (.call (.ref fa) ⟨[.ref a], []⟩) (fun r s' => r = .ok (.ret (.bool true)) ∧ OldK s₁.heap s'.heap ∧ s'.os = s₁.os ∧ AllBare s'.gens) s₁ := by
  have only : ∀ {b : Addr}, b ≠ a → H b = none := fun {b} ne => match q : H b with
    | none => rfl
    | some u => absurd (hA b u q).1 ne
  have names : ∀ {b : Addr} {m : Str → Option Value}, s₁.heap.Ns b m → (hidT s₁.heap H).Ns b m := by
    rintro b m ⟨o, es, ep, e, d, rest⟩
    refine ⟨o, es, ep, hidT_get e (only ?_), d, rest⟩
    rintro rfl
    rw [ha] at e
    cases e
    exact nomatch d
  have kin : K.In (hidT s₁.heap H) := fun b o e => hidT_get (KX b o e) (match q : H b with
    | none => rfl
    | some u => by
      obtain ⟨z, no, _⟩ := hA b u q
      rw [z, no] at e
      cases e)
  have env : Env0 P w K mg (hidT s₁.heap H) callerA [] s₁ H :=
    { frames := rfl, mod := ⟨kin, names hns, ⟨mb, names hb, hbb⟩, hlim.elim fun mc h => ⟨mc, names h.1, h.2⟩⟩, bs := fun b o e => of_hidT e, bsz := Nat.le_of_eq (hidT_size _ _), funs := trivial,
      frf := fun b hb => absurd (show b ∈ ([] : List Addr) from hb) List.not_mem_nil, hok := hok, bare := .of_eq hg }
  refine codeAny_mono ((F _ kin (names hns)).go callerA rfl [] s₁ H ⟨[.ref a], []⟩ [.ref a] [.ref a] _ _ hr env (hbind s₁ (.ref a)) (.cons rfl .nil) hsp) ?_
  intro r s' h
  match r, h with
  | .error e, h => exact h.elim
  | .ok .next, h => exact h.elim
  | .ok .brk, h => exact h.elim
  | .ok .cont, h => exact h.elim
  | .ok (.ret u), ⟨v, H', os, bare, un, hok', r', q⟩ =>
    obtain rfl : v = .bl true := q
    obtain rfl : u = Value.bool true := r'
    refine ⟨rfl, OldK.of_keep fun b o e => ?_, os, bare⟩
    cases q : H b with
    | none => exact un.keep b o e q (fun z => absurd (show b ∈ ([] : List Addr) from z) List.not_mem_nil) List.not_mem_nil
    | some u =>
      obtain ⟨_, _, ob, xs, rfl⟩ := hA b u q
      have e1 := (hok b _ q).1
      rw [e] at e1
      cases e1
      exact (hok' b _ (un.frzs b o _ q)).1

theorem walkG {l : PySem.W.OpenLaw} {n k : Nat} {q : Program} {loose : List Str} {XP : (Str → Option Value) → Heap → Prop} {YP : World → Heap → Prop} {d : DefRec} {K : Params → PySem.W.Frag} {sp : PySem.W.Frag → Sp} {x : Str}
    (hn : l.most = some n) (hn2 : n ≤ sizeLine) (hdf : d.params.defaults = []) (hr : Room k callerA) (hY : ∀ (w : World) (h : Heap), YP w h → (K w.params).In h)
    (F : ∀ (w : World) (mg : Str → Option Value) (fa : Addr) (h : Heap), (K w.params).In h → h.Ns mainGlobals mg → mg d.name = some (.ref fa) →
      ∃ fd : FuncData, (∀ (s : Shared) (u : Value), BindsTo s fd ⟨[u], []⟩ [(x, u)]) ∧
        ∀ base : Heap, (K w.params).In base → base.Ns mainGlobals mg → FnG l.prog w (K w.params) mg base CX0 k fa fd [x] (sp (K w.params)))
    (hsp : ∀ (K : PySem.W.Frag) (H : Hp) (a : Addr) (ns : List Int), ns.length ≤ n → SqL K H a (ns.map V.int) → sp K [.ref a] H (fun v _ => v = .bl true) fun _ _ _ => False) :
    PySem.W.WalkO q loose XP YP l.row.toRowW d [] (fun f vs => PySem.call f vs) := by
  refine Att.attach_call hn hdf ?_
  intro w s₀ s₁ mg mb fa o pm cd doc a vs ns G Y ho hd hcd hmg hobj hints hlen hg
  have KX := hY w _ Y
  obtain ⟨fd, hb, hF⟩ := F w mg fa _ KX G.T.g hmg
  have rv := vals_ints hints
  have lenV := hints.length
  have hz : ns.length ≤ sizeLine := Nat.le_trans hlen hn2
  cases hk : (K w.params).lookup a with
  | some ob =>
    have e := KX a ob hk
    rw [hobj] at e
    cases e
    refine callG (H := fun _ => none) KX G.T.g G.T.b G.T.builtins G.T.nolimit hg hobj hr hF hb (hsp _ _ a ns hlen (.inr ⟨_, vs.toArray, _, hk, rfl, rfl, rfl, ?_, ?_⟩)) (fun b u z => nomatch z) (fun b u z => nomatch z)
    · rw [List.size_toArray, lenV]
      exact hz
    · simpa using rv
  | none =>
    let o₀ : Obj := { cls := .type "list", data := .seq vs.toArray }
    have at_a : ∀ {b : Addr} {u : HO}, (if b = a then some (HO.frz o₀ (.lst (ns.map V.int))) else none) = some u → b = a ∧ u = .frz o₀ (.lst (ns.map V.int)) := by
      intro b u z
      by_cases hb : b = a
      · rw [if_pos hb] at z
        exact ⟨hb, (Option.some.inj z).symm⟩
      · rw [if_neg hb] at z
        cases z
    refine callG (H := fun b => if b = a then some (.frz o₀ (.lst (ns.map V.int))) else none) KX G.T.g G.T.b G.T.builtins G.T.nolimit hg hobj hr hF hb (hsp _ _ a ns hlen (.inl (.inr ⟨o₀, if_pos rfl⟩))) ?_ ?_
    · intro b u z
      obtain ⟨rfl, rfl⟩ := at_a z
      refine ⟨hobj, ?_, vs, _, rv, hobj⟩
      rw [List.length_map]
      exact hz
    · intro b u z
      obtain ⟨e1, rfl⟩ := at_a z
      exact ⟨e1, hk, _, _, rfl⟩

/-! ### repr of data -/
section
variable {X : Cx}
def rShow (K : PySem.W.Frag) : List V → Hp → VK → Prop := fun xs H Q => ∃ (v : V) (d : PyData), xs = [v] ∧ Dp K H v d ∧ d.showable = true ∧ d.hasDict = false ∧ d.depth ≤ 60 ∧ d.shown.length ≤ sizeLine ∧ Q (.str d.shown) H
theorem call_show {k : Nat} (gd : X.A.guards = some []) (hr : Room k X.A) : CallR X (.builtin "repr") (rShow X.K) := by
  intro pins s σ H xs us Q I r h
  obtain ⟨v, d, rfl, hd, hs, hn, hp, hz, q⟩ := h
  obtain ⟨u, rfl, ru⟩ := vals1 r
  have hu := hr.units
  have big : ∀ {a : Addr}, u = Value.ref a → wpAny (model X.prog X.w) X.A (call (.builtin "repr") [u]) (EP X pins σ Q) X.xe s := by
    rintro a rfl
    obtain ⟨as, rd⟩ := Dp.reads I d _ _ hd ru
    exact repr_of_reads' rd hs (PyData.noDict_hsm hn) gd (by omega) (fun _ _ e => e) (fun h' u tk hk => ⟨.str d.shown, H, I.kept hk, ⟨u, rfl⟩, q⟩) hz
  cases hd with
  | non =>
    cases ru
    exact PySem.P.repr_of_none ⟨.str _, H, I.tok _, ⟨_, rfl⟩, q⟩
  | bl b =>
    cases ru
    exact PySem.P.repr_of_bool ⟨.str _, H, I.tok _, ⟨_, rfl⟩, by cases b <;> exact q⟩
  | int i =>
    obtain ⟨t, rfl⟩ := ru
    exact PySem.P.repr_of_int (of_decide_eq_true hs) ⟨.str _, H, I.tok _, ⟨_, rfl⟩, q⟩
  | str x =>
    obtain ⟨t, rfl⟩ := ru
    exact PySem.P.repr_of_str ⟨.str _, H, I.tok _, ⟨_, rfl⟩, q⟩ hz
  | lst a b => exact big ru
  | tup a b => exact big ru
/-- two rules for one call -/
theorem callR_or {f : Value} {r1 r2 : List V → Hp → VK → Prop} (h1 : CallR X f r1) (h2 : CallR X f r2) : CallR X f (fun xs H Q => r1 xs H Q ∨ r2 xs H Q) := by
  intro pins s σ H xs us Q I r h
  exact h.elim (h1 pins s σ H xs us Q I r) (h2 pins s σ H xs us Q I r)
theorem opR_or {f : Value → Value → Sem Value} {r1 r2 : R2} (h1 : OpR X f r1) (h2 : OpR X f r2) : OpR X f (fun x y H Q => r1 x y H Q ∨ r2 x y H Q) := by
  intro pins s σ H x y v u Q I rx ry h
  exact h.elim (h1 pins s σ H x y v u Q I rx ry) (h2 pins s σ H x y v u Q I rx ry)
end
theorem tmul_one (l : Addr) (items : Array Value) (n : Nat) (dd : Option Addr) (sl : Array (Option Value)) (u : Tok) :
    Meets (Builtin.«tuple.__mul__» ⟨[.ref l, .int 1 u], []⟩) (fun _ R s => s.heap.get? l = some { cls := .type "tuple", dict := dd, data := .seq items n, slots := sl } ∧ R (.ok (.ret (Value.ref l))) s) :=
  .of_wp fun prog w A R s h => by
    obtain ⟨hp, g, d, tk, os⟩ := s
    obtain ⟨hl, h⟩ := h
    have f1 := AutoSeq1.idx_int
    have c1 : (items.isEmpty || (1 : Int) == 1) = true := by simp
    wp_walk using wpAny_loadPart' hl
    exact ⟨_, rfl, h⟩
theorem tmul_none (l : Addr) (items : Array Value) (n : Nat) (dd : Option Addr) (sl : Array (Option Value)) (u : Tok) (hi : items.isEmpty = false) :
    Meets (Builtin.«tuple.__mul__» ⟨[.ref l, .int 0 u], []⟩) (fun _ R s => s.heap.get? l = some { cls := .type "tuple", dict := dd, data := .seq items n, slots := sl } ∧
      R (.ok (.ret (Value.ref s.heap.objs.size))) { s with heap := s.heap.push { cls := Value.type "tuple", data := Data.seq #[] }, toks := s.toks }) :=
  .of_wp fun prog w A R s h => by
    obtain ⟨hp, g, d, tk, os⟩ := s
    obtain ⟨hl, h⟩ := h
    have f1 := AutoSeq1.idx_int
    have c1 : (items.isEmpty || (0 : Int) == 1) = false := by rw [hi]; rfl
    have c2 : (decide ((0 : Int) ≤ 0) || items.isEmpty) = true := rfl
    wp_walk using wpAny_loadPart' hl
    exact ⟨_, rfl, h⟩
section
variable {X : Cx}
/-- t * 0, t * 1, t a tuple that is not empty -/
def rMul01 (K : PySem.W.Frag) : R2 := fun x y H Q => ∃ l k xs, x = .ref l ∧ y = .int k ∧ SqT K H l xs ∧ xs ≠ [] ∧ ((k = 1 ∧ Q (.ref l) H) ∨ (k = 0 ∧ ∀ p, H p = none → Q (.ref p) (upd H p (.tup []))))
theorem op_mul01 : OpR X (binaryOp .Mult) (rMul01 X.K) := by
  intro pins s σ H x y v u Q I rx ry h
  obtain ⟨l, k, xs, rfl, rfl, hT, hne, h⟩ := h
  cases rx
  obtain ⟨t, rfl⟩ := ry
  obtain ⟨its, r, ⟨⟨cls, dd, data, sl⟩, ho, hc, n, hd⟩, hs⟩ := I.tuple hT
  simp only at hc hd
  subst hc hd
  have hle := r.length
  have hi : its.toArray.isEmpty = false := by
    cases its with
    | nil => exact absurd (List.eq_nil_of_length_eq_zero hle) hne
    | cons a b => rfl
  rcases h with ⟨rfl, q⟩ | ⟨rfl, q⟩
  · refine wpAny_binaryOp_repeat_ref (T := "tuple") (U := "int") (by decide) ⟨_, ho, rfl⟩ (fun s' => typeIs_int s' 1 t) noFill_tuple_mul F.fills_int_mul F.slot_int_rmul repeat_tuple F.slot_int_index.lookup
      (call_meets F.slot_int_rmul (typeIs_int s 1 t) F.entry_int_rmul (F.args_int_rmul_2 _ _) (int_rmul_tuple 1 t l its.toArray n dd sl)
        ⟨ho, rfl, ⟨_, ho, rfl⟩, call_meets F.slot_tuple_mul ⟨_, ho, rfl⟩ F.entry_tuple_mul (F.args_tuple_mul_2 _ _) (tmul_one l its.toArray n dd sl t) ⟨ho, ?_⟩⟩)
    exact ⟨.ref l, H, I, rfl, q⟩
  · refine wpAny_binaryOp_repeat_ref (T := "tuple") (U := "int") (by decide) ⟨_, ho, rfl⟩ (fun s' => typeIs_int s' 0 t) noFill_tuple_mul F.fills_int_mul F.slot_int_rmul repeat_tuple F.slot_int_index.lookup
      (call_meets F.slot_int_rmul (typeIs_int s 0 t) F.entry_int_rmul (F.args_int_rmul_2 _ _) (int_rmul_tuple 0 t l its.toArray n dd sl)
        ⟨ho, rfl, ⟨_, ho, rfl⟩, call_meets F.slot_tuple_mul ⟨_, ho, rfl⟩ F.entry_tuple_mul (F.args_tuple_mul_2 _ _) (tmul_none l its.toArray n dd sl t hi) ⟨ho, ?_⟩⟩)
    exact ⟨.ref s.heap.objs.size, _, I.laid (t' := s.toks) (o := .tup []) (fun b ob e => Heap.get?_push_of_some _ e) (Nat.le_refl _) ⟨Nat.zero_le _, [], .nil, IsTup.new _ _⟩, rfl, q _ (I.hok.fresh (Nat.le_refl _))⟩
end
section
variable {X : Cx} {CX : CXT} {k : Nat} {f : Addr} {fd : FuncData} {ps ks : List Str} {sp : Sp} {E : XK} {x : Str} {p pos : Pos} {kws : List Keyword} {tk : TA} {g : List Value → List Value → List Value} {gV : List V → List V → List V}
/-- f(k = v, ..): keywords alone -/
theorem pe_callK0 (F : FnOk X.prog X.w X.K X.mg X.base CX k f fd ps sp) (hr : Room k X.A) (hg : Gl X x) (hm : X.mg x = some (.ref f)) (hk : PySem.W.keepIn X.K (.ref f) = true) (hb : KBinds X.K fd ps ks g gV) (hx : Passes CX X E)
    (hkw : PK X kws tk) (hall : (backToKw pos (keywordEach kws X.env)).all (·.1.isSome) = true := by rfl) (hks : (backToKw pos (keywordEach kws X.env)).filterMap (·.1) = ks := by rfl)
    (hdb : (x == ("__debug__" : Str)) = false := by decide) (hpl : ((backTo pos (starEach [] X.env)).any (·.1) || (backToKw pos (keywordEach kws X.env)).any (·.1.isNone)) = false := by rfl) :
    PE X (.Call (.Name x p) [] kws pos) (tCallK sp gV E tNil tk) := by
  refine ⟨fun pins s σ H Q I h => wpAny_Call_Name_kw (ld_glob I hg hm ?_ hdb)⟩
  refine PySem.W.callWith_KW0 (h₀ := X.base) I.ok.mod.kin hk hall (thn (hkw.run pos pins s σ H _ I h) ?_) hpl
  rintro ws s2 ⟨zs, H2, I2, rz, q2⟩
  refine ⟨I2.kIn, ?_⟩
  rw [hks]
  exact run_fnk (us := []) (vs := []) F hr hb hx I2 .nil rz q2
/-- one parameter, given by place or by name -/
theorem kb_one {K : PySem.W.Frag} {fd : FuncData} {y : Str} (h1 : ∀ u : Value, bindArgs fd ⟨[u], []⟩ = pure [(y, u)]) (h2 : ∀ u : Value, bindArgs fd ⟨[], [(y, u)]⟩ = pure [(y, u)]) :
    KBinds K fd [y] [y] (fun us ws => us ++ ws) (fun vs zs => vs ++ zs) where
  to := fun s us ws _ hl => match us, ws, hl with
    | [], [_], _ => .of_eq (h2 _)
    | [_], [], _ => .of_eq (h1 _)
    | [], [], hl => nomatch hl
  rel := fun r1 r2 => r1.append r2
end
end Gd
namespace K71
open PySem PySem.Spec PyProof.Rows L2
def names : List Str := ["a", "b", "z", "ab", "zzzzzz", "yes", "no", "other", "none"]
mutual
def plain : PyData → Bool
  | .int i => decide (-1000 < i ∧ i < 1000)
  | .str x => decide (x ∈ names)
  | .tuple xs => plainAll xs
  | _ => false
def plainAll : List PyData → Bool
  | [] => true
  | x :: r => plain x && plainAll r
end
mutual
def wt : PyData → Nat
  | .tuple xs => 1 + wtAll xs
  | _ => 1
def wtAll : List PyData → Nat
  | [] => 0
  | x :: r => wt x + wtAll r
end
mutual
def noList : PyData → Bool
  | .list _ => false
  | .dict _ => false
  | .tuple xs => noListAll xs
  | _ => true
def noListAll : List PyData → Bool
  | [] => true
  | x :: r => noList x && noListAll r
end
mutual
theorem plain_noList : ∀ d : PyData, plain d = true → noList d = true
  | .none, h => rfl
  | .bool b, h => rfl
  | .int i, h => rfl
  | .str x, h => rfl
  | .list xs, h => by simp [plain] at h
  | .dict xs, h => by simp [plain] at h
  | .tuple xs, h => by
    show noListAll xs = true
    exact plain_noListAll xs h
theorem plain_noListAll : ∀ ds : List PyData, plainAll ds = true → noListAll ds = true
  | [], _ => rfl
  | x :: r, h => by
    have h' : (plain x && plainAll r) = true := h
    rw [Bool.and_eq_true] at h'
    show (noList x && noListAll r) = true
    rw [plain_noList x h'.1, plain_noListAll r h'.2]
    rfl
end
/-- the tuples stay -/
def Tups (H H' : Hp) : Prop := ∀ b xs, H b = some (.tup xs) → H' b = some (.tup xs)
theorem Tups.new {H : Hp} {p : Addr} {o : HO} (h : H p = none) : Tups H (upd H p o) := fun b xs e => by
  rw [upd_ne (ne_of_none e h)]
  exact e
theorem Tups.trans {H H1 H2 : Hp} (h : Tups H H1) (h' : Tups H1 H2) : Tups H H2 := fun b xs e => h' b xs (h b xs e)
theorem Tups.of_same {H H' : Hp} (h : Same H H') : Tups H H' := fun b xs e => h b _ e
/-- a tuple that is tracked, or stands in the written part -/
def TupAt (K : PySem.W.Frag) (H : Hp) (a : Addr) (xs : List V) : Prop := H a = some (.tup xs) ∨ SqT K (fun _ => none) a xs
mutual
/-- data of tuples: it stays while tuples stay -/
inductive Tp (H : Hp) : V → PyData → Prop
  | non : Tp H .non .none
  | bl (b : Bool) : Tp H (.bl b) (.bool b)
  | int (i : Int) : Tp H (.int i) (.int i)
  | str (x : Str) : Tp H (.str x) (.str x)
  | tup {a : Addr} {xs : List V} {ds : List PyData} : H a = some (.tup xs) → TpAll H xs ds → Tp H (.ref a) (.tuple ds)
inductive TpAll (H : Hp) : List V → List PyData → Prop
  | nil : TpAll H [] []
  | cons {v : V} {vs : List V} {d : PyData} {ds : List PyData} : Tp H v d → TpAll H vs ds → TpAll H (v :: vs) (d :: ds)
end
mutual
theorem Tp.keep {H H' : Hp} (t : Tups H H') : ∀ {v : V} {d : PyData}, Tp H v d → Tp H' v d
  | _, _, .non => .non
  | _, _, .bl b => .bl b
  | _, _, .int i => .int i
  | _, _, .str x => .str x
  | _, _, .tup h r => .tup (t _ _ h) (TpAll.keep t r)
theorem TpAll.keep {H H' : Hp} (t : Tups H H') : ∀ {vs : List V} {ds : List PyData}, TpAll H vs ds → TpAll H' vs ds
  | _, _, .nil => .nil
  | _, _, .cons h r => .cons (Tp.keep t h) (TpAll.keep t r)
end
mutual
theorem Tp.dp {K : PySem.W.Frag} {H : Hp} : ∀ {v : V} {d : PyData}, Tp H v d → Dp K H v d
  | _, _, .non => .non
  | _, _, .bl b => .bl b
  | _, _, .int i => .int i
  | _, _, .str x => .str x
  | _, _, .tup h r => .tup (SqT.of h) (TpAll.dp r)
theorem TpAll.dp {K : PySem.W.Frag} {H : Hp} : ∀ {vs : List V} {ds : List PyData}, TpAll H vs ds → DpAll K H vs ds
  | _, _, .nil => .nil
  | _, _, .cons h r => .cons (Tp.dp h) (TpAll.dp r)
end
theorem tpInts {H : Hp} : ∀ ns : List Int, TpAll H (ns.map V.int) (ns.map PyData.int)
  | [] => .nil
  | n :: r => .cons (.int n) (tpInts r)
theorem TpAll.app {H : Hp} {v : V} {d : PyData} (h : Tp H v d) : ∀ {vs : List V} {ds : List PyData}, TpAll H vs ds → TpAll H (vs ++ [v]) (ds ++ [d])
  | _, _, .nil => .cons h .nil
  | _, _, .cons a b => .cons a (b.app h)
theorem TpAll.length {H : Hp} : ∀ {vs : List V} {ds : List PyData}, TpAll H vs ds → vs.length = ds.length
  | _, _, .nil => rfl
  | _, _, .cons a b => congrArg (· + 1) b.length
theorem plainAll_app (d : PyData) : ∀ ds : List PyData, plainAll (ds ++ [d]) = (plainAll ds && plain d)
  | [] => by
    show (plain d && true) = (true && plain d)
    cases plain d <;> rfl
  | x :: r => by
    show (plain x && plainAll (r ++ [d])) = ((plain x && plainAll r) && plain d)
    rw [plainAll_app d r, Bool.and_assoc]
theorem wtAll_app (d : PyData) : ∀ ds : List PyData, wtAll (ds ++ [d]) = wtAll ds + wt d
  | [] => by
    show wt d + 0 = 0 + wt d
    omega
  | x :: r => by
    show wt x + wtAll (r ++ [d]) = (wt x + wtAll r) + wt d
    rw [wtAll_app d r]
    omega
end K71
namespace K71
open PySem PySem.Spec PyProof.Rows L2
mutual
/-- an item's text -/
def txt : PyData → Str
  | .none => "none"
  | .bool b => if b then "yes" else "no"
  | .int i => toString i
  | .str x => x
  | .tuple xs => ("[" : Str) ++ Str.join " " (txtAll xs) ++ ("]" : Str)
  | _ => ""
def txtAll : List PyData → List Str
  | [] => []
  | x :: r => txt x :: txtAll r
end
mutual
def tx : PyData → List Nat
  | .none => TL.tl "none"
  | .bool b => TL.tl (if b then "yes" else "no" : Str)
  | .int i => TL.tl (Str.ofString (toString i))
  | .str x => TL.tl x
  | .tuple xs => 91 :: (TL.joinL [32] (txAll xs) ++ [93])
  | _ => []
def txAll : List PyData → List (List Nat)
  | [] => []
  | x :: r => tx x :: txAll r
end
mutual
theorem tl_txt : ∀ d : PyData, TL.tl (txt d) = tx d
  | .none => rfl
  | .bool b => by cases b <;> rfl
  | .int i => rfl
  | .str x => rfl
  | .list xs => rfl
  | .dict xs => rfl
  | .tuple xs => by
    show TL.tl (("[" : Str) ++ Str.join " " (txtAll xs) ++ ("]" : Str)) = 91 :: (TL.joinL [32] (txAll xs) ++ [93])
    rw [TL.tl_append, TL.tl_append, TL.tl_join, tl_txtAll xs]
    rfl
theorem tl_txtAll : ∀ ds : List PyData, (txtAll ds).map TL.tl = txAll ds
  | [] => rfl
  | x :: r => by
    show TL.tl (txt x) :: (txtAll r).map TL.tl = tx x :: txAll r
    rw [tl_txt x, tl_txtAll r]
end
/-! leaves -/
def decI : List Nat → Int
  | [] => 0
  | c :: r => if c = 45 then -(r.foldl (fun (t : Int) (c : Nat) => t * 10 + ((c : Int) - 48)) 0) else (c :: r).foldl (fun (t : Int) (c : Nat) => t * 10 + ((c : Int) - 48)) 0
/-- a leaf's text: not empty, no sign of the brackets, short; num: it begins with no letter -/
def leafC (num : Bool) (l : List Nat) : Bool := l.all (fun c => c != 32 && c != 91 && c != 93) && decide (l.length ≤ 6) && (match l with
  | [] => false
  | c :: _ => decide (c < 97) == num)
def chkI (i : Int) : Bool := leafC true (TL.tl (Str.ofString (toString i))) && decide (decI (TL.tl (Str.ofString (toString i))) = i)
theorem int_all : (List.range 1999).all (fun k => chkI ((k : Int) - 999)) = true := by decide +kernel
theorem int_leaf {i : Int} (h1 : -1000 < i) (h2 : i < 1000) : leafC true (tx (.int i)) = true ∧ decI (tx (.int i)) = i := by
  have h := List.all_eq_true.mp int_all (i + 999).toNat (List.mem_range.mpr (by omega))
  rw [show (((i + 999).toNat : Nat) : Int) - 999 = i by omega] at h
  have h' : (leafC true (TL.tl (Str.ofString (toString i))) && decide (decI (TL.tl (Str.ofString (toString i))) = i)) = true := h
  rw [Bool.and_eq_true, decide_eq_true_eq] at h'
  exact h'
theorem name_all : names.all (fun x => leafC false (TL.tl x)) = true := by decide +kernel
theorem name_leaf {x : Str} (h : x ∈ names) : leafC false (tx (.str x)) = true := List.all_eq_true.mp name_all x h
/-- what may stand behind a part -/
def behind : List Nat → Prop
  | [] => True
  | c :: _ => c = 32 ∨ c = 93
theorem leaf_cut : ∀ {l m r s : List Nat}, l.all (fun c => c != 32 && c != 91 && c != 93) = true → m.all (fun c => c != 32 && c != 91 && c != 93) = true → behind r → behind s → l ++ r = m ++ s → l = m ∧ r = s
  | [], [], r, s, _, _, _, _, e => ⟨rfl, e⟩
  | [], c :: m, r, s, _, h2, b1, b2, e => by
    exfalso
    have e' : r = c :: (m ++ s) := e
    rw [e'] at b1
    simp only [List.all_cons, Bool.and_eq_true, bne_iff_ne] at h2
    rcases b1 with z | z
    · exact h2.1.1.1 z
    · exact h2.1.2 z
  | c :: l, [], r, s, h1, _, b1, b2, e => by
    exfalso
    have e' : c :: (l ++ r) = s := e
    rw [← e'] at b2
    simp only [List.all_cons, Bool.and_eq_true, bne_iff_ne] at h1
    rcases b2 with z | z
    · exact h1.1.1.1 z
    · exact h1.1.2 z
  | c :: l, x :: m, r, s, h1, h2, b1, b2, e => by
    have e' : c :: (l ++ r) = x :: (m ++ s) := e
    obtain ⟨rfl, e2⟩ := List.cons.inj e'
    simp only [List.all_cons, Bool.and_eq_true] at h1 h2
    obtain ⟨rfl, rfl⟩ := leaf_cut (by simpa using h1.2) (by simpa using h2.2) b1 b2 e2
    exact ⟨rfl, rfl⟩
theorem leafC_all {n : Bool} {l : List Nat} (h : leafC n l = true) : l.all (fun c => c != 32 && c != 91 && c != 93) = true := by
  unfold leafC at h
  rw [Bool.and_eq_true, Bool.and_eq_true] at h
  exact h.1.1
theorem leafC_len {n : Bool} {l : List Nat} (h : leafC n l = true) : l.length ≤ 6 := by
  unfold leafC at h
  rw [Bool.and_eq_true, Bool.and_eq_true, decide_eq_true_eq] at h
  exact h.1.2
theorem leafC_head {n : Bool} {l : List Nat} (h : leafC n l = true) : ∃ c r, l = c :: r ∧ decide (c < 97) = n ∧ c ≠ 91 ∧ c ≠ 93 := by
  have h0 := leafC_all h
  unfold leafC at h
  rw [Bool.and_eq_true] at h
  cases l with
  | nil => exact nomatch h.2
  | cons c r =>
    simp only [List.all_cons, Bool.and_eq_true, bne_iff_ne] at h0
    exact ⟨c, r, rfl, by simpa using h.2, h0.1.1.2, h0.1.2⟩
theorem plain_int_iff {i : Int} (h : plain (.int i) = true) : -1000 < i ∧ i < 1000 := of_decide_eq_true (show decide (-1000 < i ∧ i < 1000) = true from h)
theorem plain_str_iff {x : Str} (h : plain (.str x) = true) : x ∈ names := of_decide_eq_true (show decide (x ∈ names) = true from h)
/-- a part begins with no closing bracket -/
theorem tx_head : ∀ d : PyData, plain d = true → ∃ c r, tx d = c :: r ∧ c ≠ 93
  | .int i, h => by
    obtain ⟨c, r, e, _, _, h3⟩ := leafC_head (int_leaf (plain_int_iff h).1 (plain_int_iff h).2).1
    exact ⟨c, r, e, h3⟩
  | .str x, h => by
    obtain ⟨c, r, e, _, _, h3⟩ := leafC_head (name_leaf (plain_str_iff h))
    exact ⟨c, r, e, h3⟩
  | .tuple xs, _ => ⟨91, _, rfl, by decide⟩
  | .none, h => nomatch h
  | .bool b, h => nomatch h
  | .list xs, h => nomatch h
  | .dict xs, h => nomatch h
theorem leaf_tuple {n : Bool} {l r s : List Nat} {ds : List PyData} (h : leafC n l = true) (e : l ++ r = tx (.tuple ds) ++ s) : False := by
  obtain ⟨c, q, rfl, _, h2, _⟩ := leafC_head h
  have e' : c :: (q ++ r) = 91 :: ((TL.joinL [32] (txAll ds) ++ [93]) ++ s) := e
  exact h2 (List.cons.inj e').1
theorem leaf_kinds {l m r s : List Nat} (h : leafC true l = true) (h' : leafC false m = true) (e : l ++ r = m ++ s) : False := by
  obtain ⟨c, q, rfl, h1, _, _⟩ := leafC_head h
  obtain ⟨c', q', rfl, h1', _, _⟩ := leafC_head h'
  have e' : c :: (q ++ r) = c' :: (q' ++ s) := e
  rw [(List.cons.inj e').1, h1'] at h1
  cases h1
/-- joined parts and the closing bracket -/
def row (ds : List PyData) (r : List Nat) : List Nat := TL.joinL [32] (txAll ds) ++ (93 :: r)
theorem row_one (d : PyData) (r : List Nat) : row [d] r = tx d ++ (93 :: r) := rfl
theorem row_more (d e : PyData) (ds : List PyData) (r : List Nat) : row (d :: e :: ds) r = tx d ++ (32 :: row (e :: ds) r) := by
  show (tx d ++ ([32] ++ TL.joinL [32] (txAll (e :: ds)))) ++ (93 :: r) = _
  rw [List.append_assoc]
  rfl
theorem tuple_row (ds : List PyData) (r : List Nat) : tx (.tuple ds) ++ r = 91 :: row ds r := by
  show (91 :: (TL.joinL [32] (txAll ds) ++ [93])) ++ r = _
  unfold row
  rw [List.cons_append, List.append_assoc]
  rfl
mutual
theorem tx_inj : ∀ (d e : PyData) (r s : List Nat), plain d = true → plain e = true → behind r → behind s → tx d ++ r = tx e ++ s → d = e ∧ r = s
  | .int i, .int j, r, s, h1, h2, b1, b2, q => by
    have g1 := int_leaf (plain_int_iff h1).1 (plain_int_iff h1).2
    have g2 := int_leaf (plain_int_iff h2).1 (plain_int_iff h2).2
    obtain ⟨e1, e2⟩ := leaf_cut (leafC_all g1.1) (leafC_all g2.1) b1 b2 q
    have e3 : i = j := by rw [← g1.2, ← g2.2, e1]
    exact ⟨by rw [e3], e2⟩
  | .int i, .str y, r, s, h1, h2, b1, b2, q => (leaf_kinds (int_leaf (plain_int_iff h1).1 (plain_int_iff h1).2).1 (name_leaf (plain_str_iff h2)) q).elim
  | .str x, .int j, r, s, h1, h2, b1, b2, q => (leaf_kinds (int_leaf (plain_int_iff h2).1 (plain_int_iff h2).2).1 (name_leaf (plain_str_iff h1)) q.symm).elim
  | .str x, .str y, r, s, h1, h2, b1, b2, q => by
    obtain ⟨e1, e2⟩ := leaf_cut (leafC_all (name_leaf (plain_str_iff h1))) (leafC_all (name_leaf (plain_str_iff h2))) b1 b2 q
    have e3 : x = y := TL.ext_tl e1
    exact ⟨by rw [e3], e2⟩
  | .int i, .tuple ys, r, s, h1, h2, b1, b2, q => (leaf_tuple (int_leaf (plain_int_iff h1).1 (plain_int_iff h1).2).1 q).elim
  | .str x, .tuple ys, r, s, h1, h2, b1, b2, q => (leaf_tuple (name_leaf (plain_str_iff h1)) q).elim
  | .tuple xs, .int j, r, s, h1, h2, b1, b2, q => (leaf_tuple (int_leaf (plain_int_iff h2).1 (plain_int_iff h2).2).1 q.symm).elim
  | .tuple xs, .str y, r, s, h1, h2, b1, b2, q => (leaf_tuple (name_leaf (plain_str_iff h2)) q.symm).elim
  | .tuple xs, .tuple ys, r, s, h1, h2, b1, b2, q => by
    rw [tuple_row, tuple_row] at q
    obtain ⟨e1, e2⟩ := row_inj xs ys r s h1 h2 (List.cons.inj q).2
    exact ⟨by rw [e1], e2⟩
  | .none, _, _, _, h, _, _, _, _ => nomatch h
  | .bool _, _, _, _, h, _, _, _, _ => nomatch h
  | .list _, _, _, _, h, _, _, _, _ => nomatch h
  | .dict _, _, _, _, h, _, _, _, _ => nomatch h
  | _, .none, _, _, _, h, _, _, _ => nomatch h
  | _, .bool _, _, _, _, h, _, _, _ => nomatch h
  | _, .list _, _, _, _, h, _, _, _ => nomatch h
  | _, .dict _, _, _, _, h, _, _, _ => nomatch h
theorem row_inj : ∀ (ds es : List PyData) (r s : List Nat), plainAll ds = true → plainAll es = true → row ds r = row es s → ds = es ∧ r = s
  | [], [], r, s, _, _, q => ⟨rfl, (List.cons.inj q).2⟩
  | [], e :: es, r, s, _, h2, q => by
    exfalso
    have h2' : (plain e && plainAll es) = true := h2
    rw [Bool.and_eq_true] at h2'
    obtain ⟨c, t, ec, hc⟩ := tx_head e h2'.1
    cases es with
    | nil =>
      rw [row_one, ec] at q
      exact hc (List.cons.inj q).1.symm
    | cons f es =>
      rw [row_more, ec] at q
      exact hc (List.cons.inj q).1.symm
  | d :: ds, [], r, s, h1, _, q => by
    exfalso
    have h1' : (plain d && plainAll ds) = true := h1
    rw [Bool.and_eq_true] at h1'
    obtain ⟨c, t, ec, hc⟩ := tx_head d h1'.1
    cases ds with
    | nil =>
      rw [row_one, ec] at q
      exact hc (List.cons.inj q).1
    | cons f ds =>
      rw [row_more, ec] at q
      exact hc (List.cons.inj q).1
  | [d], [e], r, s, h1, h2, q => by
    have h1' : (plain d && true) = true := h1
    have h2' : (plain e && true) = true := h2
    rw [Bool.and_true] at h1' h2'
    rw [row_one, row_one] at q
    obtain ⟨e1, e2⟩ := tx_inj d e (93 :: r) (93 :: s) h1' h2' (.inr rfl) (.inr rfl) q
    exact ⟨by rw [e1], (List.cons.inj e2).2⟩
  | [d], e :: f :: es, r, s, h1, h2, q => by
    have h1' : (plain d && true) = true := h1
    have h2' : (plain e && plainAll (f :: es)) = true := h2
    rw [Bool.and_true] at h1'
    rw [Bool.and_eq_true] at h2'
    rw [row_one, row_more] at q
    obtain ⟨_, e2⟩ := tx_inj d e (93 :: r) (32 :: row (f :: es) s) h1' h2'.1 (.inr rfl) (.inl rfl) q
    exact absurd (List.cons.inj e2).1 (by decide)
  | d :: g :: ds, [e], r, s, h1, h2, q => by
    have h1' : (plain d && plainAll (g :: ds)) = true := h1
    have h2' : (plain e && true) = true := h2
    rw [Bool.and_true] at h2'
    rw [Bool.and_eq_true] at h1'
    rw [row_one, row_more] at q
    obtain ⟨_, e2⟩ := tx_inj d e (32 :: row (g :: ds) r) (93 :: s) h1'.1 h2' (.inl rfl) (.inr rfl) q
    exact absurd (List.cons.inj e2).1 (by decide)
  | d :: g :: ds, e :: f :: es, r, s, h1, h2, q => by
    have h1' : (plain d && plainAll (g :: ds)) = true := h1
    have h2' : (plain e && plainAll (f :: es)) = true := h2
    rw [Bool.and_eq_true] at h1' h2'
    rw [row_more, row_more] at q
    obtain ⟨e1, e2⟩ := tx_inj d e (32 :: row (g :: ds) r) (32 :: row (f :: es) s) h1'.1 h2'.1 (.inl rfl) (.inl rfl) q
    obtain ⟨e3, e4⟩ := row_inj (g :: ds) (f :: es) r s h1'.2 h2'.2 (List.cons.inj e2).2
    exact ⟨by rw [e1, e3], e4⟩
end
end K71
namespace K71
open PySem PySem.Spec PyProof.Rows L2
def itemOk (D : PyData) : Prop := plain D = true ∨ ∃ b, D = .bool b
theorem len_tl (x : Str) : x.length = (TL.tl x).length := by
  show x.cps.size = x.cps.toList.length
  rw [Array.length_toList]
theorem joinL_len (ls : List (List Nat)) : (TL.joinL [32] ls).length ≤ (ls.map (fun l => l.length + 1)).sum := by
  induction ls with
  | nil => exact Nat.zero_le _
  | cons p r ih =>
    cases r with
    | nil =>
      show p.length ≤ p.length + 1 + 0
      omega
    | cons q r =>
      show (p ++ ([32] ++ TL.joinL [32] (q :: r))).length ≤ (p.length + 1) + ((q :: r).map (fun l => l.length + 1)).sum
      rw [List.length_append, List.length_append, List.length_singleton]
      omega
mutual
theorem tx_len : ∀ d : PyData, plain d = true → (tx d).length + 1 ≤ 8 * wt d
  | .int i, h => by
    have := leafC_len (int_leaf (plain_int_iff h).1 (plain_int_iff h).2).1
    show _ ≤ 8 * 1
    omega
  | .str x, h => by
    have := leafC_len (name_leaf (plain_str_iff h))
    show _ ≤ 8 * 1
    omega
  | .tuple xs, h => by
    have h1 := txAll_len xs h
    have h2 := joinL_len (txAll xs)
    show ((91 :: (TL.joinL [32] (txAll xs) ++ [93])).length) + 1 ≤ 8 * (1 + wtAll xs)
    rw [List.length_cons, List.length_append, List.length_singleton]
    omega
  | .none, h => nomatch h
  | .bool b, h => nomatch h
  | .list xs, h => nomatch h
  | .dict xs, h => nomatch h
theorem txAll_len : ∀ ds : List PyData, plainAll ds = true → ((txAll ds).map (fun l => l.length + 1)).sum ≤ 8 * wtAll ds
  | [], _ => Nat.le_refl _
  | x :: r, h => by
    have h' : (plain x && plainAll r) = true := h
    rw [Bool.and_eq_true] at h'
    have h1 := tx_len x h'.1
    have h2 := txAll_len r h'.2
    show (tx x).length + 1 + ((txAll r).map (fun l => l.length + 1)).sum ≤ 8 * (wt x + wtAll r)
    omega
end
theorem txt_len {d : PyData} (h : itemOk d) : (txt d).length + 1 ≤ 8 * wt d := by
  rw [len_tl, tl_txt]
  rcases h with h | ⟨b, rfl⟩
  · exact tx_len d h
  · cases b <;> decide +kernel
theorem txtAll_sum : ∀ ds : List PyData, plainAll ds = true → ((txtAll ds).map (·.length)).sum + (txtAll ds).length ≤ 8 * wtAll ds
  | [], _ => Nat.le_refl _
  | x :: r, h => by
    have h' : (plain x && plainAll r) = true := h
    rw [Bool.and_eq_true] at h'
    have h1 := txt_len (.inl h'.1)
    have h2 := txtAll_sum r h'.2
    show (txt x).length + ((txtAll r).map (·.length)).sum + ((txtAll r).length + 1) ≤ 8 * (wt x + wtAll r)
    omega
theorem log_small {i : Int} (h1 : -1000 < i) (h2 : i < 1000) : i.natAbs.log2 < 1920 := by
  have h : i.natAbs < 1024 := by omega
  rcases Nat.eq_zero_or_pos i.natAbs with e | e
  · rw [e]; decide
  · have := (Nat.log2_lt (by omega : i.natAbs ≠ 0) (k := 10)).mpr (by omega)
    omega
theorem names_codes : names.all (fun x => (TL.tl x).all (fun c => decide (c < 16 ^ 8)) && decide (x.length ≤ 6)) = true := by decide +kernel
theorem name_code {x : Str} (h : x ∈ names) : (∀ c ∈ x.cps.toList, c < 16 ^ 8) ∧ x.length ≤ 6 := by
  have := List.all_eq_true.mp names_codes x h
  rw [Bool.and_eq_true, List.all_eq_true] at this
  exact ⟨fun c hc => of_decide_eq_true (this.1 c hc), of_decide_eq_true this.2⟩
theorem shown_int_len {i : Int} (h1 : -1000 < i) (h2 : i < 1000) : (PyData.shown (.int i)).length ≤ 6 := by
  have := leafC_len (int_leaf h1 h2).1
  rw [len_tl]
  exact this
theorem tupleText_len (ts : List Str) : (tupleText ts).length ≤ piled ts + 3 := by
  have e3 : (((if ts.length == 1 then ",)" else ")" : String) : Str)).length ≤ 2 := by split <;> decide +kernel
  have e1 : ((("(" : String) : Str)).length = 1 := rfl
  unfold tupleText
  rw [strLen_append, strLen_append, e1]
  by_cases h : ts = []
  · subst h
    decide +kernel
  · have := join_length_add ts h
    omega
theorem listText_len (ts : List Str) : (listText ts).length ≤ piled ts + 2 := by
  cases ts with
  | nil => decide +kernel
  | cons t r =>
    show (textFrom 1 (("[" : Str) ++ (if (0 : Nat) > 0 then ", " else "" : String) ++ t) r ++ ("]" : Str)).length ≤ _
    rw [strLen_append, textFrom_length_pos _ _ _ (by decide), strLen_append, strLen_append, piled_cons]
    show 1 + 0 + t.length + piled r + 1 ≤ t.length + 2 + piled r + 2
    omega
mutual
theorem shown_len : ∀ d : PyData, plain d = true → (PyData.shown d).length + 2 ≤ 70 * wt d
  | .int i, h => by
    have := shown_int_len (plain_int_iff h).1 (plain_int_iff h).2
    show _ ≤ 70 * 1
    omega
  | .str x, h => by
    have g := name_code (plain_str_iff h)
    have := StrLaws.reprText_len x g.1
    show (reprText x).length + 2 ≤ 70 * 1
    omega
  | .tuple xs, h => by
    have h1 := shownAll_len xs h
    have h2 := tupleText_len (PyData.shownAll xs)
    show (tupleText (PyData.shownAll xs)).length + 2 ≤ 70 * (1 + wtAll xs)
    omega
  | .none, h => nomatch h
  | .bool b, h => nomatch h
  | .list xs, h => nomatch h
  | .dict xs, h => nomatch h
theorem shownAll_len : ∀ ds : List PyData, plainAll ds = true → piled (PyData.shownAll ds) ≤ 70 * wtAll ds
  | [], _ => Nat.le_refl _
  | x :: r, h => by
    have h' : (plain x && plainAll r) = true := h
    rw [Bool.and_eq_true] at h'
    have h1 := shown_len x h'.1
    have h2 := shownAll_len r h'.2
    show piled (PyData.shown x :: PyData.shownAll r) ≤ 70 * (wt x + wtAll r)
    rw [piled_cons]
    omega
end
theorem names_lay : names.all (fun x => (PyData.str x).canLay0) = true := by decide +kernel
mutual
theorem plain_showable : ∀ d : PyData, plain d = true → d.showable = true ∧ d.hasDict = false ∧ d.depth ≤ wt d ∧ d.canLay0 = true
  | .int i, h => ⟨decide_eq_true (log_small (plain_int_iff h).1 (plain_int_iff h).2), rfl, Nat.zero_le _, rfl⟩
  | .str x, h => ⟨rfl, rfl, Nat.zero_le _, List.all_eq_true.mp names_lay x (plain_str_iff h)⟩
  | .tuple xs, h => by
    obtain ⟨h1, h2, h3, h4⟩ := plainAll_showable xs h
    refine ⟨h1, h2, ?_, h4⟩
    show PyData.depthAll xs + 1 ≤ 1 + wtAll xs
    omega
  | .none, h => nomatch h
  | .bool b, h => nomatch h
  | .list xs, h => nomatch h
  | .dict xs, h => nomatch h
theorem plainAll_showable : ∀ ds : List PyData, plainAll ds = true → PyData.showableAll ds = true ∧ PyData.hasDictAll ds = false ∧ PyData.depthAll ds ≤ wtAll ds ∧ PyData.canLayAll0 ds = true
  | [], _ => ⟨rfl, rfl, Nat.zero_le _, rfl⟩
  | x :: r, h => by
    have h' : (plain x && plainAll r) = true := h
    rw [Bool.and_eq_true] at h'
    obtain ⟨a1, a2, a3, a4⟩ := plain_showable x h'.1
    obtain ⟨b1, b2, b3, b4⟩ := plainAll_showable r h'.2
    refine ⟨?_, ?_, ?_, ?_⟩
    · show (x.showable && PyData.showableAll r) = true
      rw [a1, b1]
      rfl
    · show (x.hasDict || PyData.hasDictAll r) = false
      rw [a2, b2]
      rfl
    · show max x.depth (PyData.depthAll r) ≤ wt x + wtAll r
      omega
    · show (x.canLay0 && PyData.canLayAll0 r) = true
      rw [a4, b4]
      rfl
end
/-- a tuple's text is told apart from every other item's -/
theorem txt_inj {d e : PyData} {ds : List PyData} (hd : d = .tuple ds) (h1 : plain d = true) (h2 : itemOk e) (q : txt d = txt e) : d = e := by
  have q' : tx d ++ [] = tx e ++ [] := by
    rw [← tl_txt, ← tl_txt, q]
  rcases h2 with h2 | ⟨b, rfl⟩
  · exact (tx_inj d e [] [] h1 h2 trivial trivial q').1
  · exfalso
    subst hd
    rw [tuple_row] at q'
    cases b <;> exact absurd (List.cons.inj q').1 (by decide +kernel)
end K71
namespace K71
open PySem PySem.Spec PyProof.Rows L2
def topS (i : Nat) : Stmt := PySem.Challenge.pw_undrawn_k71_answer_texts.main.body.getD i (.Pass ⟨0, 0, 0, 0⟩)
abbrev s_format_item : Stmt := topS 1
theorem sc_format_item : FnScope ["item", "one"] ["item"] (defScope s_format_item) := ⟨rfl, rfl, rfl, by decide +kernel, rfl, by decide +kernel, by decide +kernel⟩
abbrev N_format_item : List Str := ["item", "one"]
abbrev s_format_answer : Stmt := topS 2
theorem sc_format_answer : FnScope ["answer", "selections", "result"] ["answer"] (defScope s_format_answer) := ⟨rfl, rfl, rfl, by decide +kernel, rfl, by decide +kernel, by decide +kernel⟩
abbrev N_format_answer : List Str := ["answer", "selections", "result"]
abbrev s_deck : Stmt := topS 4
theorem sc_deck : FnScope ["_law_script", "_law_cell", "_law_cells", "_law_mix"] ["_law_script"] (defScope s_deck) := ⟨rfl, rfl, rfl, by decide +kernel, rfl, by decide +kernel, by decide +kernel⟩
abbrev N_deck : List Str := ["_law_script", "_law_cell", "_law_cells", "_law_mix"]
abbrev s_draw : Stmt := topS 5
theorem sc_draw : FnScope ["_law_deck_here", "_law_bound", "_law_cell", "_law_mixed"] ["_law_deck_here", "_law_bound"] (defScope s_draw) := ⟨rfl, rfl, rfl, by decide +kernel, rfl, by decide +kernel, by decide +kernel⟩
abbrev N_draw : List Str := ["_law_deck_here", "_law_bound", "_law_cell", "_law_mixed"]
abbrev s_pick : Stmt := topS 6
theorem sc_pick : FnScope ["_law_deck_here", "_law_items"] ["_law_deck_here", "_law_items"] (defScope s_pick) := ⟨rfl, rfl, rfl, by decide +kernel, rfl, by decide +kernel, by decide +kernel⟩
abbrev N_pick : List Str := ["_law_deck_here", "_law_items"]
abbrev s_name : Stmt := topS 7
theorem sc_name : FnScope ["_law_deck_here"] ["_law_deck_here"] (defScope s_name) := ⟨rfl, rfl, rfl, by decide +kernel, rfl, by decide +kernel, by decide +kernel⟩
abbrev N_name : List Str := ["_law_deck_here"]
abbrev s_number : Stmt := topS 8
theorem sc_number : FnScope ["_law_deck_here"] ["_law_deck_here"] (defScope s_number) := ⟨rfl, rfl, rfl, by decide +kernel, rfl, by decide +kernel, by decide +kernel⟩
abbrev N_number : List Str := ["_law_deck_here"]
abbrev s_prefix : Stmt := topS 9
theorem sc_prefix : FnScope ["_law_deck_here", "_law_k"] ["_law_deck_here"] (defScope s_prefix) := ⟨rfl, rfl, rfl, by decide +kernel, rfl, by decide +kernel, by decide +kernel⟩
abbrev N_prefix : List Str := ["_law_deck_here", "_law_k"]
abbrev s_item : Stmt := topS 10
theorem sc_item : FnScope ["_law_deck_here", "_law_way", "_law_steps", "_law_k"] ["_law_deck_here"] (defScope s_item) := ⟨rfl, rfl, rfl, by decide +kernel, rfl, by decide +kernel, by decide +kernel⟩
abbrev N_item : List Str := ["_law_deck_here", "_law_way", "_law_steps", "_law_k"]
abbrev s_text : Stmt := topS 11
theorem sc_text : FnScope ["_law_item_here", "_law_one"] ["_law_item_here"] (defScope s_text) := ⟨rfl, rfl, rfl, by decide +kernel, rfl, by decide +kernel, by decide +kernel⟩
abbrev N_text : List Str := ["_law_item_here", "_law_one"]
abbrev s_law : Stmt := topS 12
theorem sc_law : FnScope ["_law_script", "_law_turn", "_law_deck_here", "_law_texts", "_law_selections", "_law_item_here", "_law_told", "_law_own", "_law_without", "_law_kept", "_law_due", "_law_k"] ["_law_script"] (defScope s_law) := ⟨rfl, rfl, rfl, by decide +kernel, rfl, by decide +kernel, by decide +kernel⟩
abbrev N_law : List Str := ["_law_script", "_law_turn", "_law_deck_here", "_law_texts", "_law_selections", "_law_item_here", "_law_told", "_law_own", "_law_without", "_law_kept", "_law_due", "_law_k"]
structure At where
  f_format_item : Addr
  fd_format_item : FuncData
  f_format_answer : Addr
  fd_format_answer : FuncData
  f_deck : Addr
  fd_deck : FuncData
  f_draw : Addr
  fd_draw : FuncData
  f_pick : Addr
  fd_pick : FuncData
  f_name : Addr
  fd_name : FuncData
  f_number : Addr
  fd_number : FuncData
  f_prefix : Addr
  fd_prefix : FuncData
  f_item : Addr
  fd_item : FuncData
  f_text : Addr
  fd_text : FuncData
  f_law : Addr
  fd_law : FuncData
structure Tx (K : PySem.W.Frag) (mg : Str → Option Value) (a : At) : Prop where
  F_format_item : Fun K "format_item" "format_item" s_format_item a.f_format_item a.fd_format_item
  b_format_item : Binds K a.fd_format_item ["item"] []
  g_format_item : mg "format_item" = some (.ref a.f_format_item)
  F_format_answer : Fun K "format_answer" "format_answer" s_format_answer a.f_format_answer a.fd_format_answer
  b_format_answer : Binds K a.fd_format_answer ["answer"] []
  kb_format_answer : KBinds K a.fd_format_answer ["answer"] ["answer"] (fun us ws => us ++ ws) (fun vs zs => vs ++ zs)
  g_format_answer : mg "format_answer" = some (.ref a.f_format_answer)
  F_deck : Fun K "_law_deck" "_law_deck" s_deck a.f_deck a.fd_deck
  b_deck : Binds K a.fd_deck ["_law_script"] []
  g_deck : mg "_law_deck" = some (.ref a.f_deck)
  F_draw : Fun K "_law_draw" "_law_draw" s_draw a.f_draw a.fd_draw
  b_draw : Binds K a.fd_draw ["_law_deck_here", "_law_bound"] []
  g_draw : mg "_law_draw" = some (.ref a.f_draw)
  F_pick : Fun K "_law_pick" "_law_pick" s_pick a.f_pick a.fd_pick
  b_pick : Binds K a.fd_pick ["_law_deck_here", "_law_items"] []
  g_pick : mg "_law_pick" = some (.ref a.f_pick)
  F_name : Fun K "_law_name" "_law_name" s_name a.f_name a.fd_name
  b_name : Binds K a.fd_name ["_law_deck_here"] []
  g_name : mg "_law_name" = some (.ref a.f_name)
  F_number : Fun K "_law_number" "_law_number" s_number a.f_number a.fd_number
  b_number : Binds K a.fd_number ["_law_deck_here"] []
  g_number : mg "_law_number" = some (.ref a.f_number)
  F_prefix : Fun K "_law_prefix" "_law_prefix" s_prefix a.f_prefix a.fd_prefix
  b_prefix : Binds K a.fd_prefix ["_law_deck_here"] []
  g_prefix : mg "_law_prefix" = some (.ref a.f_prefix)
  F_item : Fun K "_law_item" "_law_item" s_item a.f_item a.fd_item
  b_item : Binds K a.fd_item ["_law_deck_here"] []
  g_item : mg "_law_item" = some (.ref a.f_item)
  F_text : Fun K "_law_text" "_law_text" s_text a.f_text a.fd_text
  b_text : Binds K a.fd_text ["_law_item_here"] []
  g_text : mg "_law_text" = some (.ref a.f_text)
  F_law : Fun K "law" "law" s_law a.f_law a.fd_law
  b_law : Binds K a.fd_law ["_law_script"] []
  g_law : mg "law" = some (.ref a.f_law)
  n_len : mg "len" = none
  n_list : mg "list" = none
  n_tuple : mg "tuple" = none
  n_range : mg "range" = none
  n_isinstance : mg "isinstance" = none
  n_bool : mg "bool" = none
  n_str : mg "str" = none
  n_int : mg "int" = none
  n_repr : mg "repr" = none

/-! ### the deck -/
def Deck (H : Hp) (a c : Addr) (B : Int) : Prop := ∃ (ns : List Int) (m n : Int), H a = some (.lst [.ref c, .int m, .int n]) ∧ H c = some (.lst (ns.map V.int)) ∧ c ≠ a ∧ ns.length ≤ 63 ∧ 0 ≤ m ∧ m < 2147483629 ∧ 0 ≤ n ∧ n ≤ B
def Keeps (a c : Addr) (H H' : Hp) : Prop := ∀ b o, b ≠ a → b ≠ c → H b = some o → H' b = some o
theorem Keeps.refl (a c : Addr) (H : Hp) : Keeps a c H H := fun _ _ _ _ h => h
theorem Keeps.trans {a c : Addr} {H H1 H2 : Hp} (h : Keeps a c H H1) (h' : Keeps a c H1 H2) : Keeps a c H H2 := fun b o n1 n2 e => h' b o n1 n2 (h b o n1 n2 e)
theorem Keeps.new {a c p : Addr} {H H1 : Hp} {o : HO} (h : Keeps a c H H1) (hp : H1 p = none) : Keeps a c H (upd H1 p o) := fun b u n1 n2 e => by
  have q := h b u n1 n2 e
  rw [upd_ne (ne_of_none q hp)]
  exact q
theorem Keeps.updA {a c : Addr} {H H1 : Hp} {o : HO} (h : Keeps a c H H1) : Keeps a c H (upd H1 a o) := fun b u n1 n2 e => by
  rw [upd_ne n1]
  exact h b u n1 n2 e
theorem Keeps.updC {a c : Addr} {H H1 : Hp} {o : HO} (h : Keeps a c H H1) : Keeps a c H (upd H1 c o) := fun b u n1 n2 e => by
  rw [upd_ne n2]
  exact h b u n1 n2 e
theorem Deck.new {H : Hp} {a c p : Addr} {B : Int} {o : HO} (h : Deck H a c B) (hp : H p = none) : Deck (upd H p o) a c B := by
  obtain ⟨ns, m, n, h1, h2, r⟩ := h
  refine ⟨ns, m, n, ?_, ?_, r⟩
  · rw [upd_ne (ne_of_none h1 hp)]
    exact h1
  · rw [upd_ne (ne_of_none h2 hp)]
    exact h2
theorem Deck.le {H : Hp} {a c : Addr} {B B' : Int} (h : Deck H a c B) (hb : B ≤ B') : Deck H a c B' := by
  obtain ⟨ns, m, n, h1, h2, h3, h4, h5, h6, h7, h8⟩ := h
  exact ⟨ns, m, n, h1, h2, h3, h4, h5, h6, h7, by omega⟩

theorem dpInts {K : PySem.W.Frag} {H : Hp} : ∀ ns : List Int, DpAll K H (ns.map V.int) (ns.map PyData.int)
  | [] => .nil
  | n :: r => .cons (.int n) (dpInts r)
theorem lay_ints : ∀ ns : List Int, PyData.canLayAll0 (ns.map PyData.int) = true
  | [] => rfl
  | n :: r => by
    show (PyData.canLay0 (.int n) && PyData.canLayAll0 (r.map PyData.int)) = true
    rw [lay_ints r]
    rfl
theorem depth_ints : ∀ ns : List Int, PyData.depthAll (ns.map PyData.int) ≤ 1
  | [] => by decide
  | n :: r => by
    have := depth_ints r
    show max (PyData.depth (.int n)) (PyData.depthAll (r.map PyData.int)) ≤ 1
    have e : PyData.depth (.int n) ≤ 1 := Nat.zero_le _
    omega
theorem shaped_ints (ns : List Int) : SeqAt.shaped (.list (ns.map PyData.int)) = true := by
  have h1 := lay_ints ns
  have h2 := depth_ints ns
  unfold SeqAt.shaped
  rw [Bool.and_eq_true]
  refine ⟨h1, decide_eq_true ?_⟩
  show PyData.depthAll (ns.map PyData.int) + 1 ≤ 64
  omega
theorem fmod_bounds (x : Int) {b : Int} (h : 0 < b) : 0 ≤ x.fmod b ∧ x.fmod b < b := by
  rw [Int.fmod_eq_emod_of_nonneg _ (by omega)]
  exact ⟨Int.emod_nonneg _ (by omega), Int.emod_lt_of_pos _ h⟩

theorem eq_nil_or_concat : ∀ l : List Int, l = [] ∨ ∃ ys y, l = ys ++ [y]
  | [] => .inl rfl
  | x :: r => .inr ⟨_, _, (List.dropLast_concat_getLast (List.cons_ne_nil x r)).symm⟩
theorem ne_nil_list (ys : List Int) (y : Int) : (!(PyData.list ((ys ++ [y]).map PyData.int)).eqv (PyData.list [])) = true := by
  cases ys <;> rfl
theorem last_at (ys : List Int) (y : Int) : (ys.map V.int ++ [y].map V.int)[(ys.map V.int ++ [y].map V.int).length - 1]? = some (.int y) := by
  simp

section
variable {P : Program} {w : World} {K : PySem.W.Frag} {mg : Str → Option Value} {base : Heap} {a : At}
def spDraw : Sp := fun vs H Q _ => ∃ (d c : Addr) (B b : Int), vs = [.ref d, .int b] ∧ Deck H d c B ∧ B ≤ 1000000 ∧ 0 < b ∧ b < 1073741824 ∧ ∀ r H', 0 ≤ r → r < b → Keeps d c H H' → Deck H' d c (B + 1) → Q (.int r) H'
theorem ok_draw (T : Tx K mg a) : FnOk P w K mg base CX0 1 a.f_draw a.fd_draw ["_law_deck_here", "_law_bound"] spDraw := by
  refine T.F_draw.ok sc_draw (fun vs H Q E h => ?_) (fun cdv A outer s H vs Q E hr h => ?_)
  · obtain ⟨d, c, B, b, rfl, _⟩ := h
    rfl
  · obtain ⟨d, c, B, b, rfl, ⟨ns, m, n, hd, hc, hne, hlen, m0, m1, n0, n1⟩, hB, b0, b1, q⟩ := h
    refine ⟨_, (pss_cons (ps_asg (pe_op op_add (pe_ix ix_list (pv 0) pe_int (fun _ _ => rfl)) pe_int) (pg_sub (pv 0) pe_int set_list))
    (pss_cons (ps_set (i := 2) sc_draw.nd rfl (.inl rfl) (pe_ix ix_list (pv 0) pe_int (fun _ _ => rfl)))
    (Evl.pss_cut (ps_if (pt_cmpR (op_neD hr.units) (pe_ix ix_list (pv 0) pe_int (fun _ _ => rfl)) (pe_lst pa_nil) (nomark _))
      (pss_cons (ps_set (i := 2) sc_draw.nd rfl (.inl rfl) (pe_bm0 PySem.F.plainAttrs_list PySem.F.slot_list_pop PySem.F.type_list_pop mt_pop (pe_ix ix_list (pv 0) pe_int (fun _ _ => rfl))))
      (pss_cons (ps_if (pt_cmpR op_ge (pv 2) (pe_op op_pow pe_int pe_int) (nomark _))
        (pss_cons (ps_expr (pe_bm PySem.F.plainAttrs_list PySem.F.slot_list_append PySem.F.type_list_append mt_append (pe_ix ix_list (pv 0) pe_int (fun _ _ => rfl)) (pa_cons (pe_op op_fdivN (pv 2) (pv 1)) pa_nil)))
        (pss_one (ps_ret (pe_op op_modN (pv 2) (pv 1)))))
        pss_nil)
      (pss_one (ps_set (i := 2) sc_draw.nd rfl (.inl rfl) (pe_op op_add (pv 2) (pe_ix ix_list (pv 0) pe_int (fun _ _ => rfl)))))))
      pss_nil)
    (pss_cons (ps_set (i := 3) sc_draw.nd rfl (.inl rfl) (pe_op op_mod (pe_op op_mul (pe_op op_add (pe_op op_add (pe_op op_mod (pv 2) pe_int) (pe_op op_mul (pe_op op_mul pe_int (pe_ix ix_list (pv 0) pe_int (fun _ _ => rfl))) (pe_ix ix_list (pv 0) pe_int (fun _ _ => rfl)))) pe_int) pe_int) pe_int))
    (pss_cons (ps_set (i := 3) sc_draw.nd rfl (.inl rfl) (pe_op op_mod (pe_op op_add (pe_op op_add (pe_op op_mul (pv 3) (pv 3)) (pe_op op_mul pe_int (pe_ix ix_list (pv 0) pe_int (fun _ _ => rfl)))) pe_int) pe_int))
    (pss_one (ps_ret (pe_op op_modN (pe_op op_fdiv (pe_op op_mod (pe_op op_mul (pv 3) pe_int) pe_int) pe_int) (pv 1))))))))), ?_⟩
    -- the counter
    refine ⟨.ref d, rfl, d, _, 2, .int n, rfl, rfl, SqL.of hd, rfl, n, 1, rfl, rfl, .ref d, rfl, d, _, 2, 2, rfl, rfl, hd, rfl, ?_⟩
    generalize e1 : upd H d _ = H1
    have hd1 : H1 d = some (.lst [.ref c, .int m, .int (n + 1)]) := by rw [← e1]; exact upd_same
    have hc1 : H1 c = some (.lst (ns.map V.int)) := by rw [← e1, upd_ne hne]; exact hc
    have k1 : Keeps d c H H1 := by rw [← e1]; exact (Keeps.refl d c H).updA
    refine ⟨.ref d, rfl, d, _, 1, .int m, rfl, rfl, SqL.of hd1, rfl, ?_⟩
    -- if deck[0] != []
    refine ⟨fun σ' H' => ∃ (x : Int) (ns' : List Int), σ' = [some (.ref d), some (.int b), some (.int x), none] ∧ H' d = some (.lst [.ref c, .int m, .int (n + 1)]) ∧ H' c = some (.lst (ns'.map V.int)) ∧ ns'.length ≤ 63 ∧ Keeps d c H H', ?_, ?_⟩
    · refine ⟨.ref d, rfl, d, _, 0, .ref c, rfl, rfl, SqL.of hd1, rfl, Nat.zero_le _, fun p hp => ?_⟩
      have k2 := k1.new (o := .lst []) hp
      have hd2 : upd H1 p (.lst []) d = _ := (upd_ne (ne_of_none hd1 hp)).trans hd1
      have hc2 : upd H1 p (.lst []) c = _ := (upd_ne (ne_of_none hc1 hp)).trans hc1
      refine ⟨_, _, .lst (SqL.of hc2) (dpInts ns), .lst (SqL.of upd_same) .nil, shaped_ints ns, rfl, _, rfl, ?_⟩
      generalize upd H1 p (.lst []) = H2 at k2 hd2 hc2
      rcases eq_nil_or_concat ns with rfl | ⟨ys, y, rfl⟩
      · exact ⟨m, [], rfl, hd2, hc2, Nat.zero_le _, k2⟩
      · rw [ne_nil_list]
        refine iteT ?_
        rw [List.length_append, List.length_singleton] at hlen
        rw [List.map_append] at hc2
        refine ⟨.ref d, rfl, d, _, 0, .ref c, rfl, rfl, SqL.of hd2, rfl, .inl ⟨rfl, _, SqL.of hc2⟩, c, _, .int y, rfl, rfl, hc2, last_at _ _, ?_⟩
        generalize e3 : upd H2 c _ = H3
        have hd3 : H3 d = some (.lst [.ref c, .int m, .int (n + 1)]) := by rw [← e3, upd_ne hne.symm]; exact hd2
        have hc3 : H3 c = some (.lst (ys.map V.int)) := by rw [← e3, upd_same]; exact congrArg _ (congrArg _ List.dropLast_concat)
        have k3 : Keeps d c H H3 := by rw [← e3]; exact k2.updC
        refine ⟨.int y, rfl, 10, 18, rfl, rfl, ⟨by decide, by decide, by decide⟩, y, _, rfl, rfl, _, rfl, ite2 (fun hge => ?_) (fun hlt => ?_)⟩
        · refine ⟨.ref d, rfl, d, _, 0, .ref c, rfl, rfl, SqL.of hd3, rfl, .inl ⟨rfl, _, SqL.of hc3⟩, .int y, rfl, .int b, rfl, y, b, rfl, rfl, ⟨by omega, by omega⟩, c, _, _, rfl, rfl, hc3, ?_, ?_⟩
          · rw [List.length_map]
            exact small1000 (by omega)
          · have fb := fmod_bounds y b0
            refine ⟨.int y, rfl, .int b, rfl, y, b, rfl, rfl, by omega, q _ _ fb.1 fb.2 k3.updC ⟨ys ++ [y.fdiv b], m, n + 1, ?_, ?_, hne, ?_, m0, m1, by omega, by omega⟩⟩
            · rw [upd_ne hne.symm]
              exact hd3
            · rw [upd_same, List.map_append]
              rfl
            · rw [List.length_append, List.length_singleton]
              exact hlen
        · exact ⟨.int y, rfl, .ref d, rfl, d, _, 1, .int m, rfl, rfl, SqL.of hd3, rfl, y, m, rfl, rfl, y + m, ys, rfl, hd3, hc3, by omega, k3⟩
    · rintro σ' H' ⟨x, ns', rfl, hd', hc', hl', k'⟩
      refine ⟨.int x, rfl, x, _, rfl, rfl, (by show (0 : Int) < _; decide), .ref d, rfl, d, _, 2, .int (n + 1), rfl, rfl, SqL.of hd', rfl, 73727, n + 1, rfl, rfl, .inl ⟨by decide, by decide⟩, .ref d, rfl, d, _, 2, .int (n + 1), rfl, rfl, SqL.of hd', rfl, 73727 * (n + 1), n + 1, rfl, rfl, .inr ⟨by omega, by omega⟩, _, _, rfl, rfl, _, _, rfl, rfl, _, _, rfl, rfl, .inr ⟨by decide, by decide⟩, _, _, rfl, rfl, (by show (0 : Int) < _; decide), ?_⟩
      obtain ⟨y, ey⟩ : ∃ y, y = ((x % 2147483563 + 73727 * (n + 1) * (n + 1) + 59) * 48271) % 2147483647 := ⟨_, rfl⟩
      have y0 : 0 ≤ y := by rw [ey]; exact Int.emod_nonneg _ (by decide)
      have y1 : y < 2147483647 := by rw [ey]; exact Int.emod_lt_of_pos _ (by decide)
      refine ⟨.int y, by rw [ey]; rfl, .int y, by rw [ey]; rfl, y, y, rfl, rfl, .inl ⟨by omega, by omega⟩, .ref d, rfl, d, _, 2, .int (n + 1), rfl, rfl, SqL.of hd', rfl, 40692, n + 1, rfl, rfl, .inl ⟨by decide, by decide⟩, _, _, rfl, rfl, _, _, rfl, rfl, _, _, rfl, rfl, (by show (0 : Int) < _; decide), ?_⟩
      obtain ⟨z, ez⟩ : ∃ z, z = (y * y + 40692 * (n + 1) + 11) % 2147483629 := ⟨_, rfl⟩
      refine ⟨.int z, by rw [ez]; rfl, z, 69621, rfl, rfl, .inr ⟨by decide, by decide⟩, _, _, rfl, rfl, (by show (0 : Int) < _; decide), _, _, rfl, rfl, ⟨by decide, by decide⟩, .int b, rfl, _, _, rfl, rfl, (by show b ≠ 0; omega), ?_⟩
      have fb := fmod_bounds (z * 69621 % 2147483587 / 64) b0
      exact q _ _ fb.1 fb.2 k' ⟨ns', m, n + 1, hd', hc', hne, hl', m0, m1, by omega, by omega⟩

theorem cut_ints (ns : List Int) (lo hi : Option Int) : ∃ ms : List Int, cutV (ns.map V.int) lo hi = ms.map V.int ∧ ms.length ≤ ns.length := by
  unfold cutV
  rw [← List.map_drop, ← List.map_take]
  refine ⟨_, rfl, ?_⟩
  rw [List.length_take, List.length_drop]
  omega
theorem same_new {H : Hp} {p : Addr} {o : HO} (h : H p = none) : Same H (upd H p o) := fun b x e => by
  rw [upd_ne (ne_of_none e h)]
  exact e
def spDeck (K : PySem.W.Frag) : Sp := fun vs H Q _ => ∃ (x : Addr) (ns : List Int), vs = [.ref x] ∧ SqL K H x (ns.map V.int) ∧ ns.length ≤ 63 ∧ ∀ d c H', Same H H' → H d = none → H c = none → Deck H' d c 0 → Q (.ref d) H'
theorem ok_deck (T : Tx K mg a) : FnOk P w K mg base CX0 1 a.f_deck a.fd_deck ["_law_script"] (spDeck K) := by
  refine T.F_deck.ok sc_deck (fun vs H Q E h => ?_) (fun cdv A outer s H vs Q E hr h => ?_)
  · obtain ⟨x, ns, rfl, _⟩ := h
    rfl
  · obtain ⟨x, ns, rfl, hS, hlen, q⟩ := h
    refine ⟨_, (pss_cons (ps_par (i := 2) (j := 3) (by rfl) sc_deck.nd rfl rfl (by decide) rfl rfl (pa_cons (pe_callTy call_list_of (by rfl) T.n_list (by decide +kernel) (pa_cons (pe_slice sl_list (pv 0) po_none (po_some pe_int)) pa_nil)) (pa_cons pe_int pa_nil)) (by rfl))
    (pss_cons (ps_for PassesOwn.never rfl (pi_list (pv 2)) (pg_name (i := 1) sc_deck.nd rfl (.inl rfl))
      (pss_one (ps_set (i := 3) sc_deck.nd rfl (.inl rfl) (pe_op op_mod (pe_op op_add (pe_op op_add (pe_op op_mul (pv 3) pe_int) (pe_op op_mod (pv 1) pe_int)) pe_int) pe_int))))
    (pss_one (ps_ret (pe_lst (pa_cons (pe_revL (pv 2)) (pa_cons (pv 3) (pa_cons pe_int pa_nil)))))))), ?_⟩
    refine ⟨.ref x, rfl, 63, rfl, x, _, rfl, hS, fun p hp => ?_⟩
    obtain ⟨ms, em, hm⟩ := cut_ints ns none (some 63)
    have s1 := same_new (o := .lst (cutV (ns.map V.int) none (some 63))) hp
    refine ⟨p, _, rfl, .inl (SqL.of upd_same), fun l hl => ?_⟩
    have s2 := s1.trans (same_new (o := .lst (cutV (ns.map V.int) none (some 63))) hl)
    have hl2 : upd (upd H p (.lst (cutV (ns.map V.int) none (some 63)))) l (.lst (cutV (ns.map V.int) none (some 63))) l = some (.lst (ms.map V.int)) := by rw [upd_same, em]
    have nl : H l = none := s1.free hl
    generalize upd (upd H p (.lst (cutV (ns.map V.int) none (some 63)))) l (.lst (cutV (ns.map V.int) none (some 63))) = H1 at s2 hl2
    refine ⟨_, _, rfl, .ref l, rfl, l, rfl, ⟨_, SqL.of hl2⟩, for_list (xs := ms.map V.int) (fun i σ H' => ∃ (y : Option V) (m : Int), σ = [some (.ref x), y, some (.ref l), some (.int m)] ∧ 0 ≤ m ∧ m < 2147483629 ∧ H' = H1) ⟨none, _, rfl, by decide, by decide, rfl⟩ ?_ ?_ ?_⟩
    · rintro i σ H' _ ⟨y, m, _, _, _, rfl⟩
      exact SqL.of hl2
    · rintro i v σ H' hv ⟨y, m, rfl, m0, m1, rfl⟩
      obtain ⟨z, rfl⟩ : ∃ z, v = .int z := by
        rw [List.getElem?_map] at hv
        cases e : ms[i]? with
        | none => rw [e] at hv; cases hv
        | some z => rw [e] at hv; cases hv; exact ⟨z, rfl⟩
      refine ⟨.int m, rfl, m, 69621, rfl, rfl, .inr ⟨by decide, by decide⟩, .int z, rfl, z, _, rfl, rfl, (by show (0 : Int) < _; decide), _, _, rfl, rfl, _, _, rfl, rfl, _, _, rfl, rfl, (by show (0 : Int) < _; decide), ?_⟩
      exact ⟨some (.int z), _, rfl, Int.emod_nonneg _ (by decide), Int.emod_lt_of_pos _ (by decide), rfl⟩
    · rintro σ H' ⟨y, m, rfl, m0, m1, rfl⟩
      refine ⟨.ref l, rfl, l, _, rfl, SqL.of hl2, fun c hc => ?_⟩
      have s3 := s2.trans (same_new (o := .lst (ms.map V.int).reverse) hc)
      refine ⟨.int m, rfl, Evl.sz_of (by show 3 ≤ 100000; decide), fun d hd => ?_⟩
      refine q d c _ (s3.trans (same_new hd)) (s3.free hd) (s2.free hc) ⟨ms.reverse, m, 0, upd_same, ?_, ?_, ?_, m0, m1, by decide, by decide⟩
      · rw [upd_ne (ne_of_none upd_same hd), upd_same, List.map_reverse]
      · exact ne_of_none upd_same hd
      · rw [List.length_reverse]
        omega
end
end K71
namespace K71
open PySem PySem.Spec PyProof.Rows L2
section
variable {P : Program} {w : World} {K : PySem.W.Frag} {mg : Str → Option Value} {base : Heap} {a : At}
def spPick : Sp := fun vs H Q _ => ∃ (d c l : Addr) (B : Int) (xs : List V), vs = [.ref d, .ref l] ∧ Deck H d c B ∧ B ≤ 1000000 ∧ H l = some (.lst xs) ∧ l ≠ d ∧ l ≠ c ∧ 0 < xs.length ∧ xs.length ≤ 1000 ∧ ∀ v H', v ∈ xs → Keeps d c H H' → Deck H' d c (B + 1) → Q v H'
theorem ok_pick (T : Tx K mg a) : FnOk P w K mg base CX0 2 a.f_pick a.fd_pick ["_law_deck_here", "_law_items"] spPick := by
  refine T.F_pick.ok sc_pick (fun vs H Q E h => ?_) (fun cdv A outer s H vs Q E hr h => ?_)
  · obtain ⟨d, c, l, B, xs, rfl, _⟩ := h
    rfl
  · obtain ⟨d, c, l, B, xs, rfl, hD, hB, hl, n1, n2, h0, h1, q⟩ := h
    refine ⟨_, (pss_one (ps_ret (pe_ix ix_list (pv 1) (pe_call (ok_draw T) (hr.mono (by decide)) (by rfl) T.g_draw T.F_draw.kp T.b_draw .nil pass0 (pa_cons (pv 0) (pa_cons (pe_callB call_len_seq (by rfl) T.n_len PySem.boot_len (pa_cons (pv 1) pa_nil)) pa_nil))) (fun _ _ => rfl)))), ?_⟩
    refine ⟨.ref l, rfl, .ref d, rfl, .ref l, rfl, l, xs, rfl, .inl (SqL.of hl), d, c, B, (xs.length : Int), rfl, hD, hB, by omega, by omega, fun r H' r0 r1 k' D' => ?_⟩
    obtain ⟨j, rfl⟩ : ∃ j : Nat, r = (j : Int) := ⟨r.toNat, by omega⟩
    have hj : j < xs.length := by omega
    exact ⟨l, xs, (j : Int), xs[j], rfl, rfl, SqL.of (k' l _ n1 n2 hl), atI_nat (List.getElem?_eq_getElem hj), q _ _ (List.getElem_mem hj) k' D'⟩
def spName : Sp := fun vs H Q _ => ∃ (d c : Addr) (B : Int), vs = [.ref d] ∧ Deck H d c B ∧ B ≤ 100000 ∧ ∀ x H', x ∈ names → Keeps d c H H' → Deck H' d c (B + 1) → Q (.str x) H'
theorem ok_name (T : Tx K mg a) : FnOk P w K mg base CX0 3 a.f_name a.fd_name ["_law_deck_here"] spName := by
  refine T.F_name.ok sc_name (fun vs H Q E h => ?_) (fun cdv A outer s H vs Q E hr h => ?_)
  · obtain ⟨d, c, B, rfl, _⟩ := h
    rfl
  · obtain ⟨d, c, B, rfl, hD, hB, q⟩ := h
    refine ⟨_, (pss_one (ps_ret (pe_call (ok_pick T) (hr.mono (by decide)) (by rfl) T.g_pick T.F_pick.kp T.b_pick .nil pass0 (pa_cons (pv 0) (pa_cons (pe_lst (pa_cons pe_str (pa_cons pe_str (pa_cons pe_str (pa_cons pe_str (pa_cons pe_str (pa_cons pe_str (pa_cons pe_str (pa_cons pe_str (pa_cons pe_str pa_nil)))))))))) pa_nil))))), ?_⟩
    refine ⟨.ref d, rfl, Evl.sz_of (by decide), fun l hl => ?_⟩
    have nd : l ≠ d := fun e => by obtain ⟨_, _, _, h1, _⟩ := hD; rw [e, h1] at hl; cases hl
    have nc : l ≠ c := fun e => by obtain ⟨_, _, _, _, h1, _⟩ := hD; rw [e, h1] at hl; cases hl
    refine ⟨d, c, l, B, _, rfl, hD.new hl, by omega, upd_same, nd, nc, by decide, by decide, fun v H' hv k' D' => ?_⟩
    obtain ⟨x, hx, rfl⟩ := List.mem_map.mp (show v ∈ names.map V.str from hv)
    exact q x H' hx (((Keeps.refl d c H).new hl).trans k') D'
def spNumber : Sp := fun vs H Q _ => ∃ (d c : Addr) (B : Int), vs = [.ref d] ∧ Deck H d c B ∧ B ≤ 100000 ∧ ∀ x H', -1000 < x → x < 1000 → Keeps d c H H' → Deck H' d c (B + 3) → Q (.int x) H'
theorem ok_number (T : Tx K mg a) : FnOk P w K mg base CX0 3 a.f_number a.fd_number ["_law_deck_here"] spNumber := by
  refine T.F_number.ok sc_number (fun vs H Q E h => ?_) (fun cdv A outer s H vs Q E hr h => ?_)
  · obtain ⟨d, c, B, rfl, _⟩ := h
    rfl
  · obtain ⟨d, c, B, rfl, hD, hB, q⟩ := h
    refine ⟨_, (pss_one (ps_ret (pe_call (ok_pick T) (hr.mono (by decide)) (by rfl) T.g_pick T.F_pick.kp T.b_pick .nil pass0 (pa_cons (pv 0) (pa_cons (pe_lst (pa_cons pe_int (pa_cons pe_int (pa_cons (pe_un un_neg pe_int) (pa_cons (pe_un un_neg pe_int) (pa_cons pe_int (pa_cons pe_int (pa_cons (pe_op op_sub pe_int (pe_op op_mul pe_int (pe_call (ok_draw T) (hr.mono (by decide)) (by rfl) T.g_draw T.F_draw.kp T.b_draw .nil pass0 (pa_cons (pv 0) (pa_cons pe_int pa_nil))))) (pa_cons (pe_call (ok_draw T) (hr.mono (by decide)) (by rfl) T.g_draw T.F_draw.kp T.b_draw .nil pass0 (pa_cons (pv 0) (pa_cons pe_int pa_nil))) pa_nil))))))))) pa_nil))))), ?_⟩
    refine ⟨.ref d, rfl, 1, rfl, 60, rfl, .ref d, rfl, d, c, B, 2, rfl, hD, by omega, by decide, by decide, fun r1 H1 a0 a1 k1 D1 => ?_⟩
    refine ⟨60, r1, rfl, rfl, .inl ⟨by decide, by decide⟩, 59, _, rfl, rfl, .ref d, rfl, d, c, _, 100, rfl, D1, by omega, by decide, by decide, fun r2 H2 b0 b1 k2 D2 => ?_⟩
    refine ⟨Evl.sz_of (by show 8 ≤ 100000; decide), fun l hl => ?_⟩
    have nd : l ≠ d := fun e => by obtain ⟨_, _, _, h1, _⟩ := D2; rw [e, h1] at hl; cases hl
    have nc : l ≠ c := fun e => by obtain ⟨_, _, _, _, h1, _⟩ := D2; rw [e, h1] at hl; cases hl
    refine ⟨d, c, l, _, _, rfl, D2.new hl, by omega, upd_same, nd, nc, by show 0 < 8; decide, by show 8 ≤ 1000; decide, fun v H' hv k' D' => ?_⟩
    have kk := (k1.trans (k2.new hl)).trans k'
    have D3 : Deck H' d c (B + 3) := D'.le (by omega)
    simp only [List.mem_cons, List.not_mem_nil, or_false] at hv
    rcases hv with rfl | rfl | rfl | rfl | rfl | rfl | rfl | rfl <;> exact q _ H' (by omega) (by omega) kk D3
end
end K71
namespace K71
open PySem PySem.Spec PyProof.Rows L2
theorem Keeps.mut {a c p : Addr} {H H1 : Hp} {o : HO} (h : Keeps a c H H1) (hp : H p = none) : Keeps a c H (upd H1 p o) := fun b u n1 n2 e => by
  rw [upd_ne (ne_of_none e hp)]
  exact h b u n1 n2 e
theorem Deck.tups {H H' : Hp} {d c : Addr} {B : Int} (h : Deck H d c B) (k : Keeps d c H H') : Tups H H' := fun b xs e => by
  obtain ⟨ns, m, n, h1, h2, _⟩ := h
  exact k b _ (ne_of e h1 (by intro z; cases z)) (ne_of e h2 (by intro z; cases z)) e
theorem Deck.ned {H : Hp} {d c p : Addr} {B : Int} (h : Deck H d c B) (hp : H p = none) : p ≠ d := fun e => by
  obtain ⟨_, _, _, h1, _⟩ := h
  rw [e, h1] at hp
  cases hp
theorem Deck.nec {H : Hp} {d c p : Addr} {B : Int} (h : Deck H d c B) (hp : H p = none) : p ≠ c := fun e => by
  obtain ⟨_, _, _, _, h1, _⟩ := h
  rw [e, h1] at hp
  cases hp
theorem Deck.mut {H : Hp} {d c p : Addr} {B : Int} {o : HO} (h : Deck H d c B) (n1 : p ≠ d) (n2 : p ≠ c) : Deck (upd H p o) d c B := by
  obtain ⟨ns, m, n, h1, h2, r⟩ := h
  refine ⟨ns, m, n, ?_, ?_, r⟩
  · rw [upd_ne n1.symm]
    exact h1
  · rw [upd_ne n2.symm]
    exact h2
theorem Tups.mutL {H H1 : Hp} {p : Addr} {xs : List V} {o : HO} (h : Tups H H1) (hp : H1 p = some (.lst xs)) : Tups H (upd H1 p o) := fun b ys e => by
  have q := h b ys e
  rw [upd_ne (ne_of q hp (by intro z; cases z))]
  exact q
/-- while a comprehension collects data: the list at D, what it holds, the deck -/
def Coll (d c : Addr) (B : Int) (H : Hp) (D : Addr) (wd cost : Nat) (i : Nat) (H' : Hp) : Prop :=
  ∃ vs ds, H' D = some (.lst vs) ∧ TpAll H' vs ds ∧ ds.length = i ∧ plainAll ds = true ∧ wtAll ds ≤ wd * i ∧ Keeps d c H H' ∧ Deck H' d c (B + (cost : Int) * (i : Int))
theorem Coll.start {d c D : Addr} {B : Int} {H : Hp} {wd cost : Nat} (hD : Deck H d c B) (hn : H D = none) : Coll d c B H D wd cost 0 (upd H D (.lst [])) :=
  ⟨[], [], upd_same, .nil, rfl, rfl, Nat.zero_le _, (Keeps.refl d c H).new hn, (hD.new hn).le (by omega)⟩
theorem Coll.turn {d c D : Addr} {B : Int} {H H1 H2 : Hp} {wd cost i : Nat} {v : V} {dt : PyData} (h : Coll d c B H D wd cost i H1) (hD : Deck H d c B) (hn : H D = none) (k : Keeps d c H1 H2) (D2 : Deck H2 d c (B + (cost : Int) * (i : Int) + cost))
    (t : Tp H2 v dt) (hp : plain dt = true) (hw : wt dt ≤ wd) : ∃ acc, H2 D = some (.lst acc) ∧ acc.length = i ∧ Coll d c B H D wd cost (i + 1) (upd H2 D (.lst (acc ++ [v]))) := by
  obtain ⟨vs, ds, h1, h2, h3, h4, h5, h6, h7⟩ := h
  have ed := hD.ned hn
  have ec := hD.nec hn
  have q := k D _ ed ec h1
  have tt : Tups H2 (upd H2 D (.lst (vs ++ [v]))) := Tups.mutL (fun _ _ e => e) q
  refine ⟨vs, q, h2.length.trans h3, vs ++ [v], ds ++ [dt], upd_same, ((h2.keep (h7.tups k)).app t).keep tt, ?_, ?_, ?_, (h6.trans k).mut hn, (D2.mut ed ec).le ?_⟩
  · rw [List.length_append, h3]
    rfl
  · rw [plainAll_app, h4, hp]
    rfl
  · rw [wtAll_app, Nat.mul_succ]
    omega
  · have : (cost : Int) * ((i + 1 : Nat) : Int) = (cost : Int) * (i : Int) + cost := by
      rw [Int.natCast_add, Int.mul_add, Int.natCast_one, Int.mul_one]
    omega
section
variable {P : Program} {w : World} {K : PySem.W.Frag} {mg : Str → Option Value} {base : Heap} {a : At}
/-- plain data handed out, of a weight, for a number of draws -/
def spData (wd cost : Nat) : Sp := fun vs H Q _ => ∃ (d c : Addr) (B : Int), vs = [.ref d] ∧ Deck H d c B ∧ B ≤ 100000 ∧ ∀ v D H', Tp H' v D → plain D = true → wt D ≤ wd → Keeps d c H H' → Deck H' d c (B + cost) → Q v H'
theorem ok_prefix (T : Tx K mg a) : FnOk P w K mg base CX0 2 a.f_prefix a.fd_prefix ["_law_deck_here"] (spData 7 7) := by
  refine T.F_prefix.ok sc_prefix (fun vs H Q E h => ?_) (fun cdv A outer s H vs Q E hr h => ?_)
  · obtain ⟨d, c, B, rfl, _⟩ := h
    rfl
  · obtain ⟨d, c, B, rfl, hD, hB, q⟩ := h
    refine ⟨_, (pss_one (ps_ret (pe_callTy call_tuple_of (by rfl) T.n_tuple (by decide +kernel) (pa_cons (pe_lc (own := [("_law_k", 1)]) (g := gName 1) (tt := tYes) (by rfl) sc_prefix.nd (pi_range1 (by rfl) T.n_range (pa_cons (pe_op op_add pe_int (pe_call (ok_draw T) (hr.mono (by decide)) (by rfl) T.g_draw T.F_draw.kp T.b_draw .nil pass0 (pa_cons (pv 0) (pa_cons pe_int pa_nil)))) pa_nil)) (blkOk_by (own := [("_law_k", 1)]) (N := N_prefix) (sc := defScope s_prefix) (by decide +kernel)) (fun _ _ _ _ _ => (pg_name (i := 1) sc_prefix.nd rfl (.inl rfl))) (fun _ _ _ _ _ => pts_nil) (fun _ _ _ _ _ => (pe_call (ok_draw T) (hr.mono (by decide)) (by rfl) T.g_draw T.F_draw.kp T.b_draw .nil pass0 (pa_cons (pv 0) (pa_cons pe_int pa_nil))))) pa_nil)))), ?_⟩
    refine ⟨.ref d, rfl, d, c, B, 6, rfl, hD, by omega, by decide, by decide, fun r H1 r0 r1 k1 D1 => ?_⟩
    refine ⟨1, r, rfl, rfl, 1 + r, rfl, by omega, by omega, fun D hn => ?_⟩
    refine lc_range (lo := 0) (n := (1 + r).toNat) (Coll d c (B + 1) H1 D 1 1) (Coll.start D1 hn) (fun i H2 hi p => ?_) (fun H2 p => ?_)
    · have h7 := p
      obtain ⟨_, _, _, _, _, _, _, _, D2⟩ := h7
      refine ⟨rfl, .ref d, rfl, d, c, _, 40, rfl, D2, by omega, by decide, by decide, fun x H3 x0 x1 k3 D3 => ?_⟩
      obtain ⟨acc, e1, e2, e3⟩ := p.turn D1 hn k3 D3 (.int x) (by show decide _ = true; exact decide_eq_true ⟨by omega, by omega⟩) (Nat.le_refl 1)
      exact ⟨acc, e1, small1000 (by omega), e3⟩
    · obtain ⟨vs, ds, h1, h2, h3, h4, h5, h6, h7⟩ := p
      refine ⟨D, vs, rfl, .inl ⟨SqL.of h1, fun t ht => ?_⟩⟩
      refine q _ (.tuple ds) _ (.tup upd_same (h2.keep (Tups.new ht))) h4 ?_ ((k1.trans h6).new ht) ((h7.new ht).le (by omega))
      show 1 + wtAll ds ≤ 7
      omega
end
end K71
namespace K71
open PySem PySem.Spec PyProof.Rows L2
theorem plain_int {x : Int} (h1 : -1000 < x) (h2 : x < 1000) : plain (.int x) = true := by
  show decide _ = true
  exact decide_eq_true ⟨h1, h2⟩
theorem plain_name {x : Str} (h : x ∈ names) : plain (.str x) = true := by
  show decide _ = true
  exact decide_eq_true h
theorem plain_two {x y : PyData} (h1 : plain x = true) (h2 : plain y = true) : plain (.tuple [x, y]) = true := by
  show (plain x && (plain y && true)) = true
  rw [h1, h2]
  rfl
theorem plain_one {x : PyData} (h1 : plain x = true) : plain (.tuple [x]) = true := by
  show (plain x && true) = true
  rw [h1]
  rfl
theorem wt_two (x y : PyData) : wt (.tuple [x, y]) = 1 + (wt x + (wt y + 0)) := rfl
section
variable {P : Program} {w : World} {K : PySem.W.Frag} {mg : Str → Option Value} {base : Heap} {a : At}
def spItem : Sp := fun vs H Q _ => ∃ (d c : Addr) (B : Int), vs = [.ref d] ∧ Deck H d c B ∧ B ≤ 10000 ∧ ∀ v D H', Tp H' v D → itemOk D → wt D ≤ 40 → Keeps d c H H' → Deck H' d c (B + 30) → Q v H'
theorem ok_item (T : Tx K mg a) : FnOk P w K mg base CX0 4 a.f_item a.fd_item ["_law_deck_here"] spItem := by
  refine T.F_item.ok sc_item (fun vs H Q E h => ?_) (fun cdv A outer s H vs Q E hr h => ?_)
  · obtain ⟨d, c, B, rfl, _⟩ := h
    rfl
  · obtain ⟨d, c, B, rfl, hD, hB, q⟩ := h
    refine ⟨_, (pss_cons (ps_set (i := 1) sc_item.nd rfl (.inl rfl) (pe_call (ok_draw T) (hr.mono (by decide)) (by rfl) T.g_draw T.F_draw.kp T.b_draw .nil pass0 (pa_cons (pv 0) (pa_cons pe_int pa_nil))))
    (pss_cons (ps_if (pt_cmpR op_eq (pv 1) pe_int (nomark _))
      (pss_one (ps_ret (pe_cmpR op_eq (pe_call (ok_draw T) (hr.mono (by decide)) (by rfl) T.g_draw T.F_draw.kp T.b_draw .nil pass0 (pa_cons (pv 0) (pa_cons pe_int pa_nil))) pe_int (nomark _))))
      pss_nil)
    (pss_cons (ps_if (pt_cmpR op_in_seq (pv 1) (pe_tup (pa_cons pe_int (pa_cons pe_int pa_nil))) (by rfl))
      (pss_one (ps_ret (pe_ix ix_list (pe_lst (pa_cons (pe_call (ok_number T) (hr.mono (by decide)) (by rfl) T.g_number T.F_number.kp T.b_number .nil pass0 (pa_cons (pv 0) pa_nil)) (pa_cons (pe_call (ok_name T) (hr.mono (by decide)) (by rfl) T.g_name T.F_name.kp T.b_name .nil pass0 (pa_cons (pv 0) pa_nil)) pa_nil))) (pe_op op_sub (pv 1) pe_int) (fun _ _ => rfl))))
      pss_nil)
    (pss_cons (ps_if (pt_cmpR op_eq (pv 1) pe_int (nomark _))
      (pss_one (ps_ret (pe_call (ok_prefix T) (hr.mono (by decide)) (by rfl) T.g_prefix T.F_prefix.kp T.b_prefix .nil pass0 (pa_cons (pv 0) pa_nil))))
      pss_nil)
    (pss_cons (ps_if (pt_cmpR op_eq (pv 1) pe_int (nomark _))
      (pss_one (ps_ret (pe_tup (pa_cons (pe_call (ok_prefix T) (hr.mono (by decide)) (by rfl) T.g_prefix T.F_prefix.kp T.b_prefix .nil pass0 (pa_cons (pv 0) pa_nil)) (pa_cons (pe_call (ok_name T) (hr.mono (by decide)) (by rfl) T.g_name T.F_name.kp T.b_name .nil pass0 (pa_cons (pv 0) pa_nil)) pa_nil)))))
      pss_nil)
    (pss_cons (ps_if (pt_cmpR op_eq (pv 1) pe_int (nomark _))
      (pss_one (ps_ret (pe_tup (pa_cons (pe_call (ok_draw T) (hr.mono (by decide)) (by rfl) T.g_draw T.F_draw.kp T.b_draw .nil pass0 (pa_cons (pv 0) (pa_cons pe_int pa_nil))) (pa_cons (pe_call (ok_prefix T) (hr.mono (by decide)) (by rfl) T.g_prefix T.F_prefix.kp T.b_prefix .nil pass0 (pa_cons (pv 0) pa_nil)) pa_nil)))))
      pss_nil)
    (pss_cons (ps_if (pt_cmpR op_eq (pv 1) pe_int (nomark _))
      (pss_one (ps_ret (pe_tup (pa_cons (pe_callTy call_tuple_of (by rfl) T.n_tuple (by decide +kernel) (pa_cons (pe_lc (own := [("_law_k", 3)]) (g := gName 3) (tt := tYes) (by rfl) sc_item.nd (pi_range1 (by rfl) T.n_range (pa_cons (pe_call (ok_draw T) (hr.mono (by decide)) (by rfl) T.g_draw T.F_draw.kp T.b_draw .nil pass0 (pa_cons (pv 0) (pa_cons pe_int pa_nil))) pa_nil)) (blkOk_by (own := [("_law_k", 3)]) (N := N_item) (sc := defScope s_item) (by decide +kernel)) (fun _ _ _ _ _ => (pg_name (i := 3) sc_item.nd rfl (.inl rfl))) (fun _ _ _ _ _ => pts_nil) (fun _ _ _ _ _ => (pe_tup (pa_cons (pe_call (ok_prefix T) (hr.mono (by decide)) (by rfl) T.g_prefix T.F_prefix.kp T.b_prefix .nil pass0 (pa_cons (pv 0) pa_nil)) (pa_cons (pe_call (ok_draw T) (hr.mono (by decide)) (by rfl) T.g_draw T.F_draw.kp T.b_draw .nil pass0 (pa_cons (pv 0) (pa_cons pe_int pa_nil))) pa_nil))))) pa_nil)) (pa_cons (pe_call (ok_name T) (hr.mono (by decide)) (by rfl) T.g_name T.F_name.kp T.b_name .nil pass0 (pa_cons (pv 0) pa_nil)) pa_nil)))))
      pss_nil)
    (pss_cons (ps_if (pt_cmpR op_eq (pv 1) pe_int (nomark _))
      (pss_cons (ps_set (i := 2) sc_item.nd rfl (.inl rfl) (pe_callTy call_tuple_of (by rfl) T.n_tuple (by decide +kernel) (pa_cons (pe_lc (own := [("_law_k", 3)]) (g := gName 3) (tt := tYes) (by rfl) sc_item.nd (pi_range1 (by rfl) T.n_range (pa_cons (pe_call (ok_draw T) (hr.mono (by decide)) (by rfl) T.g_draw T.F_draw.kp T.b_draw .nil pass0 (pa_cons (pv 0) (pa_cons pe_int pa_nil))) pa_nil)) (blkOk_by (own := [("_law_k", 3)]) (N := N_item) (sc := defScope s_item) (by decide +kernel)) (fun _ _ _ _ _ => (pg_name (i := 3) sc_item.nd rfl (.inl rfl))) (fun _ _ _ _ _ => pts_nil) (fun _ _ _ _ _ => (pe_tup (pa_cons (pe_call (ok_draw T) (hr.mono (by decide)) (by rfl) T.g_draw T.F_draw.kp T.b_draw .nil pass0 (pa_cons (pv 0) (pa_cons pe_int pa_nil))) (pa_cons (pe_call (ok_prefix T) (hr.mono (by decide)) (by rfl) T.g_prefix T.F_prefix.kp T.b_prefix .nil pass0 (pa_cons (pv 0) pa_nil)) pa_nil))))) pa_nil)))
      (pss_one (ps_ret (pe_tup (pa_cons (pv 2) (pa_cons (pe_call (ok_draw T) (hr.mono (by decide)) (by rfl) T.g_draw T.F_draw.kp T.b_draw .nil pass0 (pa_cons (pv 0) (pa_cons pe_int pa_nil))) pa_nil))))))
      pss_nil)
    (pss_one (ps_ret (pe_tup (pa_cons (pe_call (ok_number T) (hr.mono (by decide)) (by rfl) T.g_number T.F_number.kp T.b_number .nil pass0 (pa_cons (pv 0) pa_nil)) (pa_cons (pe_op Gd.op_mul01 (pe_tup (pa_cons (pe_call (ok_draw T) (hr.mono (by decide)) (by rfl) T.g_draw T.F_draw.kp T.b_draw .nil pass0 (pa_cons (pv 0) (pa_cons pe_int pa_nil))) pa_nil)) (pe_call (ok_draw T) (hr.mono (by decide)) (by rfl) T.g_draw T.F_draw.kp T.b_draw .nil pass0 (pa_cons (pv 0) (pa_cons pe_int pa_nil)))) pa_nil))))))))))))), ?_⟩
    refine ⟨.ref d, rfl, d, c, B, 9, rfl, hD, by omega, by decide, by decide, fun r H1 r0 r1 k1 D1 => ?_⟩
    -- 0
    refine ⟨.int r, rfl, rfl, _, rfl, ite2 (fun e => ?_) (fun e0 => ?_)⟩
    · refine ⟨.ref d, rfl, d, c, _, 2, rfl, D1, by omega, by decide, by decide, fun x H2 x0 x1 k2 D2 => ?_⟩
      exact ⟨rfl, q _ (.bool _) H2 (.bl _) (.inr ⟨_, rfl⟩) (by show 1 ≤ 40; decide) (k1.trans k2) (D2.le (by omega))⟩
    -- 1, 2
    refine ⟨.int r, rfl, Evl.sz_of (by decide), fun p hp => ?_⟩
    have k2 := k1.new (o := .tup [.int 1, .int 2]) hp
    have D2 := D1.new (o := .tup [.int 1, .int 2]) hp
    refine ⟨p, _, rfl, .inr (SqT.of upd_same), rfl, rfl, _, rfl, ?_⟩
    generalize upd H1 p (.tup [.int 1, .int 2]) = H2 at k2 D2
    refine ite2 (fun e => ?_) (fun e1 => ?_)
    · have e12 : r = 1 ∨ r = 2 := by
        have e' : (((1 : Int) == r) || (((2 : Int) == r) || false)) = true := e
        simp only [Bool.or_false, Bool.or_eq_true, beq_iff_eq] at e'
        omega
      refine ⟨.ref d, rfl, d, c, _, rfl, D2, by omega, fun x H3 x0 x1 k3 D3 => ?_⟩
      refine ⟨.ref d, rfl, d, c, _, rfl, D3, by omega, fun y H4 hy k4 D4 => ?_⟩
      refine ⟨Evl.sz_of (by show 2 ≤ 100000; decide), fun l hl => ?_⟩
      have kk := ((k2.trans k3).trans k4).new (o := .lst [.int x, .str y]) hl
      have DD := D4.new (o := .lst [.int x, .str y]) hl
      refine ⟨.int r, rfl, r, 1, rfl, rfl, ?_⟩
      rcases e12 with rfl | rfl
      · exact ⟨l, _, 0, .int x, rfl, rfl, SqL.of upd_same, rfl, q _ _ _ (.int x) (.inl (plain_int x0 x1)) (by show 1 ≤ 40; decide) kk (DD.le (by omega))⟩
      · exact ⟨l, _, 1, .str y, rfl, rfl, SqL.of upd_same, rfl, q _ _ _ (.str y) (.inl (plain_name hy)) (by show 1 ≤ 40; decide) kk (DD.le (by omega))⟩
    -- 3
    refine ⟨.int r, rfl, rfl, _, rfl, ite2 (fun e => ?_) (fun e3 => ?_)⟩
    · exact ⟨.ref d, rfl, d, c, _, rfl, D2, by omega, fun v D H3 t pl wl k3 D3 => q v D H3 t (.inl pl) (by omega) (k2.trans k3) (D3.le (by omega))⟩
    -- 4
    refine ⟨.int r, rfl, rfl, _, rfl, ite2 (fun e => ?_) (fun e4 => ?_)⟩
    · refine ⟨.ref d, rfl, d, c, _, rfl, D2, by omega, fun v D H3 t pl wl k3 D3 => ?_⟩
      refine ⟨.ref d, rfl, d, c, _, rfl, D3, by omega, fun y H4 hy k4 D4 => ?_⟩
      refine ⟨Evl.sz_of (by show 2 ≤ 100000; decide), fun l hl => ?_⟩
      refine q _ _ _ (.tup upd_same (.cons ((t.keep (D3.tups k4)).keep (Tups.new hl)) (.cons (.str y) .nil))) (.inl (plain_two pl (plain_name hy))) ?_ (((k2.trans k3).trans k4).new hl) ((D4.new hl).le (by omega))
      rw [wt_two]
      show 1 + (wt D + (1 + 0)) ≤ 40
      omega
    -- 5
    refine ⟨.int r, rfl, rfl, _, rfl, ite2 (fun e => ?_) (fun e5 => ?_)⟩
    · refine ⟨.ref d, rfl, d, c, _, 400, rfl, D2, by omega, by decide, by decide, fun x H3 x0 x1 k3 D3 => ?_⟩
      refine ⟨.ref d, rfl, d, c, _, rfl, D3, by omega, fun v D H4 t pl wl k4 D4 => ?_⟩
      refine ⟨Evl.sz_of (by show 2 ≤ 100000; decide), fun l hl => ?_⟩
      refine q _ _ _ (.tup upd_same (.cons (.int x) (.cons (t.keep (Tups.new hl)) .nil))) (.inl (plain_two (plain_int (by omega) (by omega)) pl)) ?_ (((k2.trans k3).trans k4).new hl) ((D4.new hl).le (by omega))
      rw [wt_two]
      show 1 + (1 + (wt D + 0)) ≤ 40
      omega
    -- 6
    refine ⟨.int r, rfl, rfl, _, rfl, ite2 (fun e => ?_) (fun e6 => ?_)⟩
    · refine ⟨.ref d, rfl, d, c, _, 4, rfl, D2, by omega, by decide, by decide, fun x H3 x0 x1 k3 D3 => ?_⟩
      refine ⟨x, rfl, by omega, by omega, fun L hn => ?_⟩
      refine lc_range (lo := 0) (n := x.toNat) (Coll d c (B + 1 + 1) H3 L 9 8) (Coll.start D3 hn) (fun i H4 hi p => ?_) (fun H4 p => ?_)
      · have h7 := p
        obtain ⟨_, _, _, _, _, _, _, _, D4⟩ := h7
        refine ⟨rfl, .ref d, rfl, d, c, _, rfl, D4, by omega, fun v D H5 t pl wl k5 D5 => ?_⟩
        refine ⟨.ref d, rfl, d, c, _, 6, rfl, D5, by omega, by decide, by decide, fun y H6 y0 y1 k6 D6 => ?_⟩
        refine ⟨Evl.sz_of (by show 2 ≤ 100000; decide), fun l hl => ?_⟩
        obtain ⟨acc, e1, e2, e3⟩ := p.turn D3 hn ((k5.trans k6).new hl) ((D6.new hl).le (by omega)) (.tup upd_same (.cons ((t.keep (D5.tups k6)).keep (Tups.new hl)) (.cons (.int y) .nil))) (plain_two pl (plain_int (by omega) (by omega))) (by
          rw [wt_two]
          show 1 + (wt D + (1 + 0)) ≤ 9
          omega)
        exact ⟨acc, e1, small1000 (by omega), e3⟩
      · obtain ⟨vs, ds, h1, h2, h3, h4, h5, h6, h7⟩ := p
        refine ⟨L, vs, rfl, .inl ⟨SqL.of h1, fun t ht => ?_⟩⟩
        refine ⟨.ref d, rfl, d, c, _, rfl, h7.new ht, by omega, fun y H5 hy k5 D5 => ?_⟩
        refine ⟨Evl.sz_of (by show 2 ≤ 100000; decide), fun l hl => ?_⟩
        have tt : Tp H5 (.ref t) (.tuple ds) := Tp.keep ((h7.new ht).tups k5) (.tup upd_same (h2.keep (Tups.new ht)))
        refine q _ _ _ (.tup upd_same (.cons (tt.keep (Tups.new hl)) (.cons (.str y) .nil))) (.inl (plain_two h4 (plain_name hy))) ?_ ((((k2.trans k3).trans (h6.new ht)).trans k5).new hl) ((D5.new hl).le (by omega))
        rw [wt_two]
        show 1 + ((1 + wtAll ds) + (1 + 0)) ≤ 40
        omega
    -- 7
    refine ⟨.int r, rfl, rfl, _, rfl, ite2 (fun e => ?_) (fun e7 => ?_)⟩
    · refine ⟨.ref d, rfl, d, c, _, 4, rfl, D2, by omega, by decide, by decide, fun x H3 x0 x1 k3 D3 => ?_⟩
      refine ⟨x, rfl, by omega, by omega, fun L hn => ?_⟩
      refine lc_range (lo := 0) (n := x.toNat) (Coll d c (B + 1 + 1) H3 L 9 8) (Coll.start D3 hn) (fun i H4 hi p => ?_) (fun H4 p => ?_)
      · have h7 := p
        obtain ⟨_, _, _, _, _, _, _, _, D4⟩ := h7
        refine ⟨rfl, .ref d, rfl, d, c, _, 9, rfl, D4, by omega, by decide, by decide, fun y H5 y0 y1 k5 D5 => ?_⟩
        refine ⟨.ref d, rfl, d, c, _, rfl, D5, by omega, fun v D H6 t pl wl k6 D6 => ?_⟩
        refine ⟨Evl.sz_of (by show 2 ≤ 100000; decide), fun l hl => ?_⟩
        obtain ⟨acc, e1, e2, e3⟩ := p.turn D3 hn ((k5.trans k6).new hl) ((D6.new hl).le (by omega)) (.tup upd_same (.cons (.int y) (.cons (t.keep (Tups.new hl)) .nil))) (plain_two (plain_int (by omega) (by omega)) pl) (by
          rw [wt_two]
          show 1 + (1 + (wt D + 0)) ≤ 9
          omega)
        exact ⟨acc, e1, small1000 (by omega), e3⟩
      · obtain ⟨vs, ds, h1, h2, h3, h4, h5, h6, h7⟩ := p
        refine ⟨L, vs, rfl, .inl ⟨SqL.of h1, fun t ht => ?_⟩⟩
        refine ⟨.ref t, rfl, .ref d, rfl, d, c, _, 400, rfl, h7.new ht, by omega, by decide, by decide, fun y H5 y0 y1 k5 D5 => ?_⟩
        refine ⟨Evl.sz_of (by show 2 ≤ 100000; decide), fun l hl => ?_⟩
        have tt : Tp H5 (.ref t) (.tuple ds) := Tp.keep ((h7.new ht).tups k5) (.tup upd_same (h2.keep (Tups.new ht)))
        refine q _ _ _ (.tup upd_same (.cons (tt.keep (Tups.new hl)) (.cons (.int y) .nil))) (.inl (plain_two h4 (plain_int (by omega) (by omega)))) ?_ ((((k2.trans k3).trans (h6.new ht)).trans k5).new hl) ((D5.new hl).le (by omega))
        rw [wt_two]
        show 1 + ((1 + wtAll ds) + (1 + 0)) ≤ 40
        omega
    -- 8
    refine ⟨.ref d, rfl, d, c, _, rfl, D2, by omega, fun x H3 x0 x1 k3 D3 => ?_⟩
    refine ⟨.ref d, rfl, d, c, _, 61, rfl, D3, by omega, by decide, by decide, fun y H4 y0 y1 k4 D4 => ?_⟩
    refine ⟨Evl.sz_of (by show 1 ≤ 100000; decide), fun t ht => ?_⟩
    refine ⟨.ref d, rfl, d, c, _, 2, rfl, D4.new ht, by omega, by decide, by decide, fun z H5 z0 z1 k5 D5 => ?_⟩
    have ht5 : H5 t = some (.tup [.int y]) := (D4.new ht).tups k5 t _ upd_same
    have kk := ((k2.trans k3).trans (k4.new ht)).trans k5
    refine ⟨t, z, [.int y], rfl, rfl, SqT.of ht5, List.cons_ne_nil _ _, ?_⟩
    rcases (show z = 1 ∨ z = 0 by omega) with rfl | rfl
    · refine .inl ⟨rfl, Evl.sz_of (by show 2 ≤ 100000; decide), fun l hl => ?_⟩
      exact q _ _ _ (.tup upd_same (.cons (.int x) (.cons (Tp.keep (Tups.new hl) (.tup ht5 (.cons (.int y) .nil))) .nil))) (.inl (plain_two (plain_int x0 x1) (plain_one (plain_int (by omega) (by omega))))) (by show 4 ≤ 40; decide) (kk.new hl) ((D5.new hl).le (by omega))
    · refine .inr ⟨rfl, fun p hp => ⟨Evl.sz_of (by show 2 ≤ 100000; decide), fun l hl => ?_⟩⟩
      exact q _ _ _ (.tup upd_same (.cons (.int x) (.cons (Tp.keep (Tups.new hl) (.tup upd_same .nil)) .nil))) (.inl (plain_two (plain_int x0 x1) rfl)) (by show 3 ≤ 40; decide) ((kk.new hp).new hl) (((D5.new hp).new hl).le (by omega))
end
end K71
namespace K71
open PySem PySem.Spec PyProof.Rows L2
theorem txtAll_len (ds : List PyData) : (txtAll ds).length = ds.length := by
  induction ds with
  | nil => rfl
  | cons x r ih =>
    show (txtAll r).length + 1 = r.length + 1
    rw [ih]
theorem TpAll.get {H : Hp} : ∀ {vs : List V} {ds : List PyData} {i : Nat} {v : V}, TpAll H vs ds → plainAll ds = true → vs[i]? = some v → ∃ d, Tp H v d ∧ plain d = true ∧ wt d ≤ wtAll ds ∧ (txtAll ds)[i]? = some (txt d)
  | _, _, _, _, .nil, _, e => by simp at e
  | _, d :: ds, 0, v, .cons h r, p, e => by
    have p' : (plain d && plainAll ds) = true := p
    rw [Bool.and_eq_true] at p'
    cases e
    exact ⟨d, h, p'.1, Nat.le_add_right _ _, rfl⟩
  | _, d :: ds, i + 1, v, .cons h r, p, e => by
    have p' : (plain d && plainAll ds) = true := p
    rw [Bool.and_eq_true] at p'
    obtain ⟨x, h1, h2, h3, h4⟩ := r.get p'.2 (show _ = some v from e)
    exact ⟨x, h1, h2, Nat.le_trans h3 (Nat.le_add_left _ _), h4⟩
theorem plainAll_count : ∀ ds : List PyData, ds.length ≤ wtAll ds
  | [] => Nat.le_refl _
  | x :: r => by
    have := plainAll_count r
    have h : 0 < wt x := by
      cases x with
      | tuple xs =>
        show 0 < 1 + wtAll xs
        omega
      | _ => exact Nat.one_pos
    show r.length + 1 ≤ wt x + wtAll r
    omega
theorem take_snoc {α β : Type} (f : α → β) {l : List α} {i : Nat} {x : α} (h : l[i]? = some x) : (l.take i).map f ++ [f x] = (l.take (i + 1)).map f := by
  rw [List.take_add_one, h, List.map_append]
  rfl
section
variable {P : Program} {w : World} {K : PySem.W.Frag} {mg : Str → Option Value} {base : Heap} {a : At}
/-- an item's text, its weight at most n -/
def spTxt (n : Nat) : Sp := fun vs H Q _ => ∃ (v : V) (D : PyData), vs = [v] ∧ Tp H v D ∧ itemOk D ∧ wt D ≤ n ∧ n ≤ 100 ∧ ∀ H', Same H H' → Q (.str (txt D)) H'
theorem wt_pos : ∀ D : PyData, 0 < wt D
  | .none => Nat.one_pos
  | .bool _ => Nat.one_pos
  | .int _ => Nat.one_pos
  | .str _ => Nat.one_pos
  | .list _ => Nat.one_pos
  | .dict _ => Nat.one_pos
  | .tuple xs => by
    show 0 < 1 + wtAll xs
    omega
theorem ok_format_item (T : Tx K mg a) : ∀ n : Nat, FnOk P w K mg base CX0 (n + 1) a.f_format_item a.fd_format_item ["item"] (spTxt n)
  | 0 => ⟨fun vs H Q E h => by obtain ⟨v, D, rfl, _⟩ := h; rfl, fun A outer s H args us vs Q E hr he hb hv h => by
      obtain ⟨v, D, _, _, _, h0, _⟩ := h
      exact absurd h0 (Nat.not_le.mpr (wt_pos D))⟩
  | n + 1 => by
    have ih := ok_format_item T n
    refine T.F_format_item.ok sc_format_item (fun vs H Q E h => ?_) (fun cdv A outer s H vs Q E hr h => ?_)
    · obtain ⟨v, D, rfl, _⟩ := h
      rfl
    · obtain ⟨v, D, rfl, ht, ho, hw, hn, q⟩ := h
      refine ⟨_, (pss_cons (ps_if (pt_cmpR op_isN (pv 0) pe_non (nomark _))
      (pss_one (ps_ret pe_str))
      pss_nil)
    (pss_cons (ps_if (pt_val (pe_callB call_isi (by rfl) T.n_isinstance (by decide +kernel) (pa_cons (pv 0) (pa_cons (pe_bltn (v := .ty "bool") (by rfl) T.n_bool (by decide +kernel) rfl) pa_nil))))
      (pss_one (ps_ret (pe_ifExp (pt_val (pv 0)) pe_str pe_str)))
      pss_nil)
    (pss_cons (ps_if (pt_val (pe_callB call_isi (by rfl) T.n_isinstance (by decide +kernel) (pa_cons (pv 0) (pa_cons (pe_bltn (v := .ty "tuple") (by rfl) T.n_tuple (by decide +kernel) rfl) pa_nil))))
      (pss_one (ps_ret (pe_op op_add_str (pe_op op_add_str pe_str (pe_join pe_str (pe_lc (own := [("one", 1)]) (g := gName 1) (tt := tYes) (by rfl) sc_format_item.nd (pi_tup (pv 0)) (blkOk_by (own := [("one", 1)]) (N := N_format_item) (sc := defScope s_format_item) (by decide +kernel)) (fun _ _ _ _ _ => (pg_name (i := 1) sc_format_item.nd rfl (.inl rfl))) (fun _ _ _ _ _ => pts_nil) (fun _ _ _ _ _ => (pe_call ih hr (by rfl) T.g_format_item T.F_format_item.kp T.b_format_item .nil pass0 (pa_cons (pv 1) pa_nil)))))) pe_str)))
      pss_nil)
    (pss_one (ps_ret (pe_callTy (Gd.callR_or call_str_int SkE.call_str_str) (by rfl) T.n_str (by decide +kernel) (pa_cons (pv 0) pa_nil))))))), ?_⟩
      cases ht with
      | non => exact absurd ho (by rintro (h | ⟨b, h⟩); exact nomatch h; exact nomatch h)
      | bl b =>
        refine ⟨.bl b, rfl, rfl, _, rfl, .bl b, rfl, .bl b, .ty "bool", _, _, true, rfl, .ty "bool", .base (.bl b), kit_ty (by decide +kernel), true, rfl, .bl b, rfl, b, rfl, ?_⟩
        cases b
        · exact q H (Same.refl H)
        · exact q H (Same.refl H)
      | int i =>
        have hp : plain (.int i) = true := by
          rcases ho with h | ⟨b, h⟩
          · exact h
          · exact nomatch h
        exact ⟨.int i, rfl, rfl, _, rfl, .int i, rfl, .int i, .ty "bool", _, _, false, rfl, .ty "bool", .base (.int i), kit_ty (by decide +kernel), false, rfl, .int i, rfl, .int i, .ty "tuple", _, _, false, rfl, .ty "tuple", .base (.int i), kit_ty (by decide +kernel), false, rfl,
          .int i, rfl, .inl ⟨i, rfl, log_small (plain_int_iff hp).1 (plain_int_iff hp).2, q H (Same.refl H)⟩⟩
      | str x =>
        exact ⟨.str x, rfl, rfl, _, rfl, .str x, rfl, .str x, .ty "bool", _, _, false, rfl, .ty "bool", .base (.str x), kit_ty (by decide +kernel), false, rfl, .str x, rfl, .str x, .ty "tuple", _, _, false, rfl, .ty "tuple", .base (.str x), kit_ty (by decide +kernel), false, rfl,
          .str x, rfl, .inr ⟨x, rfl, q H (Same.refl H)⟩⟩
      | @tup t xs ds hH hA =>
        have hp : plainAll ds = true := by
          rcases ho with h | ⟨b, h⟩
          · exact h
          · exact nomatch h
        have hwt : 1 + wtAll ds ≤ n + 1 := hw
        refine ⟨.ref t, rfl, rfl, _, rfl, .ref t, rfl, .ref t, .ty "bool", _, _, false, rfl, .ty "bool", .base (.tup hH), kit_ty (by decide +kernel), false, rfl, .ref t, rfl, .ref t, .ty "tuple", _, _, true, rfl, .ty "tuple", .base (.tup hH), kit_ty (by decide +kernel), true, rfl, ?_⟩
        refine ⟨⟨_, rfl⟩, .ref t, rfl, t, rfl, ⟨_, SqT.of hH⟩, fun L hL => ?_⟩
        refine lc_tup (xs := xs) (fun i H' => Same H H' ∧ H' L = some (.lst (((txtAll ds).take i).map V.str))) ⟨same_new hL, upd_same⟩ (fun i H' _ p => SqT.of (p.1 t _ hH)) (fun i v H' hv p => ?_) (fun H' p => ?_)
        · obtain ⟨d, t1, p1, w1, g1⟩ := hA.get hp hv
          refine ⟨rfl, v, rfl, v, d, rfl, t1.keep (Tups.of_same p.1), .inl p1, by omega, by omega, fun H2 s2 => ?_⟩
          refine ⟨_, s2 L _ p.2, ?_, (fun b o e => ?_), ?_⟩
          · rw [List.length_map, List.length_take, txtAll_len]
            have := hA.length
            have := plainAll_count ds
            exact small1000 (by omega)
          · rw [upd_ne (ne_of_none e hL)]
            exact s2 b o (p.1 b o e)
          · rw [upd_same]
            exact congrArg _ (congrArg _ (take_snoc V.str g1))
        · have hl := hA.length
          have e1 : ((txtAll ds).take xs.length) = txtAll ds := List.take_of_length_le (by rw [txtAll_len]; omega)
          have p2 : H' L = some (.lst ((txtAll ds).map V.str)) := by rw [p.2, e1]
          have hs := txtAll_sum ds hp
          have hz := txt_len (d := .tuple ds) (.inl hp)
          have hz' : wt (.tuple ds) = 1 + wtAll ds := rfl
          have e2 : txt (.tuple ds) = ("[" : Str) ++ Txt.join " " (txtAll ds) ++ ("]" : Str) := by rw [TL.join_eq]; rfl
          have l1 : (("[" : Str) ++ Txt.join " " (txtAll ds) ++ ("]" : Str)).length ≤ 8 * (1 + wtAll ds) := by rw [← e2]; omega
          rw [strLen_append, strLen_append] at l1
          refine ⟨_, L, txtAll ds, rfl, rfl, .inl (SqL.of p2), ?_, _, _, rfl, rfl, ?_, _, _, rfl, rfl, ?_, ?_⟩
          · show _ + (txtAll ds).length * 1 ≤ _
            omega
          · exact Evl.sz_of (by omega)
          · rw [strLen_append]
            exact Evl.sz_of (by omega)
          · have := q H' p.1
            rw [e2] at this
            exact this
end
end K71
namespace K71
open PySem PySem.Spec PyProof.Rows L2
section
variable {P : Program} {w : World} {K : PySem.W.Frag} {mg : Str → Option Value} {base : Heap} {a : At}
theorem ok_text (T : Tx K mg a) : ∀ n : Nat, FnOk P w K mg base CX0 (n + 1) a.f_text a.fd_text ["_law_item_here"] (spTxt n)
  | 0 => ⟨fun vs H Q E h => by obtain ⟨v, D, rfl, _⟩ := h; rfl, fun A outer s H args us vs Q E hr he hb hv h => by
      obtain ⟨v, D, _, _, _, h0, _⟩ := h
      exact absurd h0 (Nat.not_le.mpr (wt_pos D))⟩
  | n + 1 => by
    have ih := ok_text T n
    refine T.F_text.ok sc_text (fun vs H Q E h => ?_) (fun cdv A outer s H vs Q E hr h => ?_)
    · obtain ⟨v, D, rfl, _⟩ := h
      rfl
    · obtain ⟨v, D, rfl, ht, ho, hw, hn, q⟩ := h
      refine ⟨_, (pss_cons (ps_if (pt_val (pe_callB call_isi (by rfl) T.n_isinstance (by decide +kernel) (pa_cons (pv 0) (pa_cons (pe_bltn (v := .ty "tuple") (by rfl) T.n_tuple (by decide +kernel) rfl) pa_nil))))
      (pss_one (ps_ret (pe_op op_add_str (pe_op op_add_str pe_str (pe_join pe_str (pe_lc (own := [("_law_one", 1)]) (g := gName 1) (tt := tYes) (by rfl) sc_text.nd (pi_tup (pv 0)) (blkOk_by (own := [("_law_one", 1)]) (N := N_text) (sc := defScope s_text) (by decide +kernel)) (fun _ _ _ _ _ => (pg_name (i := 1) sc_text.nd rfl (.inl rfl))) (fun _ _ _ _ _ => pts_nil) (fun _ _ _ _ _ => (pe_call ih hr (by rfl) T.g_text T.F_text.kp T.b_text .nil pass0 (pa_cons (pv 1) pa_nil)))))) pe_str)))
      pss_nil)
    (pss_cons (ps_if (pt_val (pe_callB call_isi (by rfl) T.n_isinstance (by decide +kernel) (pa_cons (pv 0) (pa_cons (pe_bltn (v := .ty "bool") (by rfl) T.n_bool (by decide +kernel) rfl) pa_nil))))
      (pss_one (ps_ret (pe_ix ix_list (pe_lst (pa_cons pe_str (pa_cons pe_str pa_nil))) (pe_callTy call_int1 (by rfl) T.n_int (by decide +kernel) (pa_cons (pv 0) pa_nil)) (fun _ _ => rfl))))
      pss_nil)
    (pss_one (ps_ret (pe_ifExp (pt_val (pe_callB call_isi (by rfl) T.n_isinstance (by decide +kernel) (pa_cons (pv 0) (pa_cons (pe_bltn (v := .ty "str") (by rfl) T.n_str (by decide +kernel) rfl) pa_nil)))) (pv 0) (pe_callTy call_str_int (by rfl) T.n_str (by decide +kernel) (pa_cons (pv 0) pa_nil))))))), ?_⟩
      cases ht with
      | non => exact absurd ho (by rintro (h | ⟨b, h⟩); exact nomatch h; exact nomatch h)
      | bl b =>
        refine ⟨.bl b, rfl, .bl b, .ty "tuple", _, _, false, rfl, .ty "tuple", .base (.bl b), kit_ty (by decide +kernel), false, rfl, .bl b, rfl, .bl b, .ty "bool", _, _, true, rfl, .ty "bool", .base (.bl b), kit_ty (by decide +kernel), true, rfl, ?_⟩
        refine ⟨Evl.sz_of (by decide), fun l hl => ⟨.bl b, rfl, .inr ⟨b, rfl, ?_⟩⟩⟩
        cases b
        · exact ⟨l, _, 0, .str "no", rfl, rfl, SqL.of upd_same, rfl, q _ (same_new hl)⟩
        · exact ⟨l, _, 1, .str "yes", rfl, rfl, SqL.of upd_same, rfl, q _ (same_new hl)⟩
      | int i =>
        have hp : plain (.int i) = true := by
          rcases ho with h | ⟨b, h⟩
          · exact h
          · exact nomatch h
        exact ⟨.int i, rfl, .int i, .ty "tuple", _, _, false, rfl, .ty "tuple", .base (.int i), kit_ty (by decide +kernel), false, rfl, .int i, rfl, .int i, .ty "bool", _, _, false, rfl, .ty "bool", .base (.int i), kit_ty (by decide +kernel), false, rfl,
          .int i, rfl, .int i, .ty "str", _, _, false, rfl, .ty "str", .base (.int i), kit_ty (by decide +kernel), false, rfl, .int i, rfl, i, rfl, log_small (plain_int_iff hp).1 (plain_int_iff hp).2, q H (Same.refl H)⟩
      | str x =>
        exact ⟨.str x, rfl, .str x, .ty "tuple", _, _, false, rfl, .ty "tuple", .base (.str x), kit_ty (by decide +kernel), false, rfl, .str x, rfl, .str x, .ty "bool", _, _, false, rfl, .ty "bool", .base (.str x), kit_ty (by decide +kernel), false, rfl,
          .str x, rfl, .str x, .ty "str", _, _, true, rfl, .ty "str", .base (.str x), kit_ty (by decide +kernel), true, rfl, .str x, rfl, q H (Same.refl H)⟩
      | @tup t xs ds hH hA =>
        have hp : plainAll ds = true := by
          rcases ho with h | ⟨b, h⟩
          · exact h
          · exact nomatch h
        have hwt : 1 + wtAll ds ≤ n + 1 := hw
        refine ⟨.ref t, rfl, .ref t, .ty "tuple", _, _, true, rfl, .ty "tuple", .base (.tup hH), kit_ty (by decide +kernel), true, rfl, ?_⟩
        refine ⟨⟨_, rfl⟩, .ref t, rfl, t, rfl, ⟨_, SqT.of hH⟩, fun L hL => ?_⟩
        refine lc_tup (xs := xs) (fun i H' => Same H H' ∧ H' L = some (.lst (((txtAll ds).take i).map V.str))) ⟨same_new hL, upd_same⟩ (fun i H' _ p => SqT.of (p.1 t _ hH)) (fun i v H' hv p => ?_) (fun H' p => ?_)
        · obtain ⟨d, t1, p1, w1, g1⟩ := hA.get hp hv
          refine ⟨rfl, v, rfl, v, d, rfl, t1.keep (Tups.of_same p.1), .inl p1, by omega, by omega, fun H2 s2 => ?_⟩
          refine ⟨_, s2 L _ p.2, ?_, (fun b o e => ?_), ?_⟩
          · rw [List.length_map, List.length_take, txtAll_len]
            have := hA.length
            have := plainAll_count ds
            exact small1000 (by omega)
          · rw [upd_ne (ne_of_none e hL)]
            exact s2 b o (p.1 b o e)
          · rw [upd_same]
            exact congrArg _ (congrArg _ (take_snoc V.str g1))
        · have hl := hA.length
          have e1 : ((txtAll ds).take xs.length) = txtAll ds := List.take_of_length_le (by rw [txtAll_len]; omega)
          have p2 : H' L = some (.lst ((txtAll ds).map V.str)) := by rw [p.2, e1]
          have hs := txtAll_sum ds hp
          have hz := txt_len (d := .tuple ds) (.inl hp)
          have hz' : wt (.tuple ds) = 1 + wtAll ds := rfl
          have e2 : txt (.tuple ds) = ("[" : Str) ++ Txt.join " " (txtAll ds) ++ ("]" : Str) := by rw [TL.join_eq]; rfl
          have l1 : (("[" : Str) ++ Txt.join " " (txtAll ds) ++ ("]" : Str)).length ≤ 8 * (1 + wtAll ds) := by rw [← e2]; omega
          rw [strLen_append, strLen_append] at l1
          refine ⟨_, L, txtAll ds, rfl, rfl, .inl (SqL.of p2), ?_, _, _, rfl, rfl, ?_, _, _, rfl, rfl, ?_, ?_⟩
          · show _ + (txtAll ds).length * 1 ≤ _
            omega
          · exact Evl.sz_of (by omega)
          · rw [strLen_append]
            exact Evl.sz_of (by omega)
          · have := q H' p.1
            rw [e2] at this
            exact this
/-- an answer: selections, and an item or none -/
def spAnswer : Sp := fun vs H Q _ => ∃ (t s r : Addr) (ns : List V), vs = [.ref t] ∧ H t = some (.tup [.ref s, .ref r]) ∧ H s = some (.tup ns) ∧
  ((∃ v D, H r = some (.tup [v]) ∧ Tp H v D ∧ itemOk D ∧ wt D ≤ 40 ∧ ∀ H', Same H H' → Q (.str (txt D)) H') ∨
   (∃ k : Int, H r = some (.tup []) ∧ atI ns (-1) = some (.int k) ∧ -1000 < k ∧ k < 1000 ∧ ∀ H', Same H H' → Q (.str (("other " : Str) ++ (toString k : Str))) H'))
theorem item_lay {D : PyData} (h : itemOk D) (hw : wt D ≤ 40) : SeqAt.shaped (.tuple [D]) = true := by
  unfold SeqAt.shaped
  rw [Bool.and_eq_true]
  rcases h with h | ⟨b, rfl⟩
  · obtain ⟨h1, h2, h3, h4⟩ := plain_showable D h
    refine ⟨?_, decide_eq_true ?_⟩
    · show (D.canLay0 && true) = true
      rw [h4]
      rfl
    · show max D.depth 0 + 1 ≤ 64
      omega
  · exact ⟨rfl, rfl⟩
theorem ok_format_answer (T : Tx K mg a) : FnOk P w K mg base CX0 102 a.f_format_answer a.fd_format_answer ["answer"] spAnswer := by
  refine T.F_format_answer.ok sc_format_answer (fun vs H Q E h => ?_) (fun cdv A outer s0 H vs Q E hr h => ?_)
  · obtain ⟨t, s, r, ns, rfl, _⟩ := h
    rfl
  · obtain ⟨t, s, r, ns, rfl, ht, hs, h⟩ := h
    refine ⟨_, (pss_cons (ps_asg (pv 0) (pg_tup (by rfl) (pgs_cons (pg_name (i := 1) sc_format_answer.nd rfl (.inl rfl)) (pgs_cons (pg_name (i := 2) sc_format_answer.nd rfl (.inl rfl)) pgs_nil))))
    (pss_one (ps_ret (pe_ifExp (pt_cmpR (op_eqD hr.units) (pv 2) (pe_tup pa_nil) (nomark _)) (pe_joined (.cons pe_str (.cons (pe_fmt (pe_ix ix_tup (pv 1) (pe_un un_neg pe_int) (fun _ _ => rfl))) .nil))) (pe_call (ok_format_item T 100) hr (by rfl) T.g_format_item T.F_format_item.kp T.b_format_item .nil pass0 (pa_cons (pe_ix ix_tup (pv 2) pe_int (fun _ _ => rfl)) pa_nil)))))), ?_⟩
    refine ⟨.ref t, rfl, t, _, rfl, SqT.of ht, rfl, _, _, rfl, _, _, rfl, rfl, ?_⟩
    refine ⟨.ref r, rfl, Nat.zero_le _, fun p hp => ?_⟩
    have sm := same_new (o := .tup []) hp
    rcases h with ⟨v, D, hr1, tD, iD, wD, q⟩ | ⟨k, hr1, ek, k0, k1, q⟩
    · refine ⟨_, _, .tup (SqT.of (sm r _ hr1)) (.cons (tD.keep (Tups.of_same sm)).dp .nil), .tup (SqT.of upd_same) .nil, item_lay iD wD, rfl, _, rfl, ?_⟩
      refine ⟨.ref r, rfl, r, _, 0, v, rfl, rfl, SqT.of (sm r _ hr1), rfl, v, D, rfl, tD.keep (Tups.of_same sm), iD, by omega, Nat.le_refl _, fun H' s' => q H' (sm.trans s')⟩
    · refine ⟨_, _, .tup (SqT.of (sm r _ hr1)) .nil, .tup (SqT.of upd_same) .nil, rfl, rfl, _, rfl, ?_⟩
      refine ⟨_, rfl, ?_, .ref s, rfl, 1, rfl, s, _, _, _, rfl, rfl, SqT.of (sm s _ hs), ek, .inr ⟨k, rfl, log_small k0 k1, _, rfl, ?_, ?_⟩⟩
      · exact Evl.sz_of (by decide +kernel)
      · have := shown_int_len k0 k1
        have e : (PyData.shown (.int k)).length = (Str.ofString (toString k)).length := rfl
        rw [strLen_append, strLen_append]
        exact Evl.sz_of (by
          show 0 + 6 + _ ≤ _
          omega)
      · exact q _ sm
end
end K71
namespace Gd
open PySem PySem.Spec PyProof.Rows L2
/-! ### how long a shown datum is -/
mutual
def lenB : PyData → Nat
  | .list xs => 4 + lenBs xs
  | .tuple xs => 5 + lenBs xs
  | .dict _ => 0
  | d => d.shown.length + 2
def lenBs : List PyData → Nat
  | [] => 0
  | x :: r => lenB x + lenBs r
end
mutual
theorem shown_le : ∀ d : PyData, d.hasDict = false → d.shown.length + 2 ≤ lenB d
  | .none, _ => Nat.le_refl _
  | .bool _, _ => Nat.le_refl _
  | .int _, _ => Nat.le_refl _
  | .str _, _ => Nat.le_refl _
  | .dict _, h => nomatch h
  | .tuple xs, h => by
    have h1 := shownAll_le xs h
    have h2 := K71.tupleText_len (PyData.shownAll xs)
    show (tupleText (PyData.shownAll xs)).length + 2 ≤ 5 + lenBs xs
    omega
  | .list xs, h => by
    have h1 := shownAll_le xs h
    have h2 := K71.listText_len (PyData.shownAll xs)
    show (listText (PyData.shownAll xs)).length + 2 ≤ 4 + lenBs xs
    omega
theorem shownAll_le : ∀ ds : List PyData, PyData.hasDictAll ds = false → piled (PyData.shownAll ds) ≤ lenBs ds
  | [], _ => Nat.le_refl _
  | x :: r, h => by
    have h' : (x.hasDict || PyData.hasDictAll r) = false := h
    rw [Bool.or_eq_false_iff] at h'
    have h1 := shown_le x h'.1
    have h2 := shownAll_le r h'.2
    show piled (PyData.shown x :: PyData.shownAll r) ≤ lenB x + lenBs r
    rw [piled_cons]
    omega
end
/-- t + u: the two ways out are one -/
theorem cat_join {Q : VK} {H : Hp} {a : Addr} {xs ys : List V} (ha : H a = some (.tup xs)) (key : ∀ q H', Same H H' → H' q = some (.tup (xs ++ ys)) → Q (.ref q) H') :
    (ys = [] → Q (.ref a) H) ∧ (ys ≠ [] → ∀ p, H p = none → Q (.ref p) (upd H p (.tup (xs ++ ys)))) := by
  refine ⟨fun e => key a H (Same.refl H) ?_, fun _ p hp => key p _ (fun b x e => ?_) upd_same⟩
  · rw [e, List.append_nil]
    exact ha
  · rw [upd_ne (ne_of_none e hp)]
    exact e
section
variable {X : Cx}
def rCatJ (K : PySem.W.Frag) : R2 := fun x y H Q => ∃ a b xs ys, x = .ref a ∧ y = .ref b ∧ H a = some (.tup xs) ∧ SqT K H b ys ∧ xs ≠ [] ∧ xs.length + ys.length ≤ sizeLine ∧ ∀ q H', Same H H' → H' q = some (.tup (xs ++ ys)) → Q (.ref q) H'
theorem op_catJ : OpR X (binaryOp .Add) (rCatJ X.K) := by
  intro pins s σ H x y v u Q I rx ry h
  obtain ⟨a, b, xs, ys, rfl, rfl, h1, h2, h3, h4, h5⟩ := h
  exact op_catT pins s σ H _ _ v u Q I rx ry ⟨a, b, xs, ys, rfl, rfl, SqT.of h1, h2, h3, h4, cat_join h1 h5⟩
end
theorem valV_mem {κ : Type} [DecidableEq κ] {kvs : List (κ × V)} {k : κ} {v : V} (h : valV kvs k = some v) : (k, v) ∈ kvs := by
  unfold valV at h
  obtain ⟨p, hp, e⟩ := Option.map_eq_some_iff.mp h
  have h1 := List.mem_of_find?_eq_some hp
  have h2 := List.find?_some hp
  have h3 : p.1 = k := of_decide_eq_true h2
  rw [← h3, ← e]
  exact h1
theorem putK_mem {κ : Type} [DecidableEq κ] {kvs : List (κ × V)} {k : κ} {v : V} {p : κ × V} (h : p ∈ putK kvs k v) : p ∈ kvs ∨ p = (k, v) := by
  unfold putK at h
  split at h
  · obtain ⟨q, hq, e⟩ := List.mem_map.mp h
    by_cases hk : q.1 = k
    · rw [if_pos hk] at e
      rw [← e, hk]
      exact .inr rfl
    · rw [if_neg hk] at e
      rw [← e]
      exact .inl hq
  · rcases List.mem_append.mp h with h | h
    · exact .inl h
    · exact .inr (List.mem_singleton.mp h)
theorem putK_len {κ : Type} [DecidableEq κ] (kvs : List (κ × V)) (k : κ) (v : V) : (putK kvs k v).length ≤ kvs.length + 1 := by
  unfold putK
  split
  · rw [List.length_map]
    omega
  · rw [List.length_append]
    exact Nat.le_refl _
end Gd
namespace K71
open PySem PySem.Spec PyProof.Rows L2
/-- ints drawn into a list -/
def CollI (d c : Addr) (B : Int) (H : Hp) (D : Addr) (i : Nat) (H' : Hp) : Prop :=
  ∃ ns : List Int, H' D = some (.lst (ns.map V.int)) ∧ ns.length = i ∧ (∀ n ∈ ns, 0 ≤ n ∧ n < 1000) ∧ Keeps d c H H' ∧ Deck H' d c (B + (i : Int))
theorem CollI.start {d c D : Addr} {B : Int} {H : Hp} (hD : Deck H d c B) (hn : H D = none) : CollI d c B H D 0 (upd H D (.lst [])) :=
  ⟨[], upd_same, rfl, (fun n h => absurd h List.not_mem_nil), (Keeps.refl d c H).new hn, (hD.new hn).le (by omega)⟩
theorem CollI.turn {d c D : Addr} {B : Int} {H H1 H2 : Hp} {i : Nat} {x : Int} (h : CollI d c B H D i H1) (hD : Deck H d c B) (hn : H D = none) (k : Keeps d c H1 H2) (D2 : Deck H2 d c (B + (i : Int) + 1)) (h0 : 0 ≤ x) (h1 : x < 1000) :
    ∃ acc, H2 D = some (.lst acc) ∧ acc.length = i ∧ CollI d c B H D (i + 1) (upd H2 D (.lst (acc ++ [.int x]))) := by
  obtain ⟨ns, a1, a2, a3, a4, a5⟩ := h
  have ed := hD.ned hn
  have ec := hD.nec hn
  refine ⟨_, k D _ ed ec a1, by rw [List.length_map]; exact a2, ns ++ [x], ?_, ?_, ?_, (a4.trans k).mut hn, (D2.mut ed ec).le (by omega)⟩
  · rw [upd_same, List.map_append]
    rfl
  · rw [List.length_append, a2]
    rfl
  · intro n hm
    rcases List.mem_append.mp hm with hm | hm
    · exact a3 n hm
    · rw [List.mem_singleton.mp hm]
      exact ⟨h0, h1⟩
theorem last_of {ns : List Int} (h : ∀ n ∈ ns, 0 ≤ n ∧ n < 1000) : ∃ k : Int, atI ([V.int 3] ++ ns.map V.int) (-1) = some (.int k) ∧ -1000 < k ∧ k < 1000 := by
  rcases eq_nil_or_concat ns with rfl | ⟨ys, y, rfl⟩
  · exact ⟨3, rfl, by decide, by decide⟩
  · have hy := h y (List.mem_append_right _ (List.mem_singleton.mpr rfl))
    refine ⟨y, ?_, by omega, by omega⟩
    rw [List.map_append, ← List.append_assoc]
    exact atI_last _ _
def dInts (ns : List Int) : PyData := .tuple (ns.map PyData.int)
/-- the two answers beside each other -/
def dBoth (ns : List Int) (D : PyData) : PyData := .tuple [.tuple [dInts ns, .tuple [D]], .tuple [dInts (3 :: ns), .tuple []]]
theorem plain_lenB : ∀ d : PyData, itemOk d → wt d ≤ 40 → Gd.lenB d ≤ 80 * wt d := by
  have all : ∀ n, (∀ d : PyData, wt d ≤ n → plain d = true → Gd.lenB d ≤ 80 * wt d) ∧ (∀ ds : List PyData, wtAll ds ≤ n → plainAll ds = true → Gd.lenBs ds ≤ 80 * wtAll ds) := by
    intro n
    induction n with
    | zero =>
      refine ⟨fun d h => absurd h (Nat.not_le.mpr (wt_pos d)), fun ds h hp => ?_⟩
      cases ds with
      | nil => exact Nat.le_refl _
      | cons x r =>
        have := wt_pos x
        have h' : wt x + wtAll r ≤ 0 := h
        omega
    | succ n ih =>
      have one : ∀ d : PyData, wt d ≤ n + 1 → plain d = true → Gd.lenB d ≤ 80 * wt d := by
        intro d h hp
        cases d with
        | int i =>
          have := shown_int_len (plain_int_iff hp).1 (plain_int_iff hp).2
          show (PyData.shown (.int i)).length + 2 ≤ 80 * 1
          omega
        | str x =>
          have g := name_code (plain_str_iff hp)
          have := StrLaws.reprText_len x g.1
          show (reprText x).length + 2 ≤ 80 * 1
          omega
        | tuple xs =>
          have h' : 1 + wtAll xs ≤ n + 1 := h
          have := ih.2 xs (by omega) hp
          show 5 + Gd.lenBs xs ≤ 80 * (1 + wtAll xs)
          omega
        | none => exact nomatch hp
        | bool b => exact nomatch hp
        | list xs => exact nomatch hp
        | dict xs => exact nomatch hp
      refine ⟨one, ?_⟩
      intro ds
      induction ds with
      | nil => exact fun _ _ => Nat.le_refl _
      | cons x r ihr =>
        intro h hp
        have hp' : (plain x && plainAll r) = true := hp
        rw [Bool.and_eq_true] at hp'
        have h' : wt x + wtAll r ≤ n + 1 := h
        have a1 := one x (by omega) hp'.1
        have a2 := ihr (by omega) hp'.2
        show Gd.lenB x + Gd.lenBs r ≤ 80 * (wt x + wtAll r)
        omega
  intro d h hw
  rcases h with h | ⟨b, rfl⟩
  · exact (all 40).1 d hw h
  · cases b <;> decide +kernel
theorem item_show {D : PyData} (h : itemOk D) (hw : wt D ≤ 40) : D.showable = true ∧ D.hasDict = false ∧ D.depth ≤ 40 ∧ Gd.lenB D ≤ 3200 := by
  have hl := plain_lenB D h hw
  rcases h with h | ⟨b, rfl⟩
  · obtain ⟨a1, a2, a3, a4⟩ := plain_showable D h
    exact ⟨a1, a2, by omega, by omega⟩
  · exact ⟨rfl, rfl, Nat.zero_le _, by omega⟩
theorem ints_show : ∀ ns : List Int, (∀ n ∈ ns, 0 ≤ n ∧ n < 1000) → PyData.showableAll (ns.map PyData.int) = true ∧ PyData.hasDictAll (ns.map PyData.int) = false ∧ PyData.depthAll (ns.map PyData.int) ≤ 1 ∧ Gd.lenBs (ns.map PyData.int) ≤ 8 * ns.length
  | [], _ => ⟨rfl, rfl, Nat.zero_le _, Nat.le_refl _⟩
  | n :: r, h => by
    have hn := h n List.mem_cons_self
    obtain ⟨a1, a2, a3, a4⟩ := ints_show r fun m hm => h m (List.mem_cons_of_mem _ hm)
    refine ⟨?_, ?_, depth_ints (n :: r), ?_⟩
    · show ((PyData.int n).showable && PyData.showableAll (r.map PyData.int)) = true
      rw [a1, Bool.and_true]
      exact decide_eq_true (log_small (by omega) (by omega))
    · show ((PyData.int n).hasDict || PyData.hasDictAll (r.map PyData.int)) = false
      rw [a2]
      rfl
    · have := shown_int_len (i := n) (by omega) (by omega)
      show (PyData.shown (.int n)).length + 2 + Gd.lenBs (r.map PyData.int) ≤ 8 * (r.length + 1)
      omega
theorem both_show {ns : List Int} {D : PyData} (hn : ∀ n ∈ ns, 0 ≤ n ∧ n < 1000) (hl : ns.length ≤ 10) (h : itemOk D) (hw : wt D ≤ 40) :
    (dBoth ns D).showable = true ∧ (dBoth ns D).hasDict = false ∧ (dBoth ns D).depth ≤ 60 ∧ (dBoth ns D).shown.length ≤ sizeLine := by
  obtain ⟨a1, a2, a3, a4⟩ := item_show h hw
  obtain ⟨b1, b2, b3, b4⟩ := ints_show ns hn
  obtain ⟨c1, c2, c3, c4⟩ := ints_show (3 :: ns) (by
    intro n hm
    rcases List.mem_cons.mp hm with rfl | hm
    · decide
    · exact hn n hm)
  have hd : (dBoth ns D).hasDict = false := by
    show (((PyData.hasDictAll (ns.map PyData.int)) || ((D.hasDict || false) || false)) || (((PyData.hasDictAll ((3 :: ns).map PyData.int)) || (false || false)) || false)) = false
    rw [a2, b2, c2]
    rfl
  refine ⟨?_, hd, ?_, ?_⟩
  · show (((PyData.showableAll (ns.map PyData.int)) && ((D.showable && true) && true)) && (((PyData.showableAll ((3 :: ns).map PyData.int)) && (true && true)) && true)) = true
    rw [a1, b1, c1]
    rfl
  · show max (max (PyData.depthAll (ns.map PyData.int) + 1) (max (max D.depth 0 + 1) 0) + 1) (max (max (PyData.depthAll ((3 :: ns).map PyData.int) + 1) (max (0 + 1) 0) + 1) 0) + 1 ≤ 60
    omega
  · have := Gd.shown_le _ hd
    have e : Gd.lenB (dBoth ns D) = 5 + ((5 + ((5 + Gd.lenBs (ns.map PyData.int)) + ((5 + (Gd.lenB D + 0)) + 0))) + ((5 + ((5 + Gd.lenBs ((3 :: ns).map PyData.int)) + ((5 + 0) + 0))) + 0)) := rfl
    rw [List.length_cons] at c4
    exact Evl.sz_of (by omega)
theorem txt_small {D : PyData} (h : itemOk D) (hw : wt D ≤ 40) : (txt D).length ≤ 320 := by
  have := txt_len h
  omega
end K71
namespace K71
open PySem PySem.Spec PyProof.Rows L2
theorem int_codes_all : (List.range 1999).all (fun k => (TL.tl (Str.ofString (toString ((k : Int) - 999)))).all (fun c => decide (c < 128))) = true := by decide +kernel
theorem int_codes {i : Int} (h1 : -1000 < i) (h2 : i < 1000) : ∀ c ∈ tx (.int i), c < 128 := by
  have h := List.all_eq_true.mp int_codes_all (i + 999).toNat (List.mem_range.mpr (by omega))
  rw [show (((i + 999).toNat : Nat) : Int) - 999 = i by omega] at h
  exact fun c hc => of_decide_eq_true (List.all_eq_true.mp h c hc)
theorem name_codes_all : names.all (fun x => (TL.tl x).all (fun c => decide (c < 128))) = true := by decide +kernel
theorem name_codes {x : Str} (h : x ∈ names) : ∀ c ∈ tx (.str x), c < 128 := fun c hc => of_decide_eq_true (List.all_eq_true.mp (List.all_eq_true.mp name_codes_all x h) c hc)
theorem joinL_codes : ∀ ls : List (List Nat), (∀ l ∈ ls, ∀ c ∈ l, c < 128) → ∀ c ∈ TL.joinL [32] ls, c < 128
  | [], _, c, h => absurd h List.not_mem_nil
  | [p], hl, c, h => hl p (List.mem_singleton.mpr rfl) c h
  | p :: q :: r, hl, c, h => by
    have h' : c ∈ p ++ ([32] ++ TL.joinL [32] (q :: r)) := h
    rcases List.mem_append.mp h' with h | h
    · exact hl p List.mem_cons_self c h
    · rcases List.mem_append.mp h with h | h
      · rw [List.mem_singleton.mp h]
        decide
      · exact joinL_codes (q :: r) (fun l hm => hl l (List.mem_cons_of_mem _ hm)) c h
mutual
theorem tx_codes : ∀ d : PyData, plain d = true → ∀ c ∈ tx d, c < 128
  | .int i, h => int_codes (plain_int_iff h).1 (plain_int_iff h).2
  | .str x, h => name_codes (plain_str_iff h)
  | .tuple xs, h => fun c hc => by
    have hc' : c ∈ 91 :: (TL.joinL [32] (txAll xs) ++ [93]) := hc
    rcases List.mem_cons.mp hc' with rfl | hc'
    · decide
    · rcases List.mem_append.mp hc' with hc' | hc'
      · exact joinL_codes _ (txAll_codes xs h) c hc'
      · rw [List.mem_singleton.mp hc']
        decide
  | .none, h => nomatch h
  | .bool b, h => nomatch h
  | .list xs, h => nomatch h
  | .dict xs, h => nomatch h
theorem txAll_codes : ∀ ds : List PyData, plainAll ds = true → ∀ l ∈ txAll ds, ∀ c ∈ l, c < 128
  | [], _ => fun l h => absurd h List.not_mem_nil
  | x :: r, h => fun l hl => by
    have h' : (plain x && plainAll r) = true := h
    rw [Bool.and_eq_true] at h'
    rcases List.mem_cons.mp (show l ∈ tx x :: txAll r from hl) with rfl | hl
    · exact tx_codes x h'.1
    · exact txAll_codes r h'.2 l hl
end
theorem repr_small {x : Str} (h : ∀ c ∈ TL.tl x, c < 128) (hl : x.length ≤ 320) : (reprText x).length ≤ 3202 := by
  have := StrLaws.reprText_len x fun c hc => Nat.lt_trans (h c hc) (by decide)
  omega
theorem due_small {D : PyData} (h : itemOk D) (hw : wt D ≤ 40) : (reprText (txt D)).length ≤ 3202 := by
  refine repr_small ?_ (txt_small h hw)
  rw [tl_txt]
  rcases h with h | ⟨b, rfl⟩
  · exact tx_codes D h
  · intro c hc
    have : (tx (.bool b)).all (fun c => decide (c < 128)) = true := by cases b <;> decide +kernel
    exact of_decide_eq_true (List.all_eq_true.mp this c hc)
theorem other_small {k : Int} (h1 : -1000 < k) (h2 : k < 1000) : (("other " : Str) ++ (toString k : Str)).length ≤ 12 ∧ (reprText (("other " : Str) ++ (toString k : Str))).length ≤ 3202 := by
  have hl := shown_int_len h1 h2
  have e : (PyData.shown (.int k)).length = (Str.ofString (toString k)).length := rfl
  have e6 : (("other " : String) : Str).length = 6 := rfl
  have hlen : (("other " : Str) ++ (toString k : Str)).length ≤ 12 := by
    rw [strLen_append]
    omega
  refine ⟨hlen, repr_small ?_ (by omega)⟩
  rw [TL.tl_append]
  intro c hc
  rcases List.mem_append.mp hc with hc | hc
  · have : (TL.tl ("other " : Str)).all (fun c => decide (c < 128)) = true := by decide +kernel
    exact of_decide_eq_true (List.all_eq_true.mp this c hc)
  · exact int_codes h1 h2 c hc
def dTold (x y : Str) : PyData := .list [.str x, .str x, .str y, .str "other 4"]
theorem told_show {x y : Str} (h1 : (reprText x).length ≤ 3202) (h2 : (reprText y).length ≤ 3202) : (dTold x y).showable = true ∧ (dTold x y).hasDict = false ∧ (dTold x y).depth ≤ 60 ∧ (dTold x y).shown.length ≤ sizeLine := by
  refine ⟨rfl, rfl, by show 1 ≤ 60; decide, ?_⟩
  have := Gd.shown_le (dTold x y) rfl
  have e : Gd.lenB (dTold x y) = 4 + (((reprText x).length + 2) + (((reprText x).length + 2) + (((reprText y).length + 2) + (((reprText ("other 4" : Str)).length + 2) + 0)))) := rfl
  have e4 : (reprText ("other 4" : Str)).length = 9 := by decide +kernel
  exact Evl.sz_of (by omega)
theorem item_shown {D : PyData} (h : itemOk D) (hw : wt D ≤ 40) : D.showable = true ∧ D.hasDict = false ∧ D.depth ≤ 60 ∧ D.shown.length ≤ sizeLine := by
  obtain ⟨a1, a2, a3, a4⟩ := item_show h hw
  have := Gd.shown_le D a2
  exact ⟨a1, a2, by omega, Evl.sz_of (by omega)⟩
end K71
namespace K71
open PySem PySem.Spec PyProof.Rows L2
/-- what the law's dict holds -/
def Told (kvs : List (Key × V)) : Prop := ∀ p ∈ kvs, ∃ D, itemOk D ∧ p = (Sum.inr (txt D), V.str D.shown)
def Loop (x d c tx : Addr) (i : Nat) (σ : L2.St) (H : Hp) : Prop := ∃ (y1 y4 y5 y6 y7 y8 y9 y10 y11 : Option V) (kvs : List (Key × V)),
  σ = [some (.ref x), y1, some (.ref d), some (.ref tx), y4, y5, y6, y7, y8, y9, y10, y11] ∧ Deck H d c (100 * (i : Int)) ∧ H tx = some (.dK kvs) ∧ kvs.length ≤ i ∧ Told kvs ∧ tx ≠ d ∧ tx ≠ c
theorem Deck.keepS {H H' : Hp} {d c : Addr} {B : Int} (h : Deck H d c B) (s : Same H H') : Deck H' d c B := by
  obtain ⟨ns, m, n, h1, h2, r⟩ := h
  exact ⟨ns, m, n, s _ _ h1, s _ _ h2, r⟩
theorem ne_self (x : V) : (!decide (x = x)) = false := by
  rw [decide_eq_true rfl]
  rfl
section
variable {P : Program} {w : World} {K : PySem.W.Frag} {mg : Str → Option Value} {base : Heap} {a : At}
def spLaw (K : PySem.W.Frag) : Sp := fun vs H Q _ => ∃ (x : Addr) (ns : List Int), vs = [.ref x] ∧ SqL K H x (ns.map V.int) ∧ ns.length ≤ 63 ∧ ∀ H', Q (.bl true) H'
theorem ok_law (T : Tx K mg a) : Gd.FnG P w K mg base CX0 104 a.f_law a.fd_law ["_law_script"] (spLaw K) := by
  refine Gd.okG T.F_law sc_law (fun vs H Q E h => ?_) (fun cdv A outer s H vs Q E gd hr h => ?_)
  · obtain ⟨x, ns, rfl, _⟩ := h
    rfl
  · obtain ⟨x, ns, rfl, hS, hlen, q⟩ := h
    refine ⟨_, (pss_cons (ps_asg (pe_tup (pa_cons (pe_call (ok_deck T) (hr.mono (by decide)) (by rfl) T.g_deck T.F_deck.kp T.b_deck .nil pass0 (pa_cons (pv 0) pa_nil)) (pa_cons pe_dnewK pa_nil))) (pg_tup (by rfl) (pgs_cons (pg_name (i := 2) sc_law.nd rfl (.inr rfl)) (pgs_cons (pg_name (i := 3) sc_law.nd rfl (.inl rfl)) pgs_nil))))
    (pss_cons (ps_for PassesOwn.never rfl (pi_range1 (by rfl) T.n_range (pa_cons pe_int pa_nil)) (pg_name (i := 1) sc_law.nd rfl (.inl rfl))
      (pss_cons (ps_set (i := 4) sc_law.nd rfl (.inl rfl) (pe_callTy call_tuple_of (by rfl) T.n_tuple (by decide +kernel) (pa_cons (pe_lc (own := [("_law_k", 11)]) (g := gName 11) (tt := tYes) (by rfl) sc_law.nd (pi_range1 (by rfl) T.n_range (pa_cons (pe_call (ok_draw T) (hr.mono (by decide)) (by rfl) T.g_draw T.F_draw.kp T.b_draw .nil pass0 (pa_cons (pv 2) (pa_cons pe_int pa_nil))) pa_nil)) (blkOk_by (own := [("_law_k", 11)]) (N := N_law) (sc := defScope s_law) (by decide +kernel)) (fun _ _ _ _ _ => (pg_name (i := 11) sc_law.nd rfl (.inl rfl))) (fun _ _ _ _ _ => pts_nil) (fun _ _ _ _ _ => (pe_call (ok_draw T) (hr.mono (by decide)) (by rfl) T.g_draw T.F_draw.kp T.b_draw .nil pass0 (pa_cons (pv 2) (pa_cons pe_int pa_nil))))) pa_nil)))
      (pss_cons (ps_set (i := 5) sc_law.nd rfl (.inl rfl) (pe_call (ok_item T) (hr.mono (by decide)) (by rfl) T.g_item T.F_item.kp T.b_item .nil pass0 (pa_cons (pv 2) pa_nil)))
      (pss_cons (ps_par (i := 7) (j := 8) (by rfl) sc_law.nd rfl rfl (by decide) rfl rfl (pa_cons (pe_tup (pa_cons (pv 4) (pa_cons (pe_tup (pa_cons (pv 5) pa_nil)) pa_nil))) (pa_cons (pe_tup (pa_cons (pe_op Gd.op_catJ (pe_tup (pa_cons pe_int pa_nil)) (pv 4)) (pa_cons (pe_tup pa_nil) pa_nil))) pa_nil)) (by rfl))
      (pss_cons (ps_par (i := 9) (j := 10) (by rfl) sc_law.nd rfl rfl (by decide) rfl rfl (pa_cons (pe_callB (Gd.call_show gd hr) (by rfl) T.n_repr (by decide +kernel) (pa_cons (pe_tup (pa_cons (pv 7) (pa_cons (pv 8) pa_nil))) pa_nil)) (pa_cons (pe_call (ok_text T 100) (hr.mono (by decide)) (by rfl) T.g_text T.F_text.kp T.b_text .nil pass0 (pa_cons (pv 5) pa_nil)) pa_nil)) (by rfl))
      (pss_cons (ps_set (i := 6) sc_law.nd rfl (.inl rfl) (pe_lst (pa_cons (pe_call (ok_format_answer T) (hr.mono (by decide)) (by rfl) T.g_format_answer T.F_format_answer.kp T.b_format_answer .nil pass0 (pa_cons (pv 7) pa_nil)) (pa_cons (Gd.pe_callK0 (ok_format_answer T) (hr.mono (by decide)) (by rfl) T.g_format_answer T.F_format_answer.kp T.kb_format_answer pass0 (pk_cons (pv 7) pk_nil)) (pa_cons (pe_call (ok_format_answer T) (hr.mono (by decide)) (by rfl) T.g_format_answer T.F_format_answer.kp T.b_format_answer .nil pass0 (pa_cons (pv 8) pa_nil)) (pa_cons (pe_call (ok_format_answer T) (hr.mono (by decide)) (by rfl) T.g_format_answer T.F_format_answer.kp T.b_format_answer .nil pass0 (pa_cons (pe_tup (pa_cons (pe_tup (pa_cons pe_int (pa_cons pe_int pa_nil))) (pa_cons (pe_tup pa_nil) pa_nil))) pa_nil)) pa_nil))))))
      (pss_cons (ps_if (PW.pt (pw_or (pt_cmpR op_ne (pe_callB (Gd.call_show gd hr) (by rfl) T.n_repr (by decide +kernel) (pa_cons (pv 6) pa_nil)) (pe_callB (Gd.call_show gd hr) (by rfl) T.n_repr (by decide +kernel) (pa_cons (pe_lst (pa_cons (pv 10) (pa_cons (pv 10) (pa_cons (pe_op op_add_str pe_str (pe_callTy call_str_int (by rfl) T.n_str (by decide +kernel) (pa_cons (pe_ix ix_tup (pe_ix ix_tup (pv 8) pe_int (fun _ _ => rfl)) (pe_un un_neg pe_int) (fun _ _ => rfl)) pa_nil))) (pa_cons pe_str pa_nil))))) pa_nil)) (nomark _)) (pw_or1 (pt_cmpR op_ne (pe_callB (Gd.call_show gd hr) (by rfl) T.n_repr (by decide +kernel) (pa_cons (pe_tup (pa_cons (pv 7) (pa_cons (pv 8) pa_nil))) pa_nil)) (pv 9) (nomark _)))))
        (pss_one (ps_ret pe_bl))
        pss_nil)
      (Evl.pss_cut (ps_if (PW.pt (pw_and (pt_val (pe_callB call_isi (by rfl) T.n_isinstance (by decide +kernel) (pa_cons (pv 5) (pa_cons (pe_bltn (v := .ty "tuple") (by rfl) T.n_tuple (by decide +kernel) rfl) pa_nil)))) (pw_and1 (pt_cmpR op_ne (pe_dget2 (hu_of hr) (pv 3) (pv 10) (pe_callB (Gd.call_show gd hr) (by rfl) T.n_repr (by decide +kernel) (pa_cons (pv 5) pa_nil)) ⟨rfl, rfl, rfl, rfl⟩) (pe_callB (Gd.call_show gd hr) (by rfl) T.n_repr (by decide +kernel) (pa_cons (pv 5) pa_nil)) (nomark _)))))
        (pss_one (ps_ret pe_bl))
        pss_nil)
      (pss_one (ps_dput (hu_of hr) (pv 3) (pv 10) (pe_callB (Gd.call_show gd hr) (by rfl) T.n_repr (by decide +kernel) (pa_cons (pv 5) pa_nil)) rfl))))))))))
    (pss_one (ps_ret pe_bl)))), ?_⟩
    refine ⟨.ref x, rfl, x, ns, rfl, hS, hlen, fun d c H1 s1 nd nc D1 => ?_⟩
    refine fun tx ht => ⟨Evl.sz_of (by show 2 ≤ 100000; decide), fun p hp => ?_⟩
    have D2 := (D1.new (o := .dK []) ht).new (o := .tup [.ref d, .ref tx]) hp
    have ht2 : upd (upd H1 tx (.dK [])) p (.tup [.ref d, .ref tx]) tx = some (.dK []) := by
      rw [upd_ne (ne_of_none upd_same hp), upd_same]
    refine ⟨p, _, rfl, SqT.of upd_same, rfl, _, _, rfl, _, _, rfl, rfl, ?_⟩
    refine ⟨40, rfl, by decide, by decide, for_range (lo := 0) (n := 40) (Loop x d c tx) ⟨none, none, none, none, none, none, none, none, none, [], rfl, D2.le (by decide), ht2, Nat.le_refl _, (fun p h => absurd h List.not_mem_nil), D1.ned ht, D1.nec ht⟩ ?_ ?_⟩
    · rintro i σ H2 hi ⟨y1, y4, y5, y6, y7, y8, y9, y10, y11, kvs, rfl, D3, hk, hkl, told, nd, nc⟩
      -- the selections
      refine ⟨.ref d, rfl, d, c, _, 5, rfl, D3, by omega, by decide, by decide, fun r H3 r0 r1 k3 D4 => ?_⟩
      refine ⟨r, rfl, by omega, by omega, fun L hL => ?_⟩
      refine lc_range (lo := 0) (n := r.toNat) (CollI d c (100 * (i : Int) + 1) H3 L) (CollI.start D4 hL) (fun j H4 hj p => ?_) (fun H4 p => ?_)
      · have h7 := p
        obtain ⟨_, _, _, _, _, D5⟩ := h7
        refine ⟨rfl, .ref d, rfl, d, c, _, 6, rfl, D5, by omega, by decide, by decide, fun z H5 z0 z1 k5 D6 => ?_⟩
        obtain ⟨acc, e1, e2, e3⟩ := p.turn D4 hL k5 D6 z0 (by omega)
        exact ⟨acc, e1, small1000 (by omega), e3⟩
      obtain ⟨sel, hL4, hsl, hsb, k4, D5⟩ := p
      refine ⟨L, _, rfl, .inl ⟨SqL.of hL4, fun t ht => ?_⟩⟩
      have D6 := D5.new (o := .tup (sel.map V.int)) ht
      have ht5 : upd H4 t (.tup (sel.map V.int)) t = some (.tup (sel.map V.int)) := upd_same
      have hk5 : upd H4 t (.tup (sel.map V.int)) tx = some (.dK kvs) := ((k3.trans k4).new ht) tx _ nd nc hk
      generalize upd H4 t (.tup (sel.map V.int)) = H5 at D6 ht5 hk5
      -- the item
      refine ⟨.ref d, rfl, d, c, _, rfl, D6, by omega, fun v D H6 tv iD wD k6 D7 => ?_⟩
      have ht6 : H6 t = some (.tup (sel.map V.int)) := D6.tups k6 t _ ht5
      have hk6 : H6 tx = some (.dK kvs) := k6 tx _ nd nc hk5
      -- own, without
      refine ⟨.ref t, rfl, v, rfl, Evl.sz_of (by show 1 ≤ 100000; decide), fun p1 hp1 => ⟨Evl.sz_of (by show 2 ≤ 100000; decide), fun p2 hp2 => ?_⟩⟩
      refine ⟨Evl.sz_of (by show 1 ≤ 100000; decide), fun p3 hp3 => ?_⟩
      have S3 : Same H6 (upd (upd (upd H6 p1 (.tup [v])) p2 (.tup [.ref t, .ref p1])) p3 (.tup [.int 3])) := ((same_new hp1).trans (same_new hp2)).trans (same_new hp3)
      have g1 : upd (upd (upd H6 p1 (.tup [v])) p2 (.tup [.ref t, .ref p1])) p3 (.tup [.int 3]) p1 = some (.tup [v]) := same_new hp3 _ _ (same_new hp2 _ _ upd_same)
      have g2 : upd (upd (upd H6 p1 (.tup [v])) p2 (.tup [.ref t, .ref p1])) p3 (.tup [.int 3]) p2 = some (.tup [.ref t, .ref p1]) := same_new hp3 _ _ upd_same
      have g3 : upd (upd (upd H6 p1 (.tup [v])) p2 (.tup [.ref t, .ref p1])) p3 (.tup [.int 3]) p3 = some (.tup [.int 3]) := upd_same
      generalize upd (upd (upd H6 p1 (.tup [v])) p2 (.tup [.ref t, .ref p1])) p3 (.tup [.int 3]) = H7 at S3 g1 g2 g3
      have hsz : [V.int 3].length + (sel.map V.int).length ≤ sizeLine := Evl.sz_of (by rw [List.length_map]; show 1 + _ ≤ _; omega)
      refine ⟨.ref t, rfl, p3, t, _, _, rfl, rfl, g3, SqT.of (S3 _ _ ht6), List.cons_ne_nil _ _, hsz, fun p4 H8 S4 g4 => ?_⟩
      refine ⟨Nat.zero_le _, fun p5 hp5 => ⟨Evl.sz_of (by show 2 ≤ 100000; decide), fun p6 hp6 => ⟨_, _, rfl, ?_⟩⟩⟩
      have S6 : Same H6 (upd (upd H8 p5 (.tup [])) p6 (.tup [.ref p4, .ref p5])) := ((S3.trans S4).trans (same_new hp5)).trans (same_new hp6)
      have f1 : upd (upd H8 p5 (.tup [])) p6 (.tup [.ref p4, .ref p5]) p1 = some (.tup [v]) := same_new hp6 _ _ (same_new hp5 _ _ (S4 _ _ g1))
      have f2 : upd (upd H8 p5 (.tup [])) p6 (.tup [.ref p4, .ref p5]) p2 = some (.tup [.ref t, .ref p1]) := same_new hp6 _ _ (same_new hp5 _ _ (S4 _ _ g2))
      have f4 : upd (upd H8 p5 (.tup [])) p6 (.tup [.ref p4, .ref p5]) p4 = some (.tup ([.int 3] ++ sel.map V.int)) := same_new hp6 _ _ (same_new hp5 _ _ g4)
      have f5 : upd (upd H8 p5 (.tup [])) p6 (.tup [.ref p4, .ref p5]) p5 = some (.tup []) := same_new hp6 _ _ upd_same
      have f6 : upd (upd H8 p5 (.tup [])) p6 (.tup [.ref p4, .ref p5]) p6 = some (.tup [.ref p4, .ref p5]) := upd_same
      generalize upd (upd H8 p5 (.tup [])) p6 (.tup [.ref p4, .ref p5]) = H9 at S6 f1 f2 f4 f5 f6
      have f0 := S6 _ _ ht6
      have tv9 : Tp H9 v D := tv.keep (Tups.of_same S6)
      -- what is shown of both
      have dO : ∀ {H'}, Same H9 H' → Dp K H' (.ref p2) (.tuple [dInts sel, .tuple [D]]) := fun sm => .tup (SqT.of (sm _ _ f2)) (.cons (.tup (SqT.of (sm _ _ f0)) (dpInts sel)) (.cons (.tup (SqT.of (sm _ _ f1)) (.cons (tv9.keep (Tups.of_same sm)).dp .nil)) .nil))
      have dW : ∀ {H'}, Same H9 H' → Dp K H' (.ref p6) (.tuple [dInts (3 :: sel), .tuple []]) := fun sm => .tup (SqT.of (sm _ _ f6)) (.cons (.tup (SqT.of (sm _ _ f4)) (.cons (.int 3) (dpInts sel))) (.cons (.tup (SqT.of (sm _ _ f5)) .nil) .nil))
      obtain ⟨w1, w2, w3, w4⟩ := both_show hsb (by omega) iD wD
      -- kept, due
      refine ⟨.ref p2, rfl, .ref p6, rfl, Evl.sz_of (by show 2 ≤ 100000; decide), fun p7 hp7 => ?_⟩
      have S7 := same_new (o := .tup [.ref p2, .ref p6]) hp7
      refine ⟨.ref p7, dBoth sel D, rfl, .tup (SqT.of upd_same) (.cons (dO S7) (.cons (dW S7) .nil)), w1, w2, w3, w4, ?_⟩
      refine ⟨v, rfl, v, D, rfl, tv9.keep (Tups.of_same S7), iD, by omega, Nat.le_refl _, fun H10 S10 => ⟨_, _, rfl, ?_⟩⟩
      have S10' : Same H9 H10 := S7.trans S10
      obtain ⟨k, ek, k0, k1⟩ := last_of hsb
      -- told
      refine ⟨.ref p2, rfl, p2, t, p1, _, rfl, S10' _ _ f2, S10' _ _ f0, .inl ⟨v, D, S10' _ _ f1, tv9.keep (Tups.of_same S10'), iD, wD, fun H11 S11 => ?_⟩⟩
      have S11' := S10'.trans S11
      refine ⟨.ref p2, rfl, p2, t, p1, _, rfl, S11' _ _ f2, S11' _ _ f0, .inl ⟨v, D, S11' _ _ f1, tv9.keep (Tups.of_same S11'), iD, wD, fun H12 S12 => ?_⟩⟩
      have S12' := S11'.trans S12
      refine ⟨.ref p6, rfl, p6, p4, p5, _, rfl, S12' _ _ f6, S12' _ _ f4, .inr ⟨k, S12' _ _ f5, ek, k0, k1, fun H13 S13 => ?_⟩⟩
      have S13' := S12'.trans S13
      refine ⟨Evl.sz_of (by decide), fun q1 hq1 => ⟨Nat.zero_le _, fun q2 hq2 => ⟨Evl.sz_of (by show 2 ≤ 100000; decide), fun q3 hq3 => ?_⟩⟩⟩
      have S16 := ((S13'.trans (same_new (o := .tup [.int 0, .int 4]) hq1)).trans (same_new (o := .tup []) hq2)).trans (same_new (o := .tup [.ref q1, .ref q2]) hq3)
      refine ⟨q3, q1, q2, _, rfl, upd_same, same_new hq3 _ _ (same_new hq2 _ _ upd_same), .inr ⟨4, same_new hq3 _ _ upd_same, rfl, by decide, by decide, fun H17 S17 => ?_⟩⟩
      have S17' := S16.trans S17
      refine ⟨Evl.sz_of (by show 4 ≤ 100000; decide), fun l hl => ?_⟩
      have S18 := S17'.trans (same_new (o := .lst [.str (txt D), .str (txt D), .str (("other " : Str) ++ (toString k : Str)), .str (("other " : Str) ++ (toString (4 : Int) : Str))]) hl)
      have hl18 : upd H17 l (.lst [.str (txt D), .str (txt D), .str (("other " : Str) ++ (toString k : Str)), .str (("other " : Str) ++ (toString (4 : Int) : Str))]) l = some (.lst [.str (txt D), .str (txt D), .str (("other " : Str) ++ (toString k : Str)), .str (("other " : Str) ++ (toString (4 : Int) : Str))]) := upd_same
      generalize upd H17 l (.lst [.str (txt D), .str (txt D), .str (("other " : Str) ++ (toString k : Str)), .str (("other " : Str) ++ (toString (4 : Int) : Str))]) = H18 at S18 hl18
      obtain ⟨o1, o2⟩ := other_small k0 k1
      obtain ⟨u1, u2, u3, u4⟩ := told_show (due_small iD wD) o2
      -- repr(told) != repr([..])
      refine ⟨.ref l, rfl, .ref l, dTold (txt D) (("other " : Str) ++ (toString k : Str)), rfl, .lst (SqL.of hl18) (.cons (.str _) (.cons (.str _) (.cons (.str _) (.cons (.str _) .nil)))), u1, u2, u3, u4, ?_⟩
      refine ⟨.str (txt D), rfl, .str (txt D), rfl, .ref p6, rfl, p6, _, 0, .ref p4, rfl, rfl, SqT.of (S18 _ _ f6), rfl, 1, rfl, p4, _, -1, .int k, rfl, rfl, SqT.of (S18 _ _ f4), ek, k, rfl, log_small k0 k1, _, _, rfl, rfl, ?_, Evl.sz_of (by show 4 ≤ 100000; decide), fun m hm => ?_⟩
      · have e6 : (("other " : String) : Str).length = 6 := rfl
        rw [strLen_append] at o1
        exact Evl.sz_of (by omega)
      refine ⟨.ref m, dTold (txt D) (("other " : Str) ++ (toString k : Str)), rfl, .lst (SqL.of upd_same) (.cons (.str _) (.cons (.str _) (.cons (.str _) (.cons (.str _) .nil)))), u1, u2, u3, u4, rfl, _, rfl, ?_⟩
      have S19 := S18.trans (same_new (o := .lst [.str (txt D), .str (txt D), .str (("other " : Str) ++ (toString k : Str)), .str "other 4"]) hm)
      rw [ne_self]
      -- repr((own, without)) != kept
      refine ⟨.ref p2, rfl, .ref p6, rfl, Evl.sz_of (by show 2 ≤ 100000; decide), fun m2 hm2 => ?_⟩
      have S20 := S19.trans (same_new (o := .tup [.ref p2, .ref p6]) hm2)
      refine ⟨.ref m2, dBoth sel D, rfl, .tup (SqT.of upd_same) (.cons (dO S20) (.cons (dW S20) .nil)), w1, w2, w3, w4, .str (dBoth sel D).shown, rfl, rfl, _, rfl, ?_⟩
      rw [ne_self]
      generalize upd _ m2 (.tup [.ref p2, .ref p6]) = H20 at S20
      obtain ⟨v1, v2, v3, v4⟩ := item_shown iD wD
      have tv20 : Tp H20 v D := tv9.keep (Tups.of_same S20)
      have hk20 : H20 tx = some (.dK kvs) := S20 _ _ (S6 _ _ hk6)
      refine ⟨fun σ' H' => σ' = [some (.ref x), some (.int (0 + (i : Int))), some (.ref d), some (.ref tx), some (.ref t), some v, some (.ref l), some (.ref p2), some (.ref p6), some (.str (dBoth sel D).shown), some (.str (txt D)), y11] ∧ H' = H20, ?_, ?_⟩
      · cases tv20 with
        | non => exact absurd iD (by rintro (h | ⟨b, h⟩); exact nomatch h; exact nomatch h)
        | bl b => exact ⟨.bl b, rfl, .bl b, .ty "tuple", _, _, false, rfl, .ty "tuple", .base (.bl b), kit_ty (by decide +kernel), false, rfl, rfl, rfl⟩
        | int b => exact ⟨.int b, rfl, .int b, .ty "tuple", _, _, false, rfl, .ty "tuple", .base (.int b), kit_ty (by decide +kernel), false, rfl, rfl, rfl⟩
        | str b => exact ⟨.str b, rfl, .str b, .ty "tuple", _, _, false, rfl, .ty "tuple", .base (.str b), kit_ty (by decide +kernel), false, rfl, rfl, rfl⟩
        | @tup b xs ds hb hA =>
          have tD : Tp H20 (.ref b) (.tuple ds) := .tup hb hA
          refine ⟨.ref b, rfl, .ref b, .ty "tuple", _, _, true, rfl, .ty "tuple", .base (.tup hb), kit_ty (by decide +kernel), true, rfl, ?_⟩
          refine ⟨.ref tx, rfl, tx, rfl, .inl ⟨kvs, .inl hk20⟩, .str (txt (.tuple ds)), rfl, .ref b, rfl, .ref b, .tuple ds, rfl, tD.dp, v1, v2, v3, v4, _, DGet.k (k := Sum.inr (txt (.tuple ds))) hk20, ?_⟩
          have e : (valV kvs (Sum.inr (txt (.tuple ds)))).getD (.str (PyData.shown (.tuple ds))) = .str (PyData.shown (.tuple ds)) := by
            cases h : valV kvs (Sum.inr (txt (.tuple ds))) with
            | none => rfl
            | some y =>
              obtain ⟨D', i', e'⟩ := told _ (Gd.valV_mem h)
              have e1 : txt (.tuple ds) = txt D' := Sum.inr.inj (Prod.mk.inj e').1
              have hp : plain (.tuple ds) = true := by
                rcases iD with h | ⟨b, h⟩
                · exact h
                · exact nomatch h
              have e2 := txt_inj rfl hp i' e1
              rw [(Prod.mk.inj e').2, ← e2]
              rfl
          rw [e]
          refine ⟨.ref b, rfl, .ref b, .tuple ds, rfl, tD.dp, v1, v2, v3, v4, rfl, _, rfl, ?_⟩
          rw [ne_self]
          exact ⟨rfl, rfl⟩
      · rintro σ' H' ⟨rfl, rfl⟩
        refine ⟨v, rfl, v, D, rfl, tv20.dp, v1, v2, v3, v4, .ref tx, rfl, .str (txt D), rfl, tx, _, rfl, DPut.k (k := Sum.inr (txt D)) hk20 (small1000 (by omega)), ?_⟩
        have hD20 : Deck H' d c _ := (D7.keepS S6).keepS S20
        refine ⟨_, _, _, _, _, _, _, _, _, _, rfl, (hD20.mut nd nc).le (by omega), upd_same, ?_, ?_, nd, nc⟩
        · have := Gd.putK_len kvs (Sum.inr (txt D)) (.str D.shown)
          omega
        · intro p hp
          rcases Gd.putK_mem hp with hp | hp
          · exact told p hp
          · exact ⟨D, iD, hp⟩
    · rintro σ H2 ⟨y1, y4, y5, y6, y7, y8, y9, y10, y11, kvs, rfl, _⟩
      exact q _
end
end K71
namespace K71
open PySem PySem.Spec PyProof.Rows L2
theorem all_mk {P : Program} {w : World} {K : PySem.W.Frag} {h : Heap} {mg : Str → Option Value} {fa : Addr} (X : K.In h) (G : h.Ns mainGlobals mg) (hfa : mg "law" = some (.ref fa))
    {od0 an0 : Option Addr} {sl0 : Array (Option Value)} {oc0 kV0 dc0 pm0 cd0 ct0 : Value} {f0 : Addr}
    (a0 : PySem.W.nsIn K mainGlobals "format_item" = some (some (.ref f0))) (l0 : K.lookup f0 = some ⟨oc0, od0, .func (PySem.W.fnOf "format_item" "format_item" (defArgs s_format_item) (defBody s_format_item) (defScope s_format_item) .none kV0 dc0 pm0 an0 cd0 ct0), sl0⟩)
    (c0 : PySem.W.codeIn K cd0 "format_item" = true) (k0 : PySem.W.keepIn K (.ref f0) = true)
    {od1 an1 : Option Addr} {sl1 : Array (Option Value)} {oc1 kV1 dc1 pm1 cd1 ct1 : Value} {f1 : Addr}
    (a1 : PySem.W.nsIn K mainGlobals "format_answer" = some (some (.ref f1))) (l1 : K.lookup f1 = some ⟨oc1, od1, .func (PySem.W.fnOf "format_answer" "format_answer" (defArgs s_format_answer) (defBody s_format_answer) (defScope s_format_answer) .none kV1 dc1 pm1 an1 cd1 ct1), sl1⟩)
    (c1 : PySem.W.codeIn K cd1 "format_answer" = true) (k1 : PySem.W.keepIn K (.ref f1) = true)
    {od2 an2 : Option Addr} {sl2 : Array (Option Value)} {oc2 kV2 dc2 pm2 cd2 ct2 : Value} {f2 : Addr}
    (a2 : PySem.W.nsIn K mainGlobals "_law_deck" = some (some (.ref f2))) (l2 : K.lookup f2 = some ⟨oc2, od2, .func (PySem.W.fnOf "_law_deck" "_law_deck" (defArgs s_deck) (defBody s_deck) (defScope s_deck) .none kV2 dc2 pm2 an2 cd2 ct2), sl2⟩)
    (c2 : PySem.W.codeIn K cd2 "_law_deck" = true) (k2 : PySem.W.keepIn K (.ref f2) = true)
    {od3 an3 : Option Addr} {sl3 : Array (Option Value)} {oc3 kV3 dc3 pm3 cd3 ct3 : Value} {f3 : Addr}
    (a3 : PySem.W.nsIn K mainGlobals "_law_draw" = some (some (.ref f3))) (l3 : K.lookup f3 = some ⟨oc3, od3, .func (PySem.W.fnOf "_law_draw" "_law_draw" (defArgs s_draw) (defBody s_draw) (defScope s_draw) .none kV3 dc3 pm3 an3 cd3 ct3), sl3⟩)
    (c3 : PySem.W.codeIn K cd3 "_law_draw" = true) (k3 : PySem.W.keepIn K (.ref f3) = true)
    {od4 an4 : Option Addr} {sl4 : Array (Option Value)} {oc4 kV4 dc4 pm4 cd4 ct4 : Value} {f4 : Addr}
    (a4 : PySem.W.nsIn K mainGlobals "_law_pick" = some (some (.ref f4))) (l4 : K.lookup f4 = some ⟨oc4, od4, .func (PySem.W.fnOf "_law_pick" "_law_pick" (defArgs s_pick) (defBody s_pick) (defScope s_pick) .none kV4 dc4 pm4 an4 cd4 ct4), sl4⟩)
    (c4 : PySem.W.codeIn K cd4 "_law_pick" = true) (k4 : PySem.W.keepIn K (.ref f4) = true)
    {od5 an5 : Option Addr} {sl5 : Array (Option Value)} {oc5 kV5 dc5 pm5 cd5 ct5 : Value} {f5 : Addr}
    (a5 : PySem.W.nsIn K mainGlobals "_law_name" = some (some (.ref f5))) (l5 : K.lookup f5 = some ⟨oc5, od5, .func (PySem.W.fnOf "_law_name" "_law_name" (defArgs s_name) (defBody s_name) (defScope s_name) .none kV5 dc5 pm5 an5 cd5 ct5), sl5⟩)
    (c5 : PySem.W.codeIn K cd5 "_law_name" = true) (k5 : PySem.W.keepIn K (.ref f5) = true)
    {od6 an6 : Option Addr} {sl6 : Array (Option Value)} {oc6 kV6 dc6 pm6 cd6 ct6 : Value} {f6 : Addr}
    (a6 : PySem.W.nsIn K mainGlobals "_law_number" = some (some (.ref f6))) (l6 : K.lookup f6 = some ⟨oc6, od6, .func (PySem.W.fnOf "_law_number" "_law_number" (defArgs s_number) (defBody s_number) (defScope s_number) .none kV6 dc6 pm6 an6 cd6 ct6), sl6⟩)
    (c6 : PySem.W.codeIn K cd6 "_law_number" = true) (k6 : PySem.W.keepIn K (.ref f6) = true)
    {od7 an7 : Option Addr} {sl7 : Array (Option Value)} {oc7 kV7 dc7 pm7 cd7 ct7 : Value} {f7 : Addr}
    (a7 : PySem.W.nsIn K mainGlobals "_law_prefix" = some (some (.ref f7))) (l7 : K.lookup f7 = some ⟨oc7, od7, .func (PySem.W.fnOf "_law_prefix" "_law_prefix" (defArgs s_prefix) (defBody s_prefix) (defScope s_prefix) .none kV7 dc7 pm7 an7 cd7 ct7), sl7⟩)
    (c7 : PySem.W.codeIn K cd7 "_law_prefix" = true) (k7 : PySem.W.keepIn K (.ref f7) = true)
    {od8 an8 : Option Addr} {sl8 : Array (Option Value)} {oc8 kV8 dc8 pm8 cd8 ct8 : Value} {f8 : Addr}
    (a8 : PySem.W.nsIn K mainGlobals "_law_item" = some (some (.ref f8))) (l8 : K.lookup f8 = some ⟨oc8, od8, .func (PySem.W.fnOf "_law_item" "_law_item" (defArgs s_item) (defBody s_item) (defScope s_item) .none kV8 dc8 pm8 an8 cd8 ct8), sl8⟩)
    (c8 : PySem.W.codeIn K cd8 "_law_item" = true) (k8 : PySem.W.keepIn K (.ref f8) = true)
    {od9 an9 : Option Addr} {sl9 : Array (Option Value)} {oc9 kV9 dc9 pm9 cd9 ct9 : Value} {f9 : Addr}
    (a9 : PySem.W.nsIn K mainGlobals "_law_text" = some (some (.ref f9))) (l9 : K.lookup f9 = some ⟨oc9, od9, .func (PySem.W.fnOf "_law_text" "_law_text" (defArgs s_text) (defBody s_text) (defScope s_text) .none kV9 dc9 pm9 an9 cd9 ct9), sl9⟩)
    (c9 : PySem.W.codeIn K cd9 "_law_text" = true) (k9 : PySem.W.keepIn K (.ref f9) = true)
    {od10 an10 : Option Addr} {sl10 : Array (Option Value)} {oc10 kV10 dc10 pm10 cd10 ct10 : Value} {f10 : Addr}
    (a10 : PySem.W.nsIn K mainGlobals "law" = some (some (.ref f10))) (l10 : K.lookup f10 = some ⟨oc10, od10, .func (PySem.W.fnOf "law" "law" (defArgs s_law) (defBody s_law) (defScope s_law) .none kV10 dc10 pm10 an10 cd10 ct10), sl10⟩)
    (c10 : PySem.W.codeIn K cd10 "law" = true) (k10 : PySem.W.keepIn K (.ref f10) = true)
    (z_len : PySem.W.nsIn K mainGlobals "len" = some none)
    (z_list : PySem.W.nsIn K mainGlobals "list" = some none)
    (z_tuple : PySem.W.nsIn K mainGlobals "tuple" = some none)
    (z_range : PySem.W.nsIn K mainGlobals "range" = some none)
    (z_isinstance : PySem.W.nsIn K mainGlobals "isinstance" = some none)
    (z_bool : PySem.W.nsIn K mainGlobals "bool" = some none)
    (z_str : PySem.W.nsIn K mainGlobals "str" = some none)
    (z_int : PySem.W.nsIn K mainGlobals "int" = some none)
    (z_repr : PySem.W.nsIn K mainGlobals "repr" = some none) :
    ∃ fd : FuncData, (∀ (s : Shared) (v : Value), BindsTo s fd ⟨[v], []⟩ [("_law_script", v)]) ∧ ∀ base : Heap, K.In base → base.Ns mainGlobals mg → Gd.FnG P w K mg base CX0 104 fa fd ["_law_script"] (spLaw K) := by
  have e := hfa.symm.trans (PySem.W.mg_of X G a10)
  cases e
  have T : Tx K mg ⟨f0, PySem.W.fnOf "format_item" "format_item" (defArgs s_format_item) (defBody s_format_item) (defScope s_format_item) .none kV0 dc0 pm0 an0 cd0 ct0, f1, PySem.W.fnOf "format_answer" "format_answer" (defArgs s_format_answer) (defBody s_format_answer) (defScope s_format_answer) .none kV1 dc1 pm1 an1 cd1 ct1, f2, PySem.W.fnOf "_law_deck" "_law_deck" (defArgs s_deck) (defBody s_deck) (defScope s_deck) .none kV2 dc2 pm2 an2 cd2 ct2, f3, PySem.W.fnOf "_law_draw" "_law_draw" (defArgs s_draw) (defBody s_draw) (defScope s_draw) .none kV3 dc3 pm3 an3 cd3 ct3, f4, PySem.W.fnOf "_law_pick" "_law_pick" (defArgs s_pick) (defBody s_pick) (defScope s_pick) .none kV4 dc4 pm4 an4 cd4 ct4, f5, PySem.W.fnOf "_law_name" "_law_name" (defArgs s_name) (defBody s_name) (defScope s_name) .none kV5 dc5 pm5 an5 cd5 ct5, f6, PySem.W.fnOf "_law_number" "_law_number" (defArgs s_number) (defBody s_number) (defScope s_number) .none kV6 dc6 pm6 an6 cd6 ct6, f7, PySem.W.fnOf "_law_prefix" "_law_prefix" (defArgs s_prefix) (defBody s_prefix) (defScope s_prefix) .none kV7 dc7 pm7 an7 cd7 ct7, f8, PySem.W.fnOf "_law_item" "_law_item" (defArgs s_item) (defBody s_item) (defScope s_item) .none kV8 dc8 pm8 an8 cd8 ct8, f9, PySem.W.fnOf "_law_text" "_law_text" (defArgs s_text) (defBody s_text) (defScope s_text) .none kV9 dc9 pm9 an9 cd9 ct9, fa, PySem.W.fnOf "law" "law" (defArgs s_law) (defBody s_law) (defScope s_law) .none kV10 dc10 pm10 an10 cd10 ct10⟩ :=
    ⟨fun_mk (st := s_format_item) l0 c0 k0,
     (fun_mk (st := s_format_item) l0 c0 k0).binds (ps := ["item"]) fun _ _ _ _ _ _ us hl => match us, hl with | [_], _ => rfl,
     PySem.W.mg_of X G a0,
     fun_mk (st := s_format_answer) l1 c1 k1,
     (fun_mk (st := s_format_answer) l1 c1 k1).binds (ps := ["answer"]) fun _ _ _ _ _ _ us hl => match us, hl with | [_], _ => rfl,
     Gd.kb_one (fun _ => rfl) (fun _ => rfl),
     PySem.W.mg_of X G a1,
     fun_mk (st := s_deck) l2 c2 k2,
     (fun_mk (st := s_deck) l2 c2 k2).binds (ps := ["_law_script"]) fun _ _ _ _ _ _ us hl => match us, hl with | [_], _ => rfl,
     PySem.W.mg_of X G a2,
     fun_mk (st := s_draw) l3 c3 k3,
     (fun_mk (st := s_draw) l3 c3 k3).binds (ps := ["_law_deck_here", "_law_bound"]) fun _ _ _ _ _ _ us hl => match us, hl with | [_, _], _ => rfl,
     PySem.W.mg_of X G a3,
     fun_mk (st := s_pick) l4 c4 k4,
     (fun_mk (st := s_pick) l4 c4 k4).binds (ps := ["_law_deck_here", "_law_items"]) fun _ _ _ _ _ _ us hl => match us, hl with | [_, _], _ => rfl,
     PySem.W.mg_of X G a4,
     fun_mk (st := s_name) l5 c5 k5,
     (fun_mk (st := s_name) l5 c5 k5).binds (ps := ["_law_deck_here"]) fun _ _ _ _ _ _ us hl => match us, hl with | [_], _ => rfl,
     PySem.W.mg_of X G a5,
     fun_mk (st := s_number) l6 c6 k6,
     (fun_mk (st := s_number) l6 c6 k6).binds (ps := ["_law_deck_here"]) fun _ _ _ _ _ _ us hl => match us, hl with | [_], _ => rfl,
     PySem.W.mg_of X G a6,
     fun_mk (st := s_prefix) l7 c7 k7,
     (fun_mk (st := s_prefix) l7 c7 k7).binds (ps := ["_law_deck_here"]) fun _ _ _ _ _ _ us hl => match us, hl with | [_], _ => rfl,
     PySem.W.mg_of X G a7,
     fun_mk (st := s_item) l8 c8 k8,
     (fun_mk (st := s_item) l8 c8 k8).binds (ps := ["_law_deck_here"]) fun _ _ _ _ _ _ us hl => match us, hl with | [_], _ => rfl,
     PySem.W.mg_of X G a8,
     fun_mk (st := s_text) l9 c9 k9,
     (fun_mk (st := s_text) l9 c9 k9).binds (ps := ["_law_item_here"]) fun _ _ _ _ _ _ us hl => match us, hl with | [_], _ => rfl,
     PySem.W.mg_of X G a9,
     fun_mk (st := s_law) l10 c10 k10,
     (fun_mk (st := s_law) l10 c10 k10).binds (ps := ["_law_script"]) fun _ _ _ _ _ _ us hl => match us, hl with | [_], _ => rfl,
     PySem.W.mg_of X G a10,
     PySem.W.mg_none_of X G z_len,
     PySem.W.mg_none_of X G z_list,
     PySem.W.mg_none_of X G z_tuple,
     PySem.W.mg_none_of X G z_range,
     PySem.W.mg_none_of X G z_isinstance,
     PySem.W.mg_none_of X G z_bool,
     PySem.W.mg_none_of X G z_str,
     PySem.W.mg_none_of X G z_int,
     PySem.W.mg_none_of X G z_repr⟩
  exact ⟨_, fun s v => .of_eq rfl, fun base _ _ => ok_law T⟩
end K71
open PySem PySem.W PyProof.Rows
set_option maxHeartbeats 0 in
theorem PySem.Challenge.cw_undrawn_k71_answer_texts_holds : PySem.Challenge.rw_undrawn_k71_answer_texts.Holds := by
  w_on; o_law; k_head; (case hw => w_witness2)
  k_fill
  refine Gd.walkG (l := PySem.Challenge.rw_undrawn_k71_answer_texts) (n := 63) (k := 104) (x := "_law_script") (sp := K71.spLaw) rfl (by decide) rfl ⟨rfl, by decide, by decide⟩ (fun w h Y => PySem.W.kIn_of Y) ?F (fun K H a ns hl hS => ⟨a, ns, rfl, hS, hl, fun _ => rfl⟩)
  case F =>
    intro w mg fa h KX G hmg
    refine' K71.all_mk KX G hmg ?a0 ?l0 ?c0 ?k0 ?a1 ?l1 ?c1 ?k1 ?a2 ?l2 ?c2 ?k2 ?a3 ?l3 ?c3 ?k3 ?a4 ?l4 ?c4 ?k4 ?a5 ?l5 ?c5 ?k5 ?a6 ?l6 ?c6 ?k6 ?a7 ?l7 ?c7 ?k7 ?a8 ?l8 ?c8 ?k8 ?a9 ?l9 ?c9 ?k9 ?a10 ?l10 ?c10 ?k10 ?z_len ?z_list ?z_tuple ?z_range ?z_isinstance ?z_bool ?z_str ?z_int ?z_repr
    (case a0 => k_is); (case l0 => k_is); (case c0 => k_is); (case k0 => k_is); (case a1 => k_is); (case l1 => k_is); (case c1 => k_is); (case k1 => k_is); (case a2 => k_is); (case l2 => k_is); (case c2 => k_is); (case k2 => k_is); (case a3 => k_is); (case l3 => k_is); (case c3 => k_is); (case k3 => k_is); (case a4 => k_is); (case l4 => k_is); (case c4 => k_is); (case k4 => k_is); (case a5 => k_is); (case l5 => k_is); (case c5 => k_is); (case k5 => k_is); (case a6 => k_is); (case l6 => k_is); (case c6 => k_is); (case k6 => k_is); (case a7 => k_is); (case l7 => k_is); (case c7 => k_is); (case k7 => k_is); (case a8 => k_is); (case l8 => k_is); (case c8 => k_is); (case k8 => k_is); (case a9 => k_is); (case l9 => k_is); (case c9 => k_is); (case k9 => k_is); (case a10 => k_is); (case l10 => k_is); (case c10 => k_is); (case k10 => k_is); (case z_len => k_is); (case z_list => k_is); (case z_tuple => k_is); (case z_range => k_is); (case z_isinstance => k_is); (case z_bool => k_is); (case z_str => k_is); (case z_int => k_is); (case z_repr => k_is)
