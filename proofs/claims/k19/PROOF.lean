import PyProof.Rows.All
import Wide.All
import OpenK.AllK
import Wide.FinOn
import PySem.Challenge.RW_unkeptlines_k19_lags_as_values
import KE.KStar
import HandS.ForMost
import HandS.ForExc
import HandS.Star
import HandS.IsInst
import HandS.ClsMeth
import PyProof.Conv_bool
import PyProof.MeetsIn
import PyProof.Rows.Range3
import HandS.Ends
set_option Elab.async false
set_option linter.all false
set_option maxRecDepth 100000
set_option maxHeartbeats 0
section
open PySem PySem.W PyProof.Rows
open_top hd19 for PySem.Challenge.rw_unkeptlines_k19_lags_as_values

end

/-! UkA: promises of whatever is called (defs, classes), with the stack's guards told; calls by them -/
namespace Uk
open PySem PySem.Spec PyProof.Rows L2 StX

abbrev SpK := List V → List (Str × V) → Hp → VK → XK → Prop
abbrev KVs (zs : List (Str × V)) (ks : List (Str × Value)) : Prop := Paired (fun (p : Str × V) (q : Str × Value) => p.1 = q.1 ∧ RelV p.2 q.2) zs ks

/-- a promise of what stands at fv, however it is called -/
def CallG (P : Program) (w : World) (K : PySem.W.Frag) (mg : Str → Option Value) (base : Heap) (k : Nat) (fv : Value) (sp : SpK) : Prop :=
  ∀ (A : Around) (outer : List Env) (s : Shared) (H : Hp) (us : List Value) (kws : List (Str × Value)) (vs : List V) (zs : List (Str × V)) (Q : VK) (E : XK),
    Room k A → A.guards = some [] → Env0 P w K mg base A outer s H → Vals vs us → KVs zs kws → sp vs zs H Q E →
    codeAny (model P w) A (.call fv ⟨us, kws⟩) (CR (L2.CX P w) outer P w H s Q E) s
/-- positional arguments alone -/
def pos (sp : Sp) : SpK := fun vs zs H Q E => zs = [] ∧ sp vs H Q E

section
variable {P : Program} {w : World} {K : PySem.W.Frag} {mg : Str → Option Value} {base : Heap} {j k : Nat} {fv : Value} {sp sp' : SpK}
theorem CallG.mono (F : CallG P w K mg base j fv sp) (h : j ≤ k) : CallG P w K mg base k fv sp := fun A o s H us kws vs zs Q E hr => F A o s H us kws vs zs Q E (hr.mono h)
theorem CallG.imp (F : CallG P w K mg base k fv sp) (h : ∀ vs zs H Q E, sp' vs zs H Q E → sp vs zs H Q E) : CallG P w K mg base k fv sp' :=
  fun A o s H us kws vs zs Q E hr hg e0 r rk q => F A o s H us kws vs zs Q E hr hg e0 r rk (h _ _ _ _ _ q)
end

section
variable {P : Program} {w : World} {K : PySem.W.Frag} {mg : Str → Option Value} {base : Heap} {k : Nat}
/-- a def without defaults, by its body -/
theorem def_pos {x qual : Str} {st : Stmt} {f : Addr} {fd : FuncData} {N ps : List Str} {sp : Sp} (F : Fun K x qual st f fd) (S : FnScope N ps (defScope st)) (len : ∀ vs H Q E, sp vs H Q E → vs.length = ps.length)
    (hb : ∀ (kV doc pm : Value) (an : Option Addr) (cdv ct : Value) (us : List Value), us.length = ps.length → bindArgs (PySem.W.fnOf x qual (defArgs st) (defBody st) (defScope st) .none kV doc pm an cdv ct) ⟨us, []⟩ = pure (ps.zip us))
    (hbody : ∀ (cdv : Value) (A : Around) (outer : List Env) (s : Shared) (H : Hp) (vs : List V) (Q : VK) (E : XK), Room k (A.deeper (envOfC qual (defScope st) s.heap.objs.size f cdv)) → A.guards = some [] → sp vs H Q E →
      ∃ t, PSs (cxOf (L2.CX P w) P w K mg base N qual (defScope st) f cdv A outer s H E) (defBody st) t ∧ t { nx := fun _ H' => Q .non H', rt := Q } (start N vs) H) : CallG P w K mg base (k + 1) (.ref f) (pos sp) := by
  obtain ⟨oc, od, kV, doc, pm, an, cdv, ct, osl, rfl, lk, hcd⟩ := F.ex
  rintro A outer s H us kws vs zs Q E hr hg e0 r rk ⟨rfl, hsp⟩
  cases rk
  refine run_bnd lk hcd S hr e0 (G := fun xs H2 => xs = vs ∧ H2 = H) (fun A' Ex Q' h => ?_) fun s2 H2 xs ⟨ex, eH⟩ hr' => ?_
  · have hl : us.length = ps.length := by rw [← r.length]; exact len _ _ _ _ hsp
    rw [hb kV doc pm an cdv ct us hl]
    exact wpAny_pure (h s H vs us e0 Un.refl rfl (fun _ _ z => z) r (len _ _ _ _ hsp) ⟨rfl, rfl⟩)
  · subst ex eH
    exact hbody cdv A outer s2 _ _ Q E hr' hg hsp
/-- a def with a star behind its parameters -/
theorem def_star {x qual : Str} {st : Stmt} {f : Addr} {fd : FuncData} {N ps : List Str} {pv : Str} {sp : Sp} (F : Fun K x qual st f fd) (S : FnScope N (ps ++ [pv]) (defScope st))
    (hb : ∀ (kV doc pm : Value) (an : Option Addr) (cdv ct : Value) (us rest : List Value), us.length = ps.length → bindArgs (PySem.W.fnOf x qual (defArgs st) (defBody st) (defScope st) .none kV doc pm an cdv ct) ⟨us ++ rest, []⟩ = (newTuple rest >>= fun t => pure (ps.zip us ++ [(pv, t)])))
    (hbody : ∀ (cdv : Value) (A : Around) (outer : List Env) (s : Shared) (H : Hp) (vs : List V) (Q : VK) (E : XK), Room k (A.deeper (envOfC qual (defScope st) s.heap.objs.size f cdv)) → A.guards = some [] → sp vs H Q E →
      ∃ t, PSs (cxOf (L2.CX P w) P w K mg base N qual (defScope st) f cdv A outer s H E) (defBody st) t ∧ t { nx := fun _ H' => Q .non H', rt := Q } (start N vs) H) :
    CallG P w K mg base (k + 1) (.ref f) (pos fun vs H Q E => ∃ ws rest, vs = ws ++ rest ∧ ws.length = ps.length ∧ rest.length ≤ sizeLine ∧ ∀ p, H p = none → sp (ws ++ [.ref p]) (upd H p (.tup rest)) Q E) := by
  obtain ⟨oc, od, kV, doc, pm, an, cdv, ct, osl, rfl, lk, hcd⟩ := F.ex
  rintro A outer s H us kws vs zs Q E hr hg e0 r rk ⟨rfl, ws, rest, rfl, hl, hz, hq⟩
  cases rk
  obtain ⟨u1, u2, rfl, r1, r2⟩ := vals_split r
  have hn : H s.heap.objs.size = none := e0.hok.fresh (Nat.le_refl _)
  have hl1 : u1.length = ps.length := by rw [← r1.length]; exact hl
  have hl2 : u2.length ≤ sizeLine := by rw [← r2.length]; exact hz
  refine run_bnd lk hcd S hr e0 (G := fun xs H2 => ∃ p, H p = none ∧ xs = ws ++ [V.ref p] ∧ H2 = upd H p (.tup rest)) (fun A' Ex Q' h => ?_) fun s2 H2 xs ⟨p, hp, ex, eH⟩ hr' => ?_
  · rw [hb kV doc pm an cdv ct u1 u2 hl1]
    refine wpAny_bind (wpAny_newTuple (wpAny_pure ?_) hl2)
    have new : ObjOk P w (upd H s.heap.objs.size (.tup rest)) (s.heap.push ({ cls := .type "tuple", data := .seq u2.toArray } : Obj)) s.heap.objs.size (.tup rest) :=
      ⟨hz, u2, r2, ⟨_, Heap.get?_push_size _ rfl, rfl, _, rfl⟩⟩
    have un := un_laid (fs := frs outer) (s := s) (o := ({ cls := .type "tuple", data := .seq u2.toArray } : Obj)) (u := .tup rest) hn
    have z := h _ _ (ws ++ [V.ref s.heap.objs.size]) (u1 ++ [Value.ref s.heap.objs.size]) (env0_laid e0 new) un rfl
      (fun e s' => cxUp outer s H _ _ E e s' un (fun b o q => Heap.get?_push_of_some _ q) rfl) (r1.append (.cons rfl .nil)) (by rw [List.length_append, List.length_append, hl] <;> rfl) ⟨_, hn, rfl, rfl⟩
    rw [List.zip_append hl1.symm] at z
    exact z
  · subst ex eH
    exact hbody cdv A outer s2 _ _ Q E hr' hg (hq p hp)
end

section
variable {X : Cx} {W : WX} {k : Nat} {fv : Value} {sp : SpK} {pins : List (Addr × Obj)} {σ : L2.St} {H : Hp} {s : Shared} {Q : VK}
/-- the callee runs, from a body -/
theorem run_call {us : List Value} {kws : List (Str × Value)} {vs : List V} {zs : List (Str × V)} (tk : Takes X W) (F : CallG X.prog X.w X.K X.mg X.base k fv sp) (hr : Room k X.A) (hg : X.A.guards = some []) (I : Inv X pins σ H s) (r : Vals vs us) (rk : KVs zs kws)
    (h : sp vs zs H Q (WE W σ)) : wpAny (model X.prog X.w) X.A (call fv us kws) (EP X pins σ Q) X.xe s := by
  refine wpAny_call (codeAny_mono (F X.A X.stack s H us kws vs zs Q _ hr hg I.env0 r rk h) fun r s' hq => ?_)
  cases r with
  | error e => exact passAt tk σ pins H s e s' I hq
  | ok fl =>
    cases fl with
    | ret u => exact I.after hq
    | next => exact False.elim hq
    | brk => exact False.elim hq
    | cont => exact False.elim hq
def tCl (W : WX) (sp : SpK) (t : TA) : TE := fun σ H Q => t σ H fun vs H1 => sp vs [] H1 Q (WE W σ)
variable {x : Str} {p qs : Pos} {e : Expr} {es : List Expr} {t : TA}
/-- x(e, ..) -/
theorem pe_cl (tk : Takes X W) (F : CallG X.prog X.w X.K X.mg X.base k fv sp) (hr : Room k X.A) (hg : X.A.guards = some []) (hx : Gl X x) (hm : X.mg x = some fv) (hk : PySem.W.keepIn X.K fv = true) (ha : PA X (e :: es) t)
    (hdb : (x == ("__debug__" : Str)) = false := by decide) (he : starEach (e :: es) X.env = (false, eval e X.env) :: starEach es X.env := by rfl) (hpl : (backTo qs (starEach es X.env)).any (·.1) = false := by rfl) :
    PE X (.Call (.Name x p) (e :: es) [] qs) (tCl W sp t) := by
  refine ⟨fun pins s σ H Q I h => ?_⟩
  refine wpAny_Call_Name_kw (ld_glob I hx hm ?_ hdb)
  refine PySem.W.callWith_K (h₀ := X.base) I.ok.mod.kin hk (thn (ha.run qs pins s σ H _ I h) fun us s1 ⟨vs, H1, I1, r, q⟩ => ⟨I1.kIn, ?_⟩) he hpl
  exact run_call tk F hr hg I1 r .nil q
theorem pe_cl0 (tk : Takes X W) (F : CallG X.prog X.w X.K X.mg X.base k fv sp) (hr : Room k X.A) (hg : X.A.guards = some []) (hx : Gl X x) (hm : X.mg x = some fv) (hk : PySem.W.keepIn X.K fv = true)
    (hdb : (x == ("__debug__" : Str)) = false := by decide) : PE X (.Call (.Name x p) [] [] qs) (tCl W sp tNil) := by
  refine ⟨fun pins s σ H Q I h => ?_⟩
  refine wpAny_Call_Name_kw (ld_glob I hx hm ?_ hdb)
  exact PySem.W.callWith_K0 I.kIn hk (run_call (us := []) tk F hr hg I .nil .nil h)
end
end Uk

/-! UkB: from the layer into the walk: a def's promise shown by the walker -/
namespace Uk
open PySem PySem.Spec PyProof.Rows L2 StX

/-- the surroundings as the walk wants them -/
abbrev wideA (outer : List Env) : Around := { handled := none, depth := 395, frames := some outer, guards := some [], units := 6500 }
theorem below_wide {A : Around} {outer : List Env} {k : Nat} (hr : Room k A) (hk : 200 ≤ k) (hg : A.guards = some []) (hf : A.frames = some outer) {Γ : PySem.Ctx} (h : Γ.Below A) : Γ.Below (wideA outer) := by
  obtain ⟨h1, h2, h3, h4, h5⟩ := h
  have d := hr.dp
  have u := hr.un
  have e1 : recursionLimit = 1000 := rfl
  have e2 : cLine = 9900 := rfl
  rw [e1] at d
  rw [e2] at u
  refine ⟨h1.trans hr.hd, ?_, fun l hl => ?_, fun g hl => ?_, ?_⟩
  · show _ ≤ 395
    omega
  · cases hl
    exact h3 _ hf
  · cases hl
    exact h4 _ hg
  · show _ ≤ 6500
    omega
theorem code_wide {M : Model} {A : Around} {outer : List Env} {k : Nat} (hr : Room k A) (hk : 200 ≤ k) (hg : A.guards = some []) (hf : A.frames = some outer) {c : Code} {R : Result → Shared → Prop} {s : Shared} (h : codeAny M (wideA outer) c R s) : codeAny M A c R s :=
  fun Γ p hc hb => h Γ p hc (below_wide hr hk hg hf hb)

section
variable {P : Program} {w : World} {K : PySem.W.Frag} {mg : Str → Option Value} {base : Heap} {A : Around} {outer : List Env} {s : Shared} {H : Hp} {Q : VK} {E : XK} {k : Nat}
theorem Env0.kIn (e0 : Env0 P w K mg base A outer s H) : K.In s.heap := e0.mod.kin.keeps fun b o e => (e0.bs b o e).1
theorem Env0.keep (e0 : Env0 P w K mg base A outer s H) : ∀ b o, base.get? b = some o → s.heap.get? b = some o := fun b o e => (e0.bs b o e).1
/-- back from the walk: all that stood stands -/
theorem leave_same {v : V} {u : Value} {h' : Heap} {tk : Nat} {g : Array GenState} {d : Drawn} {os : OsState} (e0 : Env0 P w K mg base A outer s H) (kp : ∀ b o, s.heap.get? b = some o → h'.get? b = some o) (rv : RelV v u) (q : Q v H)
    (hg : AllBare g := by first | assumption | exact Env0.bare (by assumption)) (ho : os = s.os := by rfl) :
    CR (L2.CX P w) outer P w H s Q E (.ok (.ret u)) ⟨h', g, d, tk, os⟩ := ⟨v, H, ho, hg, Un.kept kp, e0.hok.kept kp, rv, q⟩
/-- a def entered, for the walk -/
theorem enter_W {p : Program} {loose : List Str} {mean : ExcName → Option Value} {mb : Str → Option Value} {R : Result → Shared → Prop} {name qual : Str} {params : Arguments} {body : List Stmt} {scope : Scope} {dV kV doc pm cdv ct oc : Value} {an od : Option Addr} {osl : Array (Option Value)}
    {f : Addr} {args : Args} {binds : List (Str × Value)} (hr : Room k A) (hk : 200 ≤ k) (hg : A.guards = some []) (e0 : Env0 P w K mg base A outer s H) (T : Top p loose mean mg mb base)
    (ho : K.lookup f = some ⟨oc, od, .func (PySem.W.fnOf name qual params body scope dV kV doc pm an cdv ct), osl⟩) (hcd : PySem.W.codeIn K cdv qual = true)
    (hbind : BindsTo s (PySem.W.fnOf name qual params body scope dV kV doc pm an cdv ct) args binds) (hloc : ∀ y ∈ binds, scope.names.lookup y.1 = some .local)
    (h : ∀ L' h₁, Fr s.heap L' h₁ (fun y => binds.reverse.lookup y) → News s.heap L' h₁ [] → Below (wideA outer) base outer s.heap → K.In s.heap → Top p loose mean mg mb s.heap →
      wpAny (model P w) ((wideA outer).deeper (envOf qual scope L' f cdv)) (execs body (envOf qual scope L' f cdv))
        (fun fl s' => R (.ok (.ret (match fl with | .ret v => v | _ => .none))) s')
        (fun e s' => wpAny (model P w) ((wideA outer).deeper (envOf qual scope L' f cdv)) (leaving (envOf qual scope L' f cdv) e) (fun _ s'' => R (.error e) s'') (fun e' s'' => R (.error e') s'') s')
        { s with heap := h₁, toks := s.toks + binds.length })
    (hco : scope.isCoroutine = false) (hgen : scope.isGenerator = false) (hkd : scope.kind = .function) (hcell : ∀ x ∈ scope.names, x.2 ≠ .cell) :
    codeAny (model P w) A (.call (.ref f) args) R s := by
  have KX := Env0.kIn e0
  refine code_wide hr hk hg e0.frames ?_
  refine codeAny_call_def (fd := PySem.W.fnOf name qual params body scope dV kV doc pm an cdv ct) (body := body) (binds := binds) (by show 395 < recursionLimit; decide) (KX _ _ ho) rfl (T.nolimit.keeps (Env0.keep e0))
    (PySem.W.codeRec_of KX hcd) rfl hbind hcell hloc (fun h₁ hns hk₁ => ?_) hco hgen hkd
  exact h s.heap.objs.size h₁ ⟨hns, hk₁, Nat.le_refl _⟩ (fun _ hp => nomatch hp) ⟨rfl, Env0.keep e0, e0.funs⟩ KX (T.keeps (Env0.keep e0))
end
end Uk

/-! UkC: != of an instance whose class has its own == and no != -/
namespace Uk
open PySem PySem.W PySem.Spec PySem.Calls PyProof.Rows

section
variable {prog : Program} {w : World} {A : Around} {E : Value → Shared → Prop} {s : Shared} {K : Frag} {x C L f : Addr} {h₀ : Heap} {m : PySem.Str → Option Value} {ox : Obj} {od : Option Obj} {b tb : Value}
/-- a built-in of object's, bound to the instance -/
theorem ifBound_bi {M : Model} {name : PySem.Str} {id T : String} {args : List Value} {Q : Option Value → Shared → Prop} (X : K.In s.heap) (I : InstAt s.heap x ox C od) (hs : findIn K (.ref C) name = some (some (.builtin id))) (S : Slot T name id)
    (h : wpAny M A (call (.builtin id) (.ref x :: args)) (fun v => Q (some v)) E s) : wpAny M A (callSpecialIfBound? (.ref x) name args) Q E s := by
  simp only [callSpecialIfBound?, bindSpecialIfBound?]
  refine wpAny_holding (wpAny_bind (wpAny_bind (wpAny_bind (I.type.here ((looks_findIn X hs).here ?_)))))
  simp only [S.bind]
  refine wpAny_bind (wpAny_askSetting (wpAny_ite ?_))
  have fin : wpAny M A (call (.builtin id) ([.ref x] ++ args) >>= fun v => pure (some v)) Q E s := wpAny_bind (wpAny_mono h (fun v s' h' => wpAny_pure h') fun _ _ h' => h')
  split
  · exact wpAny_bind (wpAny_pure (wpAny_pure fin))
  · exact wpAny_tryCatch (wpAny_bind (wpAny_pure (wpAny_pure fin)))

theorem objNe_K {Q : Fin → Shared → Prop} (hu : A.units < cLine) (X : K.In s.heap) (I : InstAt s.heap x ox C od) (hs : findIn K (.ref C) "__eq__" = some (some (.ref f))) (hf : isFn K (.ref f) = true)
    (h : wpAny (model prog w) A (call (.ref f) [.ref x, b]) (fun v s' => ∃ c, v = .bool c ∧ Q (.done (.ret (.bool (!c)))) s') E s) :
    wpAny (model prog w) A (Builtin.«object.__ne__» ⟨[.ref x, b], []⟩) Q E s := by
  obtain ⟨hp, g, d, t, os⟩ := s
  unfold Builtin.«object.__ne__»
  repeat (first
    | with_reducible refine wpAny_cRoomFor hu ?_
    | (refine wpAny_bind (m := callSpecialIfBound? (.ref x) (PySem.Str.ofString "__eq__") [b])
        (ifBound_K X I hs hf (wpAny_mono h (fun r s' hr => by
          obtain ⟨c, rfl, hq⟩ := hr
          repeat (first | exact hq | exact wpAny_pure hq | exact wpAny_truthy_bool hq | (refine wpAny_bind (m := truthy (.bool _)) (wpAny_truthy_bool ?_)) | wp_step)) fun _ _ e => e)))
    | wp_step)

theorem ne_K {Q : Value → Shared → Prop} (hu : A.units + 1 < cLine) (F : Fr h₀ L s.heap m) (X₀ : K.In h₀) (I : InstAt s.heap x ox C od) (hb : Looks (model prog w) s.heap (typeOf b) tb) (hn : notFirst K C tb = true)
    (hne : findIn K (.ref C) "__ne__" = some (some (.builtin "object.__ne__"))) (hs : findIn K (.ref C) "__eq__" = some (some (.ref f))) (hf : isFn K (.ref f) = true) (ho : mroIn K C (.type "object") = some true)
    (h : wpAny (model prog w) A.in1 (call (.ref f) [.ref x, b]) (fun v s' => ∃ c, v = .bool c ∧ Q (.bool (!c)) s') E s) : wpAny (model prog w) A (richCompare .NotEq (.ref x) b) Q E s := by
  have X := X₀.keeps F.keep
  have sub : Looks (model prog w) s.heap (isInstance (.ref x) (.type "object")) true := I.type.andThen (looks_mroIn X ho)
  have one : wpAny (model prog w) A (tryCompare (.ref x) "__ne__" b) (fun r s' => ∃ v, r = some v ∧ Q v s') E s := by
    unfold tryCompare
    refine wpAny_bind (ifBound_bi X I hne PySem.F.cmp_object.ne (wpAny_call (codeAny_call_builtin PySem.F.cmp_object.ne.plain PySem.F.cmpEntry_ne (check_slot PySem.F.cmpKind_ne PySem.F.cmpSplit_ne sub (PySem.F.cmpArgs_ne _ _) ?_))))
    refine objNe_K (A := A.in1) (by show A.units + 1 < cLine; exact hu) X I hs hf (wpAny_mono h (fun v s' hv => ?_) fun _ _ e => e)
    obtain ⟨c, rfl, hq⟩ := hv
    exact ⟨c, rfl, wpAny_pure ⟨_, rfl, hq⟩⟩
  unfold richCompare
  simp only [oneThing_ref]
  refine wpAny_holding (wpAny_bind (wpAny_cRoomFor (Nat.lt_of_succ_lt hu) ?_))
  rw [cmpInfo_NotEq]
  dsimp only
  refine wpAny_bind (I.type.here (wpAny_bind (hb.here ?_)))
  split
  · rename_i q
    have e : subIn K tb (.ref C) = some false := by
      rcases Bool.or_eq_true_iff.mp hn with e | e
      · rw [beq_iff_eq.mp e] at q; simp at q
      · exact beq_iff_eq.mp e
    refine wpAny_bind ((looks_subIn X e).here ?_)
    simp only [Bool.false_eq_true, if_false]
    refine wpAny_bind (wpAny_mono one (fun r s' z => ?_) fun _ _ e => e)
    obtain ⟨v, rfl, hq⟩ := z
    exact wpAny_pure hq
  · refine wpAny_bind (wpAny_pure ?_)
    simp only [Bool.false_eq_true, if_false]
    refine wpAny_bind (wpAny_mono one (fun r s' z => ?_) fun _ _ e => e)
    obtain ⟨v, rfl, hq⟩ := z
    exact wpAny_pure hq
def BoolNot (Q : Value → Shared → Prop) (v : Value) (s' : Shared) : Prop := match v with
  | .bool c => Q (.bool (!c)) s'
  | _ => False
theorem ne_K' {Q : Value → Shared → Prop} (hu : A.units + 1 < cLine) (F : Fr h₀ L s.heap m) (X₀ : K.In h₀) (I : InstAt s.heap x ox C od) (hb : Looks (model prog w) s.heap (typeOf b) tb) (hn : notFirst K C tb = true)
    (hne : findIn K (.ref C) "__ne__" = some (some (.builtin "object.__ne__"))) (hs : findIn K (.ref C) "__eq__" = some (some (.ref f))) (hf : isFn K (.ref f) = true) (ho : mroIn K C (.type "object") = some true)
    (h : wpAny (model prog w) A.in1 (call (.ref f) [.ref x, b]) (BoolNot Q) E s) : wpAny (model prog w) A (compareOp .NotEq (.ref x) b) Q E s :=
  ne_K hu F X₀ I hb hn hne hs hf ho (wpAny_mono h (fun v s' hv => by
    cases v <;> first | exact False.elim hv | exact ⟨_, rfl, hv⟩) fun _ _ e => e)
end
end Uk

/-! UkD: operators that a class of the program defines -/
namespace Uk
open PySem PySem.Spec PyProof.Rows L2 StX

/-- nothing is raised -/
abbrev NoE : XK := fun _ _ _ => False
section
variable {X : Cx} {W : WX} {k : Nat} {fv : Value} {sp : SpK} {pins : List (Addr × Obj)} {σ : L2.St} {H : Hp} {s : Shared} {Q : VK}
theorem cx_no {P : Program} {w : World} {outer : List Env} {u : Value} {s' : Shared} (h : L2.CX P w outer H s NoE u s') : False := by
  obtain ⟨a, B, H', cls, d, ea, fl, hok, ub, na, os, ag, he⟩ := h
  exact he
/-- the callee runs in the body's surroundings, or in ones like them, and raises nothing -/
theorem run_callN {A' : Around} {E₁ : Value → Shared → Prop} {us : List Value} {vs : List V} (F : CallG X.prog X.w X.K X.mg X.base k fv sp) (hr : Room k A') (hg : A'.guards = some []) (hf : A'.frames = X.A.frames) (I : Inv X pins σ H s) (r : Vals vs us)
    (h : sp vs [] H Q NoE) : wpAny (model X.prog X.w) A' (call fv us) (EP X pins σ Q) E₁ s := by
  have e := I.env0
  have e0 : Env0 X.prog X.w X.K X.mg X.base A' X.stack s H := ⟨hf.trans e.frames, e.mod, e.bs, e.bsz, e.funs, e.frf, e.hok, e.bare⟩
  refine wpAny_call (codeAny_mono (F A' X.stack s H us [] vs [] Q NoE hr hg e0 r .nil h) fun r s' hq => ?_)
  cases r with
  | error e => exact (cx_no hq).elim
  | ok fl =>
    cases fl with
    | ret u => exact I.after hq
    | next => exact False.elim hq
    | brk => exact False.elim hq
    | cont => exact False.elim hq
theorem rel_ne {v : V} {u : Value} (r : RelV v u) : u ≠ .notImplemented := by
  intro e
  subst e
  cases v <;> first | (cases r; done) | (obtain ⟨_, e⟩ := r; cases e)
/-- a method of the class by its special name -/
structure Own (K : PySem.W.Frag) (C : Addr) (m : PySem.Str) (f : Addr) : Prop where
  at_ : PySem.W.findIn K (.ref C) m = some (some (.ref f))
  fn : PySem.W.isFn K (.ref f) = true
theorem ins_at {P : Program} {w : World} {h : Heap} {a C dx : Addr} {fs : List (Str × V)} (hok : HOk P w H h) (e : H a = some (.ins C dx fs)) : ∃ od, PySem.W.InstAt h a (PySem.W.instObj C dx) C (some od) := by
  obtain ⟨mA, O, _⟩ := ins_get hok e
  obtain ⟨od, J, _⟩ := O.look
  exact ⟨od, J⟩
theorem looks_ty {x : V} {u t : Value} (I : Inv X pins σ H s) (rx : RelV x u) (ty : TyX X.K H x t) {M : Model} : PySem.W.Looks M s.heap (typeOf u) t := by
  obtain ⟨P, Z, p, _⟩ := kit_of I rx ty
  exact Z.ty M s.heap I.kIn p
/-- one own, the other any -/
def rOw (K : PySem.W.Frag) (D : Addr → Prop) (sp : SpK) (g : V → V) : R2 := fun x y H Q => ∃ (a C dx : Addr) (fs : List (Str × V)) (t : Value), x = .ref a ∧ D C ∧ H a = some (.ins C dx fs) ∧ TyX K H y t ∧ PySem.W.notFirst K C t = true ∧ sp [x, y] [] H (fun v H' => Q (g v) H') NoE
theorem op_eqO {D : Addr → Prop} {f : Addr} (F : CallG X.prog X.w X.K X.mg X.base k (.ref f) sp) (hr : Room k X.A) (hg : X.A.guards = some []) (hD : ∀ C, D C → Own X.K C "__eq__" f) : OpR X (compareOp .Eq) (rOw X.K D sp id) := by
  intro pins s σ H x y u v Q I rx ry h
  obtain ⟨a, C, dx, fs, t, rfl, d, e, ty, nf, q⟩ := h
  obtain rfl : u = Value.ref a := rx
  obtain ⟨od, J⟩ := ins_at I.hok e
  obtain ⟨m, fr⟩ := I.fr
  refine PySem.W.cmp_ofEq (PySem.W.cmp_K hr.units0 fr I.ok.mod.kin J (looks_ty I ry ty) nf (hD C d).at_ (hD C d).fn (wpAny_mono (run_callN F hr hg rfl I (vs := [.ref a, y]) (us := [.ref a, v]) (.cons rfl (.cons ry .nil)) q) (fun z s' hz => ?_) fun _ _ y => y))
  obtain ⟨v', H', I', rv, q'⟩ := hz
  have hn := rel_ne rv
  cases z <;> first | exact absurd rfl hn | exact ⟨v', H', I', rv, q'⟩
theorem op_ltO {D : Addr → Prop} {f : Addr} (F : CallG X.prog X.w X.K X.mg X.base k (.ref f) sp) (hr : Room k X.A) (hg : X.A.guards = some []) (hD : ∀ C, D C → Own X.K C "__lt__" f) : OpR X (compareOp .Lt) (rOw X.K D sp id) := by
  intro pins s σ H x y u v Q I rx ry h
  obtain ⟨a, C, dx, fs, t, rfl, d, e, ty, nf, q⟩ := h
  obtain rfl : u = Value.ref a := rx
  obtain ⟨od, J⟩ := ins_at I.hok e
  obtain ⟨m, fr⟩ := I.fr
  refine PySem.W.cmp_ofLt (PySem.W.cmp_K hr.units0 fr I.ok.mod.kin J (looks_ty I ry ty) nf (hD C d).at_ (hD C d).fn (wpAny_mono (run_callN F hr hg rfl I (vs := [.ref a, y]) (us := [.ref a, v]) (.cons rfl (.cons ry .nil)) q) (fun z s' hz => ?_) fun _ _ y => y))
  obtain ⟨v', H', I', rv, q'⟩ := hz
  have hn := rel_ne rv
  cases z <;> first | exact absurd rfl hn | exact ⟨v', H', I', rv, q'⟩
def notV : V → V
  | .bl b => .bl (!b)
  | v => v
/-- != by an own == -/
def rNeOw (K : PySem.W.Frag) (D : Addr → Prop) (sp : SpK) : R2 := fun x y H Q => ∃ (a C dx : Addr) (fs : List (Str × V)) (t : Value), x = .ref a ∧ D C ∧ H a = some (.ins C dx fs) ∧ TyX K H y t ∧ PySem.W.notFirst K C t = true ∧ sp [x, y] [] H (fun v H' => ∃ b, v = .bl b ∧ Q (.bl (!b)) H') NoE
structure OwnNe (K : PySem.W.Frag) (C : Addr) (f : Addr) : Prop where
  eq : Own K C "__eq__" f
  ne : PySem.W.findIn K (.ref C) "__ne__" = some (some (.builtin "object.__ne__"))
  ob : PySem.W.mroIn K C (.type "object") = some true
theorem op_neO {D : Addr → Prop} {f : Addr} (F : CallG X.prog X.w X.K X.mg X.base k (.ref f) sp) (hr : Room (k + 1) X.A) (hg : X.A.guards = some []) (hD : ∀ C, D C → OwnNe X.K C f) : OpR X (compareOp .NotEq) (rNeOw X.K D sp) := by
  intro pins s σ H x y u v Q I rx ry h
  obtain ⟨a, C, dx, fs, t, rfl, d, e, ty, nf, q⟩ := h
  obtain rfl : u = Value.ref a := rx
  obtain ⟨od, J⟩ := ins_at I.hok e
  obtain ⟨m, fr⟩ := I.fr
  refine ne_K' (by have := hr.units; omega) fr I.ok.mod.kin J (looks_ty I ry ty) nf (hD C d).ne (hD C d).eq.at_ (hD C d).eq.fn (hD C d).ob (wpAny_mono (run_callN F hr.in1 hg rfl I (vs := [.ref a, y]) (us := [.ref a, v]) (.cons rfl (.cons ry .nil)) q) (fun z s' hz => ?_) fun _ _ y => y)
  obtain ⟨v', H', I', rv, b, rfl, q'⟩ := hz
  obtain rfl : z = Value.bool b := rv
  exact ⟨.bl (!b), H', I', rfl, q'⟩
/-- a + b, both of one class -/
def rBinO (D : Addr → Prop) (sp : SpK) : R2 := fun x y H Q => ∃ (a b C dx dy : Addr) (fs gs : List (Str × V)), x = .ref a ∧ y = .ref b ∧ D C ∧ H a = some (.ins C dx fs) ∧ H b = some (.ins C dy gs) ∧ sp [x, y] [] H Q NoE
structure OwnBin (K : PySem.W.Frag) (C : Addr) (m : PySem.Str) (f : Addr) : Prop where
  at_ : PySem.W.findIn K (.ref C) m = some (some (.ref f))
  fn : PySem.W.isFn K (.ref f) = true
  first : PySem.W.selfFirst K C = true
theorem op_binO {op : Operator} {D : Addr → Prop} {f : Addr} (F : CallG X.prog X.w X.K X.mg X.base k (.ref f) sp) (hr : Room k X.A) (hg : X.A.guards = some []) (hD : ∀ C, D C → OwnBin X.K C (PySem.dunder op.info.2) f) : OpR X (binaryOp op) (rBinO D sp) := by
  intro pins s σ H x y u v Q I rx ry h
  obtain ⟨a, b, C, dx, dy, fs, gs, rfl, rfl, d, e1, e2, q⟩ := h
  obtain rfl : u = Value.ref a := rx
  obtain rfl : v = Value.ref b := ry
  obtain ⟨od, J⟩ := ins_at I.hok e1
  obtain ⟨od2, J2⟩ := ins_at I.hok e2
  obtain ⟨m, fr⟩ := I.fr
  refine PySem.W.binop_K fr I.ok.mod.kin J J2.type (hD C d).first (hD C d).at_ (hD C d).fn (wpAny_mono (run_callN F hr hg rfl I (vs := [.ref a, .ref b]) (us := [.ref a, .ref b]) (.cons rfl (.cons rfl .nil)) q) (fun z s' hz => ?_) fun _ _ y => y)
  obtain ⟨v', H', I', rv, q'⟩ := hz
  have hn := rel_ne rv
  cases z <;> first | exact absurd rfl hn | exact ⟨v', H', I', rv, q'⟩
/-- an instance's truth by its own __bool__ -/
def rTruO (D : Addr → Prop) (sp : SpK) : V → Hp → (Bool → Hp → Prop) → Prop := fun x H Q => ∃ (a C dx : Addr) (fs : List (Str × V)), x = .ref a ∧ D C ∧ H a = some (.ins C dx fs) ∧ sp [x] [] H (fun v H' => ∃ b, v = .bl b ∧ Q b H') NoE
theorem tru_O {D : Addr → Prop} {f : Addr} (F : CallG X.prog X.w X.K X.mg X.base k (.ref f) sp) (hr : Room k X.A) (hg : X.A.guards = some []) (hD : ∀ C, D C → Own X.K C "__bool__" f) : TruR X (rTruO D sp) := by
  intro pins s σ H x u Q I rx h
  obtain ⟨a, C, dx, fs, rfl, d, e, q⟩ := h
  obtain rfl : u = Value.ref a := rx
  obtain ⟨od, J⟩ := ins_at I.hok e
  obtain ⟨m, fr⟩ := I.fr
  refine PySem.W.truthy_K fr I.ok.mod.kin J (hD C d).at_ (hD C d).fn (wpAny_mono (run_callN F hr hg rfl I (vs := [.ref a]) (us := [.ref a]) (.cons rfl .nil) q) (fun z s' hz => ?_) fun _ _ y => y)
  obtain ⟨v', H', I', rv, b, rfl, q'⟩ := hz
  obtain rfl : z = Value.bool b := rv
  exact ⟨H', I', q'⟩
end
end Uk

/-! UkE: repr of data -/
namespace Uk
open PySem PySem.Spec PyProof.Rows L2 StX

section
variable {K : PySem.W.Frag} {H H' : Hp}
mutual
theorem dp_noDict : ∀ {d : PyData} {v : V}, Dp K H v d → d.hasDict = false
  | .none, _, _ => rfl
  | .bool _, _, _ => rfl
  | .int _, _, _ => rfl
  | .str _, _, _ => rfl
  | .list ds, _, h => by
    cases h with
    | lst _ r => exact dpAll_noDict r
  | .tuple ds, _, h => by
    cases h with
    | tup _ r => exact dpAll_noDict r
  | .dict _, _, h => nomatch h
theorem dpAll_noDict : ∀ {ds : List PyData} {vs : List V}, DpAll K H vs ds → PyData.hasDictAll ds = false
  | [], _, _ => rfl
  | d :: ds, _, h => by
    cases h with
    | cons a r =>
      show (PyData.hasDict d || PyData.hasDictAll ds) = false
      rw [dp_noDict a, dpAll_noDict r] <;> rfl
end
theorem sq_mono {a : Addr} {xs : List V} (e : Same H H') (h : SqL K H a xs) : SqL K H' a xs := e.seq h
theorem st_mono {a : Addr} {xs : List V} (e : Same H H') (h : SqT K H a xs) : SqT K H' a xs := by
  rcases h with (h | ⟨o, h⟩) | h
  · exact .inl (.inl (e _ _ h))
  · exact .inl (.inr ⟨o, e _ _ h⟩)
  · exact .inr h
mutual
theorem dp_mono (e : Same H H') : ∀ {d : PyData} {v : V}, Dp K H v d → Dp K H' v d
  | .none, _, h => by cases h; exact .non
  | .bool b, _, h => by cases h; exact .bl b
  | .int i, _, h => by cases h; exact .int i
  | .str x, _, h => by cases h; exact .str x
  | .list ds, _, h => by
    cases h with
    | lst a r => exact .lst (sq_mono e a) (dpAll_mono e r)
  | .tuple ds, _, h => by
    cases h with
    | tup a r => exact .tup (st_mono e a) (dpAll_mono e r)
  | .dict _, _, h => nomatch h
theorem dpAll_mono (e : Same H H') : ∀ {ds : List PyData} {vs : List V}, DpAll K H vs ds → DpAll K H' vs ds
  | [], _, h => by cases h; exact .nil
  | d :: ds, _, h => by
    cases h with
    | cons a r => exact .cons (dp_mono e a) (dpAll_mono e r)
end
end

/-- what may be shown -/
structure Shw (d : PyData) : Prop where
  sh : d.showable = true
  sz : d.shown.length ≤ sizeLine
  dp : d.depth ≤ 60
def rRepr (K : PySem.W.Frag) : List V → Hp → VK → Prop := fun xs H Q => ∃ v d, xs = [v] ∧ Dp K H v d ∧ Shw d ∧ Q (.str d.shown) H
section
variable {X : Cx}
theorem call_repr (hg : X.A.guards = some []) (hu : X.A.units + 64 < cLine) : CallR X (.builtin "repr") (rRepr X.K) := by
  intro pins s σ H xs us Q I r h
  obtain ⟨v, d, rfl, hd, ⟨h1, h2, h3⟩, q⟩ := h
  obtain ⟨u, rfl, rv⟩ := vals1 r
  cases hd with
  | non => cases (show u = Value.none from rv); exact PySem.P.repr_of_none ⟨.str _, H, I.tok _, ⟨_, rfl⟩, q⟩
  | bl b =>
    cases (show u = Value.bool b from rv)
    refine PySem.P.repr_of_bool ⟨.str _, H, I.tok _, ⟨_, rfl⟩, ?_⟩
    cases b <;> exact q
  | int i =>
    obtain ⟨t, rfl⟩ := (show ∃ t, u = Value.int i t from rv)
    exact PySem.P.repr_of_int (of_decide_eq_true h1) ⟨.str _, H, I.tok _, ⟨_, rfl⟩, q⟩
  | str x =>
    obtain ⟨t, rfl⟩ := (show ∃ t, u = Value.str x t from rv)
    exact PySem.P.repr_of_str ⟨.str _, H, I.tok _, ⟨_, rfl⟩, q⟩ h2
  | @lst a xs ds hl hr =>
    have hd := Dp.lst hl hr
    obtain ⟨as, rd⟩ := Dp.reads I _ _ u hd rv
    obtain rfl : u = Value.ref a := rv
    refine repr_of_reads' (h₀ := s.heap) rd h1 (fun z => by rw [dp_noDict hd] at z; cases z) hg (by omega) (fun _ _ e => e) (fun h' t tk kp => ?_) h2
    exact ⟨.str _, H, I.kept kp, ⟨_, rfl⟩, q⟩
  | @tup a xs ds hl hr =>
    have hd := Dp.tup hl hr
    obtain ⟨as, rd⟩ := Dp.reads I _ _ u hd rv
    obtain rfl : u = Value.ref a := rv
    refine repr_of_reads' (h₀ := s.heap) rd h1 (fun z => by rw [dp_noDict hd] at z; cases z) hg (by omega) (fun _ _ e => e) (fun h' t tk kp => ?_) h2
    exact ⟨.str _, H, I.kept kp, ⟨_, rfl⟩, q⟩
end
end Uk

/-! UkF: small words for readings; the pen -/
namespace Uk
open PySem PySem.Spec PyProof.Rows L2 StX

theorem hu_big {A : Around} {k : Nat} (hr : Room k A) : A.units + 64 < cLine := hr.units
/-- one object was changed (or made), all else that was told stands -/
structure Chg (p : Addr) (o : HO) (H H' : Hp) : Prop where
  at_ : H' p = some o
  ne : ∀ a u, a ≠ p → H a = some u → H' a = some u
theorem Chg.upd {p : Addr} {o : HO} {H : Hp} : Chg p o H (upd H p o) := ⟨upd_same, fun a u n e => by rw [upd_ne n]; exact e⟩
theorem Chg.same {p : Addr} {o : HO} {H H1 H2 : Hp} (e : Same H H1) (c : Chg p o H1 H2) : Chg p o H H2 := ⟨c.at_, fun a u n h => c.ne a u n (e a u h)⟩
theorem Chg.trans {p : Addr} {o u : HO} {H H1 H2 : Hp} (a : Chg p o H H1) (b : Chg p u H1 H2) : Chg p u H H2 := ⟨b.at_, fun x y n e => b.ne x y n (a.ne x y n e)⟩
theorem Chg.then {p : Addr} {o : HO} {H H1 H2 : Hp} (a : Chg p o H H1) (b : Same H1 H2) : Chg p o H H2 := ⟨b _ _ a.at_, fun x y n e => b _ _ (a.ne x y n e)⟩
theorem same_new {H : Hp} {p : Addr} {o : HO} (h : H p = none) : Same H (upd H p o) := fun b x e => by rw [upd_ne (ne_of_none e h)]; exact e
/-- an item of a list at a written place -/
theorem atI_lit {α : Type} {xs : List α} {i : Int} {v : α} (h0 : 0 ≤ i) (h : xs[i.toNat]? = some v) : atI xs i = some v := by
  have := atI_nat h
  rwa [Int.toNat_of_nonneg h0] at this
theorem ixN_lit {n : Nat} {i : Int} (h0 : 0 ≤ i) (h1 : i < n) : ixN n i = some i.toNat := by unfold ixN; rw [if_pos h0, if_pos h1]
theorem atI_mem {α : Type} {xs : List α} {i : Int} (h0 : 0 ≤ i) (h1 : i < xs.length) : ∃ v, atI xs i = some v ∧ v ∈ xs := by
  have hl : i.toNat < xs.length := by omega
  exact ⟨xs[i.toNat], atI_lit h0 (List.getElem?_eq_getElem hl), List.getElem_mem hl⟩
theorem ite_b {b : Bool} {A B : Prop} (h1 : b = true → A) (h2 : b = false → B) : if b = true then A else B := by
  cases b with
  | true => exact iteT (h1 rfl)
  | false => exact iteF (h2 rfl)

/-- the pen at p: its cells at c, how many were begun, what is left -/
abbrev penO (c : Addr) (b l : Int) : HO := .lst [.ref c, .int b, .int l]
/-- the promise of what draws -/
def spDraw : Sp := fun vs H Q _ => ∃ (p c : Addr) (b l many : Int) (ns : List Int), vs = [.ref p, .int many] ∧ H p = some (penO c b l) ∧ H c = some (.lst (ns.map .int)) ∧ ns.length ≤ 63 ∧ 0 ≤ b ∧ b ≤ 100000 ∧ 1 ≤ many ∧ many ≤ 100000 ∧
  ∀ (d b' l' : Int) (H' : Hp), 0 ≤ d → d < many → b ≤ b' → b' ≤ b + 1 → Chg p (penO c b' l') H H' → Q (.int d) H'
theorem fmod_range {i j : Int} (h : 0 < j) : 0 ≤ i.fmod j ∧ i.fmod j < j := by
  rw [Int.fmod_eq_emod_of_nonneg _ (Int.le_of_lt h)]
  exact ⟨Int.emod_nonneg _ (Int.ne_of_gt h), Int.emod_lt_of_pos _ h⟩
theorem fmod_ex {C : Int} (h : 0 < C) (i : Int) : ∃ m, i.fmod C = m ∧ 0 ≤ m ∧ m < C := ⟨_, rfl, (fmod_range h).1, (fmod_range h).2⟩
theorem lay_ints : ∀ ns : List Int, PyData.canLayAll0 (ns.map PyData.int) = true
  | [] => rfl
  | n :: r => by
    show (PyData.canLay0 (.int n) && PyData.canLayAll0 (r.map PyData.int)) = true
    rw [lay_ints r]
    rfl
theorem dep_ints : ∀ ns : List Int, PyData.depthAll (ns.map PyData.int) = 0
  | [] => rfl
  | n :: r => by
    show max (PyData.depth (.int n)) (PyData.depthAll (r.map PyData.int)) = 0
    rw [dep_ints r]
    rfl
theorem shaped_ints (ns : List Int) : SeqAt.shaped (.list (ns.map PyData.int)) = true := by
  unfold SeqAt.shaped
  rw [show PyData.canLay0 (.list (ns.map PyData.int)) = true from lay_ints ns, show PyData.depth (.list (ns.map PyData.int)) = 1 by show PyData.depthAll (ns.map PyData.int) + 1 = 1; rw [dep_ints]]
  rfl
theorem dpAll_ints {K : PySem.W.Frag} {H : Hp} : ∀ ns : List Int, DpAll K H (ns.map V.int) (ns.map PyData.int)
  | [] => .nil
  | n :: r => .cons (.int n) (dpAll_ints r)
end Uk

/-! UkG: making instances, static methods and own methods by the promises of UkA -/
namespace Uk
open PySem PySem.Spec PyProof.Rows L2 StX
theorem under_guards {A : Around} {C : Addr} {us : List Value} {kw : List (Str × Value)} (h : A.guards = some []) : (A.under (.builtin "type.__call__" ⟨.ref C :: us, kw⟩)).guards = some [] := by
  first | exact h | (simpa [Around.under, Code.envs, Code.isFrame, pushEnvs] using h)
section
variable {X : Cx} {W : WX} {k : Nat} {C f : Addr} {sp : Sp} {pins : List (Addr × Obj)} {σ : L2.St} {H : Hp} {s : Shared} {Q : VK}
/-- what the making of an instance asks of its __init__ -/
def spMk (C : Addr) (sp : Sp) : Sp := fun vs H Q E => ∀ x dx, H x = none → H dx = none → dx ≠ x → sp (.ref x :: vs) (upd (upd H dx (.own x)) x (.ins C dx [])) (fun v H2 => v = .non ∧ Q (.ref x) H2) E
theorem run_makeG {us : List Value} {vs : List V} (tk : Takes X W) (M : Mk X.K C f) (F : CallG X.prog X.w X.K X.mg X.base k (.ref f) (pos sp)) (hr : Room (k + 1) X.A) (hg : X.A.guards = some []) (I : Inv X pins σ H s) (r : Vals vs us)
    (h : spMk C sp vs H Q (WE W σ)) : wpAny (model X.prog X.w) X.A (call (.ref C) us) (EP X pins σ Q) X.xe s := by
  have hq := h (s.heap.objs.size + 1) s.heap.objs.size (I.hok.fresh (Nat.le_succ _)) (I.hok.fresh (Nat.le_refl _)) (Nat.ne_of_lt (Nat.lt_succ_self _))
  have I2 := Inv.made (C := C) I
  have r2 : Vals (V.ref (s.heap.objs.size + 1) :: vs) (Value.ref (s.heap.objs.size + 1) :: us) := .cons rfl r
  refine wpAny_call (make_map (f := f) I.kIn M.makes M.init (beq_iff_eq.mp M.fn) (codeAny_mono (F _ X.stack _ _ (Value.ref (s.heap.objs.size + 1) :: us) [] _ [] _ _ (hr.make C us []) (under_guards hg) (I2.env0.make C us []) r2 .nil ⟨rfl, hq⟩) fun r s' hq' => ?_))
  cases r with
  | error e => exact passAt tk σ pins _ _ e s' I2 hq'
  | ok fl =>
    cases fl with
    | ret u =>
      obtain ⟨v, H', I3, rv, ev, q3⟩ := I2.after hq'
      subst ev
      exact ⟨rv, ⟨V.ref (s.heap.objs.size + 1), H', I3, rfl, q3⟩⟩
    | next => exact False.elim hq'
    | brk => exact False.elim hq'
    | cont => exact False.elim hq'
variable {x : Str} {p qs : Pos} {e : Expr} {es : List Expr} {t : TA}
/-- C(e, ..) -/
theorem pe_mkG (tk : Takes X W) (M : Mk X.K C f) (F : CallG X.prog X.w X.K X.mg X.base k (.ref f) (pos sp)) (hr : Room (k + 1) X.A) (hg : X.A.guards = some []) (hx : Gl X x) (hm : X.mg x = some (.ref C)) (ha : PA X (e :: es) t)
    (hdb : (x == ("__debug__" : Str)) = false := by decide) (he : starEach (e :: es) X.env = (false, eval e X.env) :: starEach es X.env := by rfl) (hpl : (backTo qs (starEach es X.env)).any (·.1) = false := by rfl) :
    PE X (.Call (.Name x p) (e :: es) [] qs) (tCl W (pos (spMk C sp)) t) := by
  refine ⟨fun pins s σ H Q I h => ?_⟩
  refine wpAny_Call_Name_kw (ld_glob I hx hm ?_ hdb)
  refine PySem.W.callWith_K (h₀ := X.base) I.ok.mod.kin M.kp (thn (ha.run qs pins s σ H _ I h) fun us s1 ⟨vs, H1, I1, r, q⟩ => ⟨I1.kIn, ?_⟩) he hpl
  exact run_makeG tk M F hr hg I1 r q.2
theorem pe_mkG0 (tk : Takes X W) (M : Mk X.K C f) (F : CallG X.prog X.w X.K X.mg X.base k (.ref f) (pos sp)) (hr : Room (k + 1) X.A) (hg : X.A.guards = some []) (hx : Gl X x) (hm : X.mg x = some (.ref C))
    (hdb : (x == ("__debug__" : Str)) = false := by decide) : PE X (.Call (.Name x p) [] [] qs) (tCl W (pos (spMk C sp)) tNil) := by
  refine ⟨fun pins s σ H Q I h => ?_⟩
  refine wpAny_Call_Name_kw (ld_glob I hx hm ?_ hdb)
  exact PySem.W.callWith_K0 I.kIn M.kp (run_makeG (us := []) tk M F hr hg I .nil h.2)
end

/-- C.m is a staticmethod: its record at p, its def at g -/
structure SMet (K : PySem.W.Frag) (C : Addr) (mc : Value) (m : Str) (p g : Addr) : Prop where
  rd : PySem.W.readsIn K C mc = true
  ga : PySem.W.specialIn K (.ref C) "__getattribute__" = some (some (.builtin "type.__getattribute__"))
  at_ : PySem.W.findCls K (.ref C) mc m = some (.get (.builtin "staticmethod.__get__") (.ref p) .none (.ref C))
  rc : ∃ rest, PySem.W.recIn K p "staticmethod" = some (.ref g :: rest)
  kp : PySem.W.keepIn K (.ref g) = true
section
variable {X : Cx} {W : WX} {k : Nat} {C f p g : Addr} {mc : Value} {sp : SpK} {m x : Str} {o e : Expr} {es : List Expr} {qs apos : Pos} {ta : TE} {t : TA} {pl : Sem Bool} {pins : List (Addr × Obj)} {σ : L2.St} {H : Hp} {s : Shared} {A : Around} {E : Value → Shared → Prop}
theorem getmethsm_ok {pl : Sem Bool} {Q : Value × List Value → Shared → Prop} (I : Inv X pins σ H s) (k : SMet X.K C mc m p g)
    (h : ∀ s', Inv X pins σ H s' → Q (.ref g, []) s') : wpAny (model X.prog X.w) A (getMethod (.ref C) m pl) Q E s := by
  obtain ⟨rest, hp⟩ := k.rc
  refine PySem.W.method_cls I.kIn k.ga (PySem.W.cls_bind I.kIn k.rd k.at_ ?_)
  exact wpAny_call (PySem.W.sm_get (s := { s with toks := s.toks + 1 }) I.kIn hp (PySem.W.handed_on rfl (h _ (I.tok _))))
/-- C.m(e, ..), m a staticmethod -/
def tSm (W : WX) (C : Addr) (sp : SpK) (ta : TE) (t : TA) : TE := fun σ H Q => ta σ H fun x H1 => x = .ref C ∧ t σ H1 fun vs H2 => sp vs [] H2 Q (WE W σ)
theorem pe_sm (tk : Takes X W) (he : PE X o ta) (c : SMet X.K C mc m p g) (F : CallG X.prog X.w X.K X.mg X.base k (.ref g) sp) (hr : Room k X.A) (hg : X.A.guards = some []) (ha : PA X (e :: es) t)
    (hst : starEach (e :: es) X.env = (false, eval e X.env) :: starEach es X.env := by rfl) (hpl : (backTo qs (starEach es X.env)).any (·.1) = false := by rfl)
    (ht : eval (.Call (.Attribute o m apos) (e :: es) [] qs) X.env = (do
      let ov ← eval o X.env
      standAt apos.atName
      let (f, first) ← holding [ov] (getMethod ov m pl)
      callWith qs f first (backTo qs (starEach (e :: es) X.env)) (backToKw qs (keywordEach [] X.env))) := by rfl) :
    PE X (.Call (.Attribute o m apos) (e :: es) [] qs) (tSm W C sp ta t) := by
  refine ⟨fun pins s σ H Q I h => ?_⟩
  refine PySem.W.methodCall_KW (pl := pl) (thn (he.run pins s σ H _ I h) fun u s1 ⟨x, H1, I1, rx, ex, q⟩ => ?_) ht
  subst ex
  obtain rfl : u = Value.ref C := rx
  refine getmethsm_ok I1 c fun s2 I2 => ?_
  refine PySem.W.callWith_K (h₀ := X.base) I2.ok.mod.kin c.kp (thn (ha.run qs pins s2 σ H1 _ I2 q) fun us s3 ⟨vs, H2, I3, r, q2⟩ => ⟨I3.kIn, ?_⟩) hst hpl
  exact run_call tk F hr hg I3 r .nil q2
theorem pe_sm0 (tk : Takes X W) (he : PE X o ta) (c : SMet X.K C mc m p g) (F : CallG X.prog X.w X.K X.mg X.base k (.ref g) sp) (hr : Room k X.A) (hg : X.A.guards = some [])
    (ht : eval (.Call (.Attribute o m apos) [] [] qs) X.env = (do
      let ov ← eval o X.env
      standAt apos.atName
      let (f, first) ← holding [ov] (getMethod ov m pl)
      callWith qs f first (backTo qs (starEach [] X.env)) (backToKw qs (keywordEach [] X.env))) := by rfl) :
    PE X (.Call (.Attribute o m apos) [] [] qs) (tSm W C sp ta tNil) := by
  refine ⟨fun pins s σ H Q I h => ?_⟩
  refine PySem.W.methodCall_KW (pl := pl) (thn (he.run pins s σ H _ I h) fun u s1 ⟨x, H1, I1, rx, ex, q⟩ => ?_) ht
  subst ex
  obtain rfl : u = Value.ref C := rx
  refine getmethsm_ok I1 c fun s2 I2 => ?_
  exact PySem.W.callWith_K0 I2.kIn c.kp (run_call (us := []) tk F hr hg I2 .nil .nil q)
/-- o.m(e, ..), m a method of o's class -/
def tMeG (W : WX) (C : Addr) (m : Str) (sp : SpK) (ta : TE) (t : TA) : TE := fun σ H Q => ta σ H fun x H1 => ∃ a dx fs, x = .ref a ∧ H1 a = some (.ins C dx fs) ∧ fs.lookup m = none ∧ t σ H1 fun vs H2 => sp (.ref a :: vs) [] H2 Q (WE W σ)
theorem pe_meG (tk : Takes X W) (he : PE X o ta) (c : Cls X.K C) (hm : Meth X.K C m f) (F : CallG X.prog X.w X.K X.mg X.base k (.ref f) sp) (hr : Room k X.A) (hg : X.A.guards = some []) (ha : PA X (e :: es) t)
    (hst : starEach (e :: es) X.env = (false, eval e X.env) :: starEach es X.env := by rfl) (hpl : (backTo qs (starEach es X.env)).any (·.1) = false := by rfl)
    (ht : eval (.Call (.Attribute o m apos) (e :: es) [] qs) X.env = (do
      let ov ← eval o X.env
      standAt apos.atName
      let (f, first) ← holding [ov] (getMethod ov m pl)
      callWith qs f first (backTo qs (starEach (e :: es) X.env)) (backToKw qs (keywordEach [] X.env))) := by rfl) :
    PE X (.Call (.Attribute o m apos) (e :: es) [] qs) (tMeG W C m sp ta t) := by
  refine ⟨fun pins s σ H Q I h => ?_⟩
  refine PySem.W.methodCall_KW (pl := pl) (thn (he.run pins s σ H _ I h) fun u s1 ⟨x, H1, I1, rx, a, dx, fs, ex, ea, l, q⟩ => ?_) ht
  subst ex
  obtain rfl : u = Value.ref a := rx
  refine getmeth_ok I1 ea c hm l ?_
  refine PySem.W.callWith_K (h₀ := X.base) (first := [.ref a]) I1.ok.mod.kin hm.kp (thn (ha.run qs pins s1 σ H1 _ I1 q) fun us s2 ⟨vs, H2, I2, r, q2⟩ => ⟨I2.kIn, ?_⟩) hst hpl
  exact run_call (us := .ref a :: us) (vs := .ref a :: vs) tk F hr hg I2 (.cons rfl r) .nil q2
theorem pe_meG0 (tk : Takes X W) (he : PE X o ta) (c : Cls X.K C) (hm : Meth X.K C m f) (F : CallG X.prog X.w X.K X.mg X.base k (.ref f) sp) (hr : Room k X.A) (hg : X.A.guards = some [])
    (ht : eval (.Call (.Attribute o m apos) [] [] qs) X.env = (do
      let ov ← eval o X.env
      standAt apos.atName
      let (f, first) ← holding [ov] (getMethod ov m pl)
      callWith qs f first (backTo qs (starEach [] X.env)) (backToKw qs (keywordEach [] X.env))) := by rfl) :
    PE X (.Call (.Attribute o m apos) [] [] qs) (tMeG W C m sp ta tNil) := by
  refine ⟨fun pins s σ H Q I h => ?_⟩
  refine PySem.W.methodCall_KW (pl := pl) (thn (he.run pins s σ H _ I h) fun u s1 ⟨x, H1, I1, rx, a, dx, fs, ex, ea, l, q⟩ => ?_) ht
  subst ex
  obtain rfl : u = Value.ref a := rx
  refine getmeth_ok I1 ea c hm l ?_
  exact PySem.W.callWith_K0 (first := [.ref a]) I1.kIn hm.kp (run_call (us := [.ref a]) (vs := [.ref a]) tk F hr hg I1 (.cons rfl .nil) .nil q)
end
theorem ifT {b : Bool} {A B : Prop} (e : b = true) (h : A) : if b = true then A else B := by rw [if_pos e]; exact h
theorem ifF {b : Bool} {A B : Prop} (e : b = false) (h : B) : if b = true then A else B := by rw [if_neg (by rw [e]; exact Bool.false_ne_true)]; exact h
theorem at_new {H : Hp} {p a : Addr} {o u : HO} (hp : H p = none) (h : H a = some u) : upd H p o a = some u := by rw [upd_ne (ne_of_none h hp)]; exact h
theorem at_same {H H' : Hp} {a : Addr} {u : HO} (s : Same H H') (h : H a = some u) : H' a = some u := s _ _ h
theorem same_trans {H H1 H2 : Hp} (a : Same H H1) (b : Same H1 H2) : Same H H2 := fun x y e => b x y (a x y e)
theorem takes_no {X : Cx} : Takes X (fun _ _ _ _ => False) := fun _ _ ⟨_, _, _, _, _, _, _, _, _, _, _, _, _, _, _, _, w⟩ => w.elim
theorem nd_refl (x : V) : (!decide (x = x)) = false := by simp
theorem de_refl (x : V) : decide (x = x) = true := by simp
theorem sqI2 {K : PySem.W.Frag} {H : Hp} {a : Addr} {i j : Int} (h : H a = some (.tup [.int i, .int j])) : SqT K H a ([i, j].map V.int) := SqT.of h
theorem sqI3 {K : PySem.W.Frag} {H : Hp} {a : Addr} {i j k : Int} (h : H a = some (.tup [.int i, .int j, .int k])) : SqT K H a ([i, j, k].map V.int) := SqT.of h
/-- what is never reached -/
def tDead : TE := fun _ _ _ => False
theorem pe_dead {X : Cx} {e : Expr} : PE X e tDead := ⟨fun _ _ _ _ _ _ h => h.elim⟩
def sDead : TS := fun _ _ _ => False
theorem ps_dead {X : Cx} {st : Stmt} : PS X st sDead := ⟨fun _ _ _ _ _ _ h => h.elim⟩
/-- what of a class isinstance looks at -/
structure TyC (K : PySem.W.Frag) (C : Addr) : Prop where
  cl : Cls K C
  ha : PySem.W.findIn K (.ref C) "__class__" = some (some (.builtin "object.__class__"))
  hn : PySem.W.specialIn K (.builtin "object.__class__") "__get__" = some (some (.builtin "getset_descriptor.__get__"))
  htk : PySem.W.takesIn K (.builtin "object.__class__") = some true
  hm : PySem.W.mroIn K C (.type "object") = some true
theorem TyC.ty {K : PySem.W.Frag} {C : Addr} (c : TyC K C) {H : Hp} {a dx : Addr} {fs : List (Str × V)} (e : H a = some (.ins C dx fs)) : TyX K H (.ref a) (.ref C) := .base (.ins e c.cl c.ha c.hn c.htk c.hm)
end Uk

/-! UkH: the pen, and the heap without it -/
namespace Uk
open PySem PySem.Spec PyProof.Rows L2 StX

/-- the heap without the object at p -/
def Off (p : Addr) (H : Hp) : Hp := fun a => if a = p then none else H a
section
variable {H H' H1 H2 : Hp} {p a z : Addr} {o u v : HO} {m n : Int}
theorem Off.at (h : Off p H a = some u) : H a = some u := by
  unfold Off at h
  by_cases e : a = p
  · rw [if_pos e] at h; cases h
  · rw [if_neg e] at h; exact h
theorem Off.ne (h : Off p H a = some u) : a ≠ p := fun e => by
  unfold Off at h
  rw [if_pos e] at h
  cases h
theorem Off.of (h : H a = some u) (n : a ≠ p) : Off p H a = some u := by
  unfold Off
  rw [if_neg n]
  exact h
theorem Off.same (s : Same H H') : Same (Off p H) (Off p H') := fun a u e => Off.of (s _ _ (Off.at e)) (Off.ne e)
theorem Off.new (hz : H z = none) : Same (Off p H) (Off p (upd H z o)) := Off.same (same_new hz)
/-- the pen at p, its cells at c, with at most m of them begun -/
def Pen (H : Hp) (p c : Addr) (m : Int) : Prop := ∃ (b l : Int) (ns : List Int), H p = some (penO c b l) ∧ H c = some (.lst (ns.map .int)) ∧ ns.length ≤ 63 ∧ 0 ≤ b ∧ b ≤ m
section
variable {c : Addr}
theorem Pen.same (s : Same H H') (P : Pen H p c m) : Pen H' p c m := by
  obtain ⟨b, l, ns, h1, h2, h3⟩ := P
  exact ⟨b, l, ns, s _ _ h1, s _ _ h2, h3⟩
theorem Pen.new (hz : H z = none) (P : Pen H p c m) : Pen (upd H z o) p c m := P.same (same_new hz)
theorem Pen.mono (P : Pen H p c m) (h : m ≤ n) : Pen H p c n := by
  obtain ⟨b, l, ns, h1, h2, h3, h4, h5⟩ := P
  exact ⟨b, l, ns, h1, h2, h3, h4, Int.le_trans h5 h⟩
theorem Pen.ne (P : Pen H p c m) (hz : H z = none) : z ≠ p := fun e => by
  obtain ⟨b, l, ns, h1, _⟩ := P
  rw [← e, hz] at h1
  cases h1
theorem Pen.ne2 (P : Pen H p c m) (hz : H z = none) : z ≠ c := fun e => by
  obtain ⟨b, l, ns, _, h1, _⟩ := P
  rw [← e, hz] at h1
  cases h1
/-- another object is changed -/
theorem Pen.upd (n1 : z ≠ p) (n2 : z ≠ c) (P : Pen H p c m) : Pen (upd H z o) p c m := by
  obtain ⟨b, l, ns, h1, h2, h3⟩ := P
  exact ⟨b, l, ns, by rw [upd_ne n1.symm]; exact h1, by rw [upd_ne n2.symm]; exact h2, h3⟩
/-- a new object, told without the pen -/
theorem Off.mk (P : Pen H p c m) (hz : H z = none) : Off p (upd H z o) z = some o := Off.of upd_same (P.ne hz)
end
/-- what draws, told by the pen -/
def spDrawP : Sp := fun vs H Q _ => ∃ (p c : Addr) (m many : Int), vs = [.ref p, .int many] ∧ Pen H p c m ∧ m ≤ 99999 ∧ 1 ≤ many ∧ many ≤ 100000 ∧
  ∀ (d : Int) (H' : Hp), 0 ≤ d → d < many → Same (Off p H) (Off p H') → Pen H' p c (m + 1) → Q (.int d) H'
theorem draw_P {vs : List V} {Q : VK} {E : XK} (h : spDrawP vs H Q E) : spDraw vs H Q E := by
  obtain ⟨p, c, m, many, rfl, ⟨b, l, ns, h1, h2, h3, h4, h5⟩, h6, h7, h8, q⟩ := h
  have pc : c ≠ p := fun e => by
    rw [e, h1] at h2
    match ns, h2 with
    | [], hc => cases hc
    | n :: r, hc => cases hc
  refine ⟨p, c, b, l, many, ns, rfl, h1, h2, h3, h4, by omega, h7, h8, fun d b' l' H' d0 d1 e1 e2 ch => ?_⟩
  exact q d H' d0 d1 (fun a u e => Off.of (ch.ne _ _ (Off.ne e) (Off.at e)) (Off.ne e)) ⟨b', l', ns, ch.at_, ch.ne _ _ pc h2, h3, by omega, by omega⟩
theorem Same.rfl {H : Hp} : Same H H := fun _ _ h => h
end
end Uk

/-! UkI: how long shown data is -/
namespace Uk
open PySem PySem.Spec PyProof.Rows L2 StX

theorem ofString_len (s : String) : (Str.ofString s).length = s.length := by
  rw [Str.ofString_eq_toList]
  show (List.toArray _).size = _
  rw [List.size_toArray, List.length_map, String.length_toList]
theorem int_len {i : Int} (h : i.natAbs < 10 ^ 18) : (Str.ofString (toString i)).length ≤ 19 := by
  rw [ofString_len]
  cases i with
  | ofNat n =>
    show (Nat.repr n).length ≤ 19
    have := (Nat.length_repr_le_iff (n := n) (k := 18) (by decide)).mpr (by simpa using h)
    omega
  | negSucc n =>
    show ("-" ++ Nat.repr (n + 1)).length ≤ 19
    rw [String.length_append]
    have := (Nat.length_repr_le_iff (n := n + 1) (k := 18) (by decide)).mpr (by simpa using h)
    have e : ("-" : String).length = 1 := by decide
    omega
/-- may be shown in at most n signs, at most k deep -/
structure Sml (n k : Nat) (d : PyData) : Prop where
  sh : d.showable = true
  sz : d.shown.length ≤ n
  dp : d.depth ≤ k
structure SmlAll (n k m : Nat) (ds : List PyData) : Prop where
  sh : PyData.showableAll ds = true
  sz : ∀ t ∈ PyData.shownAll ds, t.length ≤ n
  ln : ds.length ≤ m
  dp : PyData.depthAll ds ≤ k
theorem Sml.shw {n k : Nat} {d : PyData} (h : Sml n k d) (hn : n ≤ sizeLine) (hk : k ≤ 60) : Shw d := ⟨h.sh, Nat.le_trans h.sz hn, Nat.le_trans h.dp hk⟩
theorem sml_none {n k : Nat} (h : 4 ≤ n) : Sml n k .none := ⟨rfl, h, Nat.zero_le _⟩
theorem sml_bool {n k : Nat} {b : Bool} (h : 5 ≤ n) : Sml n k (.bool b) := ⟨rfl, Nat.le_trans (by cases b <;> decide) h, Nat.zero_le _⟩
theorem sml_int {n k : Nat} {i : Int} (h : 19 ≤ n) (hi : i.natAbs < 10 ^ 18) : Sml n k (.int i) := by
  refine ⟨?_, Nat.le_trans (int_len hi) h, Nat.zero_le _⟩
  show decide (i.natAbs.log2 < 1920) = true
  rw [decide_eq_true_eq]
  have h1 : i.natAbs < 2 ^ 1920 := Nat.lt_of_lt_of_le hi (by decide +kernel)
  by_cases e : i.natAbs = 0
  · rw [e]; decide
  · exact (Nat.log2_lt e).mpr h1
theorem smlAll_nil {n k m : Nat} : SmlAll n k m [] := ⟨rfl, (fun _ h => nomatch h), Nat.zero_le _, Nat.zero_le _⟩
theorem smlAll_cons {n k m : Nat} {d : PyData} {ds : List PyData} (h : Sml n k d) (r : SmlAll n k m ds) : SmlAll n k (m + 1) (d :: ds) := by
  refine ⟨?_, fun t ht => ?_, Nat.succ_le_succ r.ln, ?_⟩
  · show (PyData.showable d && PyData.showableAll ds) = true
    rw [h.sh, r.sh] <;> rfl
  · rcases List.mem_cons.mp ht with e | e
    · rw [e]; exact h.sz
    · exact r.sz t e
  · show max (PyData.depth d) (PyData.depthAll ds) ≤ k
    exact Nat.max_le.mpr ⟨h.dp, r.dp⟩
theorem str_len_append (a b : Str) : (a ++ b).length = a.length + b.length := PySem.Str.length_append a b
theorem textFrom_le {n : Nat} : ∀ (ts : List Str) (k : Nat) (acc : Str), (∀ t ∈ ts, t.length ≤ n) → (textFrom k acc ts).length ≤ acc.length + (n + 2) * ts.length
  | [], k, acc, _ => by
    show acc.length ≤ acc.length + _
    exact Nat.le_add_right _ _
  | t :: r, k, acc, h => by
    have h1 := textFrom_le r (k + 1) (acc ++ (if k > 0 then ", " else "" : String) ++ t) (fun u hu => h u (List.mem_cons_of_mem _ hu))
    have h2 := h t List.mem_cons_self
    show (textFrom (k + 1) (acc ++ (if k > 0 then ", " else "" : String) ++ t) r).length ≤ _
    refine Nat.le_trans h1 ?_
    rw [str_len_append, str_len_append, List.length_cons, Nat.mul_succ]
    have h3 : (Str.ofString (if k > 0 then ", " else "")).length ≤ 2 := by split <;> decide
    omega
theorem sml_list {n k m N K : Nat} {ds : List PyData} (h : SmlAll n k m ds) (hN : 2 + (n + 2) * m ≤ N) (hK : k + 1 ≤ K) : Sml N K (.list ds) := by
  have hl : ∀ ds : List PyData, (PyData.shownAll ds).length = ds.length := by
    intro ds
    induction ds with
    | nil => rfl
    | cons d r ih =>
      show (PyData.shown d :: PyData.shownAll r).length = _
      rw [List.length_cons, ih, List.length_cons]
  refine ⟨h.sh, ?_, ?_⟩
  · show (textFrom 0 "[" (PyData.shownAll ds) ++ ("]" : Str)).length ≤ N
    have h1 := textFrom_le (n := n) (PyData.shownAll ds) 0 "[" h.sz
    rw [str_len_append]
    have e1 : ("[" : Str).length = 1 := by decide
    have e2 : ("]" : Str).length = 1 := by decide
    rw [hl] at h1
    have h2 : (n + 2) * ds.length ≤ (n + 2) * m := Nat.mul_le_mul_left _ h.ln
    omega
  · show PyData.depthAll ds + 1 ≤ K
    exact Nat.le_trans (Nat.succ_le_succ h.dp) hK
end Uk

/-! UkJ: bool(x) of an instance with an own __bool__; more -/
namespace Uk
open PySem PySem.Spec PyProof.Rows L2 StX
section
variable {prog : Program} {w : World} {A : Around} {E : Value → Shared → Prop} {s : Shared}
theorem bool_in (x : Value) : MeetsIn prog w (Builtin.«bool.__new__» ⟨[.type "bool", x], []⟩) (fun A R s => ∀ tk, wpAny (model prog w) A.in1 (truthy x) (fun b s' => R (.ok (.ret (.bool b))) s') (fun e s' => R (.error e) s') { s with toks := tk }) :=
  .of_wp fun A R s hs => by
    obtain ⟨hp, g, d, tk, os⟩ := s
    have f1 := F.conv_sub_bool
    repeat (any_goals (first | assumption | (with_reducible refine wpAny_mono (hs _) (fun b s2 h2 => ?_) (fun _ _ h2 => h2)) | wp_step))
    all_goals first | exact ⟨_, rfl, by assumption⟩ | skip
    all_goals trace_state
theorem call_bool_in {x : Value} {Q : Value → Shared → Prop} (h : ∀ tk, wpAny (model prog w) A.in1.in1 (truthy x) (fun b s' => Q (.bool b) s') E { s with toks := tk }) : wpAny (model prog w) A (call (.type "bool") [x]) Q E s :=
  callType_newIn F.called_bool F.newNe_bool (F.typeCall_bool_1 x) (F.newCall_bool_1 x) (fun obj => F.args_object_init_2 obj x) F.entry_bool_new (bool_in x)
    (fun tk => wpAny_mono (h tk) (fun b s' q => ⟨rfl, q⟩) fun _ _ q => q)
end
/-- bool(x), x an instance with an own __bool__ -/
theorem call_boolO {X : Cx} {k : Nat} {sp : SpK} {D : Addr → Prop} {f : Addr} (F : CallG X.prog X.w X.K X.mg X.base k (.ref f) sp) (hr : Room (k + 2) X.A) (hg : X.A.guards = some []) (hD : ∀ C, D C → Own X.K C "__bool__" f) :
    CallR X (.type "bool") (fun xs H Q => ∃ x, xs = [x] ∧ rTruO D sp x H fun b H' => Q (.bl b) H') := by
  intro pins s σ H xs us Q I r h
  obtain ⟨x, rfl, a, C, dx, fs, rfl, d, e, q⟩ := h
  obtain ⟨u, rfl, r1⟩ := vals1 r
  obtain rfl : u = Value.ref a := r1
  refine call_bool_in fun tk => ?_
  have I := I.tok tk
  obtain ⟨od, J⟩ := ins_at I.hok e
  obtain ⟨m, fr⟩ := I.fr
  refine PySem.W.truthy_K fr I.ok.mod.kin J (hD C d).at_ (hD C d).fn (wpAny_mono (run_callN F hr.in1.in1 hg rfl I (vs := [.ref a]) (us := [.ref a]) (.cons rfl .nil) q) (fun z s' hz => ?_) fun _ _ y => y)
  obtain ⟨v', H', I', rv, b, rfl, q'⟩ := hz
  obtain rfl : z = Value.bool b := rv
  exact ⟨.bl b, H', I', rfl, q'⟩
end Uk

/-! UkK: the end: from the head's walk to the promise of the law's def -/
namespace Uk
open PySem PySem.Spec PyProof.Rows L2 StX
section
variable {P : Program} {w : World} {K : PySem.W.Frag} {mg mb : Str → Option Value} {k : Nat} {fa a : Addr} {sp : Sp} {s₁ : Shared} {vs : List Value} {ns : List Int}
/-- a heap that tells of one frozen object, or of none -/
structure OneFrz (P : Program) (w : World) (K : PySem.W.Frag) (h : Heap) (a : Addr) (H : Hp) : Prop where
  hok : HOk P w H h
  one : ∀ b, H b = none ∨ (b = a ∧ ∃ o ys, H b = some (.frz o (.lst ys)))
  free : H a ≠ none → K.lookup a = none
theorem endG (KX : K.In s₁.heap) (hns : s₁.heap.Ns mainGlobals mg) (hb : s₁.heap.Ns builtinsNs mb) (hbb : ∀ x : Str, x ≠ "__name__" → mb x = bootBuiltins x) (hlim : s₁.heap.NoLimit) (hgen : s₁.gens = #[])
    (isList : ∃ its, s₁.heap.get? a = some { cls := .type "list", data := .seq its }) (hr : Room k callerA) (F : ∀ base : Heap, Mod K mg base → CallG P w K mg base k (.ref fa) (pos sp)) {H : Hp} (T : OneFrz P w K s₁.heap a H)
    (law : sp [.ref a] H (fun v _ => v = .bl true) NoE) :
    codeAny (model P w) callerA (.call (.ref fa) ⟨[.ref a], []⟩) (fun r s' => r = .ok (.ret (.bool true)) ∧ OldK s₁.heap s'.heap ∧ s'.os = s₁.os ∧ AllBare s'.gens) s₁ := by
  obtain ⟨its, hlist⟩ := isList
  have clear : ∀ {b : Addr} {o : Obj}, s₁.heap.get? b = some o → (b = a → K.lookup a = none → False) → (hidT s₁.heap H).get? b = some o := fun {b o} e no => hidT_get e (by
    rcases T.one b with z | ⟨eb, ob, ys, z⟩
    · exact z
    · refine (no eb (T.free fun q => ?_)).elim
      rw [← eb, z] at q
      cases q)
  have names : ∀ {b : Addr} {m : Str → Option Value}, s₁.heap.Ns b m → (hidT s₁.heap H).Ns b m := fun {b m} ⟨o, es, ep, e, d, r⟩ => by
    refine ⟨o, es, ep, clear e (fun eb _ => ?_), d, r⟩
    rw [eb, hlist] at e
    cases e
    cases d
  have kIn : K.In (hidT s₁.heap H) := fun b o e => clear (KX b o e) fun eb kn => by
    rw [eb, kn] at e
    cases e
  have M : Mod K mg (hidT s₁.heap H) := ⟨kIn, names hns, ⟨mb, names hb, hbb⟩, hlim.elim fun mc z => ⟨mc, names z.1, z.2⟩⟩
  have env : Env0 P w K mg (hidT s₁.heap H) callerA [] s₁ H := ⟨rfl, M, fun _ _ => of_hidT, Nat.le_of_eq (hidT_size _ _), trivial, (fun b z => nomatch (show b ∈ ([] : List Addr) from z)), T.hok, .of_eq hgen⟩
  refine codeAny_mono (F _ M callerA [] s₁ H [.ref a] [] [.ref a] [] (fun v _ => v = .bl true) NoE hr rfl env (.cons rfl .nil) .nil ⟨rfl, law⟩) fun r s' got => ?_
  rcases r with e | fl
  · exact (cx_no got).elim
  · cases fl
    case ret u =>
      obtain ⟨v, H', os, bare, un, hok', rv, hv⟩ := got
      cases (show v = .bl true from hv)
      cases (show u = Value.bool true from rv)
      refine ⟨rfl, .of_keep fun b o e => ?_, os, bare⟩
      obtain z | ⟨_, ob, ys, z⟩ := T.one b
      · exact un.keep b o e z (fun i => nomatch (show b ∈ ([] : List Addr) from i)) (fun i => nomatch i)
      · have same := (T.hok b _ z).1
        rw [e] at same
        cases same
        exact (hok' b _ (un.frzs b _ _ z)).1
    all_goals exact got.elim
/-- the law's call, by the promise of its def -/
theorem lawG (KX : K.In s₁.heap) (hns : s₁.heap.Ns mainGlobals mg) (hb : s₁.heap.Ns builtinsNs mb) (hbb : ∀ x : Str, x ≠ "__name__" → mb x = bootBuiltins x) (hlim : s₁.heap.NoLimit) (hgen : s₁.gens = #[])
    (ha : s₁.heap.get? a = some { cls := .type "list", data := .seq vs.toArray }) (hi : IntsAre vs ns) (hl : ns.length ≤ sizeLine) (hr : Room k callerA) (F : ∀ base : Heap, Mod K mg base → CallG P w K mg base k (.ref fa) (pos sp))
    (law : ∀ H : Hp, SqL K H a (ns.map V.int) → sp [.ref a] H (fun v _ => v = .bl true) NoE) :
    codeAny (model P w) callerA (.call (.ref fa) ⟨[.ref a], []⟩) (fun r s' => r = .ok (.ret (.bool true)) ∧ OldK s₁.heap s'.heap ∧ s'.os = s₁.os ∧ AllBare s'.gens) s₁ := by
  have many := hi.length
  have rel := vals_ints hi
  by_cases hk : K.lookup a = none
  · let H : Hp := fun b => if b = a then some (.frz { cls := .type "list", data := .seq vs.toArray } (.lst (ns.map V.int))) else none
    have Ha : H a = some (.frz { cls := .type "list", data := .seq vs.toArray } (.lst (ns.map V.int))) := if_pos rfl
    have Hn : ∀ b, b ≠ a → H b = none := fun b nb => if_neg nb
    refine endG KX hns hb hbb hlim hgen ⟨_, ha⟩ hr F (H := H) ⟨fun b u z => ?_, fun b => ?_, fun _ => hk⟩ (law H (.inl (.inr ⟨_, Ha⟩)))
    · by_cases eb : b = a
      · subst eb
        rw [Ha] at z
        cases z
        exact ⟨ha, by rw [List.length_map]; exact hl, vs, _, rel, ha⟩
      · rw [Hn b eb] at z
        cases z
    · by_cases eb : b = a
      · subst eb
        exact .inr ⟨rfl, _, _, Ha⟩
      · exact .inl (Hn b eb)
  · obtain ⟨o, ho⟩ := Option.ne_none_iff_exists'.mp hk
    have e := KX a o ho
    rw [ha] at e
    cases e
    refine endG KX hns hb hbb hlim hgen ⟨_, ha⟩ hr F (H := fun _ => none) ⟨(fun b u z => nomatch z), (fun b => Or.inl rfl), fun z => absurd rfl z⟩ (law _ (.inr ⟨_, vs.toArray, _, ho, rfl, rfl, rfl, ?_, by simpa using rel⟩))
    rw [List.size_toArray, many]
    exact hl
end
/-- the goal that the head leaves, from the law's promise -/
theorem walkG {l : PySem.W.OpenLaw} {n k : Nat} {q : Program} {loose : List Str} {XP : (Str → Option Value) → Heap → Prop} {YP : World → Heap → Prop} {d : DefRec} {K : Params → PySem.W.Frag} {sp : World → Sp}
    (hn : l.most = some n) (hn2 : n ≤ sizeLine) (hdf : d.params.defaults = []) (hr : Room k callerA) (hY : ∀ (w : World) (h : Heap), YP w h → (K w.params).In h)
    (F : ∀ (w : World) (mg : Str → Option Value) (fa : Addr) (h : Heap), (K w.params).In h → h.Ns mainGlobals mg → mg d.name = some (.ref fa) → ∀ base : Heap, Mod (K w.params) mg base → CallG l.prog w (K w.params) mg base k (.ref fa) (pos (sp w)))
    (law : ∀ (w : World) (H : Hp) (a : Addr) (ns : List Int), ns.length ≤ n → SqL (K w.params) H a (ns.map V.int) → sp w [.ref a] H (fun v _ => v = .bl true) NoE) :
    PySem.W.WalkO q loose XP YP l.row.toRowW d [] (fun f vs => PySem.call f vs) := by
  refine Att.attach_call hn hdf fun w s₀ s₁ mg mb fa o pm cd doc a vs ns G Y ho hd hcd hmg hobj hints hlen hgen => ?_
  have KX := hY w _ Y
  exact lawG KX G.T.g G.T.b G.T.builtins G.T.nolimit hgen hobj hints (Nat.le_trans hlen hn2) hr (F w mg fa _ KX G.T.g hmg) fun H hS => law w H a ns hlen hS
/-- not e as a value, by a rule of its truth -/
theorem pe_notR {X : Cx} {a : Expr} {ta : TE} {pos : Pos} {r : V → Hp → (Bool → Hp → Prop) → Prop} (ha : PE X a ta) (ru : TruR X r) : PE X (.UnaryOp .Not a pos) (fun σ H Q => ta σ H fun x H1 => r x H1 fun b H2 => Q (.bl (!b)) H2) :=
  ⟨fun pins s σ H Q I h => UnaryOp_ (thn (ha.run pins s σ H _ I h) fun v s1 ⟨x, H1, I1, r1, q1⟩ => not_of (thn (ru pins s1 σ H1 x v (fun b H2 => Q (.bl (!b)) H2) I1 r1 q1) fun c s2 ⟨H2, I2, q2⟩ => ⟨.bl (!c), H2, I2, rfl, q2⟩))⟩
end Uk

namespace M19
open PySem PySem.Spec PyProof.Rows L2 StX Uk
abbrev PP := PySem.Challenge.pw_unkeptlines_k19_lags_as_values
def topS (i : Nat) : Stmt := PP.main.body.getD i (.Pass ⟨0, 0, 0, 0⟩)
abbrev s_Lag___init__ : Stmt := inClass (topS 1) 0
theorem sc_Lag___init__ : FnScope ["self", "rounds"] ["self", "rounds"] (defScope s_Lag___init__) := ⟨rfl, rfl, rfl, by decide +kernel, rfl, by decide +kernel, by decide +kernel⟩
abbrev s_Lag_none : Stmt := inClass (topS 1) 1
theorem sc_Lag_none : FnScope [] [] (defScope s_Lag_none) := ⟨rfl, rfl, rfl, by decide +kernel, rfl, by decide +kernel, by decide +kernel⟩
abbrev s_Lag___add__ : Stmt := inClass (topS 1) 2
theorem sc_Lag___add__ : FnScope ["self", "other"] ["self", "other"] (defScope s_Lag___add__) := ⟨rfl, rfl, rfl, by decide +kernel, rfl, by decide +kernel, by decide +kernel⟩
abbrev s_Lag___eq__ : Stmt := inClass (topS 1) 3
theorem sc_Lag___eq__ : FnScope ["self", "other"] ["self", "other"] (defScope s_Lag___eq__) := ⟨rfl, rfl, rfl, by decide +kernel, rfl, by decide +kernel, by decide +kernel⟩
abbrev s_Lag___lt__ : Stmt := inClass (topS 1) 4
theorem sc_Lag___lt__ : FnScope ["self", "other"] ["self", "other"] (defScope s_Lag___lt__) := ⟨rfl, rfl, rfl, by decide +kernel, rfl, by decide +kernel, by decide +kernel⟩
abbrev s_Lag___bool__ : Stmt := inClass (topS 1) 5
theorem sc_Lag___bool__ : FnScope ["self"] ["self"] (defScope s_Lag___bool__) := ⟨rfl, rfl, rfl, by decide +kernel, rfl, by decide +kernel, by decide +kernel⟩
abbrev s__law_pen : Stmt := topS 3
theorem sc__law_pen : FnScope ["script"] ["script"] (defScope s__law_pen) := ⟨rfl, rfl, rfl, by decide +kernel, rfl, by decide +kernel, by decide +kernel⟩
abbrev s__law_draw : Stmt := topS 4
theorem sc__law_draw : FnScope ["pen", "many", "digit", "at", "cell", "large", "mixed"] ["pen", "many"] (defScope s__law_draw) := ⟨rfl, rfl, rfl, by decide +kernel, rfl, by decide +kernel, by decide +kernel⟩
abbrev s__law_mixed : Stmt := topS 5
theorem sc__law_mixed : FnScope ["pen", "items", "left", "turn"] ["pen", "items"] (defScope s__law_mixed) := ⟨rfl, rfl, rfl, by decide +kernel, rfl, by decide +kernel, by decide +kernel⟩
abbrev s__law_number : Stmt := topS 6
theorem sc__law_number : FnScope ["pen"] ["pen"] (defScope s__law_number) := ⟨rfl, rfl, rfl, by decide +kernel, rfl, by decide +kernel, by decide +kernel⟩
abbrev s__law_sum : Stmt := topS 7
theorem sc__law_sum : FnScope ["one", "other"] ["one", "other"] (defScope s__law_sum) := ⟨rfl, rfl, rfl, by decide +kernel, rfl, by decide +kernel, by decide +kernel⟩
abbrev s__law_is_less : Stmt := topS 8
theorem sc__law_is_less : FnScope ["one", "other"] ["one", "other"] (defScope s__law_is_less) := ⟨rfl, rfl, rfl, by decide +kernel, rfl, by decide +kernel, by decide +kernel⟩
abbrev s__law_pair_right : Stmt := topS 9
theorem sc__law_pair_right : FnScope ["one", "other", "first", "second", "found"] ["one", "other"] (defScope s__law_pair_right) := ⟨rfl, rfl, rfl, by decide +kernel, rfl, by decide +kernel, by decide +kernel⟩
abbrev s__law_one_right : Stmt := topS 10
theorem sc__law_one_right : FnScope ["one", "first", "odd"] ["one"] (defScope s__law_one_right) := ⟨rfl, rfl, rfl, by decide +kernel, rfl, by decide +kernel, by decide +kernel⟩
abbrev s_law : Stmt := topS 11
theorem sc_law : FnScope ["script", "pen", "found", "k", "one", "other"] ["script"] (defScope s_law) := ⟨rfl, rfl, rfl, by decide +kernel, rfl, by decide +kernel, by decide +kernel⟩
section
variable {mg : PySem.Str → Option Value} {base : Heap} {w : World}
theorem mg_Lag (M : Mod (hd19.heap_39 w.params) mg base) : mg "Lag" = some (.ref 69) := PySem.W.mg_of M.kin M.glob (by k_is)
theorem kp_Lag (w : World) : PySem.W.keepIn (hd19.heap_39 w.params) (.ref 69) = true := by k_is
theorem mg__law_pen (M : Mod (hd19.heap_39 w.params) mg base) : mg "_law_pen" = some (.ref 80) := PySem.W.mg_of M.kin M.glob (by k_is)
theorem kp__law_pen (w : World) : PySem.W.keepIn (hd19.heap_39 w.params) (.ref 80) = true := by k_is
theorem fn__law_pen (w : World) : ∃ fd, Fun (hd19.heap_39 w.params) "_law_pen" "_law_pen" s__law_pen 80 fd := ⟨_, fun_mk (by k_is) (by k_is) (by k_is)⟩
theorem mg__law_draw (M : Mod (hd19.heap_39 w.params) mg base) : mg "_law_draw" = some (.ref 87) := PySem.W.mg_of M.kin M.glob (by k_is)
theorem kp__law_draw (w : World) : PySem.W.keepIn (hd19.heap_39 w.params) (.ref 87) = true := by k_is
theorem fn__law_draw (w : World) : ∃ fd, Fun (hd19.heap_39 w.params) "_law_draw" "_law_draw" s__law_draw 87 fd := ⟨_, fun_mk (by k_is) (by k_is) (by k_is)⟩
theorem mg__law_mixed (M : Mod (hd19.heap_39 w.params) mg base) : mg "_law_mixed" = some (.ref 92) := PySem.W.mg_of M.kin M.glob (by k_is)
theorem kp__law_mixed (w : World) : PySem.W.keepIn (hd19.heap_39 w.params) (.ref 92) = true := by k_is
theorem fn__law_mixed (w : World) : ∃ fd, Fun (hd19.heap_39 w.params) "_law_mixed" "_law_mixed" s__law_mixed 92 fd := ⟨_, fun_mk (by k_is) (by k_is) (by k_is)⟩
theorem mg__law_number (M : Mod (hd19.heap_39 w.params) mg base) : mg "_law_number" = some (.ref 99) := PySem.W.mg_of M.kin M.glob (by k_is)
theorem kp__law_number (w : World) : PySem.W.keepIn (hd19.heap_39 w.params) (.ref 99) = true := by k_is
theorem fn__law_number (w : World) : ∃ fd, Fun (hd19.heap_39 w.params) "_law_number" "_law_number" s__law_number 99 fd := ⟨_, fun_mk (by k_is) (by k_is) (by k_is)⟩
theorem mg__law_sum (M : Mod (hd19.heap_39 w.params) mg base) : mg "_law_sum" = some (.ref 106) := PySem.W.mg_of M.kin M.glob (by k_is)
theorem kp__law_sum (w : World) : PySem.W.keepIn (hd19.heap_39 w.params) (.ref 106) = true := by k_is
theorem fn__law_sum (w : World) : ∃ fd, Fun (hd19.heap_39 w.params) "_law_sum" "_law_sum" s__law_sum 106 fd := ⟨_, fun_mk (by k_is) (by k_is) (by k_is)⟩
theorem mg__law_is_less (M : Mod (hd19.heap_39 w.params) mg base) : mg "_law_is_less" = some (.ref 113) := PySem.W.mg_of M.kin M.glob (by k_is)
theorem kp__law_is_less (w : World) : PySem.W.keepIn (hd19.heap_39 w.params) (.ref 113) = true := by k_is
theorem fn__law_is_less (w : World) : ∃ fd, Fun (hd19.heap_39 w.params) "_law_is_less" "_law_is_less" s__law_is_less 113 fd := ⟨_, fun_mk (by k_is) (by k_is) (by k_is)⟩
theorem mg__law_pair_right (M : Mod (hd19.heap_39 w.params) mg base) : mg "_law_pair_right" = some (.ref 120) := PySem.W.mg_of M.kin M.glob (by k_is)
theorem kp__law_pair_right (w : World) : PySem.W.keepIn (hd19.heap_39 w.params) (.ref 120) = true := by k_is
theorem fn__law_pair_right (w : World) : ∃ fd, Fun (hd19.heap_39 w.params) "_law_pair_right" "_law_pair_right" s__law_pair_right 120 fd := ⟨_, fun_mk (by k_is) (by k_is) (by k_is)⟩
theorem mg__law_one_right (M : Mod (hd19.heap_39 w.params) mg base) : mg "_law_one_right" = some (.ref 127) := PySem.W.mg_of M.kin M.glob (by k_is)
theorem kp__law_one_right (w : World) : PySem.W.keepIn (hd19.heap_39 w.params) (.ref 127) = true := by k_is
theorem fn__law_one_right (w : World) : ∃ fd, Fun (hd19.heap_39 w.params) "_law_one_right" "_law_one_right" s__law_one_right 127 fd := ⟨_, fun_mk (by k_is) (by k_is) (by k_is)⟩
theorem mg_law (M : Mod (hd19.heap_39 w.params) mg base) : mg "law" = some (.ref 132) := PySem.W.mg_of M.kin M.glob (by k_is)
theorem kp_law (w : World) : PySem.W.keepIn (hd19.heap_39 w.params) (.ref 132) = true := by k_is
theorem fn_law (w : World) : ∃ fd, Fun (hd19.heap_39 w.params) "law" "law" s_law 132 fd := ⟨_, fun_mk (by k_is) (by k_is) (by k_is)⟩
theorem fn_Lag___init__ (w : World) : ∃ fd, Fun (hd19.heap_39 w.params) "__init__" "Lag.__init__" s_Lag___init__ 28 fd := ⟨_, fun_mk (by k_is) (by k_is) (by k_is)⟩
theorem fn_Lag___add__ (w : World) : ∃ fd, Fun (hd19.heap_39 w.params) "__add__" "Lag.__add__" s_Lag___add__ 45 fd := ⟨_, fun_mk (by k_is) (by k_is) (by k_is)⟩
theorem fn_Lag___eq__ (w : World) : ∃ fd, Fun (hd19.heap_39 w.params) "__eq__" "Lag.__eq__" s_Lag___eq__ 52 fd := ⟨_, fun_mk (by k_is) (by k_is) (by k_is)⟩
theorem fn_Lag___lt__ (w : World) : ∃ fd, Fun (hd19.heap_39 w.params) "__lt__" "Lag.__lt__" s_Lag___lt__ 59 fd := ⟨_, fun_mk (by k_is) (by k_is) (by k_is)⟩
theorem fn_Lag___bool__ (w : World) : ∃ fd, Fun (hd19.heap_39 w.params) "__bool__" "Lag.__bool__" s_Lag___bool__ 66 fd := ⟨_, fun_mk (by k_is) (by k_is) (by k_is)⟩
theorem cls_Lag (w : World) : Cls (hd19.heap_39 w.params) 69 := ⟨by k_is, by k_is, by k_is, by k_is⟩
theorem tyc_Lag (w : World) : TyC (hd19.heap_39 w.params) 69 := ⟨cls_Lag w, by k_is, by k_is, by k_is, by k_is⟩
theorem mk_Lag (w : World) : Mk (hd19.heap_39 w.params) 69 28 := ⟨by k_is, by k_is, by k_is, by k_is⟩
theorem na_Lag_rounds (w : World) : NoAttr (hd19.heap_39 w.params) 69 "rounds" := by show PySem.W.findIn _ _ _ = _; k_is
theorem na_Lag_lacking (w : World) : NoAttr (hd19.heap_39 w.params) 69 "lacking" := by show PySem.W.findIn _ _ _ = _; k_is
theorem na_Lag_far (w : World) : NoAttr (hd19.heap_39 w.params) 69 "far" := by show PySem.W.findIn _ _ _ = _; k_is
theorem own_Lag_add (w : World) : OwnBin (hd19.heap_39 w.params) 69 (PySem.dunder Operator.Add.info.2) 45 := ⟨by show PySem.W.findIn _ _ "__add__" = _; k_is, by k_is, by k_is⟩
theorem own_Lag_eq (w : World) : Own (hd19.heap_39 w.params) 69 "__eq__" 52 := ⟨by k_is, by k_is⟩
theorem own_Lag_ne (w : World) : OwnNe (hd19.heap_39 w.params) 69 52 := ⟨own_Lag_eq w, by k_is, by k_is⟩
theorem own_Lag_lt (w : World) : Own (hd19.heap_39 w.params) 69 "__lt__" 59 := ⟨by k_is, by k_is⟩
theorem own_Lag_bool (w : World) : Own (hd19.heap_39 w.params) 69 "__bool__" 66 := ⟨by k_is, by k_is⟩
theorem mn_len (M : Mod (hd19.heap_39 w.params) mg base) : mg "len" = none := PySem.W.mg_none_of M.kin M.glob (by k_is)
theorem mn_int (M : Mod (hd19.heap_39 w.params) mg base) : mg "int" = none := PySem.W.mg_none_of M.kin M.glob (by k_is)
theorem mn_abs (M : Mod (hd19.heap_39 w.params) mg base) : mg "abs" = none := PySem.W.mg_none_of M.kin M.glob (by k_is)
theorem mn_list (M : Mod (hd19.heap_39 w.params) mg base) : mg "list" = none := PySem.W.mg_none_of M.kin M.glob (by k_is)
theorem mn_range (M : Mod (hd19.heap_39 w.params) mg base) : mg "range" = none := PySem.W.mg_none_of M.kin M.glob (by k_is)
theorem mn_repr (M : Mod (hd19.heap_39 w.params) mg base) : mg "repr" = none := PySem.W.mg_none_of M.kin M.glob (by k_is)
theorem mn_isinstance (M : Mod (hd19.heap_39 w.params) mg base) : mg "isinstance" = none := PySem.W.mg_none_of M.kin M.glob (by k_is)
theorem mn_bool (M : Mod (hd19.heap_39 w.params) mg base) : mg "bool" = none := PySem.W.mg_none_of M.kin M.glob (by k_is)
theorem mn_NotImplemented (M : Mod (hd19.heap_39 w.params) mg base) : mg "NotImplemented" = none := PySem.W.mg_none_of M.kin M.glob (by k_is)
theorem fn_Lag_none (w : World) : ∃ fd, Fun (hd19.heap_39 w.params) "none" "Lag.none" s_Lag_none 35 fd := ⟨_, fun_mk (by k_is) (by k_is) (by k_is)⟩
theorem sm_Lag_none (w : World) : SMet (hd19.heap_39 w.params) 69 (.type "type") "none" 37 35 := ⟨by k_is, by k_is, by k_is, ⟨_, by k_is⟩, by k_is⟩
theorem nf_Lag (w : World) : PySem.W.notFirst (hd19.heap_39 w.params) 69 (.ref 69) = true := by k_is
theorem nf_NoneType (w : World) : PySem.W.notFirst (hd19.heap_39 w.params) 69 (.type "NoneType") = true := by k_is
theorem nf_int (w : World) : PySem.W.notFirst (hd19.heap_39 w.params) 69 (.type "int") = true := by k_is
theorem nf_str (w : World) : PySem.W.notFirst (hd19.heap_39 w.params) 69 (.type "str") = true := by k_is
theorem nf_tuple (w : World) : PySem.W.notFirst (hd19.heap_39 w.params) 69 (.type "tuple") = true := by k_is
theorem nf_list (w : World) : PySem.W.notFirst (hd19.heap_39 w.params) 69 (.type "list") = true := by k_is
theorem nf_bool (w : World) : PySem.W.notFirst (hd19.heap_39 w.params) 69 (.type "bool") = true := by k_is
theorem isl_Lag (w : World) : PySem.W.kitOne (hd19.heap_39 w.params) (.ref 69) (.ref 69) = some true := by kit_is
theorem isl_NoneType (w : World) : PySem.W.kitOne (hd19.heap_39 w.params) (.type "NoneType") (.ref 69) = some false := by kit_is
theorem isl_int (w : World) : PySem.W.kitOne (hd19.heap_39 w.params) (.type "int") (.ref 69) = some false := by kit_is
theorem isl_str (w : World) : PySem.W.kitOne (hd19.heap_39 w.params) (.type "str") (.ref 69) = some false := by kit_is
theorem isl_tuple (w : World) : PySem.W.kitOne (hd19.heap_39 w.params) (.type "tuple") (.ref 69) = some false := by kit_is
theorem isl_list (w : World) : PySem.W.kitOne (hd19.heap_39 w.params) (.type "list") (.ref 69) = some false := by kit_is
theorem isl_bool (w : World) : PySem.W.kitOne (hd19.heap_39 w.params) (.type "bool") (.ref 69) = some false := by kit_is
end
end M19

namespace M19
open PySem PySem.Spec PyProof.Rows L2 StX Uk
section
variable {mg : PySem.Str → Option Value} {base : Heap} {w : World}
theorem ok__law_draw (M : Mod (hd19.heap_39 w.params) mg base) : CallG PP w (hd19.heap_39 w.params) mg base 1 (.ref 87) (pos spDraw) := by
  obtain ⟨fd, F⟩ := fn__law_draw w
  refine def_pos F sc__law_draw (fun vs H Q E h => ?_) (fun _ _ _ _ _ _ us hl => match us, hl with | [_, _], _ => rfl) (fun cdv A outer s H vs Q E hr hg h => ?_)
  · obtain ⟨p, c, b, l, many, ns, rfl, _⟩ := h
    rfl
  obtain ⟨p, c, b, l, many, ns, rfl, hp, hc, hns, hb0, hb1, hm1, hm2, q⟩ := h
  have nd := sc__law_draw.nd
  -- the mixing
  obtain ⟨tm, PM, mix⟩ : ∃ tm : TS, PSs (cxOf (L2.CX PP w) PP w (hd19.heap_39 w.params) mg base ["pen", "many", "digit", "at", "cell", "large", "mixed"] "_law_draw" (defScope s__law_draw) 87 cdv A outer s H E) ((defBody s__law_draw).drop 6) tm ∧
      ∀ (cell : Int) (H2 : Hp), Chg p (penO c (b + 1) l) H H2 → tm { nx := fun _ H' => Q .non H', rt := Q } [some (.ref p), some (.int many), none, some (.int b), some (.int cell), none, none] H2 := by
    refine ⟨_, (pss_cons (ps_set (i := 6) nd rfl (.inl rfl) (pe_op op_modN (pe_op op_pow (pe_callTy call_int1 (by rfl) (mn_int M) (by decide +kernel) (pa_cons (pe_op op_add (pe_op op_add (pe_op op_modN (pe_callTy call_int1 (by rfl) (mn_int M) (by decide +kernel) (pa_cons (pv 4) pa_nil)) pe_int) (pe_op op_mul pe_int (pv 3))) pe_int) pa_nil)) pe_int) pe_int))
      (pss_cons (ps_set (i := 6) nd rfl (.inl rfl) (pe_op op_modN (pe_op op_pow (pe_callTy call_int1 (by rfl) (mn_int M) (by decide +kernel) (pa_cons (pe_op op_add (pe_op op_add (pe_op op_mul (pv 6) (pe_op op_add (pe_op op_mul pe_int (pv 3)) pe_int)) (pe_op op_mul (pe_op op_mul pe_int (pv 3)) (pv 3))) pe_int) pa_nil)) pe_int) pe_int))
      (pss_one (ps_ret (pe_op op_modN (pe_callTy call_int1 (by rfl) (mn_int M) (by decide +kernel) (pa_cons (pe_op op_fdivN (pv 6) pe_int) pa_nil)) (pv 1)))))), fun cell H2 c2 => ?_⟩
    have hr1 := @fmod_range cell 2147483549 (by decide)
    refine ⟨_, rfl, .inl ⟨cell, rfl, ?_⟩⟩
    refine ⟨_, _, rfl, rfl, by show ¬ _ = _; decide, ?_⟩
    refine ⟨_, rfl, _, _, rfl, rfl, .inl ⟨by decide, by decide⟩, ?_⟩
    refine ⟨_, _, rfl, rfl, ?_⟩
    refine ⟨_, _, rfl, rfl, .inl ⟨_, rfl, ?_⟩⟩
    refine ⟨_, _, rfl, rfl, ⟨by decide, by decide, by omega⟩, ?_⟩
    refine ⟨_, _, rfl, rfl, by show ¬ _ = _; decide, ?_⟩
    obtain ⟨m1, e1, m10, m11⟩ := fmod_ex (C := 2147483579) (by decide) ((Int.fmod cell 2147483549 + 68310 * b + 80) ^ Int.toNat 5)
    simp only [e1]
    clear e1
    refine ⟨_, rfl, _, rfl, _, _, rfl, rfl, .inl ⟨by decide, by decide⟩, ?_⟩
    refine ⟨_, _, rfl, rfl, ?_⟩
    refine ⟨_, _, rfl, rfl, .inl ⟨by show _ < m1; omega, by show m1 < _; omega⟩, ?_⟩
    refine ⟨_, rfl, _, _, rfl, rfl, .inl ⟨by decide, by decide⟩, ?_⟩
    refine ⟨_, rfl, _, _, rfl, rfl, .inr ⟨by show _ < b; omega, by show b < _; omega⟩, ?_⟩
    refine ⟨_, _, rfl, rfl, ?_⟩
    refine ⟨_, _, rfl, rfl, .inl ⟨_, rfl, ?_⟩⟩
    refine ⟨_, _, rfl, rfl, ⟨by decide, by decide, ?_⟩, ?_⟩
    · have i1 : m1 * (2 * b + 129) ≤ 2147483629 * (2 * b + 129) := Int.mul_le_mul_of_nonneg_right (by omega) (by omega)
      have i2 : 0 ≤ m1 * (2 * b + 129) := Int.mul_nonneg m10 (by omega)
      have i3 : 70976 * b * b ≤ 70976 * b * 100000 := Int.mul_le_mul_of_nonneg_left hb1 (by omega)
      have i4 : 0 ≤ 70976 * b * b := Int.mul_nonneg (by omega) hb0
      omega
    refine ⟨_, _, rfl, rfl, by show ¬ _ = _; decide, ?_⟩
    refine ⟨_, rfl, _, _, rfl, rfl, ⟨by decide, by decide⟩, .inl ⟨_, rfl, ?_⟩⟩
    refine ⟨_, rfl, _, many, rfl, rfl, by show ¬ many = 0; omega, ?_⟩
    exact q _ (b + 1) _ _ (fmod_range (by omega)).1 (fmod_range (by omega)).2 (by omega) (by omega) c2
  -- what stands behind the cell
  obtain ⟨tr, PR, key⟩ : ∃ tr : TS, PSs (cxOf (L2.CX PP w) PP w (hd19.heap_39 w.params) mg base ["pen", "many", "digit", "at", "cell", "large", "mixed"] "_law_draw" (defScope s__law_draw) 87 cdv A outer s H E) ((defBody s__law_draw).drop 5) tr ∧
      ∀ (cell : Int) (H2 : Hp), Chg p (penO c (b + 1) l) H H2 → H2 c = some (.lst (ns.map .int)) → tr { nx := fun _ H' => Q .non H', rt := Q } [some (.ref p), some (.int many), none, some (.int b), some (.int cell), none, none] H2 := by
    refine ⟨_, (pss_cons (ps_if (PW.pt (pw_and (pt_cmpR op_lt (pv 3) (pe_callB call_len_seq (by rfl) (mn_len M) (by decide +kernel) (pa_cons (pe_ix ix_list (pv 0) pe_int (fun _ _ => rfl)) pa_nil)) (nomark _)) (pw_and1 (pt_cmpR op_ge (pe_callB call_abs (by rfl) (mn_abs M) (by decide +kernel) (pa_cons (pv 4) pa_nil)) (pe_op op_pow pe_int pe_int) (nomark _))))) (pss_cons (ps_set (i := 5) nd rfl (.inl rfl) (pe_op op_add (pe_op op_mul pe_int (pe_callB call_abs (by rfl) (mn_abs M) (by decide +kernel) (pa_cons (pv 4) pa_nil))) (pe_callTy call_int1 (by rfl) (mn_int M) (by decide +kernel) (pa_cons (pe_cmpR op_lt (pv 4) pe_int (nomark _)) pa_nil))))
      (pss_cons (ps_asg (pe_op op_fdivN (pv 5) (pv 1)) (pg_sub (pv 0) pe_int set_list))
      (pss_one (ps_ret (pe_op op_modN (pe_callTy call_int1 (by rfl) (mn_int M) (by decide +kernel) (pa_cons (pv 5) pa_nil)) (pv 1)))))) pss_nil) PM), fun cell H2 c2 h4 => ?_⟩
    have h3 := c2.at_
    refine ⟨_, rfl, .ref p, rfl, p, _, _, _, rfl, rfl, SqL.of h3, rfl, c, _, rfl, .inl (SqL.of h4), b, _, rfl, rfl, _, rfl, ?_⟩
    refine ite_b (fun hlt => ?_) (fun hlt => ?_)
    · refine ⟨_, rfl, cell, rfl, ?_⟩
      refine ⟨10, 18, rfl, rfl, ⟨by decide, by decide, by decide⟩, _, _, rfl, rfl, _, rfl, ?_⟩
      refine ite_b (fun hbig => ?_) (fun hbig => ?_)
      · refine ⟨_, rfl, cell, rfl, 2, _, rfl, rfl, .inl ⟨by decide, by decide⟩, ?_⟩
        refine ⟨_, rfl, cell, 0, rfl, rfl, .inr ⟨_, rfl, ?_⟩⟩
        refine ⟨_, _, rfl, rfl, ?_⟩
        refine ⟨_, rfl, _, rfl, _, many, rfl, rfl, ⟨by omega, by omega⟩, ?_⟩
        refine ⟨.ref p, rfl, p, _, _, _, rfl, rfl, h3, rfl, ?_⟩
        refine ⟨_, rfl, .inl ⟨_, rfl, ?_⟩⟩
        refine ⟨_, rfl, _, many, rfl, rfl, by omega, ?_⟩
        exact q _ (b + 1) _ _ (fmod_range (by omega)).1 (fmod_range (by omega)).2 (by omega) (by omega) (c2.trans Chg.upd)
      · exact mix cell _ c2
    · exact mix cell _ c2
  refine ⟨_, (pss_cons (ps_if (pt_cmpR op_gt (pe_ix ix_list (pv 0) pe_int (fun _ _ => rfl)) pe_int (nomark _)) (pss_cons (ps_set (i := 2) nd rfl (.inl rfl) (pe_op op_modN (pe_callTy call_int1 (by rfl) (mn_int M) (by decide +kernel) (pa_cons (pe_ix ix_list (pv 0) pe_int (fun _ _ => rfl)) pa_nil)) (pv 1)))
      (pss_cons (ps_asg (pe_op op_fdivN (pe_ix ix_list (pv 0) pe_int (fun _ _ => rfl)) (pv 1)) (pg_sub (pv 0) pe_int set_list))
      (pss_one (ps_ret (pv 2))))) pss_nil)
      (pss_cons (ps_set (i := 3) nd rfl (.inl rfl) (pe_ix ix_list (pv 0) pe_int (fun _ _ => rfl)))
      (pss_cons (ps_asg (pe_op op_add (pv 3) pe_int) (pg_sub (pv 0) pe_int set_list))
      (pss_cons (ps_set (i := 4) nd rfl (.inl rfl) (pe_op op_add (pe_op op_mul pe_int (pv 3)) pe_int))
      (pss_cons (ps_if (pt_cmpR (op_neD (hu_big hr)) (pe_ix ix_list (pv 0) pe_int (fun _ _ => rfl)) (pe_lst pa_nil) (nomark _)) (pss_one (ps_set (i := 4) nd rfl (.inl rfl) (pe_ix ix_list (pe_ix ix_list (pv 0) pe_int (fun _ _ => rfl)) (pe_op op_modN (pe_callTy call_int1 (by rfl) (mn_int M) (by decide +kernel) (pa_cons (pv 3) pa_nil)) (pe_callB call_len_seq (by rfl) (mn_len M) (by decide +kernel) (pa_cons (pe_ix ix_list (pv 0) pe_int (fun _ _ => rfl)) pa_nil))) (fun _ _ => rfl)))) pss_nil)
      PR))))), ?_⟩
  refine ⟨.ref p, rfl, p, _, _, _, rfl, rfl, SqL.of hp, atI_lit (by decide) rfl, l, 0, rfl, rfl, _, rfl, ?_⟩
  refine ite_b (fun hl => ?_) (fun hl => ?_)
  · refine ⟨.ref p, rfl, p, _, _, _, rfl, rfl, SqL.of hp, atI_lit (by decide) rfl, .inl ⟨l, rfl, ?_⟩⟩
    refine ⟨_, rfl, l, many, rfl, rfl, by omega, ?_⟩
    refine ⟨.ref p, rfl, p, _, _, _, rfl, rfl, SqL.of hp, atI_lit (by decide) rfl, _, rfl, l, many, rfl, rfl, ⟨by omega, by omega⟩, ?_⟩
    refine ⟨.ref p, rfl, p, _, _, _, rfl, rfl, hp, rfl, ?_⟩
    refine ⟨_, rfl, ?_⟩
    exact q _ b _ _ (fmod_range (by omega)).1 (fmod_range (by omega)).2 (by omega) (by omega) Chg.upd
  · refine ⟨.ref p, rfl, p, _, _, _, rfl, rfl, SqL.of hp, rfl, ?_⟩
    refine ⟨_, rfl, b, 1, rfl, rfl, .ref p, rfl, p, _, _, _, rfl, rfl, hp, rfl, ?_⟩
    generalize eH1 : upd H p (.lst ([V.ref c, V.int b, V.int l].set _ _)) = H1
    have c1 : Chg p (penO c (b + 1) l) H H1 := by rw [← eH1]; exact Chg.upd
    clear eH1
    have pc : c ≠ p := fun e => by
      rw [e, hp] at hc
      match ns, hc with
      | [], hc => cases hc
      | n :: r, hc => cases hc
    have h1 : H1 p = some (penO c (b + 1) l) := c1.at_
    have h2 : H1 c = some (.lst (ns.map .int)) := c1.ne _ _ pc hc
    refine ⟨_, rfl, 63455, b, rfl, rfl, .inl ⟨by decide, by decide⟩, _, _, rfl, rfl, ?_⟩
    refine ⟨.ref p, rfl, p, _, _, _, rfl, rfl, SqL.of h1, rfl, Nat.zero_le _, fun z hz => ?_⟩
    have sz := same_new (o := .lst []) hz
    refine ⟨.list (ns.map PyData.int), .list [], .lst (SqL.of (sz _ _ h2)) (dpAll_ints ns), .lst (SqL.of upd_same) .nil, shaped_ints ns, rfl, ?_⟩
    refine ⟨_, rfl, ?_⟩
    have c2 := c1.then sz
    have h3 := sz _ _ h1
    have h4 := sz _ _ h2
    generalize upd H1 z (.lst []) = H2 at *
    refine ite_b (fun hne => ?_) (fun hne => ?_)
    · have hl : 0 < ns.length := by
        cases ns with
        | nil => cases hne
        | cons n r => exact Nat.succ_pos _
      obtain ⟨cell, hcell⟩ : ∃ cell : Int, atI (ns.map V.int) (b.fmod (ns.length : Int)) = some (.int cell) := by
        have hr := fmod_range (i := b) (j := (ns.length : Int)) (by omega)
        have hi : (b.fmod (ns.length : Int)).toNat < ns.length := by omega
        refine ⟨ns[(b.fmod (ns.length : Int)).toNat], atI_lit hr.1 ?_⟩
        rw [List.getElem?_map, List.getElem?_eq_getElem hi]
        rfl
      refine ⟨.ref p, rfl, p, _, _, _, rfl, rfl, SqL.of h3, rfl, _, rfl, .inl ⟨b, rfl, ?_⟩⟩
      refine ⟨.ref p, rfl, p, _, _, _, rfl, rfl, SqL.of h3, rfl, c, _, rfl, .inl (SqL.of h4), _, _, rfl, rfl, ?_, ?_⟩
      · rw [List.length_map]; omega
      refine ⟨c, _, _, _, rfl, rfl, SqL.of h4, by rw [List.length_map]; exact hcell, ?_⟩
      exact key cell _ c2 h4
    · exact key _ _ c2 h4
end
end M19

namespace M19
open PySem PySem.Spec PyProof.Rows L2 StX Uk

local macro_rules | `(tactic| wtm_at "off0") => `(tactic| first | with_reducible assumption | (with_reducible apply Off.mk; wtm_at "pen"; assumption))
local macro_rules | `(tactic| wtm_at "at0") => `(tactic| first | with_reducible assumption | with_reducible exact upd_same)
local macro_rules | `(tactic| wtm_at "off1") => `(tactic| first | with_reducible assumption | (with_reducible apply Off.mk; wtm_at "pen"; assumption) | (with_reducible refine Off.new (by assumption) _ _ ?_; wtm_at "off0") | (with_reducible refine at_same (by with_reducible assumption) ?_; wtm_at "off0"))
local macro_rules | `(tactic| wtm_at "at1") => `(tactic| first | with_reducible assumption | with_reducible exact upd_same | (with_reducible refine at_new (by assumption) ?_; wtm_at "at0") | (with_reducible refine at_same (by with_reducible assumption) ?_; wtm_at "at0"))
local macro_rules | `(tactic| wtm_at "off2") => `(tactic| first | with_reducible assumption | (with_reducible apply Off.mk; wtm_at "pen"; assumption) | (with_reducible refine Off.new (by assumption) _ _ ?_; wtm_at "off1") | (with_reducible refine at_same (by with_reducible assumption) ?_; wtm_at "off1"))
local macro_rules | `(tactic| wtm_at "at2") => `(tactic| first | with_reducible assumption | with_reducible exact upd_same | (with_reducible refine at_new (by assumption) ?_; wtm_at "at1") | (with_reducible refine at_same (by with_reducible assumption) ?_; wtm_at "at1"))
local macro_rules | `(tactic| wtm_at "off3") => `(tactic| first | with_reducible assumption | (with_reducible apply Off.mk; wtm_at "pen"; assumption) | (with_reducible refine Off.new (by assumption) _ _ ?_; wtm_at "off2") | (with_reducible refine at_same (by with_reducible assumption) ?_; wtm_at "off2"))
local macro_rules | `(tactic| wtm_at "at3") => `(tactic| first | with_reducible assumption | with_reducible exact upd_same | (with_reducible refine at_new (by assumption) ?_; wtm_at "at2") | (with_reducible refine at_same (by with_reducible assumption) ?_; wtm_at "at2"))
local macro_rules | `(tactic| wtm_at "off4") => `(tactic| first | with_reducible assumption | (with_reducible apply Off.mk; wtm_at "pen"; assumption) | (with_reducible refine Off.new (by assumption) _ _ ?_; wtm_at "off3") | (with_reducible refine at_same (by with_reducible assumption) ?_; wtm_at "off3"))
local macro_rules | `(tactic| wtm_at "at4") => `(tactic| first | with_reducible assumption | with_reducible exact upd_same | (with_reducible refine at_new (by assumption) ?_; wtm_at "at3") | (with_reducible refine at_same (by with_reducible assumption) ?_; wtm_at "at3"))
local macro_rules | `(tactic| wtm_at "off5") => `(tactic| first | with_reducible assumption | (with_reducible apply Off.mk; wtm_at "pen"; assumption) | (with_reducible refine Off.new (by assumption) _ _ ?_; wtm_at "off4") | (with_reducible refine at_same (by with_reducible assumption) ?_; wtm_at "off4"))
local macro_rules | `(tactic| wtm_at "at5") => `(tactic| first | with_reducible assumption | with_reducible exact upd_same | (with_reducible refine at_new (by assumption) ?_; wtm_at "at4") | (with_reducible refine at_same (by with_reducible assumption) ?_; wtm_at "at4"))
local macro_rules | `(tactic| wtm_at "off6") => `(tactic| first | with_reducible assumption | (with_reducible apply Off.mk; wtm_at "pen"; assumption) | (with_reducible refine Off.new (by assumption) _ _ ?_; wtm_at "off5") | (with_reducible refine at_same (by with_reducible assumption) ?_; wtm_at "off5"))
local macro_rules | `(tactic| wtm_at "at6") => `(tactic| first | with_reducible assumption | with_reducible exact upd_same | (with_reducible refine at_new (by assumption) ?_; wtm_at "at5") | (with_reducible refine at_same (by with_reducible assumption) ?_; wtm_at "at5"))
local macro_rules | `(tactic| wtm_at "off7") => `(tactic| first | with_reducible assumption | (with_reducible apply Off.mk; wtm_at "pen"; assumption) | (with_reducible refine Off.new (by assumption) _ _ ?_; wtm_at "off6") | (with_reducible refine at_same (by with_reducible assumption) ?_; wtm_at "off6"))
local macro_rules | `(tactic| wtm_at "at7") => `(tactic| first | with_reducible assumption | with_reducible exact upd_same | (with_reducible refine at_new (by assumption) ?_; wtm_at "at6") | (with_reducible refine at_same (by with_reducible assumption) ?_; wtm_at "at6"))
local macro_rules | `(tactic| wtm_at "off8") => `(tactic| first | with_reducible assumption | (with_reducible apply Off.mk; wtm_at "pen"; assumption) | (with_reducible refine Off.new (by assumption) _ _ ?_; wtm_at "off7") | (with_reducible refine at_same (by with_reducible assumption) ?_; wtm_at "off7"))
local macro_rules | `(tactic| wtm_at "at8") => `(tactic| first | with_reducible assumption | with_reducible exact upd_same | (with_reducible refine at_new (by assumption) ?_; wtm_at "at7") | (with_reducible refine at_same (by with_reducible assumption) ?_; wtm_at "at7"))
local macro_rules | `(tactic| wtm_at "off9") => `(tactic| first | with_reducible assumption | (with_reducible apply Off.mk; wtm_at "pen"; assumption) | (with_reducible refine Off.new (by assumption) _ _ ?_; wtm_at "off8") | (with_reducible refine at_same (by with_reducible assumption) ?_; wtm_at "off8"))
local macro_rules | `(tactic| wtm_at "at9") => `(tactic| first | with_reducible assumption | with_reducible exact upd_same | (with_reducible refine at_new (by assumption) ?_; wtm_at "at8") | (with_reducible refine at_same (by with_reducible assumption) ?_; wtm_at "at8"))
local macro_rules | `(tactic| wtm_at "off10") => `(tactic| first | with_reducible assumption | (with_reducible apply Off.mk; wtm_at "pen"; assumption) | (with_reducible refine Off.new (by assumption) _ _ ?_; wtm_at "off9") | (with_reducible refine at_same (by with_reducible assumption) ?_; wtm_at "off9"))
local macro_rules | `(tactic| wtm_at "at10") => `(tactic| first | with_reducible assumption | with_reducible exact upd_same | (with_reducible refine at_new (by assumption) ?_; wtm_at "at9") | (with_reducible refine at_same (by with_reducible assumption) ?_; wtm_at "at9"))
local macro_rules | `(tactic| wtm_at "off11") => `(tactic| first | with_reducible assumption | (with_reducible apply Off.mk; wtm_at "pen"; assumption) | (with_reducible refine Off.new (by assumption) _ _ ?_; wtm_at "off10") | (with_reducible refine at_same (by with_reducible assumption) ?_; wtm_at "off10"))
local macro_rules | `(tactic| wtm_at "at11") => `(tactic| first | with_reducible assumption | with_reducible exact upd_same | (with_reducible refine at_new (by assumption) ?_; wtm_at "at10") | (with_reducible refine at_same (by with_reducible assumption) ?_; wtm_at "at10"))
local macro_rules | `(tactic| wtm_at "off12") => `(tactic| first | with_reducible assumption | (with_reducible apply Off.mk; wtm_at "pen"; assumption) | (with_reducible refine Off.new (by assumption) _ _ ?_; wtm_at "off11") | (with_reducible refine at_same (by with_reducible assumption) ?_; wtm_at "off11"))
local macro_rules | `(tactic| wtm_at "at12") => `(tactic| first | with_reducible assumption | with_reducible exact upd_same | (with_reducible refine at_new (by assumption) ?_; wtm_at "at11") | (with_reducible refine at_same (by with_reducible assumption) ?_; wtm_at "at11"))
local macro_rules | `(tactic| wtm_at "off13") => `(tactic| first | with_reducible assumption | (with_reducible apply Off.mk; wtm_at "pen"; assumption) | (with_reducible refine Off.new (by assumption) _ _ ?_; wtm_at "off12") | (with_reducible refine at_same (by with_reducible assumption) ?_; wtm_at "off12"))
local macro_rules | `(tactic| wtm_at "at13") => `(tactic| first | with_reducible assumption | with_reducible exact upd_same | (with_reducible refine at_new (by assumption) ?_; wtm_at "at12") | (with_reducible refine at_same (by with_reducible assumption) ?_; wtm_at "at12"))
local macro_rules | `(tactic| wtm_at "off14") => `(tactic| first | with_reducible assumption | (with_reducible apply Off.mk; wtm_at "pen"; assumption) | (with_reducible refine Off.new (by assumption) _ _ ?_; wtm_at "off13") | (with_reducible refine at_same (by with_reducible assumption) ?_; wtm_at "off13"))
local macro_rules | `(tactic| wtm_at "at14") => `(tactic| first | with_reducible assumption | with_reducible exact upd_same | (with_reducible refine at_new (by assumption) ?_; wtm_at "at13") | (with_reducible refine at_same (by with_reducible assumption) ?_; wtm_at "at13"))
local macro_rules | `(tactic| wtm_at "off15") => `(tactic| first | with_reducible assumption | (with_reducible apply Off.mk; wtm_at "pen"; assumption) | (with_reducible refine Off.new (by assumption) _ _ ?_; wtm_at "off14") | (with_reducible refine at_same (by with_reducible assumption) ?_; wtm_at "off14"))
local macro_rules | `(tactic| wtm_at "at15") => `(tactic| first | with_reducible assumption | with_reducible exact upd_same | (with_reducible refine at_new (by assumption) ?_; wtm_at "at14") | (with_reducible refine at_same (by with_reducible assumption) ?_; wtm_at "at14"))
local macro_rules | `(tactic| wtm_at "off16") => `(tactic| first | with_reducible assumption | (with_reducible apply Off.mk; wtm_at "pen"; assumption) | (with_reducible refine Off.new (by assumption) _ _ ?_; wtm_at "off15") | (with_reducible refine at_same (by with_reducible assumption) ?_; wtm_at "off15"))
local macro_rules | `(tactic| wtm_at "at16") => `(tactic| first | with_reducible assumption | with_reducible exact upd_same | (with_reducible refine at_new (by assumption) ?_; wtm_at "at15") | (with_reducible refine at_same (by with_reducible assumption) ?_; wtm_at "at15"))
local macro_rules | `(tactic| wtm_at "off17") => `(tactic| first | with_reducible assumption | (with_reducible apply Off.mk; wtm_at "pen"; assumption) | (with_reducible refine Off.new (by assumption) _ _ ?_; wtm_at "off16") | (with_reducible refine at_same (by with_reducible assumption) ?_; wtm_at "off16"))
local macro_rules | `(tactic| wtm_at "at17") => `(tactic| first | with_reducible assumption | with_reducible exact upd_same | (with_reducible refine at_new (by assumption) ?_; wtm_at "at16") | (with_reducible refine at_same (by with_reducible assumption) ?_; wtm_at "at16"))
local macro_rules | `(tactic| wtm_at "off18") => `(tactic| first | with_reducible assumption | (with_reducible apply Off.mk; wtm_at "pen"; assumption) | (with_reducible refine Off.new (by assumption) _ _ ?_; wtm_at "off17") | (with_reducible refine at_same (by with_reducible assumption) ?_; wtm_at "off17"))
local macro_rules | `(tactic| wtm_at "at18") => `(tactic| first | with_reducible assumption | with_reducible exact upd_same | (with_reducible refine at_new (by assumption) ?_; wtm_at "at17") | (with_reducible refine at_same (by with_reducible assumption) ?_; wtm_at "at17"))
local macro_rules | `(tactic| wtm_at "off19") => `(tactic| first | with_reducible assumption | (with_reducible apply Off.mk; wtm_at "pen"; assumption) | (with_reducible refine Off.new (by assumption) _ _ ?_; wtm_at "off18") | (with_reducible refine at_same (by with_reducible assumption) ?_; wtm_at "off18"))
local macro_rules | `(tactic| wtm_at "at19") => `(tactic| first | with_reducible assumption | with_reducible exact upd_same | (with_reducible refine at_new (by assumption) ?_; wtm_at "at18") | (with_reducible refine at_same (by with_reducible assumption) ?_; wtm_at "at18"))
local macro_rules | `(tactic| wtm_at "off20") => `(tactic| first | with_reducible assumption | (with_reducible apply Off.mk; wtm_at "pen"; assumption) | (with_reducible refine Off.new (by assumption) _ _ ?_; wtm_at "off19") | (with_reducible refine at_same (by with_reducible assumption) ?_; wtm_at "off19"))
local macro_rules | `(tactic| wtm_at "at20") => `(tactic| first | with_reducible assumption | with_reducible exact upd_same | (with_reducible refine at_new (by assumption) ?_; wtm_at "at19") | (with_reducible refine at_same (by with_reducible assumption) ?_; wtm_at "at19"))
local macro_rules | `(tactic| wtm_at "off21") => `(tactic| first | with_reducible assumption | (with_reducible apply Off.mk; wtm_at "pen"; assumption) | (with_reducible refine Off.new (by assumption) _ _ ?_; wtm_at "off20") | (with_reducible refine at_same (by with_reducible assumption) ?_; wtm_at "off20"))
local macro_rules | `(tactic| wtm_at "at21") => `(tactic| first | with_reducible assumption | with_reducible exact upd_same | (with_reducible refine at_new (by assumption) ?_; wtm_at "at20") | (with_reducible refine at_same (by with_reducible assumption) ?_; wtm_at "at20"))
local macro_rules | `(tactic| wtm_at "off22") => `(tactic| first | with_reducible assumption | (with_reducible apply Off.mk; wtm_at "pen"; assumption) | (with_reducible refine Off.new (by assumption) _ _ ?_; wtm_at "off21") | (with_reducible refine at_same (by with_reducible assumption) ?_; wtm_at "off21"))
local macro_rules | `(tactic| wtm_at "at22") => `(tactic| first | with_reducible assumption | with_reducible exact upd_same | (with_reducible refine at_new (by assumption) ?_; wtm_at "at21") | (with_reducible refine at_same (by with_reducible assumption) ?_; wtm_at "at21"))
local macro_rules | `(tactic| wtm_at "off23") => `(tactic| first | with_reducible assumption | (with_reducible apply Off.mk; wtm_at "pen"; assumption) | (with_reducible refine Off.new (by assumption) _ _ ?_; wtm_at "off22") | (with_reducible refine at_same (by with_reducible assumption) ?_; wtm_at "off22"))
local macro_rules | `(tactic| wtm_at "at23") => `(tactic| first | with_reducible assumption | with_reducible exact upd_same | (with_reducible refine at_new (by assumption) ?_; wtm_at "at22") | (with_reducible refine at_same (by with_reducible assumption) ?_; wtm_at "at22"))
local macro_rules | `(tactic| wtm_at "off24") => `(tactic| first | with_reducible assumption | (with_reducible apply Off.mk; wtm_at "pen"; assumption) | (with_reducible refine Off.new (by assumption) _ _ ?_; wtm_at "off23") | (with_reducible refine at_same (by with_reducible assumption) ?_; wtm_at "off23"))
local macro_rules | `(tactic| wtm_at "at24") => `(tactic| first | with_reducible assumption | with_reducible exact upd_same | (with_reducible refine at_new (by assumption) ?_; wtm_at "at23") | (with_reducible refine at_same (by with_reducible assumption) ?_; wtm_at "at23"))
local macro_rules | `(tactic| wtm_at "off25") => `(tactic| first | with_reducible assumption | (with_reducible apply Off.mk; wtm_at "pen"; assumption) | (with_reducible refine Off.new (by assumption) _ _ ?_; wtm_at "off24") | (with_reducible refine at_same (by with_reducible assumption) ?_; wtm_at "off24"))
local macro_rules | `(tactic| wtm_at "at25") => `(tactic| first | with_reducible assumption | with_reducible exact upd_same | (with_reducible refine at_new (by assumption) ?_; wtm_at "at24") | (with_reducible refine at_same (by with_reducible assumption) ?_; wtm_at "at24"))
local macro_rules | `(tactic| wtm_at "off26") => `(tactic| first | with_reducible assumption | (with_reducible apply Off.mk; wtm_at "pen"; assumption) | (with_reducible refine Off.new (by assumption) _ _ ?_; wtm_at "off25") | (with_reducible refine at_same (by with_reducible assumption) ?_; wtm_at "off25"))
local macro_rules | `(tactic| wtm_at "at26") => `(tactic| first | with_reducible assumption | with_reducible exact upd_same | (with_reducible refine at_new (by assumption) ?_; wtm_at "at25") | (with_reducible refine at_same (by with_reducible assumption) ?_; wtm_at "at25"))
local macro_rules | `(tactic| wtm_at "off27") => `(tactic| first | with_reducible assumption | (with_reducible apply Off.mk; wtm_at "pen"; assumption) | (with_reducible refine Off.new (by assumption) _ _ ?_; wtm_at "off26") | (with_reducible refine at_same (by with_reducible assumption) ?_; wtm_at "off26"))
local macro_rules | `(tactic| wtm_at "at27") => `(tactic| first | with_reducible assumption | with_reducible exact upd_same | (with_reducible refine at_new (by assumption) ?_; wtm_at "at26") | (with_reducible refine at_same (by with_reducible assumption) ?_; wtm_at "at26"))
local macro_rules | `(tactic| wtm_at "off28") => `(tactic| first | with_reducible assumption | (with_reducible apply Off.mk; wtm_at "pen"; assumption) | (with_reducible refine Off.new (by assumption) _ _ ?_; wtm_at "off27") | (with_reducible refine at_same (by with_reducible assumption) ?_; wtm_at "off27"))
local macro_rules | `(tactic| wtm_at "at28") => `(tactic| first | with_reducible assumption | with_reducible exact upd_same | (with_reducible refine at_new (by assumption) ?_; wtm_at "at27") | (with_reducible refine at_same (by with_reducible assumption) ?_; wtm_at "at27"))
local macro_rules | `(tactic| wtm_at "off29") => `(tactic| first | with_reducible assumption | (with_reducible apply Off.mk; wtm_at "pen"; assumption) | (with_reducible refine Off.new (by assumption) _ _ ?_; wtm_at "off28") | (with_reducible refine at_same (by with_reducible assumption) ?_; wtm_at "off28"))
local macro_rules | `(tactic| wtm_at "at29") => `(tactic| first | with_reducible assumption | with_reducible exact upd_same | (with_reducible refine at_new (by assumption) ?_; wtm_at "at28") | (with_reducible refine at_same (by with_reducible assumption) ?_; wtm_at "at28"))
local macro_rules | `(tactic| wtm_at "off30") => `(tactic| first | with_reducible assumption | (with_reducible apply Off.mk; wtm_at "pen"; assumption) | (with_reducible refine Off.new (by assumption) _ _ ?_; wtm_at "off29") | (with_reducible refine at_same (by with_reducible assumption) ?_; wtm_at "off29"))
local macro_rules | `(tactic| wtm_at "at30") => `(tactic| first | with_reducible assumption | with_reducible exact upd_same | (with_reducible refine at_new (by assumption) ?_; wtm_at "at29") | (with_reducible refine at_same (by with_reducible assumption) ?_; wtm_at "at29"))
local macro_rules | `(tactic| wtm_at "off31") => `(tactic| first | with_reducible assumption | (with_reducible apply Off.mk; wtm_at "pen"; assumption) | (with_reducible refine Off.new (by assumption) _ _ ?_; wtm_at "off30") | (with_reducible refine at_same (by with_reducible assumption) ?_; wtm_at "off30"))
local macro_rules | `(tactic| wtm_at "at31") => `(tactic| first | with_reducible assumption | with_reducible exact upd_same | (with_reducible refine at_new (by assumption) ?_; wtm_at "at30") | (with_reducible refine at_same (by with_reducible assumption) ?_; wtm_at "at30"))
local macro_rules | `(tactic| wtm_at "off32") => `(tactic| first | with_reducible assumption | (with_reducible apply Off.mk; wtm_at "pen"; assumption) | (with_reducible refine Off.new (by assumption) _ _ ?_; wtm_at "off31") | (with_reducible refine at_same (by with_reducible assumption) ?_; wtm_at "off31"))
local macro_rules | `(tactic| wtm_at "at32") => `(tactic| first | with_reducible assumption | with_reducible exact upd_same | (with_reducible refine at_new (by assumption) ?_; wtm_at "at31") | (with_reducible refine at_same (by with_reducible assumption) ?_; wtm_at "at31"))
local macro_rules | `(tactic| wtm_at "off33") => `(tactic| first | with_reducible assumption | (with_reducible apply Off.mk; wtm_at "pen"; assumption) | (with_reducible refine Off.new (by assumption) _ _ ?_; wtm_at "off32") | (with_reducible refine at_same (by with_reducible assumption) ?_; wtm_at "off32"))
local macro_rules | `(tactic| wtm_at "at33") => `(tactic| first | with_reducible assumption | with_reducible exact upd_same | (with_reducible refine at_new (by assumption) ?_; wtm_at "at32") | (with_reducible refine at_same (by with_reducible assumption) ?_; wtm_at "at32"))
local macro_rules | `(tactic| wtm_at "off34") => `(tactic| first | with_reducible assumption | (with_reducible apply Off.mk; wtm_at "pen"; assumption) | (with_reducible refine Off.new (by assumption) _ _ ?_; wtm_at "off33") | (with_reducible refine at_same (by with_reducible assumption) ?_; wtm_at "off33"))
local macro_rules | `(tactic| wtm_at "at34") => `(tactic| first | with_reducible assumption | with_reducible exact upd_same | (with_reducible refine at_new (by assumption) ?_; wtm_at "at33") | (with_reducible refine at_same (by with_reducible assumption) ?_; wtm_at "at33"))
local macro_rules | `(tactic| wtm_at "off35") => `(tactic| first | with_reducible assumption | (with_reducible apply Off.mk; wtm_at "pen"; assumption) | (with_reducible refine Off.new (by assumption) _ _ ?_; wtm_at "off34") | (with_reducible refine at_same (by with_reducible assumption) ?_; wtm_at "off34"))
local macro_rules | `(tactic| wtm_at "at35") => `(tactic| first | with_reducible assumption | with_reducible exact upd_same | (with_reducible refine at_new (by assumption) ?_; wtm_at "at34") | (with_reducible refine at_same (by with_reducible assumption) ?_; wtm_at "at34"))
local macro_rules | `(tactic| wtm_at "off36") => `(tactic| first | with_reducible assumption | (with_reducible apply Off.mk; wtm_at "pen"; assumption) | (with_reducible refine Off.new (by assumption) _ _ ?_; wtm_at "off35") | (with_reducible refine at_same (by with_reducible assumption) ?_; wtm_at "off35"))
local macro_rules | `(tactic| wtm_at "at36") => `(tactic| first | with_reducible assumption | with_reducible exact upd_same | (with_reducible refine at_new (by assumption) ?_; wtm_at "at35") | (with_reducible refine at_same (by with_reducible assumption) ?_; wtm_at "at35"))
local macro_rules | `(tactic| wtm_at "off37") => `(tactic| first | with_reducible assumption | (with_reducible apply Off.mk; wtm_at "pen"; assumption) | (with_reducible refine Off.new (by assumption) _ _ ?_; wtm_at "off36") | (with_reducible refine at_same (by with_reducible assumption) ?_; wtm_at "off36"))
local macro_rules | `(tactic| wtm_at "at37") => `(tactic| first | with_reducible assumption | with_reducible exact upd_same | (with_reducible refine at_new (by assumption) ?_; wtm_at "at36") | (with_reducible refine at_same (by with_reducible assumption) ?_; wtm_at "at36"))
local macro_rules | `(tactic| wtm_at "off38") => `(tactic| first | with_reducible assumption | (with_reducible apply Off.mk; wtm_at "pen"; assumption) | (with_reducible refine Off.new (by assumption) _ _ ?_; wtm_at "off37") | (with_reducible refine at_same (by with_reducible assumption) ?_; wtm_at "off37"))
local macro_rules | `(tactic| wtm_at "at38") => `(tactic| first | with_reducible assumption | with_reducible exact upd_same | (with_reducible refine at_new (by assumption) ?_; wtm_at "at37") | (with_reducible refine at_same (by with_reducible assumption) ?_; wtm_at "at37"))
local macro_rules | `(tactic| wtm_at "off39") => `(tactic| first | with_reducible assumption | (with_reducible apply Off.mk; wtm_at "pen"; assumption) | (with_reducible refine Off.new (by assumption) _ _ ?_; wtm_at "off38") | (with_reducible refine at_same (by with_reducible assumption) ?_; wtm_at "off38"))
local macro_rules | `(tactic| wtm_at "at39") => `(tactic| first | with_reducible assumption | with_reducible exact upd_same | (with_reducible refine at_new (by assumption) ?_; wtm_at "at38") | (with_reducible refine at_same (by with_reducible assumption) ?_; wtm_at "at38"))
local macro_rules | `(tactic| wtm_at "at") => `(tactic| wtm_at "at39")
local macro_rules | `(tactic| wtm_at "off") => `(tactic| wtm_at "off39")
local macro_rules | `(tactic| wtm_at "pen") => `(tactic| first
  | assumption | (refine Pen.new (by assumption) ?_; wtm_at "pen") | (refine Pen.same (by assumption) ?_; wtm_at "pen"))
local macro_rules | `(tactic| wtm_at "same") => `(tactic| first
  | exact fun _ _ h => h | assumption | exact same_new (by assumption) | (refine same_trans ?_ (same_new (by assumption)); wtm_at "same") | (refine same_trans ?_ (by assumption); wtm_at "same")
  | (refine same_trans ?_ (Off.new (by assumption)); wtm_at "same") | (refine same_trans ?_ (Off.same (by assumption)); wtm_at "same"))
local macro_rules | `(tactic| wtm_at "dps") => `(tactic| first
  | exact .nil | (apply DpAll.cons; wtm_at "dp"; wtm_at "dps") | exact dpAll_ints _)
local macro_rules | `(tactic| wtm_at "dp") => `(tactic| first
  | exact .non | exact .bl _ | exact .int _ | exact .str _ | (fail) | (apply Dp.lst; (apply SqL.of; wtm_at "at"); wtm_at "dps") | (apply Dp.tup; (apply SqT.of; wtm_at "at"); wtm_at "dps"))
local macro_rules | `(tactic| wtm_at "side") => `(tactic| first
  | exact ⟨by decide, by decide⟩ | exact ⟨by decide, by decide, by decide⟩ | exact .inl ⟨by decide, by decide⟩ | exact .inr ⟨by decide, by decide⟩ | (show ¬ _ = _; decide))
local macro_rules | `(tactic| wtm_at "sml") => `(tactic| first
  | exact sml_none (by decide) | exact sml_bool (by decide) | exact sml_int (by decide) (by omega) | (fail) | exact sml_list (n := 19) (k := 0) (by wtm_at "smls") (by decide) (by decide))
local macro_rules | `(tactic| wtm_at "smls") => `(tactic| first | exact smlAll_nil (m := 0) | (apply smlAll_cons; wtm_at "sml"; wtm_at "smls"))
local macro_rules | `(tactic| wtm_at "shw") => `(tactic| exact Sml.shw (n := 10000) (k := 50) (by wtm_at "sml") (by decide) (by decide))
local macro_rules | `(tactic| wtm_at "rd") => `(tactic| first
  | refine ⟨_, rfl, ?_⟩ | refine ⟨_, _, rfl, rfl, ?_⟩ | refine ifT rfl ?_ | refine ifF rfl ?_ | refine ⟨rfl, ?_⟩
  | refine ⟨_, _, rfl, ?_⟩
  | refine ⟨_, _, by rfl, by wtm_at "dp", by wtm_at "shw", ?_⟩
  | refine ⟨_, _, _, _, _, rfl, by wtm_at "at", by wtm_at "cls", by wtm_at "na", by rfl, ?_⟩
  | refine ⟨_, _, rfl, rfl, by wtm_at "side", ?_⟩
  | refine ⟨_, _, by wtm_at "dp", by wtm_at "dp", by rfl, by rfl, ?_⟩
  | refine ⟨_, _, [_, _], [_, _], rfl, rfl, sqI2 (by wtm_at "at"), sqI2 (by wtm_at "at"), ?_⟩
  | refine ⟨Nat.le_of_ble_eq_true rfl, fun _ _ => ?_⟩
  | refine ifF (nd_refl _) ?_ | refine ifT (de_refl _) ?_)
local macro_rules | `(tactic| wtm_at "cls") => `(tactic| first | exact cls_Lag _)
local macro_rules | `(tactic| wtm_at "na") => `(tactic| first | exact na_Lag_rounds _ | exact na_Lag_lacking _ | exact na_Lag_far _)
abbrev vO : Option Int → V
  | none => .non
  | some i => .int i
abbrev lkO : Option Int → Int
  | none => 1
  | some _ => 0
abbrev lagF (n : Option Int) : List (Str × V) := [("rounds", vO n), ("lacking", .int (lkO n)), ("far", .int (n.getD 0))]
abbrev lagO (dx : Addr) (n : Option Int) : HO := .ins 69 dx (lagF n)
def spInit : Sp := fun vs H Q _ => ∃ x dx n, vs = [.ref x, vO n] ∧ H x = some (.ins 69 dx []) ∧ ∀ H', Chg x (lagO dx n) H H' → Q .non H'
/-- a new lag of n -/
def New (n : Option Int) (H : Hp) (Q : VK) : Prop := ∀ x dx H', Same H H' → H' x = some (lagO dx n) → Q (.ref x) H'
theorem New.mk {n : Option Int} {H : Hp} {Q : VK} {E : XK} (h : New n H Q) : spMk 69 spInit [vO n] H Q E := fun x dx hx hd ne => by
  refine ⟨x, dx, n, rfl, upd_same, fun H' c => ⟨rfl, h x dx H' (fun a u e => ?_) c.at_⟩⟩
  have h1 : a ≠ x := fun z => by rw [z, hx] at e; cases e
  have h2 : a ≠ dx := fun z => by rw [z, hd] at e; cases e
  exact c.ne a u h1 (by rw [upd_ne h1, upd_ne h2]; exact e)
def oSum : Option Int → Option Int → Option Int
  | some i, some j => some (i + j)
  | _, _ => none
def spNone : Sp := fun vs H Q _ => vs = [] ∧ New none H Q
def spAdd : Sp := fun vs H Q _ => ∃ a b dx dy n m, vs = [.ref a, .ref b] ∧ H a = some (lagO dx n) ∧ H b = some (lagO dy m) ∧ New (oSum n m) H Q
def spEq (K : PySem.W.Frag) : Sp := fun vs H Q _ => ∃ a dx n y, vs = [.ref a, y] ∧ H a = some (lagO dx n) ∧
  ((∃ b dy m, y = .ref b ∧ H b = some (lagO dy m) ∧ ∀ H', Same H H' → Q (.bl (decide (n = m))) H') ∨ (∃ t, TyX K H y t ∧ PySem.W.kitOne K t (.ref 69) = some false ∧ Q (.bl false) H))
def oLt : Option Int → Option Int → Bool
  | none, _ => false
  | some _, none => true
  | some i, some j => decide (i < j)
def spLt : Sp := fun vs H Q _ => ∃ a b dx dy n m, vs = [.ref a, .ref b] ∧ H a = some (lagO dx n) ∧ H b = some (lagO dy m) ∧ ∀ H', Same H H' → Q (.bl (oLt n m)) H'
def spBool : Sp := fun vs H Q _ => ∃ a dx n, vs = [.ref a] ∧ H a = some (lagO dx n) ∧ Q (.bl n.isSome) H
theorem eqv_lag (n m : Option Int) : PyData.eqv (.tuple [.int (lkO n), .int (n.getD 0)]) (.tuple [.int (lkO m), .int (m.getD 0)]) = decide (n = m) := by
  cases n <;> cases m <;> simp [PyData.eqv, PyData.eqvAll, lkO] <;> rfl
theorem lex_lag (n m : Option Int) : HT.lexLt [lkO n, n.getD 0] [lkO m, m.getD 0] = oLt n m := by
  cases n with
  | none => cases m <;> simp [HT.lexLt, lkO, oLt]
  | some i => cases m with
    | none => simp [HT.lexLt, lkO, oLt]
    | some j =>
      show (if (0 : Int) = 0 then (if i = j then false else decide (i < j)) else _) = decide (i < j)
      rw [if_pos rfl]
      by_cases e : i = j
      · rw [if_pos e, e]; simp
      · rw [if_neg e]
section
variable {mg : PySem.Str → Option Value} {base : Heap} {w : World}
theorem ok_Lag___init__ (M : Mod (hd19.heap_39 w.params) mg base) : CallG PP w (hd19.heap_39 w.params) mg base 1 (.ref 28) (pos spInit) := by
  obtain ⟨fd, F⟩ := fn_Lag___init__ w
  refine def_pos F sc_Lag___init__ (fun vs H Q E h => ?_) (fun _ _ _ _ _ _ us hl => match us, hl with | [_, _], _ => rfl) (fun cdv A outer s H vs Q E hr hg h => ?_)
  · obtain ⟨x, dx, n, rfl, _⟩ := h; rfl
  have nd := sc_Lag___init__.nd
  obtain ⟨x, dx, n, rfl, hx, q⟩ := h
  refine ⟨_, (pss_cons (ps_fld (pv 0) (pv 1) rfl)
      (pss_cons (ps_fld (pv 0) (pe_callTy call_int1 (by rfl) (mn_int M) (by decide +kernel) (pa_cons (pe_cmpR op_isN (pv 1) pe_non (nomark _)) pa_nil)) rfl)
      (pss_one (ps_fld (pv 0) (pe_ifExp (pt_cmpR op_isN (pv 1) pe_non (nomark _)) pe_int (pv 1)) rfl)))), ?_⟩
  cases n with
  | none =>
    refine ⟨_, rfl, _, rfl, x, 69, dx, _, rfl, hx, cls_Lag w, na_Lag_rounds w, Nat.le_of_ble_eq_true rfl, ?_⟩
    refine ⟨_, rfl, rfl, .inr ⟨_, rfl, ?_⟩⟩
    refine ⟨_, rfl, x, 69, dx, _, rfl, upd_same, cls_Lag w, na_Lag_lacking w, Nat.le_of_ble_eq_true rfl, ?_⟩
    refine ⟨_, rfl, rfl, _, rfl, ifT rfl ?_⟩
    refine ⟨_, rfl, x, 69, dx, _, rfl, upd_same, cls_Lag w, na_Lag_far w, Nat.le_of_ble_eq_true rfl, ?_⟩
    exact q _ ((Chg.upd.trans Chg.upd).trans Chg.upd)
  | some i =>
    refine ⟨_, rfl, _, rfl, x, 69, dx, _, rfl, hx, cls_Lag w, na_Lag_rounds w, Nat.le_of_ble_eq_true rfl, ?_⟩
    refine ⟨_, rfl, rfl, .inr ⟨_, rfl, ?_⟩⟩
    refine ⟨_, rfl, x, 69, dx, _, rfl, upd_same, cls_Lag w, na_Lag_lacking w, Nat.le_of_ble_eq_true rfl, ?_⟩
    refine ⟨_, rfl, rfl, _, rfl, ifF rfl ⟨_, rfl, ?_⟩⟩
    refine ⟨_, rfl, x, 69, dx, _, rfl, upd_same, cls_Lag w, na_Lag_far w, Nat.le_of_ble_eq_true rfl, ?_⟩
    exact q _ ((Chg.upd.trans Chg.upd).trans Chg.upd)
theorem ok_Lag_none (M : Mod (hd19.heap_39 w.params) mg base) : CallG PP w (hd19.heap_39 w.params) mg base 3 (.ref 35) (pos spNone) := by
  obtain ⟨fd, F⟩ := fn_Lag_none w
  refine def_pos F sc_Lag_none (fun vs H Q E h => ?_) (fun _ _ _ _ _ _ us hl => match us, hl with | [], _ => rfl) (fun cdv A outer s H vs Q E hr hg h => ?_)
  · obtain ⟨rfl, _⟩ := h; rfl
  have nd := sc_Lag_none.nd
  obtain ⟨rfl, q⟩ := h
  refine ⟨_, (pss_one (ps_ret (pe_mkG (takes_of rfl rfl rfl rfl) (mk_Lag w) (ok_Lag___init__ M) (hr.mono (by decide)) hg rfl (mg_Lag M) (pa_cons pe_non pa_nil)))), ?_⟩
  exact ⟨rfl, q.mk⟩
theorem ok_Lag___add__ (M : Mod (hd19.heap_39 w.params) mg base) : CallG PP w (hd19.heap_39 w.params) mg base 3 (.ref 45) (pos spAdd) := by
  obtain ⟨fd, F⟩ := fn_Lag___add__ w
  refine def_pos F sc_Lag___add__ (fun vs H Q E h => ?_) (fun _ _ _ _ _ _ us hl => match us, hl with | [_, _], _ => rfl) (fun cdv A outer s H vs Q E hr hg h => ?_)
  · obtain ⟨a, b, dx, dy, n, m, rfl, _⟩ := h; rfl
  have nd := sc_Lag___add__.nd
  obtain ⟨a, b, dx, dy, n, m, rfl, ha, hb, q⟩ := h
  refine ⟨_, (pss_cons (ps_if (pt_not (pt_val (pe_callB call_isi (by rfl) (mn_isinstance M) (by decide +kernel) (pa_cons (pv 1) (pa_cons (pe_glob (v := .ref 69) rfl (mg_Lag M) rfl) pa_nil))))) (pss_one (ps_ret pe_dead)) pss_nil)
      (pss_cons (ps_if (PW.pt (pw_or (pt_cmpR op_isN (pe_fld (pv 0) rfl) pe_non (nomark _)) (pw_or1 (pt_cmpR op_isN (pe_fld (pv 1) rfl) pe_non (nomark _))))) (pss_one (ps_ret (pe_mkG (takes_of rfl rfl rfl rfl) (mk_Lag w) (ok_Lag___init__ M) (hr.mono (by decide)) hg rfl (mg_Lag M) (pa_cons pe_non pa_nil)))) pss_nil)
      (pss_one (ps_ret (pe_mkG (takes_of rfl rfl rfl rfl) (mk_Lag w) (ok_Lag___init__ M) (hr.mono (by decide)) hg rfl (mg_Lag M) (pa_cons (pe_op op_add (pe_fld (pv 0) rfl) (pe_fld (pv 1) rfl)) pa_nil)))))), ?_⟩
  refine ⟨_, rfl, _, _, _, _, _, rfl, .own 69, (tyc_Lag w).ty hb, isl_Lag w, ?_⟩
  wtm_at "rd"
  wtm_at "rd"
  cases n with
  | none => repeat wtm_at "rd"
            exact q.mk
  | some i => cases m with
    | none => repeat wtm_at "rd"
              exact q.mk
    | some j => repeat wtm_at "rd"
                exact New.mk (n := some (i + j)) q
theorem ok_Lag___eq__ (M : Mod (hd19.heap_39 w.params) mg base) : CallG PP w (hd19.heap_39 w.params) mg base 1 (.ref 52) (pos (spEq (hd19.heap_39 w.params))) := by
  obtain ⟨fd, F⟩ := fn_Lag___eq__ w
  refine def_pos F sc_Lag___eq__ (fun vs H Q E h => ?_) (fun _ _ _ _ _ _ us hl => match us, hl with | [_, _], _ => rfl) (fun cdv A outer s H vs Q E hr hg h => ?_)
  · obtain ⟨a, dx, n, y, rfl, _⟩ := h; rfl
  have nd := sc_Lag___eq__.nd
  obtain ⟨a, dx, n, y, rfl, ha, h⟩ := h
  refine ⟨_, (pss_one (ps_ret (pe_and (pe_callB call_isi (by rfl) (mn_isinstance M) (by decide +kernel) (pa_cons (pv 1) (pa_cons (pe_glob (v := .ref 69) rfl (mg_Lag M) rfl) pa_nil))) (pe_one (pe_cmpR (op_eqD (hu_big hr)) (pe_tup (pa_cons (pe_fld (pv 0) rfl) (pa_cons (pe_fld (pv 0) rfl) pa_nil))) (pe_tup (pa_cons (pe_fld (pv 1) rfl) (pa_cons (pe_fld (pv 1) rfl) pa_nil))) (nomark _)))))), ?_⟩
  rcases h with ⟨b, dy, m, rfl, hb, q⟩ | ⟨t, ty, e, q⟩
  · refine ⟨_, rfl, _, _, _, _, _, rfl, .own 69, (tyc_Lag w).ty hb, isl_Lag w, ?_⟩
    repeat wtm_at "rd"
    rw [eqv_lag]
    exact q _ (by wtm_at "same")
  · refine ⟨_, rfl, _, _, _, _, _, rfl, .own 69, ty, e, ?_⟩
    repeat wtm_at "rd"
    exact q
theorem ok_Lag___lt__ (M : Mod (hd19.heap_39 w.params) mg base) : CallG PP w (hd19.heap_39 w.params) mg base 1 (.ref 59) (pos spLt) := by
  obtain ⟨fd, F⟩ := fn_Lag___lt__ w
  refine def_pos F sc_Lag___lt__ (fun vs H Q E h => ?_) (fun _ _ _ _ _ _ us hl => match us, hl with | [_, _], _ => rfl) (fun cdv A outer s H vs Q E hr hg h => ?_)
  · obtain ⟨a, b, dx, dy, n, m, rfl, _⟩ := h; rfl
  have nd := sc_Lag___lt__.nd
  obtain ⟨a, b, dx, dy, n, m, rfl, ha, hb, q⟩ := h
  refine ⟨_, (pss_cons (ps_if (pt_not (pt_val (pe_callB call_isi (by rfl) (mn_isinstance M) (by decide +kernel) (pa_cons (pv 1) (pa_cons (pe_glob (v := .ref 69) rfl (mg_Lag M) rfl) pa_nil))))) (pss_one (ps_ret pe_dead)) pss_nil)
      (pss_one (ps_ret (pe_cmpR (op_ltT hr.units0) (pe_tup (pa_cons (pe_fld (pv 0) rfl) (pa_cons (pe_fld (pv 0) rfl) pa_nil))) (pe_tup (pa_cons (pe_fld (pv 1) rfl) (pa_cons (pe_fld (pv 1) rfl) pa_nil))) (nomark _))))), ?_⟩
  refine ⟨_, rfl, _, _, _, _, _, rfl, .own 69, (tyc_Lag w).ty hb, isl_Lag w, ?_⟩
  repeat wtm_at "rd"
  show Q (.bl _) _
  rw [lex_lag]
  exact q _ (by wtm_at "same")
theorem ok_Lag___bool__ (M : Mod (hd19.heap_39 w.params) mg base) : CallG PP w (hd19.heap_39 w.params) mg base 1 (.ref 66) (pos spBool) := by
  obtain ⟨fd, F⟩ := fn_Lag___bool__ w
  refine def_pos F sc_Lag___bool__ (fun vs H Q E h => ?_) (fun _ _ _ _ _ _ us hl => match us, hl with | [_], _ => rfl) (fun cdv A outer s H vs Q E hr hg h => ?_)
  · obtain ⟨a, dx, n, rfl, _⟩ := h; rfl
  have nd := sc_Lag___bool__.nd
  obtain ⟨a, dx, n, rfl, ha, q⟩ := h
  refine ⟨_, (pss_one (ps_ret (pe_cmpR op_notN (pe_fld (pv 0) rfl) pe_non (nomark _)))), ?_⟩
  refine ⟨_, rfl, a, 69, dx, _, _, rfl, ha, cls_Lag w, na_Lag_rounds w, rfl, rfl, ?_⟩
  cases n <;> exact q
end
end M19

namespace M19
open PySem PySem.Spec PyProof.Rows L2 StX Uk
def okN (n : Option Int) : Prop := ∀ i, n = some i → 0 ≤ i ∧ i ≤ 2000000000
def dO : Option Int → PyData
  | none => .none
  | some i => .int i
theorem dec_refl (x : V) : decide (x = x) = true := decide_eq_true rfl
theorem scal_O (n m : Option Int) : scal (vO n) (vO m) = true := by cases n <;> cases m <;> rfl
theorem eq_O (n m : Option Int) : decide (vO n = vO m) = decide (n = m) := by cases n <;> cases m <;> simp [vO]
theorem dp_O {K : PySem.W.Frag} {H : Hp} : ∀ n : Option Int, Dp K H (vO n) (dO n)
  | none => .non
  | some i => .int i
def bnd (n : Option Int) : Prop := ∀ i, n = some i → i.natAbs < 10 ^ 18
theorem sml_O {N k : Nat} (hN : 19 ≤ N) : ∀ {n : Option Int}, bnd n → Sml N k (dO n)
  | none, _ => sml_none (by omega)
  | some i, h => sml_int hN (h i rfl)
theorem shw_O {n : Option Int} (h : bnd n) : Shw (dO n) := (sml_O (N := 19) (k := 0) (by decide) h).shw (by decide) (by decide)
theorem shw2 {n m : Option Int} (h : bnd n) (k : bnd m) : Shw (.list [dO n, dO m]) := Sml.shw (n := 44) (k := 1) (sml_list (n := 19) (k := 0) (m := 2) (smlAll_cons (sml_O (by decide) h) (smlAll_cons (sml_O (by decide) k) smlAll_nil)) (by decide) (by decide)) (by decide) (by decide)
theorem okN.bnd {n : Option Int} (h : okN n) : bnd n := fun i e => by have := h i e; omega
theorem bnd_sum {n m : Option Int} (h : okN n) (k : okN m) : bnd (oSum n m) := fun i e => by
  cases n with
  | none => cases e
  | some a => cases m with
    | none => cases e
    | some b =>
      cases e
      have := h a rfl
      have := k b rfl
      omega

local macro_rules | `(tactic| wtm_at "off0") => `(tactic| first | with_reducible assumption | (with_reducible apply Off.mk; wtm_at "pen"; assumption))
local macro_rules | `(tactic| wtm_at "at0") => `(tactic| first | with_reducible assumption | with_reducible exact upd_same | (with_reducible apply Off.at; wtm_at "off0"))
local macro_rules | `(tactic| wtm_at "off1") => `(tactic| first | with_reducible assumption | (with_reducible apply Off.mk; wtm_at "pen"; assumption) | (with_reducible refine Off.new (by assumption) _ _ ?_; wtm_at "off0") | (with_reducible refine at_same (by with_reducible assumption) ?_; wtm_at "off0"))
local macro_rules | `(tactic| wtm_at "at1") => `(tactic| first | with_reducible assumption | with_reducible exact upd_same | (with_reducible refine at_new (by assumption) ?_; wtm_at "at0") | (with_reducible refine at_same (by with_reducible assumption) ?_; wtm_at "at0") | (with_reducible apply Off.at; wtm_at "off1"))
local macro_rules | `(tactic| wtm_at "off2") => `(tactic| first | with_reducible assumption | (with_reducible apply Off.mk; wtm_at "pen"; assumption) | (with_reducible refine Off.new (by assumption) _ _ ?_; wtm_at "off1") | (with_reducible refine at_same (by with_reducible assumption) ?_; wtm_at "off1"))
local macro_rules | `(tactic| wtm_at "at2") => `(tactic| first | with_reducible assumption | with_reducible exact upd_same | (with_reducible refine at_new (by assumption) ?_; wtm_at "at1") | (with_reducible refine at_same (by with_reducible assumption) ?_; wtm_at "at1") | (with_reducible apply Off.at; wtm_at "off2"))
local macro_rules | `(tactic| wtm_at "off3") => `(tactic| first | with_reducible assumption | (with_reducible apply Off.mk; wtm_at "pen"; assumption) | (with_reducible refine Off.new (by assumption) _ _ ?_; wtm_at "off2") | (with_reducible refine at_same (by with_reducible assumption) ?_; wtm_at "off2"))
local macro_rules | `(tactic| wtm_at "at3") => `(tactic| first | with_reducible assumption | with_reducible exact upd_same | (with_reducible refine at_new (by assumption) ?_; wtm_at "at2") | (with_reducible refine at_same (by with_reducible assumption) ?_; wtm_at "at2") | (with_reducible apply Off.at; wtm_at "off3"))
local macro_rules | `(tactic| wtm_at "off4") => `(tactic| first | with_reducible assumption | (with_reducible apply Off.mk; wtm_at "pen"; assumption) | (with_reducible refine Off.new (by assumption) _ _ ?_; wtm_at "off3") | (with_reducible refine at_same (by with_reducible assumption) ?_; wtm_at "off3"))
local macro_rules | `(tactic| wtm_at "at4") => `(tactic| first | with_reducible assumption | with_reducible exact upd_same | (with_reducible refine at_new (by assumption) ?_; wtm_at "at3") | (with_reducible refine at_same (by with_reducible assumption) ?_; wtm_at "at3") | (with_reducible apply Off.at; wtm_at "off4"))
local macro_rules | `(tactic| wtm_at "off5") => `(tactic| first | with_reducible assumption | (with_reducible apply Off.mk; wtm_at "pen"; assumption) | (with_reducible refine Off.new (by assumption) _ _ ?_; wtm_at "off4") | (with_reducible refine at_same (by with_reducible assumption) ?_; wtm_at "off4"))
local macro_rules | `(tactic| wtm_at "at5") => `(tactic| first | with_reducible assumption | with_reducible exact upd_same | (with_reducible refine at_new (by assumption) ?_; wtm_at "at4") | (with_reducible refine at_same (by with_reducible assumption) ?_; wtm_at "at4") | (with_reducible apply Off.at; wtm_at "off5"))
local macro_rules | `(tactic| wtm_at "off6") => `(tactic| first | with_reducible assumption | (with_reducible apply Off.mk; wtm_at "pen"; assumption) | (with_reducible refine Off.new (by assumption) _ _ ?_; wtm_at "off5") | (with_reducible refine at_same (by with_reducible assumption) ?_; wtm_at "off5"))
local macro_rules | `(tactic| wtm_at "at6") => `(tactic| first | with_reducible assumption | with_reducible exact upd_same | (with_reducible refine at_new (by assumption) ?_; wtm_at "at5") | (with_reducible refine at_same (by with_reducible assumption) ?_; wtm_at "at5") | (with_reducible apply Off.at; wtm_at "off6"))
local macro_rules | `(tactic| wtm_at "off7") => `(tactic| first | with_reducible assumption | (with_reducible apply Off.mk; wtm_at "pen"; assumption) | (with_reducible refine Off.new (by assumption) _ _ ?_; wtm_at "off6") | (with_reducible refine at_same (by with_reducible assumption) ?_; wtm_at "off6"))
local macro_rules | `(tactic| wtm_at "at7") => `(tactic| first | with_reducible assumption | with_reducible exact upd_same | (with_reducible refine at_new (by assumption) ?_; wtm_at "at6") | (with_reducible refine at_same (by with_reducible assumption) ?_; wtm_at "at6") | (with_reducible apply Off.at; wtm_at "off7"))
local macro_rules | `(tactic| wtm_at "off8") => `(tactic| first | with_reducible assumption | (with_reducible apply Off.mk; wtm_at "pen"; assumption) | (with_reducible refine Off.new (by assumption) _ _ ?_; wtm_at "off7") | (with_reducible refine at_same (by with_reducible assumption) ?_; wtm_at "off7"))
local macro_rules | `(tactic| wtm_at "at8") => `(tactic| first | with_reducible assumption | with_reducible exact upd_same | (with_reducible refine at_new (by assumption) ?_; wtm_at "at7") | (with_reducible refine at_same (by with_reducible assumption) ?_; wtm_at "at7") | (with_reducible apply Off.at; wtm_at "off8"))
local macro_rules | `(tactic| wtm_at "off9") => `(tactic| first | with_reducible assumption | (with_reducible apply Off.mk; wtm_at "pen"; assumption) | (with_reducible refine Off.new (by assumption) _ _ ?_; wtm_at "off8") | (with_reducible refine at_same (by with_reducible assumption) ?_; wtm_at "off8"))
local macro_rules | `(tactic| wtm_at "at9") => `(tactic| first | with_reducible assumption | with_reducible exact upd_same | (with_reducible refine at_new (by assumption) ?_; wtm_at "at8") | (with_reducible refine at_same (by with_reducible assumption) ?_; wtm_at "at8") | (with_reducible apply Off.at; wtm_at "off9"))
local macro_rules | `(tactic| wtm_at "off10") => `(tactic| first | with_reducible assumption | (with_reducible apply Off.mk; wtm_at "pen"; assumption) | (with_reducible refine Off.new (by assumption) _ _ ?_; wtm_at "off9") | (with_reducible refine at_same (by with_reducible assumption) ?_; wtm_at "off9"))
local macro_rules | `(tactic| wtm_at "at10") => `(tactic| first | with_reducible assumption | with_reducible exact upd_same | (with_reducible refine at_new (by assumption) ?_; wtm_at "at9") | (with_reducible refine at_same (by with_reducible assumption) ?_; wtm_at "at9") | (with_reducible apply Off.at; wtm_at "off10"))
local macro_rules | `(tactic| wtm_at "off11") => `(tactic| first | with_reducible assumption | (with_reducible apply Off.mk; wtm_at "pen"; assumption) | (with_reducible refine Off.new (by assumption) _ _ ?_; wtm_at "off10") | (with_reducible refine at_same (by with_reducible assumption) ?_; wtm_at "off10"))
local macro_rules | `(tactic| wtm_at "at11") => `(tactic| first | with_reducible assumption | with_reducible exact upd_same | (with_reducible refine at_new (by assumption) ?_; wtm_at "at10") | (with_reducible refine at_same (by with_reducible assumption) ?_; wtm_at "at10") | (with_reducible apply Off.at; wtm_at "off11"))
local macro_rules | `(tactic| wtm_at "off12") => `(tactic| first | with_reducible assumption | (with_reducible apply Off.mk; wtm_at "pen"; assumption) | (with_reducible refine Off.new (by assumption) _ _ ?_; wtm_at "off11") | (with_reducible refine at_same (by with_reducible assumption) ?_; wtm_at "off11"))
local macro_rules | `(tactic| wtm_at "at12") => `(tactic| first | with_reducible assumption | with_reducible exact upd_same | (with_reducible refine at_new (by assumption) ?_; wtm_at "at11") | (with_reducible refine at_same (by with_reducible assumption) ?_; wtm_at "at11") | (with_reducible apply Off.at; wtm_at "off12"))
local macro_rules | `(tactic| wtm_at "off13") => `(tactic| first | with_reducible assumption | (with_reducible apply Off.mk; wtm_at "pen"; assumption) | (with_reducible refine Off.new (by assumption) _ _ ?_; wtm_at "off12") | (with_reducible refine at_same (by with_reducible assumption) ?_; wtm_at "off12"))
local macro_rules | `(tactic| wtm_at "at13") => `(tactic| first | with_reducible assumption | with_reducible exact upd_same | (with_reducible refine at_new (by assumption) ?_; wtm_at "at12") | (with_reducible refine at_same (by with_reducible assumption) ?_; wtm_at "at12") | (with_reducible apply Off.at; wtm_at "off13"))
local macro_rules | `(tactic| wtm_at "off14") => `(tactic| first | with_reducible assumption | (with_reducible apply Off.mk; wtm_at "pen"; assumption) | (with_reducible refine Off.new (by assumption) _ _ ?_; wtm_at "off13") | (with_reducible refine at_same (by with_reducible assumption) ?_; wtm_at "off13"))
local macro_rules | `(tactic| wtm_at "at14") => `(tactic| first | with_reducible assumption | with_reducible exact upd_same | (with_reducible refine at_new (by assumption) ?_; wtm_at "at13") | (with_reducible refine at_same (by with_reducible assumption) ?_; wtm_at "at13") | (with_reducible apply Off.at; wtm_at "off14"))
local macro_rules | `(tactic| wtm_at "off15") => `(tactic| first | with_reducible assumption | (with_reducible apply Off.mk; wtm_at "pen"; assumption) | (with_reducible refine Off.new (by assumption) _ _ ?_; wtm_at "off14") | (with_reducible refine at_same (by with_reducible assumption) ?_; wtm_at "off14"))
local macro_rules | `(tactic| wtm_at "at15") => `(tactic| first | with_reducible assumption | with_reducible exact upd_same | (with_reducible refine at_new (by assumption) ?_; wtm_at "at14") | (with_reducible refine at_same (by with_reducible assumption) ?_; wtm_at "at14") | (with_reducible apply Off.at; wtm_at "off15"))
local macro_rules | `(tactic| wtm_at "off16") => `(tactic| first | with_reducible assumption | (with_reducible apply Off.mk; wtm_at "pen"; assumption) | (with_reducible refine Off.new (by assumption) _ _ ?_; wtm_at "off15") | (with_reducible refine at_same (by with_reducible assumption) ?_; wtm_at "off15"))
local macro_rules | `(tactic| wtm_at "at16") => `(tactic| first | with_reducible assumption | with_reducible exact upd_same | (with_reducible refine at_new (by assumption) ?_; wtm_at "at15") | (with_reducible refine at_same (by with_reducible assumption) ?_; wtm_at "at15") | (with_reducible apply Off.at; wtm_at "off16"))
local macro_rules | `(tactic| wtm_at "off17") => `(tactic| first | with_reducible assumption | (with_reducible apply Off.mk; wtm_at "pen"; assumption) | (with_reducible refine Off.new (by assumption) _ _ ?_; wtm_at "off16") | (with_reducible refine at_same (by with_reducible assumption) ?_; wtm_at "off16"))
local macro_rules | `(tactic| wtm_at "at17") => `(tactic| first | with_reducible assumption | with_reducible exact upd_same | (with_reducible refine at_new (by assumption) ?_; wtm_at "at16") | (with_reducible refine at_same (by with_reducible assumption) ?_; wtm_at "at16") | (with_reducible apply Off.at; wtm_at "off17"))
local macro_rules | `(tactic| wtm_at "off18") => `(tactic| first | with_reducible assumption | (with_reducible apply Off.mk; wtm_at "pen"; assumption) | (with_reducible refine Off.new (by assumption) _ _ ?_; wtm_at "off17") | (with_reducible refine at_same (by with_reducible assumption) ?_; wtm_at "off17"))
local macro_rules | `(tactic| wtm_at "at18") => `(tactic| first | with_reducible assumption | with_reducible exact upd_same | (with_reducible refine at_new (by assumption) ?_; wtm_at "at17") | (with_reducible refine at_same (by with_reducible assumption) ?_; wtm_at "at17") | (with_reducible apply Off.at; wtm_at "off18"))
local macro_rules | `(tactic| wtm_at "off19") => `(tactic| first | with_reducible assumption | (with_reducible apply Off.mk; wtm_at "pen"; assumption) | (with_reducible refine Off.new (by assumption) _ _ ?_; wtm_at "off18") | (with_reducible refine at_same (by with_reducible assumption) ?_; wtm_at "off18"))
local macro_rules | `(tactic| wtm_at "at19") => `(tactic| first | with_reducible assumption | with_reducible exact upd_same | (with_reducible refine at_new (by assumption) ?_; wtm_at "at18") | (with_reducible refine at_same (by with_reducible assumption) ?_; wtm_at "at18") | (with_reducible apply Off.at; wtm_at "off19"))
local macro_rules | `(tactic| wtm_at "off20") => `(tactic| first | with_reducible assumption | (with_reducible apply Off.mk; wtm_at "pen"; assumption) | (with_reducible refine Off.new (by assumption) _ _ ?_; wtm_at "off19") | (with_reducible refine at_same (by with_reducible assumption) ?_; wtm_at "off19"))
local macro_rules | `(tactic| wtm_at "at20") => `(tactic| first | with_reducible assumption | with_reducible exact upd_same | (with_reducible refine at_new (by assumption) ?_; wtm_at "at19") | (with_reducible refine at_same (by with_reducible assumption) ?_; wtm_at "at19") | (with_reducible apply Off.at; wtm_at "off20"))
local macro_rules | `(tactic| wtm_at "off21") => `(tactic| first | with_reducible assumption | (with_reducible apply Off.mk; wtm_at "pen"; assumption) | (with_reducible refine Off.new (by assumption) _ _ ?_; wtm_at "off20") | (with_reducible refine at_same (by with_reducible assumption) ?_; wtm_at "off20"))
local macro_rules | `(tactic| wtm_at "at21") => `(tactic| first | with_reducible assumption | with_reducible exact upd_same | (with_reducible refine at_new (by assumption) ?_; wtm_at "at20") | (with_reducible refine at_same (by with_reducible assumption) ?_; wtm_at "at20") | (with_reducible apply Off.at; wtm_at "off21"))
local macro_rules | `(tactic| wtm_at "off22") => `(tactic| first | with_reducible assumption | (with_reducible apply Off.mk; wtm_at "pen"; assumption) | (with_reducible refine Off.new (by assumption) _ _ ?_; wtm_at "off21") | (with_reducible refine at_same (by with_reducible assumption) ?_; wtm_at "off21"))
local macro_rules | `(tactic| wtm_at "at22") => `(tactic| first | with_reducible assumption | with_reducible exact upd_same | (with_reducible refine at_new (by assumption) ?_; wtm_at "at21") | (with_reducible refine at_same (by with_reducible assumption) ?_; wtm_at "at21") | (with_reducible apply Off.at; wtm_at "off22"))
local macro_rules | `(tactic| wtm_at "off23") => `(tactic| first | with_reducible assumption | (with_reducible apply Off.mk; wtm_at "pen"; assumption) | (with_reducible refine Off.new (by assumption) _ _ ?_; wtm_at "off22") | (with_reducible refine at_same (by with_reducible assumption) ?_; wtm_at "off22"))
local macro_rules | `(tactic| wtm_at "at23") => `(tactic| first | with_reducible assumption | with_reducible exact upd_same | (with_reducible refine at_new (by assumption) ?_; wtm_at "at22") | (with_reducible refine at_same (by with_reducible assumption) ?_; wtm_at "at22") | (with_reducible apply Off.at; wtm_at "off23"))
local macro_rules | `(tactic| wtm_at "off24") => `(tactic| first | with_reducible assumption | (with_reducible apply Off.mk; wtm_at "pen"; assumption) | (with_reducible refine Off.new (by assumption) _ _ ?_; wtm_at "off23") | (with_reducible refine at_same (by with_reducible assumption) ?_; wtm_at "off23"))
local macro_rules | `(tactic| wtm_at "at24") => `(tactic| first | with_reducible assumption | with_reducible exact upd_same | (with_reducible refine at_new (by assumption) ?_; wtm_at "at23") | (with_reducible refine at_same (by with_reducible assumption) ?_; wtm_at "at23") | (with_reducible apply Off.at; wtm_at "off24"))
local macro_rules | `(tactic| wtm_at "off25") => `(tactic| first | with_reducible assumption | (with_reducible apply Off.mk; wtm_at "pen"; assumption) | (with_reducible refine Off.new (by assumption) _ _ ?_; wtm_at "off24") | (with_reducible refine at_same (by with_reducible assumption) ?_; wtm_at "off24"))
local macro_rules | `(tactic| wtm_at "at25") => `(tactic| first | with_reducible assumption | with_reducible exact upd_same | (with_reducible refine at_new (by assumption) ?_; wtm_at "at24") | (with_reducible refine at_same (by with_reducible assumption) ?_; wtm_at "at24") | (with_reducible apply Off.at; wtm_at "off25"))
local macro_rules | `(tactic| wtm_at "off26") => `(tactic| first | with_reducible assumption | (with_reducible apply Off.mk; wtm_at "pen"; assumption) | (with_reducible refine Off.new (by assumption) _ _ ?_; wtm_at "off25") | (with_reducible refine at_same (by with_reducible assumption) ?_; wtm_at "off25"))
local macro_rules | `(tactic| wtm_at "at26") => `(tactic| first | with_reducible assumption | with_reducible exact upd_same | (with_reducible refine at_new (by assumption) ?_; wtm_at "at25") | (with_reducible refine at_same (by with_reducible assumption) ?_; wtm_at "at25") | (with_reducible apply Off.at; wtm_at "off26"))
local macro_rules | `(tactic| wtm_at "off27") => `(tactic| first | with_reducible assumption | (with_reducible apply Off.mk; wtm_at "pen"; assumption) | (with_reducible refine Off.new (by assumption) _ _ ?_; wtm_at "off26") | (with_reducible refine at_same (by with_reducible assumption) ?_; wtm_at "off26"))
local macro_rules | `(tactic| wtm_at "at27") => `(tactic| first | with_reducible assumption | with_reducible exact upd_same | (with_reducible refine at_new (by assumption) ?_; wtm_at "at26") | (with_reducible refine at_same (by with_reducible assumption) ?_; wtm_at "at26") | (with_reducible apply Off.at; wtm_at "off27"))
local macro_rules | `(tactic| wtm_at "off28") => `(tactic| first | with_reducible assumption | (with_reducible apply Off.mk; wtm_at "pen"; assumption) | (with_reducible refine Off.new (by assumption) _ _ ?_; wtm_at "off27") | (with_reducible refine at_same (by with_reducible assumption) ?_; wtm_at "off27"))
local macro_rules | `(tactic| wtm_at "at28") => `(tactic| first | with_reducible assumption | with_reducible exact upd_same | (with_reducible refine at_new (by assumption) ?_; wtm_at "at27") | (with_reducible refine at_same (by with_reducible assumption) ?_; wtm_at "at27") | (with_reducible apply Off.at; wtm_at "off28"))
local macro_rules | `(tactic| wtm_at "off29") => `(tactic| first | with_reducible assumption | (with_reducible apply Off.mk; wtm_at "pen"; assumption) | (with_reducible refine Off.new (by assumption) _ _ ?_; wtm_at "off28") | (with_reducible refine at_same (by with_reducible assumption) ?_; wtm_at "off28"))
local macro_rules | `(tactic| wtm_at "at29") => `(tactic| first | with_reducible assumption | with_reducible exact upd_same | (with_reducible refine at_new (by assumption) ?_; wtm_at "at28") | (with_reducible refine at_same (by with_reducible assumption) ?_; wtm_at "at28") | (with_reducible apply Off.at; wtm_at "off29"))
local macro_rules | `(tactic| wtm_at "off30") => `(tactic| first | with_reducible assumption | (with_reducible apply Off.mk; wtm_at "pen"; assumption) | (with_reducible refine Off.new (by assumption) _ _ ?_; wtm_at "off29") | (with_reducible refine at_same (by with_reducible assumption) ?_; wtm_at "off29"))
local macro_rules | `(tactic| wtm_at "at30") => `(tactic| first | with_reducible assumption | with_reducible exact upd_same | (with_reducible refine at_new (by assumption) ?_; wtm_at "at29") | (with_reducible refine at_same (by with_reducible assumption) ?_; wtm_at "at29") | (with_reducible apply Off.at; wtm_at "off30"))
local macro_rules | `(tactic| wtm_at "off31") => `(tactic| first | with_reducible assumption | (with_reducible apply Off.mk; wtm_at "pen"; assumption) | (with_reducible refine Off.new (by assumption) _ _ ?_; wtm_at "off30") | (with_reducible refine at_same (by with_reducible assumption) ?_; wtm_at "off30"))
local macro_rules | `(tactic| wtm_at "at31") => `(tactic| first | with_reducible assumption | with_reducible exact upd_same | (with_reducible refine at_new (by assumption) ?_; wtm_at "at30") | (with_reducible refine at_same (by with_reducible assumption) ?_; wtm_at "at30") | (with_reducible apply Off.at; wtm_at "off31"))
local macro_rules | `(tactic| wtm_at "off32") => `(tactic| first | with_reducible assumption | (with_reducible apply Off.mk; wtm_at "pen"; assumption) | (with_reducible refine Off.new (by assumption) _ _ ?_; wtm_at "off31") | (with_reducible refine at_same (by with_reducible assumption) ?_; wtm_at "off31"))
local macro_rules | `(tactic| wtm_at "at32") => `(tactic| first | with_reducible assumption | with_reducible exact upd_same | (with_reducible refine at_new (by assumption) ?_; wtm_at "at31") | (with_reducible refine at_same (by with_reducible assumption) ?_; wtm_at "at31") | (with_reducible apply Off.at; wtm_at "off32"))
local macro_rules | `(tactic| wtm_at "off33") => `(tactic| first | with_reducible assumption | (with_reducible apply Off.mk; wtm_at "pen"; assumption) | (with_reducible refine Off.new (by assumption) _ _ ?_; wtm_at "off32") | (with_reducible refine at_same (by with_reducible assumption) ?_; wtm_at "off32"))
local macro_rules | `(tactic| wtm_at "at33") => `(tactic| first | with_reducible assumption | with_reducible exact upd_same | (with_reducible refine at_new (by assumption) ?_; wtm_at "at32") | (with_reducible refine at_same (by with_reducible assumption) ?_; wtm_at "at32") | (with_reducible apply Off.at; wtm_at "off33"))
local macro_rules | `(tactic| wtm_at "off34") => `(tactic| first | with_reducible assumption | (with_reducible apply Off.mk; wtm_at "pen"; assumption) | (with_reducible refine Off.new (by assumption) _ _ ?_; wtm_at "off33") | (with_reducible refine at_same (by with_reducible assumption) ?_; wtm_at "off33"))
local macro_rules | `(tactic| wtm_at "at34") => `(tactic| first | with_reducible assumption | with_reducible exact upd_same | (with_reducible refine at_new (by assumption) ?_; wtm_at "at33") | (with_reducible refine at_same (by with_reducible assumption) ?_; wtm_at "at33") | (with_reducible apply Off.at; wtm_at "off34"))
local macro_rules | `(tactic| wtm_at "off35") => `(tactic| first | with_reducible assumption | (with_reducible apply Off.mk; wtm_at "pen"; assumption) | (with_reducible refine Off.new (by assumption) _ _ ?_; wtm_at "off34") | (with_reducible refine at_same (by with_reducible assumption) ?_; wtm_at "off34"))
local macro_rules | `(tactic| wtm_at "at35") => `(tactic| first | with_reducible assumption | with_reducible exact upd_same | (with_reducible refine at_new (by assumption) ?_; wtm_at "at34") | (with_reducible refine at_same (by with_reducible assumption) ?_; wtm_at "at34") | (with_reducible apply Off.at; wtm_at "off35"))
local macro_rules | `(tactic| wtm_at "off36") => `(tactic| first | with_reducible assumption | (with_reducible apply Off.mk; wtm_at "pen"; assumption) | (with_reducible refine Off.new (by assumption) _ _ ?_; wtm_at "off35") | (with_reducible refine at_same (by with_reducible assumption) ?_; wtm_at "off35"))
local macro_rules | `(tactic| wtm_at "at36") => `(tactic| first | with_reducible assumption | with_reducible exact upd_same | (with_reducible refine at_new (by assumption) ?_; wtm_at "at35") | (with_reducible refine at_same (by with_reducible assumption) ?_; wtm_at "at35") | (with_reducible apply Off.at; wtm_at "off36"))
local macro_rules | `(tactic| wtm_at "off37") => `(tactic| first | with_reducible assumption | (with_reducible apply Off.mk; wtm_at "pen"; assumption) | (with_reducible refine Off.new (by assumption) _ _ ?_; wtm_at "off36") | (with_reducible refine at_same (by with_reducible assumption) ?_; wtm_at "off36"))
local macro_rules | `(tactic| wtm_at "at37") => `(tactic| first | with_reducible assumption | with_reducible exact upd_same | (with_reducible refine at_new (by assumption) ?_; wtm_at "at36") | (with_reducible refine at_same (by with_reducible assumption) ?_; wtm_at "at36") | (with_reducible apply Off.at; wtm_at "off37"))
local macro_rules | `(tactic| wtm_at "off38") => `(tactic| first | with_reducible assumption | (with_reducible apply Off.mk; wtm_at "pen"; assumption) | (with_reducible refine Off.new (by assumption) _ _ ?_; wtm_at "off37") | (with_reducible refine at_same (by with_reducible assumption) ?_; wtm_at "off37"))
local macro_rules | `(tactic| wtm_at "at38") => `(tactic| first | with_reducible assumption | with_reducible exact upd_same | (with_reducible refine at_new (by assumption) ?_; wtm_at "at37") | (with_reducible refine at_same (by with_reducible assumption) ?_; wtm_at "at37") | (with_reducible apply Off.at; wtm_at "off38"))
local macro_rules | `(tactic| wtm_at "off39") => `(tactic| first | with_reducible assumption | (with_reducible apply Off.mk; wtm_at "pen"; assumption) | (with_reducible refine Off.new (by assumption) _ _ ?_; wtm_at "off38") | (with_reducible refine at_same (by with_reducible assumption) ?_; wtm_at "off38"))
local macro_rules | `(tactic| wtm_at "at39") => `(tactic| first | with_reducible assumption | with_reducible exact upd_same | (with_reducible refine at_new (by assumption) ?_; wtm_at "at38") | (with_reducible refine at_same (by with_reducible assumption) ?_; wtm_at "at38") | (with_reducible apply Off.at; wtm_at "off39"))
local macro_rules | `(tactic| wtm_at "at") => `(tactic| wtm_at "at39")
local macro_rules | `(tactic| wtm_at "off") => `(tactic| wtm_at "off39")
local macro_rules | `(tactic| wtm_at "pen") => `(tactic| first
  | assumption | (refine Pen.new (by assumption) ?_; wtm_at "pen") | (refine Pen.same (by assumption) ?_; wtm_at "pen"))
local macro_rules | `(tactic| wtm_at "same") => `(tactic| first
  | exact fun _ _ h => h | assumption | exact same_new (by assumption) | (refine same_trans ?_ (same_new (by assumption)); wtm_at "same") | (refine same_trans ?_ (by assumption); wtm_at "same")
  | (refine same_trans ?_ (Off.new (by assumption)); wtm_at "same") | (refine same_trans ?_ (Off.same (by assumption)); wtm_at "same"))
local macro_rules | `(tactic| wtm_at "dps") => `(tactic| first
  | exact .nil | (apply DpAll.cons; wtm_at "dp"; wtm_at "dps") | exact dpAll_ints _)
local macro_rules | `(tactic| wtm_at "dp") => `(tactic| first
  | exact .non | exact .bl _ | exact .int _ | exact .str _ | (exact dp_O _) | (apply Dp.lst; (apply SqL.of; wtm_at "at"); wtm_at "dps") | (apply Dp.tup; (apply SqT.of; wtm_at "at"); wtm_at "dps"))
local macro_rules | `(tactic| wtm_at "side") => `(tactic| first
  | exact ⟨by decide, by decide⟩ | exact ⟨by decide, by decide, by decide⟩ | exact .inl ⟨by decide, by decide⟩ | exact .inr ⟨by decide, by decide⟩ | (show ¬ _ = _; decide))
local macro_rules | `(tactic| wtm_at "sml") => `(tactic| first
  | exact sml_none (by decide) | exact sml_bool (by decide) | exact sml_int (by decide) (by omega) | (exact sml_O (by decide) (by assumption)) | exact sml_list (n := 19) (k := 0) (by wtm_at "smls") (by decide) (by decide))
local macro_rules | `(tactic| wtm_at "smls") => `(tactic| first | exact smlAll_nil (m := 0) | (apply smlAll_cons; wtm_at "sml"; wtm_at "smls"))
local macro_rules | `(tactic| wtm_at "shw") => `(tactic| exact Sml.shw (n := 10000) (k := 50) (by wtm_at "sml") (by decide) (by decide))
local macro_rules | `(tactic| wtm_at "rd") => `(tactic| first
  | refine ⟨_, rfl, ?_⟩ | refine ⟨_, _, rfl, rfl, ?_⟩ | refine ifT rfl ?_ | refine ifF rfl ?_ | refine ⟨rfl, ?_⟩
  | refine ⟨_, _, rfl, ?_⟩
  | refine ⟨_, _, by rfl, by wtm_at "dp", by wtm_at "shw", ?_⟩
  | refine ⟨_, _, _, _, _, rfl, by wtm_at "at", by wtm_at "cls", by wtm_at "na", by rfl, ?_⟩
  | refine ⟨_, _, rfl, rfl, by wtm_at "side", ?_⟩
  | refine ⟨_, _, by wtm_at "dp", by wtm_at "dp", by rfl, by rfl, ?_⟩
  | refine ⟨_, _, [_, _], [_, _], rfl, rfl, sqI2 (by wtm_at "at"), sqI2 (by wtm_at "at"), ?_⟩
  | refine ⟨Nat.le_of_ble_eq_true rfl, fun _ _ => ?_⟩
  | refine ifF (nd_refl _) ?_ | refine ifT (de_refl _) ?_)
local macro_rules | `(tactic| wtm_at "cls") => `(tactic| first | exact cls_Lag _)
local macro_rules | `(tactic| wtm_at "na") => `(tactic| first | exact na_Lag_rounds _ | exact na_Lag_lacking _ | exact na_Lag_far _)

def spNumber : Sp := fun vs H Q _ => ∃ p c m, vs = [.ref p] ∧ Pen H p c m ∧ m ≤ 99000 ∧ ∀ n H', okN n → Same (Off p H) (Off p H') → Pen H' p c (m + 4) → Q (vO n) H'
def spSum : Sp := fun vs H Q _ => ∃ n m, vs = [vO n, vO m] ∧ Q (vO (oSum n m)) H
def spLess : Sp := fun vs H Q _ => ∃ n m, vs = [vO n, vO m] ∧ Q (.bl (oLt n m)) H
def spPair : Sp := fun vs H Q _ => ∃ n m, vs = [vO n, vO m] ∧ okN n ∧ okN m ∧ ∀ H', Same H H' → Q (.bl true) H'
section
variable {mg : PySem.Str → Option Value} {base : Heap} {w : World}
theorem ok_drawP (M : Mod (hd19.heap_39 w.params) mg base) : CallG PP w (hd19.heap_39 w.params) mg base 1 (.ref 87) (pos spDrawP) := (ok__law_draw M).imp fun _ _ _ _ _ h => ⟨h.1, draw_P h.2⟩
theorem ok__law_number (M : Mod (hd19.heap_39 w.params) mg base) : CallG PP w (hd19.heap_39 w.params) mg base 2 (.ref 99) (pos spNumber) := by
  obtain ⟨fd, F⟩ := fn__law_number w
  refine def_pos F sc__law_number (fun vs H Q E h => ?_) (fun _ _ _ _ _ _ us hl => match us, hl with | [_], _ => rfl) (fun cdv A outer s H vs Q E hr hg h => ?_)
  · obtain ⟨p, c, m, rfl, _⟩ := h; rfl
  have nd := sc__law_number.nd
  obtain ⟨p, c, m, rfl, P, hm, q⟩ := h
  refine ⟨_, (pss_one (ps_ret (pe_ix ix_list (pe_lst (pa_cons pe_non (pa_cons pe_int (pa_cons (pe_cl (takes_of rfl rfl rfl rfl) (ok_drawP M) (hr.mono (by decide)) hg rfl (mg__law_draw M) (kp__law_draw w) (pa_cons (pv 0) (pa_cons pe_int pa_nil))) (pa_cons (pe_cl (takes_of rfl rfl rfl rfl) (ok_drawP M) (hr.mono (by decide)) hg rfl (mg__law_draw M) (kp__law_draw w) (pa_cons (pv 0) (pa_cons pe_int pa_nil))) (pa_cons (pe_op op_add (pe_op op_pow pe_int pe_int) (pe_cl (takes_of rfl rfl rfl rfl) (ok_drawP M) (hr.mono (by decide)) hg rfl (mg__law_draw M) (kp__law_draw w) (pa_cons (pv 0) (pa_cons pe_int pa_nil)))) pa_nil)))))) (pe_cl (takes_of rfl rfl rfl rfl) (ok_drawP M) (hr.mono (by decide)) hg rfl (mg__law_draw M) (kp__law_draw w) (pa_cons (pv 0) (pa_cons pe_int pa_nil))) (fun _ _ => rfl)))), ?_⟩
  refine ⟨_, rfl, rfl, p, c, m, _, rfl, P, by omega, by omega, by omega, fun d1 H1 d10 d11 s1 P1 => ?_⟩
  refine ⟨_, rfl, rfl, p, c, m+1, _, rfl, P1, by omega, by omega, by omega, fun d2 H2 d20 d21 s2 P2 => ?_⟩
  refine ⟨10, 9, rfl, rfl, ⟨by decide, by decide, by decide⟩, ?_⟩
  refine ⟨_, rfl, rfl, p, c, m+1+1, _, rfl, P2, by omega, by omega, by omega, fun d3 H3 d30 d31 s3 P3 => ?_⟩
  wtm_at "rd"
  refine ⟨Nat.le_of_ble_eq_true rfl, fun z hz => ?_⟩
  have P4 := P3.new (o := .lst [.non, .int 0, .int d1, .int d2, .int ((10 : Int) ^ Int.toNat 9 + d3)]) hz
  refine ⟨_, rfl, rfl, p, c, m+1+1+1, _, rfl, P4, by omega, by omega, by omega, fun d4 H4 d40 d41 s4 P5 => ?_⟩
  have hl : Off p H4 z = some (.lst [.non, .int 0, .int d1, .int d2, .int ((10 : Int) ^ Int.toNat 9 + d3)]) := s4 _ _ (Off.mk P3 hz)
  have sm : Same (Off p H) (Off p H4) := by wtm_at "same"
  have e9 : (10 : Int) ^ Int.toNat 9 = 1000000000 := by decide
  rcases (by omega : d4 = 0 ∨ d4 = 1 ∨ d4 = 2 ∨ d4 = 3 ∨ d4 = 4) with rfl | rfl | rfl | rfl | rfl
  · refine ⟨z, _, _, _, rfl, rfl, SqL.of (Off.at hl), atI_lit (by decide) rfl, ?_⟩
    exact q none _ (fun i e => nomatch e) sm (P5.mono (by omega))
  · refine ⟨z, _, _, _, rfl, rfl, SqL.of (Off.at hl), atI_lit (by decide) rfl, ?_⟩
    exact q (some 0) _ (fun i e => by cases e; decide) sm (P5.mono (by omega))
  · refine ⟨z, _, _, _, rfl, rfl, SqL.of (Off.at hl), atI_lit (by decide) rfl, ?_⟩
    exact q (some d1) _ (fun i e => by cases e; omega) sm (P5.mono (by omega))
  · refine ⟨z, _, _, _, rfl, rfl, SqL.of (Off.at hl), atI_lit (by decide) rfl, ?_⟩
    exact q (some d2) _ (fun i e => by cases e; omega) sm (P5.mono (by omega))
  · refine ⟨z, _, _, _, rfl, rfl, SqL.of (Off.at hl), atI_lit (by decide) rfl, ?_⟩
    exact q (some ((10 : Int) ^ Int.toNat 9 + d3)) _ (fun i e => by cases e; omega) sm (P5.mono (by omega))
theorem ok__law_sum (M : Mod (hd19.heap_39 w.params) mg base) : CallG PP w (hd19.heap_39 w.params) mg base 1 (.ref 106) (pos spSum) := by
  obtain ⟨fd, F⟩ := fn__law_sum w
  refine def_pos F sc__law_sum (fun vs H Q E h => ?_) (fun _ _ _ _ _ _ us hl => match us, hl with | [_, _], _ => rfl) (fun cdv A outer s H vs Q E hr hg h => ?_)
  · obtain ⟨n, m, rfl, _⟩ := h; rfl
  have nd := sc__law_sum.nd
  obtain ⟨n, m, rfl, q⟩ := h
  refine ⟨_, (pss_one (ps_ret (pe_ifExp (PW.pt (pw_or (pt_cmpR op_isN (pv 0) pe_non (nomark _)) (pw_or1 (pt_cmpR op_isN (pv 1) pe_non (nomark _))))) pe_non (pe_op op_add (pv 0) (pv 1))))), ?_⟩
  cases n with
  | none => repeat wtm_at "rd"
            cases m <;> exact q
  | some i => cases m with
    | none => repeat wtm_at "rd"
              exact q
    | some j => repeat wtm_at "rd"
                exact q
theorem ok__law_is_less (M : Mod (hd19.heap_39 w.params) mg base) : CallG PP w (hd19.heap_39 w.params) mg base 1 (.ref 113) (pos spLess) := by
  obtain ⟨fd, F⟩ := fn__law_is_less w
  refine def_pos F sc__law_is_less (fun vs H Q E h => ?_) (fun _ _ _ _ _ _ us hl => match us, hl with | [_, _], _ => rfl) (fun cdv A outer s H vs Q E hr hg h => ?_)
  · obtain ⟨n, m, rfl, _⟩ := h; rfl
  have nd := sc__law_is_less.nd
  obtain ⟨n, m, rfl, q⟩ := h
  refine ⟨_, (pss_one (ps_ret (pe_and (pe_cmpR op_notN (pv 0) pe_non (nomark _)) (pe_one (pe_or (pe_cmpR op_isN (pv 1) pe_non (nomark _)) (pe_one (pe_cmpR op_lt (pv 0) (pv 1) (nomark _)))))))), ?_⟩
  cases n with
  | none => repeat wtm_at "rd"
            cases m <;> exact q
  | some i => cases m with
    | none => repeat wtm_at "rd"
              exact q
    | some j => repeat wtm_at "rd"
                exact q
theorem ok__law_pair_right (M : Mod (hd19.heap_39 w.params) mg base) : CallG PP w (hd19.heap_39 w.params) mg base 4 (.ref 120) (pos spPair) := by
  obtain ⟨fd, F⟩ := fn__law_pair_right w
  refine def_pos F sc__law_pair_right (fun vs H Q E h => ?_) (fun _ _ _ _ _ _ us hl => match us, hl with | [_, _], _ => rfl) (fun cdv A outer s H vs Q E hr hg h => ?_)
  · obtain ⟨n, m, rfl, _⟩ := h; rfl
  have nd := sc__law_pair_right.nd
  obtain ⟨n, m, rfl, kn, km, q⟩ := h
  refine ⟨_, (pss_cons (ps_par (i := 2) (j := 3) (by rfl) nd rfl rfl (by decide) rfl rfl (pa_cons (pe_mkG (takes_of rfl rfl rfl rfl) (mk_Lag w) (ok_Lag___init__ M) (hr.mono (by decide)) hg rfl (mg_Lag M) (pa_cons (pv 0) pa_nil)) (pa_cons (pe_mkG (takes_of rfl rfl rfl rfl) (mk_Lag w) (ok_Lag___init__ M) (hr.mono (by decide)) hg rfl (mg_Lag M) (pa_cons (pv 1) pa_nil)) pa_nil)) (by rfl))
      (pss_cons (ps_if (PW.pt (pw_or (pt_cmpR op_ne (pe_callB (call_repr hg (hu_big hr)) (by rfl) (mn_repr M) (by decide +kernel) (pa_cons (pe_fld (pe_op (op_binO (ok_Lag___add__ M) (hr.mono (by decide)) hg (D := fun C => C = 69) (fun C e => by subst e; exact own_Lag_add w)) (pv 2) (pv 3)) rfl) pa_nil)) (pe_callB (call_repr hg (hu_big hr)) (by rfl) (mn_repr M) (by decide +kernel) (pa_cons (pe_cl (takes_of rfl rfl rfl rfl) (ok__law_sum M) (hr.mono (by decide)) hg rfl (mg__law_sum M) (kp__law_sum w) (pa_cons (pv 0) (pa_cons (pv 1) pa_nil))) pa_nil)) (nomark _)) (pw_or1 (pt_not (pt_val (pe_callB call_isi (by rfl) (mn_isinstance M) (by decide +kernel) (pa_cons (pe_op (op_binO (ok_Lag___add__ M) (hr.mono (by decide)) hg (D := fun C => C = 69) (fun C e => by subst e; exact own_Lag_add w)) (pv 2) (pv 3)) (pa_cons (pe_glob (v := .ref 69) rfl (mg_Lag M) rfl) pa_nil)))))))) (pss_one (ps_ret pe_bl)) pss_nil)
      (pss_cons (ps_set (i := 4) nd rfl (.inl rfl) (pe_lst (pa_cons (pe_cmpR (op_eqO (ok_Lag___eq__ M) (hr.mono (by decide)) hg (D := fun C => C = 69) (fun C e => by subst e; exact own_Lag_eq w)) (pv 2) (pv 3) (nomark _)) (pa_cons (pe_cmpR (op_neO (ok_Lag___eq__ M) (hr.mono (by decide)) hg (D := fun C => C = 69) (fun C e => by subst e; exact own_Lag_ne w)) (pv 2) (pv 3) (nomark _)) (pa_cons (pe_cmpR (op_ltO (ok_Lag___lt__ M) (hr.mono (by decide)) hg (D := fun C => C = 69) (fun C e => by subst e; exact own_Lag_lt w)) (pv 2) (pv 3) (nomark _)) (pa_cons (pe_cmpR (op_ltO (ok_Lag___lt__ M) (hr.mono (by decide)) hg (D := fun C => C = 69) (fun C e => by subst e; exact own_Lag_lt w)) (pv 3) (pv 2) (nomark _)) pa_nil))))))
      (pss_cons (ps_if (pt_cmpR (op_neD (hu_big hr)) (pv 4) (pe_lst (pa_cons (pe_cmpR op_eq (pv 0) (pv 1) (nomark _)) (pa_cons (pe_cmpR op_ne (pv 0) (pv 1) (nomark _)) (pa_cons (pe_cl (takes_of rfl rfl rfl rfl) (ok__law_is_less M) (hr.mono (by decide)) hg rfl (mg__law_is_less M) (kp__law_is_less w) (pa_cons (pv 0) (pa_cons (pv 1) pa_nil))) (pa_cons (pe_cl (takes_of rfl rfl rfl rfl) (ok__law_is_less M) (hr.mono (by decide)) hg rfl (mg__law_is_less M) (kp__law_is_less w) (pa_cons (pv 1) (pa_cons (pv 0) pa_nil))) pa_nil))))) (nomark _)) (pss_one (ps_ret pe_bl)) pss_nil)
      (pss_one (ps_ret (pe_cmpR op_eq (pe_callB (call_repr hg (hu_big hr)) (by rfl) (mn_repr M) (by decide +kernel) (pa_cons (pe_lst (pa_cons (pe_fld (pv 2) rfl) (pa_cons (pe_fld (pv 3) rfl) pa_nil))) pa_nil)) (pe_callB (call_repr hg (hu_big hr)) (by rfl) (mn_repr M) (by decide +kernel) (pa_cons (pe_lst (pa_cons (pv 0) (pa_cons (pv 1) pa_nil))) pa_nil)) (nomark _)))))))), ?_⟩
  refine ⟨_, rfl, rfl, New.mk fun a dx H1 s1 e1 => ?_⟩
  refine ⟨_, rfl, rfl, New.mk fun b dy H2 s2 e2 => ?_⟩
  repeat wtm_at "rd"
  refine ⟨a, b, 69, dx, dy, _, _, rfl, rfl, rfl, s2 _ _ e1, e2, rfl, a, b, dx, dy, n, m, rfl, s2 _ _ e1, e2, fun c dz H3 s3 e3 => ?_⟩
  wtm_at "rd"
  refine ⟨_, _, rfl, dp_O _, shw_O (bnd_sum kn km), ?_⟩
  wtm_at "rd"
  wtm_at "rd"
  wtm_at "rd"
  refine ⟨_, _, rfl, ?_⟩
  refine ⟨_, _, rfl, dp_O _, shw_O (bnd_sum kn km), ?_⟩
  refine ⟨rfl, _, rfl, ifF (by simp) ?_⟩
  wtm_at "rd"
  wtm_at "rd"
  refine ⟨a, b, 69, dx, dy, _, _, rfl, rfl, rfl, by wtm_at "at", by wtm_at "at", rfl, a, b, dx, dy, n, m, rfl, by wtm_at "at", by wtm_at "at", fun c2 dz2 H4 s4 e4 => ?_⟩
  refine ⟨_, _, _, _, _, rfl, .own 69, (tyc_Lag w).ty e4, isl_Lag w, ?_⟩
  repeat wtm_at "rd"
  refine ⟨a, 69, dx, _, _, rfl, rfl, by wtm_at "at", (tyc_Lag w).ty (a := b) (dx := dy) (fs := lagF m) (by wtm_at "at"), nf_Lag w, rfl, a, dx, n, _, rfl, by wtm_at "at", .inl ⟨b, dy, m, rfl, by wtm_at "at", fun H5 s5 => ?_⟩⟩
  wtm_at "rd"
  wtm_at "rd"
  refine ⟨a, 69, dx, _, _, rfl, rfl, by wtm_at "at", (tyc_Lag w).ty (a := b) (dx := dy) (fs := lagF m) (by wtm_at "at"), nf_Lag w, rfl, a, dx, n, _, rfl, by wtm_at "at", .inl ⟨b, dy, m, rfl, by wtm_at "at", fun H6 s6 => ⟨_, rfl, ?_⟩⟩⟩
  wtm_at "rd"
  wtm_at "rd"
  refine ⟨a, 69, dx, _, _, rfl, rfl, by wtm_at "at", (tyc_Lag w).ty (a := b) (dx := dy) (fs := lagF m) (by wtm_at "at"), nf_Lag w, rfl, a, b, dx, dy, n, m, rfl, by wtm_at "at", by wtm_at "at", fun H7 s7 => ?_⟩
  wtm_at "rd"
  wtm_at "rd"
  refine ⟨b, 69, dy, _, _, rfl, rfl, by wtm_at "at", (tyc_Lag w).ty (a := a) (dx := dx) (fs := lagF n) (by wtm_at "at"), nf_Lag w, rfl, b, a, dy, dx, m, n, rfl, by wtm_at "at", by wtm_at "at", fun H8 s8 => ?_⟩
  repeat wtm_at "rd"
  refine ⟨scal_O _ _, ?_⟩
  wtm_at "rd"
  wtm_at "rd"
  refine ⟨scal_O _ _, ?_⟩
  rw [eq_O]
  wtm_at "rd"
  wtm_at "rd"
  refine ⟨rfl, n, m, rfl, ?_⟩
  wtm_at "rd"
  wtm_at "rd"
  refine ⟨rfl, m, n, rfl, ?_⟩
  repeat wtm_at "rd"
  refine ifF (by simp [PyData.eqv, PyData.eqvAll]) ?_
  wtm_at "rd"
  wtm_at "rd"
  wtm_at "rd"
  wtm_at "rd"
  wtm_at "rd"
  have bn := kn.bnd
  have bm := km.bnd
  repeat wtm_at "rd"
  rw [dec_refl]
  exact q _ (by wtm_at "same")
end
end M19

namespace M19
open PySem PySem.Spec PyProof.Rows L2 StX Uk

local macro_rules | `(tactic| wtm_at "off0") => `(tactic| first | with_reducible assumption | (with_reducible apply Off.mk; wtm_at "pen"; assumption))
local macro_rules | `(tactic| wtm_at "at0") => `(tactic| first | with_reducible assumption | with_reducible exact upd_same | (with_reducible apply Off.at; wtm_at "off0"))
local macro_rules | `(tactic| wtm_at "off1") => `(tactic| first | with_reducible assumption | (with_reducible apply Off.mk; wtm_at "pen"; assumption) | (with_reducible refine Off.new (by assumption) _ _ ?_; wtm_at "off0") | (with_reducible refine at_same (by with_reducible assumption) ?_; wtm_at "off0"))
local macro_rules | `(tactic| wtm_at "at1") => `(tactic| first | with_reducible assumption | with_reducible exact upd_same | (with_reducible refine at_new (by assumption) ?_; wtm_at "at0") | (with_reducible refine at_same (by with_reducible assumption) ?_; wtm_at "at0") | (with_reducible apply Off.at; wtm_at "off1"))
local macro_rules | `(tactic| wtm_at "off2") => `(tactic| first | with_reducible assumption | (with_reducible apply Off.mk; wtm_at "pen"; assumption) | (with_reducible refine Off.new (by assumption) _ _ ?_; wtm_at "off1") | (with_reducible refine at_same (by with_reducible assumption) ?_; wtm_at "off1"))
local macro_rules | `(tactic| wtm_at "at2") => `(tactic| first | with_reducible assumption | with_reducible exact upd_same | (with_reducible refine at_new (by assumption) ?_; wtm_at "at1") | (with_reducible refine at_same (by with_reducible assumption) ?_; wtm_at "at1") | (with_reducible apply Off.at; wtm_at "off2"))
local macro_rules | `(tactic| wtm_at "off3") => `(tactic| first | with_reducible assumption | (with_reducible apply Off.mk; wtm_at "pen"; assumption) | (with_reducible refine Off.new (by assumption) _ _ ?_; wtm_at "off2") | (with_reducible refine at_same (by with_reducible assumption) ?_; wtm_at "off2"))
local macro_rules | `(tactic| wtm_at "at3") => `(tactic| first | with_reducible assumption | with_reducible exact upd_same | (with_reducible refine at_new (by assumption) ?_; wtm_at "at2") | (with_reducible refine at_same (by with_reducible assumption) ?_; wtm_at "at2") | (with_reducible apply Off.at; wtm_at "off3"))
local macro_rules | `(tactic| wtm_at "off4") => `(tactic| first | with_reducible assumption | (with_reducible apply Off.mk; wtm_at "pen"; assumption) | (with_reducible refine Off.new (by assumption) _ _ ?_; wtm_at "off3") | (with_reducible refine at_same (by with_reducible assumption) ?_; wtm_at "off3"))
local macro_rules | `(tactic| wtm_at "at4") => `(tactic| first | with_reducible assumption | with_reducible exact upd_same | (with_reducible refine at_new (by assumption) ?_; wtm_at "at3") | (with_reducible refine at_same (by with_reducible assumption) ?_; wtm_at "at3") | (with_reducible apply Off.at; wtm_at "off4"))
local macro_rules | `(tactic| wtm_at "off5") => `(tactic| first | with_reducible assumption | (with_reducible apply Off.mk; wtm_at "pen"; assumption) | (with_reducible refine Off.new (by assumption) _ _ ?_; wtm_at "off4") | (with_reducible refine at_same (by with_reducible assumption) ?_; wtm_at "off4"))
local macro_rules | `(tactic| wtm_at "at5") => `(tactic| first | with_reducible assumption | with_reducible exact upd_same | (with_reducible refine at_new (by assumption) ?_; wtm_at "at4") | (with_reducible refine at_same (by with_reducible assumption) ?_; wtm_at "at4") | (with_reducible apply Off.at; wtm_at "off5"))
local macro_rules | `(tactic| wtm_at "off6") => `(tactic| first | with_reducible assumption | (with_reducible apply Off.mk; wtm_at "pen"; assumption) | (with_reducible refine Off.new (by assumption) _ _ ?_; wtm_at "off5") | (with_reducible refine at_same (by with_reducible assumption) ?_; wtm_at "off5"))
local macro_rules | `(tactic| wtm_at "at6") => `(tactic| first | with_reducible assumption | with_reducible exact upd_same | (with_reducible refine at_new (by assumption) ?_; wtm_at "at5") | (with_reducible refine at_same (by with_reducible assumption) ?_; wtm_at "at5") | (with_reducible apply Off.at; wtm_at "off6"))
local macro_rules | `(tactic| wtm_at "off7") => `(tactic| first | with_reducible assumption | (with_reducible apply Off.mk; wtm_at "pen"; assumption) | (with_reducible refine Off.new (by assumption) _ _ ?_; wtm_at "off6") | (with_reducible refine at_same (by with_reducible assumption) ?_; wtm_at "off6"))
local macro_rules | `(tactic| wtm_at "at7") => `(tactic| first | with_reducible assumption | with_reducible exact upd_same | (with_reducible refine at_new (by assumption) ?_; wtm_at "at6") | (with_reducible refine at_same (by with_reducible assumption) ?_; wtm_at "at6") | (with_reducible apply Off.at; wtm_at "off7"))
local macro_rules | `(tactic| wtm_at "off8") => `(tactic| first | with_reducible assumption | (with_reducible apply Off.mk; wtm_at "pen"; assumption) | (with_reducible refine Off.new (by assumption) _ _ ?_; wtm_at "off7") | (with_reducible refine at_same (by with_reducible assumption) ?_; wtm_at "off7"))
local macro_rules | `(tactic| wtm_at "at8") => `(tactic| first | with_reducible assumption | with_reducible exact upd_same | (with_reducible refine at_new (by assumption) ?_; wtm_at "at7") | (with_reducible refine at_same (by with_reducible assumption) ?_; wtm_at "at7") | (with_reducible apply Off.at; wtm_at "off8"))
local macro_rules | `(tactic| wtm_at "off9") => `(tactic| first | with_reducible assumption | (with_reducible apply Off.mk; wtm_at "pen"; assumption) | (with_reducible refine Off.new (by assumption) _ _ ?_; wtm_at "off8") | (with_reducible refine at_same (by with_reducible assumption) ?_; wtm_at "off8"))
local macro_rules | `(tactic| wtm_at "at9") => `(tactic| first | with_reducible assumption | with_reducible exact upd_same | (with_reducible refine at_new (by assumption) ?_; wtm_at "at8") | (with_reducible refine at_same (by with_reducible assumption) ?_; wtm_at "at8") | (with_reducible apply Off.at; wtm_at "off9"))
local macro_rules | `(tactic| wtm_at "off10") => `(tactic| first | with_reducible assumption | (with_reducible apply Off.mk; wtm_at "pen"; assumption) | (with_reducible refine Off.new (by assumption) _ _ ?_; wtm_at "off9") | (with_reducible refine at_same (by with_reducible assumption) ?_; wtm_at "off9"))
local macro_rules | `(tactic| wtm_at "at10") => `(tactic| first | with_reducible assumption | with_reducible exact upd_same | (with_reducible refine at_new (by assumption) ?_; wtm_at "at9") | (with_reducible refine at_same (by with_reducible assumption) ?_; wtm_at "at9") | (with_reducible apply Off.at; wtm_at "off10"))
local macro_rules | `(tactic| wtm_at "off11") => `(tactic| first | with_reducible assumption | (with_reducible apply Off.mk; wtm_at "pen"; assumption) | (with_reducible refine Off.new (by assumption) _ _ ?_; wtm_at "off10") | (with_reducible refine at_same (by with_reducible assumption) ?_; wtm_at "off10"))
local macro_rules | `(tactic| wtm_at "at11") => `(tactic| first | with_reducible assumption | with_reducible exact upd_same | (with_reducible refine at_new (by assumption) ?_; wtm_at "at10") | (with_reducible refine at_same (by with_reducible assumption) ?_; wtm_at "at10") | (with_reducible apply Off.at; wtm_at "off11"))
local macro_rules | `(tactic| wtm_at "off12") => `(tactic| first | with_reducible assumption | (with_reducible apply Off.mk; wtm_at "pen"; assumption) | (with_reducible refine Off.new (by assumption) _ _ ?_; wtm_at "off11") | (with_reducible refine at_same (by with_reducible assumption) ?_; wtm_at "off11"))
local macro_rules | `(tactic| wtm_at "at12") => `(tactic| first | with_reducible assumption | with_reducible exact upd_same | (with_reducible refine at_new (by assumption) ?_; wtm_at "at11") | (with_reducible refine at_same (by with_reducible assumption) ?_; wtm_at "at11") | (with_reducible apply Off.at; wtm_at "off12"))
local macro_rules | `(tactic| wtm_at "off13") => `(tactic| first | with_reducible assumption | (with_reducible apply Off.mk; wtm_at "pen"; assumption) | (with_reducible refine Off.new (by assumption) _ _ ?_; wtm_at "off12") | (with_reducible refine at_same (by with_reducible assumption) ?_; wtm_at "off12"))
local macro_rules | `(tactic| wtm_at "at13") => `(tactic| first | with_reducible assumption | with_reducible exact upd_same | (with_reducible refine at_new (by assumption) ?_; wtm_at "at12") | (with_reducible refine at_same (by with_reducible assumption) ?_; wtm_at "at12") | (with_reducible apply Off.at; wtm_at "off13"))
local macro_rules | `(tactic| wtm_at "off14") => `(tactic| first | with_reducible assumption | (with_reducible apply Off.mk; wtm_at "pen"; assumption) | (with_reducible refine Off.new (by assumption) _ _ ?_; wtm_at "off13") | (with_reducible refine at_same (by with_reducible assumption) ?_; wtm_at "off13"))
local macro_rules | `(tactic| wtm_at "at14") => `(tactic| first | with_reducible assumption | with_reducible exact upd_same | (with_reducible refine at_new (by assumption) ?_; wtm_at "at13") | (with_reducible refine at_same (by with_reducible assumption) ?_; wtm_at "at13") | (with_reducible apply Off.at; wtm_at "off14"))
local macro_rules | `(tactic| wtm_at "off15") => `(tactic| first | with_reducible assumption | (with_reducible apply Off.mk; wtm_at "pen"; assumption) | (with_reducible refine Off.new (by assumption) _ _ ?_; wtm_at "off14") | (with_reducible refine at_same (by with_reducible assumption) ?_; wtm_at "off14"))
local macro_rules | `(tactic| wtm_at "at15") => `(tactic| first | with_reducible assumption | with_reducible exact upd_same | (with_reducible refine at_new (by assumption) ?_; wtm_at "at14") | (with_reducible refine at_same (by with_reducible assumption) ?_; wtm_at "at14") | (with_reducible apply Off.at; wtm_at "off15"))
local macro_rules | `(tactic| wtm_at "off16") => `(tactic| first | with_reducible assumption | (with_reducible apply Off.mk; wtm_at "pen"; assumption) | (with_reducible refine Off.new (by assumption) _ _ ?_; wtm_at "off15") | (with_reducible refine at_same (by with_reducible assumption) ?_; wtm_at "off15"))
local macro_rules | `(tactic| wtm_at "at16") => `(tactic| first | with_reducible assumption | with_reducible exact upd_same | (with_reducible refine at_new (by assumption) ?_; wtm_at "at15") | (with_reducible refine at_same (by with_reducible assumption) ?_; wtm_at "at15") | (with_reducible apply Off.at; wtm_at "off16"))
local macro_rules | `(tactic| wtm_at "off17") => `(tactic| first | with_reducible assumption | (with_reducible apply Off.mk; wtm_at "pen"; assumption) | (with_reducible refine Off.new (by assumption) _ _ ?_; wtm_at "off16") | (with_reducible refine at_same (by with_reducible assumption) ?_; wtm_at "off16"))
local macro_rules | `(tactic| wtm_at "at17") => `(tactic| first | with_reducible assumption | with_reducible exact upd_same | (with_reducible refine at_new (by assumption) ?_; wtm_at "at16") | (with_reducible refine at_same (by with_reducible assumption) ?_; wtm_at "at16") | (with_reducible apply Off.at; wtm_at "off17"))
local macro_rules | `(tactic| wtm_at "off18") => `(tactic| first | with_reducible assumption | (with_reducible apply Off.mk; wtm_at "pen"; assumption) | (with_reducible refine Off.new (by assumption) _ _ ?_; wtm_at "off17") | (with_reducible refine at_same (by with_reducible assumption) ?_; wtm_at "off17"))
local macro_rules | `(tactic| wtm_at "at18") => `(tactic| first | with_reducible assumption | with_reducible exact upd_same | (with_reducible refine at_new (by assumption) ?_; wtm_at "at17") | (with_reducible refine at_same (by with_reducible assumption) ?_; wtm_at "at17") | (with_reducible apply Off.at; wtm_at "off18"))
local macro_rules | `(tactic| wtm_at "off19") => `(tactic| first | with_reducible assumption | (with_reducible apply Off.mk; wtm_at "pen"; assumption) | (with_reducible refine Off.new (by assumption) _ _ ?_; wtm_at "off18") | (with_reducible refine at_same (by with_reducible assumption) ?_; wtm_at "off18"))
local macro_rules | `(tactic| wtm_at "at19") => `(tactic| first | with_reducible assumption | with_reducible exact upd_same | (with_reducible refine at_new (by assumption) ?_; wtm_at "at18") | (with_reducible refine at_same (by with_reducible assumption) ?_; wtm_at "at18") | (with_reducible apply Off.at; wtm_at "off19"))
local macro_rules | `(tactic| wtm_at "off20") => `(tactic| first | with_reducible assumption | (with_reducible apply Off.mk; wtm_at "pen"; assumption) | (with_reducible refine Off.new (by assumption) _ _ ?_; wtm_at "off19") | (with_reducible refine at_same (by with_reducible assumption) ?_; wtm_at "off19"))
local macro_rules | `(tactic| wtm_at "at20") => `(tactic| first | with_reducible assumption | with_reducible exact upd_same | (with_reducible refine at_new (by assumption) ?_; wtm_at "at19") | (with_reducible refine at_same (by with_reducible assumption) ?_; wtm_at "at19") | (with_reducible apply Off.at; wtm_at "off20"))
local macro_rules | `(tactic| wtm_at "off21") => `(tactic| first | with_reducible assumption | (with_reducible apply Off.mk; wtm_at "pen"; assumption) | (with_reducible refine Off.new (by assumption) _ _ ?_; wtm_at "off20") | (with_reducible refine at_same (by with_reducible assumption) ?_; wtm_at "off20"))
local macro_rules | `(tactic| wtm_at "at21") => `(tactic| first | with_reducible assumption | with_reducible exact upd_same | (with_reducible refine at_new (by assumption) ?_; wtm_at "at20") | (with_reducible refine at_same (by with_reducible assumption) ?_; wtm_at "at20") | (with_reducible apply Off.at; wtm_at "off21"))
local macro_rules | `(tactic| wtm_at "off22") => `(tactic| first | with_reducible assumption | (with_reducible apply Off.mk; wtm_at "pen"; assumption) | (with_reducible refine Off.new (by assumption) _ _ ?_; wtm_at "off21") | (with_reducible refine at_same (by with_reducible assumption) ?_; wtm_at "off21"))
local macro_rules | `(tactic| wtm_at "at22") => `(tactic| first | with_reducible assumption | with_reducible exact upd_same | (with_reducible refine at_new (by assumption) ?_; wtm_at "at21") | (with_reducible refine at_same (by with_reducible assumption) ?_; wtm_at "at21") | (with_reducible apply Off.at; wtm_at "off22"))
local macro_rules | `(tactic| wtm_at "off23") => `(tactic| first | with_reducible assumption | (with_reducible apply Off.mk; wtm_at "pen"; assumption) | (with_reducible refine Off.new (by assumption) _ _ ?_; wtm_at "off22") | (with_reducible refine at_same (by with_reducible assumption) ?_; wtm_at "off22"))
local macro_rules | `(tactic| wtm_at "at23") => `(tactic| first | with_reducible assumption | with_reducible exact upd_same | (with_reducible refine at_new (by assumption) ?_; wtm_at "at22") | (with_reducible refine at_same (by with_reducible assumption) ?_; wtm_at "at22") | (with_reducible apply Off.at; wtm_at "off23"))
local macro_rules | `(tactic| wtm_at "off24") => `(tactic| first | with_reducible assumption | (with_reducible apply Off.mk; wtm_at "pen"; assumption) | (with_reducible refine Off.new (by assumption) _ _ ?_; wtm_at "off23") | (with_reducible refine at_same (by with_reducible assumption) ?_; wtm_at "off23"))
local macro_rules | `(tactic| wtm_at "at24") => `(tactic| first | with_reducible assumption | with_reducible exact upd_same | (with_reducible refine at_new (by assumption) ?_; wtm_at "at23") | (with_reducible refine at_same (by with_reducible assumption) ?_; wtm_at "at23") | (with_reducible apply Off.at; wtm_at "off24"))
local macro_rules | `(tactic| wtm_at "off25") => `(tactic| first | with_reducible assumption | (with_reducible apply Off.mk; wtm_at "pen"; assumption) | (with_reducible refine Off.new (by assumption) _ _ ?_; wtm_at "off24") | (with_reducible refine at_same (by with_reducible assumption) ?_; wtm_at "off24"))
local macro_rules | `(tactic| wtm_at "at25") => `(tactic| first | with_reducible assumption | with_reducible exact upd_same | (with_reducible refine at_new (by assumption) ?_; wtm_at "at24") | (with_reducible refine at_same (by with_reducible assumption) ?_; wtm_at "at24") | (with_reducible apply Off.at; wtm_at "off25"))
local macro_rules | `(tactic| wtm_at "off26") => `(tactic| first | with_reducible assumption | (with_reducible apply Off.mk; wtm_at "pen"; assumption) | (with_reducible refine Off.new (by assumption) _ _ ?_; wtm_at "off25") | (with_reducible refine at_same (by with_reducible assumption) ?_; wtm_at "off25"))
local macro_rules | `(tactic| wtm_at "at26") => `(tactic| first | with_reducible assumption | with_reducible exact upd_same | (with_reducible refine at_new (by assumption) ?_; wtm_at "at25") | (with_reducible refine at_same (by with_reducible assumption) ?_; wtm_at "at25") | (with_reducible apply Off.at; wtm_at "off26"))
local macro_rules | `(tactic| wtm_at "off27") => `(tactic| first | with_reducible assumption | (with_reducible apply Off.mk; wtm_at "pen"; assumption) | (with_reducible refine Off.new (by assumption) _ _ ?_; wtm_at "off26") | (with_reducible refine at_same (by with_reducible assumption) ?_; wtm_at "off26"))
local macro_rules | `(tactic| wtm_at "at27") => `(tactic| first | with_reducible assumption | with_reducible exact upd_same | (with_reducible refine at_new (by assumption) ?_; wtm_at "at26") | (with_reducible refine at_same (by with_reducible assumption) ?_; wtm_at "at26") | (with_reducible apply Off.at; wtm_at "off27"))
local macro_rules | `(tactic| wtm_at "off28") => `(tactic| first | with_reducible assumption | (with_reducible apply Off.mk; wtm_at "pen"; assumption) | (with_reducible refine Off.new (by assumption) _ _ ?_; wtm_at "off27") | (with_reducible refine at_same (by with_reducible assumption) ?_; wtm_at "off27"))
local macro_rules | `(tactic| wtm_at "at28") => `(tactic| first | with_reducible assumption | with_reducible exact upd_same | (with_reducible refine at_new (by assumption) ?_; wtm_at "at27") | (with_reducible refine at_same (by with_reducible assumption) ?_; wtm_at "at27") | (with_reducible apply Off.at; wtm_at "off28"))
local macro_rules | `(tactic| wtm_at "off29") => `(tactic| first | with_reducible assumption | (with_reducible apply Off.mk; wtm_at "pen"; assumption) | (with_reducible refine Off.new (by assumption) _ _ ?_; wtm_at "off28") | (with_reducible refine at_same (by with_reducible assumption) ?_; wtm_at "off28"))
local macro_rules | `(tactic| wtm_at "at29") => `(tactic| first | with_reducible assumption | with_reducible exact upd_same | (with_reducible refine at_new (by assumption) ?_; wtm_at "at28") | (with_reducible refine at_same (by with_reducible assumption) ?_; wtm_at "at28") | (with_reducible apply Off.at; wtm_at "off29"))
local macro_rules | `(tactic| wtm_at "off30") => `(tactic| first | with_reducible assumption | (with_reducible apply Off.mk; wtm_at "pen"; assumption) | (with_reducible refine Off.new (by assumption) _ _ ?_; wtm_at "off29") | (with_reducible refine at_same (by with_reducible assumption) ?_; wtm_at "off29"))
local macro_rules | `(tactic| wtm_at "at30") => `(tactic| first | with_reducible assumption | with_reducible exact upd_same | (with_reducible refine at_new (by assumption) ?_; wtm_at "at29") | (with_reducible refine at_same (by with_reducible assumption) ?_; wtm_at "at29") | (with_reducible apply Off.at; wtm_at "off30"))
local macro_rules | `(tactic| wtm_at "off31") => `(tactic| first | with_reducible assumption | (with_reducible apply Off.mk; wtm_at "pen"; assumption) | (with_reducible refine Off.new (by assumption) _ _ ?_; wtm_at "off30") | (with_reducible refine at_same (by with_reducible assumption) ?_; wtm_at "off30"))
local macro_rules | `(tactic| wtm_at "at31") => `(tactic| first | with_reducible assumption | with_reducible exact upd_same | (with_reducible refine at_new (by assumption) ?_; wtm_at "at30") | (with_reducible refine at_same (by with_reducible assumption) ?_; wtm_at "at30") | (with_reducible apply Off.at; wtm_at "off31"))
local macro_rules | `(tactic| wtm_at "off32") => `(tactic| first | with_reducible assumption | (with_reducible apply Off.mk; wtm_at "pen"; assumption) | (with_reducible refine Off.new (by assumption) _ _ ?_; wtm_at "off31") | (with_reducible refine at_same (by with_reducible assumption) ?_; wtm_at "off31"))
local macro_rules | `(tactic| wtm_at "at32") => `(tactic| first | with_reducible assumption | with_reducible exact upd_same | (with_reducible refine at_new (by assumption) ?_; wtm_at "at31") | (with_reducible refine at_same (by with_reducible assumption) ?_; wtm_at "at31") | (with_reducible apply Off.at; wtm_at "off32"))
local macro_rules | `(tactic| wtm_at "off33") => `(tactic| first | with_reducible assumption | (with_reducible apply Off.mk; wtm_at "pen"; assumption) | (with_reducible refine Off.new (by assumption) _ _ ?_; wtm_at "off32") | (with_reducible refine at_same (by with_reducible assumption) ?_; wtm_at "off32"))
local macro_rules | `(tactic| wtm_at "at33") => `(tactic| first | with_reducible assumption | with_reducible exact upd_same | (with_reducible refine at_new (by assumption) ?_; wtm_at "at32") | (with_reducible refine at_same (by with_reducible assumption) ?_; wtm_at "at32") | (with_reducible apply Off.at; wtm_at "off33"))
local macro_rules | `(tactic| wtm_at "off34") => `(tactic| first | with_reducible assumption | (with_reducible apply Off.mk; wtm_at "pen"; assumption) | (with_reducible refine Off.new (by assumption) _ _ ?_; wtm_at "off33") | (with_reducible refine at_same (by with_reducible assumption) ?_; wtm_at "off33"))
local macro_rules | `(tactic| wtm_at "at34") => `(tactic| first | with_reducible assumption | with_reducible exact upd_same | (with_reducible refine at_new (by assumption) ?_; wtm_at "at33") | (with_reducible refine at_same (by with_reducible assumption) ?_; wtm_at "at33") | (with_reducible apply Off.at; wtm_at "off34"))
local macro_rules | `(tactic| wtm_at "off35") => `(tactic| first | with_reducible assumption | (with_reducible apply Off.mk; wtm_at "pen"; assumption) | (with_reducible refine Off.new (by assumption) _ _ ?_; wtm_at "off34") | (with_reducible refine at_same (by with_reducible assumption) ?_; wtm_at "off34"))
local macro_rules | `(tactic| wtm_at "at35") => `(tactic| first | with_reducible assumption | with_reducible exact upd_same | (with_reducible refine at_new (by assumption) ?_; wtm_at "at34") | (with_reducible refine at_same (by with_reducible assumption) ?_; wtm_at "at34") | (with_reducible apply Off.at; wtm_at "off35"))
local macro_rules | `(tactic| wtm_at "off36") => `(tactic| first | with_reducible assumption | (with_reducible apply Off.mk; wtm_at "pen"; assumption) | (with_reducible refine Off.new (by assumption) _ _ ?_; wtm_at "off35") | (with_reducible refine at_same (by with_reducible assumption) ?_; wtm_at "off35"))
local macro_rules | `(tactic| wtm_at "at36") => `(tactic| first | with_reducible assumption | with_reducible exact upd_same | (with_reducible refine at_new (by assumption) ?_; wtm_at "at35") | (with_reducible refine at_same (by with_reducible assumption) ?_; wtm_at "at35") | (with_reducible apply Off.at; wtm_at "off36"))
local macro_rules | `(tactic| wtm_at "off37") => `(tactic| first | with_reducible assumption | (with_reducible apply Off.mk; wtm_at "pen"; assumption) | (with_reducible refine Off.new (by assumption) _ _ ?_; wtm_at "off36") | (with_reducible refine at_same (by with_reducible assumption) ?_; wtm_at "off36"))
local macro_rules | `(tactic| wtm_at "at37") => `(tactic| first | with_reducible assumption | with_reducible exact upd_same | (with_reducible refine at_new (by assumption) ?_; wtm_at "at36") | (with_reducible refine at_same (by with_reducible assumption) ?_; wtm_at "at36") | (with_reducible apply Off.at; wtm_at "off37"))
local macro_rules | `(tactic| wtm_at "off38") => `(tactic| first | with_reducible assumption | (with_reducible apply Off.mk; wtm_at "pen"; assumption) | (with_reducible refine Off.new (by assumption) _ _ ?_; wtm_at "off37") | (with_reducible refine at_same (by with_reducible assumption) ?_; wtm_at "off37"))
local macro_rules | `(tactic| wtm_at "at38") => `(tactic| first | with_reducible assumption | with_reducible exact upd_same | (with_reducible refine at_new (by assumption) ?_; wtm_at "at37") | (with_reducible refine at_same (by with_reducible assumption) ?_; wtm_at "at37") | (with_reducible apply Off.at; wtm_at "off38"))
local macro_rules | `(tactic| wtm_at "off39") => `(tactic| first | with_reducible assumption | (with_reducible apply Off.mk; wtm_at "pen"; assumption) | (with_reducible refine Off.new (by assumption) _ _ ?_; wtm_at "off38") | (with_reducible refine at_same (by with_reducible assumption) ?_; wtm_at "off38"))
local macro_rules | `(tactic| wtm_at "at39") => `(tactic| first | with_reducible assumption | with_reducible exact upd_same | (with_reducible refine at_new (by assumption) ?_; wtm_at "at38") | (with_reducible refine at_same (by with_reducible assumption) ?_; wtm_at "at38") | (with_reducible apply Off.at; wtm_at "off39"))
local macro_rules | `(tactic| wtm_at "at") => `(tactic| wtm_at "at39")
local macro_rules | `(tactic| wtm_at "off") => `(tactic| wtm_at "off39")
local macro_rules | `(tactic| wtm_at "pen") => `(tactic| first
  | assumption | (refine Pen.new (by assumption) ?_; wtm_at "pen") | (refine Pen.same (by assumption) ?_; wtm_at "pen"))
local macro_rules | `(tactic| wtm_at "same") => `(tactic| first
  | exact fun _ _ h => h | assumption | exact same_new (by assumption) | (refine same_trans ?_ (same_new (by assumption)); wtm_at "same") | (refine same_trans ?_ (by assumption); wtm_at "same")
  | (refine same_trans ?_ (Off.new (by assumption)); wtm_at "same") | (refine same_trans ?_ (Off.same (by assumption)); wtm_at "same"))
local macro_rules | `(tactic| wtm_at "dps") => `(tactic| first
  | exact .nil | (apply DpAll.cons; wtm_at "dp"; wtm_at "dps") | exact dpAll_ints _)
local macro_rules | `(tactic| wtm_at "dp") => `(tactic| first
  | exact .non | exact .bl _ | exact .int _ | exact .str _ | (exact dp_O _) | (apply Dp.lst; (apply SqL.of; wtm_at "at"); wtm_at "dps") | (apply Dp.tup; (apply SqT.of; wtm_at "at"); wtm_at "dps"))
local macro_rules | `(tactic| wtm_at "side") => `(tactic| first
  | exact ⟨by decide, by decide⟩ | exact ⟨by decide, by decide, by decide⟩ | exact .inl ⟨by decide, by decide⟩ | exact .inr ⟨by decide, by decide⟩ | (show ¬ _ = _; decide))
local macro_rules | `(tactic| wtm_at "sml") => `(tactic| first
  | exact sml_none (by decide) | exact sml_bool (by decide) | exact sml_int (by decide) (by omega) | (exact sml_O (by decide) (by assumption)) | exact sml_list (n := 19) (k := 0) (by wtm_at "smls") (by decide) (by decide))
local macro_rules | `(tactic| wtm_at "smls") => `(tactic| first | exact smlAll_nil (m := 0) | (apply smlAll_cons; wtm_at "sml"; wtm_at "smls"))
local macro_rules | `(tactic| wtm_at "shw") => `(tactic| exact Sml.shw (n := 10000) (k := 50) (by wtm_at "sml") (by decide) (by decide))
local macro_rules | `(tactic| wtm_at "rd") => `(tactic| first
  | refine ⟨_, rfl, ?_⟩ | refine ⟨_, _, rfl, rfl, ?_⟩ | refine ifT rfl ?_ | refine ifF rfl ?_ | refine ⟨rfl, ?_⟩
  | refine ⟨_, _, rfl, ?_⟩
  | refine ⟨_, _, by rfl, by wtm_at "dp", by wtm_at "shw", ?_⟩
  | refine ⟨_, _, _, _, _, rfl, by wtm_at "at", by wtm_at "cls", by wtm_at "na", by rfl, ?_⟩
  | refine ⟨_, _, rfl, rfl, by wtm_at "side", ?_⟩
  | refine ⟨_, _, by wtm_at "dp", by wtm_at "dp", by rfl, by rfl, ?_⟩
  | refine ⟨_, _, [_, _], [_, _], rfl, rfl, sqI2 (by wtm_at "at"), sqI2 (by wtm_at "at"), ?_⟩
  | refine ⟨Nat.le_of_ble_eq_true rfl, fun _ _ => ?_⟩
  | refine ifF (nd_refl _) ?_ | refine ifT (de_refl _) ?_)
local macro_rules | `(tactic| wtm_at "cls") => `(tactic| first | exact cls_Lag _)
local macro_rules | `(tactic| wtm_at "na") => `(tactic| first | exact na_Lag_rounds _ | exact na_Lag_lacking _ | exact na_Lag_far _)

theorem pen_cut (ns : List Int) : ∃ ms : List Int, cutV (ns.map V.int) none (some 63) = ms.map V.int ∧ ms.length ≤ 63 := by
  refine ⟨ns.take (HT.sIx ns.length ns.length (some 63)), ?_, ?_⟩
  · unfold cutV
    rw [List.length_map, HT.sIx_none, List.drop_zero, Nat.sub_zero, List.map_take]
  · rw [List.length_take]
    have : HT.sIx ns.length ns.length (some 63) = min 63 ns.length := HT.sIx_nat _ _ 63
    omega
/-- a value that is no lag -/
def Oth (K : PySem.W.Frag) (H : Hp) (y : V) : Prop := ∃ t, TyX K H y t ∧ PySem.W.kitOne K t (.ref 69) = some false ∧ PySem.W.notFirst K 69 t = true
def spOne : Sp := fun vs H Q _ => ∃ n, vs = [vO n] ∧ okN n ∧ ∀ H', Same H H' → Q (.bl true) H'
def spPen (K : PySem.W.Frag) : Sp := fun vs H Q _ => ∃ (a : Addr) (ns : List Int), vs = [.ref a] ∧ SqL K H a (ns.map V.int) ∧ ∀ p c H', Same H H' → Pen H' p c 0 → Q (.ref p) H'
section
variable {mg : PySem.Str → Option Value} {base : Heap} {w : World}
theorem ok__law_pen (M : Mod (hd19.heap_39 w.params) mg base) : CallG PP w (hd19.heap_39 w.params) mg base 1 (.ref 80) (pos (spPen (hd19.heap_39 w.params))) := by
  obtain ⟨fd, F⟩ := fn__law_pen w
  refine def_pos F sc__law_pen (fun vs H Q E h => ?_) (fun _ _ _ _ _ _ us hl => match us, hl with | [_], _ => rfl) (fun cdv A outer s H vs Q E hr hg h => ?_)
  · obtain ⟨a, ns, rfl, _⟩ := h; rfl
  have nd := sc__law_pen.nd
  obtain ⟨a, ns, rfl, ha, q⟩ := h
  refine ⟨_, (pss_one (ps_ret (pe_lst (pa_cons (pe_callTy call_list_of (by rfl) (mn_list M) (by decide +kernel) (pa_cons (pe_slice sl_list (pv 0) po_none (po_some pe_int)) pa_nil)) (pa_cons pe_int (pa_cons pe_int pa_nil)))))), ?_⟩
  repeat wtm_at "rd"
  refine ⟨a, _, rfl, ha, fun p hp => ⟨p, _, rfl, .inl (SqL.of upd_same), fun l hl => ⟨Nat.le_of_ble_eq_true rfl, fun z hz => ?_⟩⟩⟩
  obtain ⟨ms, em, lm⟩ := pen_cut ns
  refine q z l _ (by wtm_at "same") ⟨0, 0, ms, upd_same, ?_, lm, Int.le_refl _, Int.le_refl _⟩
  rw [← em]
  wtm_at "at"
theorem ok__law_one_right (M : Mod (hd19.heap_39 w.params) mg base) : CallG PP w (hd19.heap_39 w.params) mg base 4 (.ref 127) (pos spOne) := by
  obtain ⟨fd, F⟩ := fn__law_one_right w
  refine def_pos F sc__law_one_right (fun vs H Q E h => ?_) (fun _ _ _ _ _ _ us hl => match us, hl with | [_], _ => rfl) (fun cdv A outer s H vs Q E hr hg h => ?_)
  · obtain ⟨n, rfl, _⟩ := h; rfl
  have nd := sc__law_one_right.nd
  obtain ⟨n, rfl, kn, q⟩ := h
  refine ⟨_, (pss_cons (ps_set (i := 1) nd rfl (.inl rfl) (pe_mkG (takes_of rfl rfl rfl rfl) (mk_Lag w) (ok_Lag___init__ M) (hr.mono (by decide)) hg rfl (mg_Lag M) (pa_cons (pv 0) pa_nil)))
      (pss_cons (ps_if (PW.pt (pw_or (pt_cmpR op_ne (pe_callB (call_repr hg (hu_big hr)) (by rfl) (mn_repr M) (by decide +kernel) (pa_cons (pe_fld (pv 1) rfl) pa_nil)) (pe_callB (call_repr hg (hu_big hr)) (by rfl) (mn_repr M) (by decide +kernel) (pa_cons (pv 0) pa_nil)) (nomark _)) (pw_or (pt_cmpR op_ne (pe_callTy (call_boolO (ok_Lag___bool__ M) (hr.mono (by decide)) hg (D := fun C => C = 69) (fun C e => by subst e; exact own_Lag_bool w)) (by rfl) (mn_bool M) (by decide +kernel) (pa_cons (pv 1) pa_nil)) (pe_cmpR op_notN (pv 0) pe_non (nomark _)) (nomark _)) (pw_or1 (pt_cmpR (op_neO (ok_Lag___eq__ M) (hr.mono (by decide)) hg (D := fun C => C = 69) (fun C e => by subst e; exact own_Lag_ne w)) (pv 1) (pe_mkG (takes_of rfl rfl rfl rfl) (mk_Lag w) (ok_Lag___init__ M) (hr.mono (by decide)) hg rfl (mg_Lag M) (pa_cons (pv 0) pa_nil)) (nomark _)))))) (pss_one (ps_ret pe_bl)) pss_nil)
      (pss_cons (ps_for (passes_of rfl) rfl (pi_list (pe_lst (pa_cons (pv 0) (pa_cons pe_non (pa_cons pe_int (pa_cons pe_str (pa_cons (pe_tup pa_nil) (pa_cons (pe_lst pa_nil) (pa_cons (pe_tup (pa_cons (pv 0) pa_nil)) (pa_cons pe_bl pa_nil)))))))))) (pg_name (i := 2) nd rfl (.inl rfl)) (pss_one (ps_if (PW.pt (pw_or (pt_cmpR (op_eqO (ok_Lag___eq__ M) (hr.mono (by decide)) hg (D := fun C => C = 69) (fun C e => by subst e; exact own_Lag_eq w)) (pv 1) (pv 2) (nomark _)) (pw_or1 (pt_not (pt_cmpR (op_neO (ok_Lag___eq__ M) (hr.mono (by decide)) hg (D := fun C => C = 69) (fun C e => by subst e; exact own_Lag_ne w)) (pv 1) (pv 2) (nomark _)))))) (pss_one (ps_ret pe_bl)) pss_nil)))
      (pss_one (ps_ret (pe_and (pe_cmpR op_eq (pe_cmpR (op_eqO (ok_Lag___eq__ M) (hr.mono (by decide)) hg (D := fun C => C = 69) (fun C e => by subst e; exact own_Lag_eq w)) (pv 1) (pe_sm0 (takes_of rfl rfl rfl rfl) (pe_glob (v := .ref 69) rfl (mg_Lag M) rfl) (sm_Lag_none w) (ok_Lag_none M) (hr.mono (by decide)) hg) (nomark _)) (pe_cmpR op_isN (pv 0) pe_non (nomark _)) (nomark _)) (pe_and (pe_cmpR (op_eqO (ok_Lag___eq__ M) (hr.mono (by decide)) hg (D := fun C => C = 69) (fun C e => by subst e; exact own_Lag_eq w)) (pe_op (op_binO (ok_Lag___add__ M) (hr.mono (by decide)) hg (D := fun C => C = 69) (fun C e => by subst e; exact own_Lag_add w)) (pv 1) (pe_mkG (takes_of rfl rfl rfl rfl) (mk_Lag w) (ok_Lag___init__ M) (hr.mono (by decide)) hg rfl (mg_Lag M) (pa_cons pe_int pa_nil))) (pv 1) (nomark _)) (pe_one (pe_cmpR op_isN (pe_fld (pe_sm0 (takes_of rfl rfl rfl rfl) (pe_glob (v := .ref 69) rfl (mg_Lag M) rfl) (sm_Lag_none w) (ok_Lag_none M) (hr.mono (by decide)) hg) rfl) pe_non (nomark _)))))))))), ?_⟩
  refine ⟨_, rfl, rfl, New.mk fun a dx H1 s1 e1 => ?_⟩
  have bn := kn.bnd
  repeat wtm_at "rd"
  refine ⟨a, 69, dx, _, rfl, rfl, by wtm_at "at", rfl, a, dx, n, rfl, by wtm_at "at", _, rfl, ?_⟩
  wtm_at "rd"
  refine ⟨rfl, rfl, _, rfl, ifF (by cases n <;> rfl) ?_⟩
  wtm_at "rd"
  wtm_at "rd"
  refine ⟨rfl, New.mk fun b dy H2 s2 e2 => ?_⟩
  refine ⟨a, 69, dx, _, _, rfl, rfl, by wtm_at "at", (tyc_Lag w).ty (a := b) (dx := dy) (fs := lagF n) (by wtm_at "at"), nf_Lag w, rfl, a, dx, n, _, rfl, by wtm_at "at", .inl ⟨b, dy, n, rfl, by wtm_at "at", fun H3 s3 => ⟨_, rfl, ?_⟩⟩⟩
  refine ⟨_, rfl, ifF (by simp) ?_⟩
  refine ⟨_, rfl, ?_⟩
  refine ⟨Nat.le_of_ble_eq_true rfl, fun z1 hz1 => ⟨Nat.le_of_ble_eq_true rfl, fun z2 hz2 => ?_⟩⟩
  refine ⟨_, rfl, Nat.le_of_ble_eq_true rfl, fun z3 hz3 => ⟨Nat.le_of_ble_eq_true rfl, fun z hz => ?_⟩⟩
  have hs : Same H (upd (upd (upd (upd H3 z1 (.tup [])) z2 (.lst [])) z3 (.tup [vO n])) z (.lst [vO n, .non, .int 0, .str "", .ref z1, .ref z2, .ref z3, .bl false])) := by wtm_at "same"
  have ha : (upd (upd (upd (upd H3 z1 (.tup [])) z2 (.lst [])) z3 (.tup [vO n])) z (.lst [vO n, .non, .int 0, .str "", .ref z1, .ref z2, .ref z3, .bl false])) a = some (lagO dx n) := by wtm_at "at"
  have g1 : (upd (upd (upd (upd H3 z1 (.tup [])) z2 (.lst [])) z3 (.tup [vO n])) z (.lst [vO n, .non, .int 0, .str "", .ref z1, .ref z2, .ref z3, .bl false])) z1 = some (.tup []) := by wtm_at "at"
  have g2 : (upd (upd (upd (upd H3 z1 (.tup [])) z2 (.lst [])) z3 (.tup [vO n])) z (.lst [vO n, .non, .int 0, .str "", .ref z1, .ref z2, .ref z3, .bl false])) z2 = some (.lst []) := by wtm_at "at"
  have g3 : (upd (upd (upd (upd H3 z1 (.tup [])) z2 (.lst [])) z3 (.tup [vO n])) z (.lst [vO n, .non, .int 0, .str "", .ref z1, .ref z2, .ref z3, .bl false])) z3 = some (.tup [vO n]) := by wtm_at "at"
  have g4 : (upd (upd (upd (upd H3 z1 (.tup [])) z2 (.lst [])) z3 (.tup [vO n])) z (.lst [vO n, .non, .int 0, .str "", .ref z1, .ref z2, .ref z3, .bl false])) z = some (.lst [vO n, .non, .int 0, .str "", .ref z1, .ref z2, .ref z3, .bl false]) := upd_same
  generalize upd (upd (upd (upd H3 z1 (.tup [])) z2 (.lst [])) z3 (.tup [vO n])) z (.lst [vO n, .non, .int 0, .str "", .ref z1, .ref z2, .ref z3, .bl false]) = H9 at *
  refine ⟨z, rfl, ⟨_, SqL.of g4⟩, ?_⟩
  refine for_list (xs := [vO n, .non, .int 0, .str "", .ref z1, .ref z2, .ref z3, .bl false]) (fun i σ H' => (∃ o, σ = [some (vO n), some (.ref a), o]) ∧ Same H9 H') ⟨⟨_, rfl⟩, Same.rfl⟩ (fun i σ H' _ h => SqL.of (h.2 _ _ g4)) (fun i x σ H' hx h => ?_) (fun σ H' h => ?_)
  · obtain ⟨⟨o, rfl⟩, sm⟩ := h
    have oth : Oth (hd19.heap_39 w.params) H' x := by
      have hm := List.mem_of_getElem? hx
      simp only [List.mem_cons, List.not_mem_nil, or_false] at hm
      rcases hm with rfl | rfl | rfl | rfl | rfl | rfl | rfl | rfl
      · cases n with
        | none => exact ⟨_, .base .non, isl_NoneType w, nf_NoneType w⟩
        | some i => exact ⟨_, .base (.int _), isl_int w, nf_int w⟩
      · exact ⟨_, .base .non, isl_NoneType w, nf_NoneType w⟩
      · exact ⟨_, .base (.int _), isl_int w, nf_int w⟩
      · exact ⟨_, .base (.str _), isl_str w, nf_str w⟩
      · exact ⟨_, .base (.tup (sm _ _ g1)), isl_tuple w, nf_tuple w⟩
      · exact ⟨_, .base (.lst (sm _ _ g2)), isl_list w, nf_list w⟩
      · exact ⟨_, .base (.tup (sm _ _ g3)), isl_tuple w, nf_tuple w⟩
      · exact ⟨_, .base (.bl _), isl_bool w, nf_bool w⟩
    obtain ⟨t, ty, is, nf⟩ := oth
    wtm_at "rd"
    wtm_at "rd"
    refine ⟨a, 69, dx, _, _, rfl, rfl, by wtm_at "at", ty, nf, rfl, a, dx, n, _, rfl, by wtm_at "at", .inr ⟨t, ty, is, ?_⟩⟩
    refine ⟨_, rfl, ifF rfl ?_⟩
    wtm_at "rd"
    wtm_at "rd"
    refine ⟨a, 69, dx, _, _, rfl, rfl, by wtm_at "at", ty, nf, rfl, a, dx, n, _, rfl, by wtm_at "at", .inr ⟨t, ty, is, _, rfl, ?_⟩⟩
    refine ⟨_, rfl, ifF rfl ?_⟩
    exact ⟨⟨_, rfl⟩, sm⟩
  · obtain ⟨⟨o, rfl⟩, sm⟩ := h
    wtm_at "rd"
    refine ⟨rfl, rfl, rfl, fun c dz H5 s5 e5 => ?_⟩
    refine ⟨a, 69, dx, _, _, rfl, rfl, by wtm_at "at", (tyc_Lag w).ty (a := c) (dx := dz) (fs := lagF none) (by wtm_at "at"), nf_Lag w, rfl, a, dx, n, _, rfl, by wtm_at "at", .inl ⟨c, dz, none, rfl, by wtm_at "at", fun H6 s6 => ?_⟩⟩
    wtm_at "rd"
    refine ⟨rfl, rfl, _, rfl, ifT (by cases n <;> rfl) ?_⟩
    wtm_at "rd"
    refine ⟨rfl, New.mk (n := some 0) fun d dd H7 s7 e7 => ?_⟩
    refine ⟨a, d, 69, dx, dd, _, _, rfl, rfl, rfl, by wtm_at "at", by wtm_at "at", rfl, a, d, dx, dd, n, some 0, rfl, by wtm_at "at", by wtm_at "at", fun c2 dz2 H8 s8 e8 => ?_⟩
    wtm_at "rd"
    refine ⟨c2, 69, dz2, _, _, rfl, rfl, by wtm_at "at", (tyc_Lag w).ty (a := a) (dx := dx) (fs := lagF n) (by wtm_at "at"), nf_Lag w, rfl, c2, dz2, _, _, rfl, by wtm_at "at", .inl ⟨a, dx, n, rfl, by wtm_at "at", fun H10 s10 => ?_⟩⟩
    refine ⟨_, rfl, ifT (by cases n <;> simp [oSum]) ?_⟩
    refine ⟨rfl, rfl, rfl, fun c3 dz3 H11 s11 e11 => ?_⟩
    repeat wtm_at "rd"
    exact q _ (by wtm_at "same")
end
end M19

namespace M19
open PySem PySem.Spec PyProof.Rows L2 StX Uk

local macro_rules | `(tactic| wtm_at "off0") => `(tactic| first | with_reducible assumption | (with_reducible apply Off.mk; wtm_at "pen"; assumption))
local macro_rules | `(tactic| wtm_at "at0") => `(tactic| first | with_reducible assumption | with_reducible exact upd_same | (with_reducible apply Off.at; wtm_at "off0"))
local macro_rules | `(tactic| wtm_at "off1") => `(tactic| first | with_reducible assumption | (with_reducible apply Off.mk; wtm_at "pen"; assumption) | (with_reducible refine Off.new (by assumption) _ _ ?_; wtm_at "off0") | (with_reducible refine at_same (by with_reducible assumption) ?_; wtm_at "off0"))
local macro_rules | `(tactic| wtm_at "at1") => `(tactic| first | with_reducible assumption | with_reducible exact upd_same | (with_reducible refine at_new (by assumption) ?_; wtm_at "at0") | (with_reducible refine at_same (by with_reducible assumption) ?_; wtm_at "at0") | (with_reducible apply Off.at; wtm_at "off1"))
local macro_rules | `(tactic| wtm_at "off2") => `(tactic| first | with_reducible assumption | (with_reducible apply Off.mk; wtm_at "pen"; assumption) | (with_reducible refine Off.new (by assumption) _ _ ?_; wtm_at "off1") | (with_reducible refine at_same (by with_reducible assumption) ?_; wtm_at "off1"))
local macro_rules | `(tactic| wtm_at "at2") => `(tactic| first | with_reducible assumption | with_reducible exact upd_same | (with_reducible refine at_new (by assumption) ?_; wtm_at "at1") | (with_reducible refine at_same (by with_reducible assumption) ?_; wtm_at "at1") | (with_reducible apply Off.at; wtm_at "off2"))
local macro_rules | `(tactic| wtm_at "off3") => `(tactic| first | with_reducible assumption | (with_reducible apply Off.mk; wtm_at "pen"; assumption) | (with_reducible refine Off.new (by assumption) _ _ ?_; wtm_at "off2") | (with_reducible refine at_same (by with_reducible assumption) ?_; wtm_at "off2"))
local macro_rules | `(tactic| wtm_at "at3") => `(tactic| first | with_reducible assumption | with_reducible exact upd_same | (with_reducible refine at_new (by assumption) ?_; wtm_at "at2") | (with_reducible refine at_same (by with_reducible assumption) ?_; wtm_at "at2") | (with_reducible apply Off.at; wtm_at "off3"))
local macro_rules | `(tactic| wtm_at "off4") => `(tactic| first | with_reducible assumption | (with_reducible apply Off.mk; wtm_at "pen"; assumption) | (with_reducible refine Off.new (by assumption) _ _ ?_; wtm_at "off3") | (with_reducible refine at_same (by with_reducible assumption) ?_; wtm_at "off3"))
local macro_rules | `(tactic| wtm_at "at4") => `(tactic| first | with_reducible assumption | with_reducible exact upd_same | (with_reducible refine at_new (by assumption) ?_; wtm_at "at3") | (with_reducible refine at_same (by with_reducible assumption) ?_; wtm_at "at3") | (with_reducible apply Off.at; wtm_at "off4"))
local macro_rules | `(tactic| wtm_at "off5") => `(tactic| first | with_reducible assumption | (with_reducible apply Off.mk; wtm_at "pen"; assumption) | (with_reducible refine Off.new (by assumption) _ _ ?_; wtm_at "off4") | (with_reducible refine at_same (by with_reducible assumption) ?_; wtm_at "off4"))
local macro_rules | `(tactic| wtm_at "at5") => `(tactic| first | with_reducible assumption | with_reducible exact upd_same | (with_reducible refine at_new (by assumption) ?_; wtm_at "at4") | (with_reducible refine at_same (by with_reducible assumption) ?_; wtm_at "at4") | (with_reducible apply Off.at; wtm_at "off5"))
local macro_rules | `(tactic| wtm_at "off6") => `(tactic| first | with_reducible assumption | (with_reducible apply Off.mk; wtm_at "pen"; assumption) | (with_reducible refine Off.new (by assumption) _ _ ?_; wtm_at "off5") | (with_reducible refine at_same (by with_reducible assumption) ?_; wtm_at "off5"))
local macro_rules | `(tactic| wtm_at "at6") => `(tactic| first | with_reducible assumption | with_reducible exact upd_same | (with_reducible refine at_new (by assumption) ?_; wtm_at "at5") | (with_reducible refine at_same (by with_reducible assumption) ?_; wtm_at "at5") | (with_reducible apply Off.at; wtm_at "off6"))
local macro_rules | `(tactic| wtm_at "off7") => `(tactic| first | with_reducible assumption | (with_reducible apply Off.mk; wtm_at "pen"; assumption) | (with_reducible refine Off.new (by assumption) _ _ ?_; wtm_at "off6") | (with_reducible refine at_same (by with_reducible assumption) ?_; wtm_at "off6"))
local macro_rules | `(tactic| wtm_at "at7") => `(tactic| first | with_reducible assumption | with_reducible exact upd_same | (with_reducible refine at_new (by assumption) ?_; wtm_at "at6") | (with_reducible refine at_same (by with_reducible assumption) ?_; wtm_at "at6") | (with_reducible apply Off.at; wtm_at "off7"))
local macro_rules | `(tactic| wtm_at "off8") => `(tactic| first | with_reducible assumption | (with_reducible apply Off.mk; wtm_at "pen"; assumption) | (with_reducible refine Off.new (by assumption) _ _ ?_; wtm_at "off7") | (with_reducible refine at_same (by with_reducible assumption) ?_; wtm_at "off7"))
local macro_rules | `(tactic| wtm_at "at8") => `(tactic| first | with_reducible assumption | with_reducible exact upd_same | (with_reducible refine at_new (by assumption) ?_; wtm_at "at7") | (with_reducible refine at_same (by with_reducible assumption) ?_; wtm_at "at7") | (with_reducible apply Off.at; wtm_at "off8"))
local macro_rules | `(tactic| wtm_at "off9") => `(tactic| first | with_reducible assumption | (with_reducible apply Off.mk; wtm_at "pen"; assumption) | (with_reducible refine Off.new (by assumption) _ _ ?_; wtm_at "off8") | (with_reducible refine at_same (by with_reducible assumption) ?_; wtm_at "off8"))
local macro_rules | `(tactic| wtm_at "at9") => `(tactic| first | with_reducible assumption | with_reducible exact upd_same | (with_reducible refine at_new (by assumption) ?_; wtm_at "at8") | (with_reducible refine at_same (by with_reducible assumption) ?_; wtm_at "at8") | (with_reducible apply Off.at; wtm_at "off9"))
local macro_rules | `(tactic| wtm_at "off10") => `(tactic| first | with_reducible assumption | (with_reducible apply Off.mk; wtm_at "pen"; assumption) | (with_reducible refine Off.new (by assumption) _ _ ?_; wtm_at "off9") | (with_reducible refine at_same (by with_reducible assumption) ?_; wtm_at "off9"))
local macro_rules | `(tactic| wtm_at "at10") => `(tactic| first | with_reducible assumption | with_reducible exact upd_same | (with_reducible refine at_new (by assumption) ?_; wtm_at "at9") | (with_reducible refine at_same (by with_reducible assumption) ?_; wtm_at "at9") | (with_reducible apply Off.at; wtm_at "off10"))
local macro_rules | `(tactic| wtm_at "off11") => `(tactic| first | with_reducible assumption | (with_reducible apply Off.mk; wtm_at "pen"; assumption) | (with_reducible refine Off.new (by assumption) _ _ ?_; wtm_at "off10") | (with_reducible refine at_same (by with_reducible assumption) ?_; wtm_at "off10"))
local macro_rules | `(tactic| wtm_at "at11") => `(tactic| first | with_reducible assumption | with_reducible exact upd_same | (with_reducible refine at_new (by assumption) ?_; wtm_at "at10") | (with_reducible refine at_same (by with_reducible assumption) ?_; wtm_at "at10") | (with_reducible apply Off.at; wtm_at "off11"))
local macro_rules | `(tactic| wtm_at "off12") => `(tactic| first | with_reducible assumption | (with_reducible apply Off.mk; wtm_at "pen"; assumption) | (with_reducible refine Off.new (by assumption) _ _ ?_; wtm_at "off11") | (with_reducible refine at_same (by with_reducible assumption) ?_; wtm_at "off11"))
local macro_rules | `(tactic| wtm_at "at12") => `(tactic| first | with_reducible assumption | with_reducible exact upd_same | (with_reducible refine at_new (by assumption) ?_; wtm_at "at11") | (with_reducible refine at_same (by with_reducible assumption) ?_; wtm_at "at11") | (with_reducible apply Off.at; wtm_at "off12"))
local macro_rules | `(tactic| wtm_at "off13") => `(tactic| first | with_reducible assumption | (with_reducible apply Off.mk; wtm_at "pen"; assumption) | (with_reducible refine Off.new (by assumption) _ _ ?_; wtm_at "off12") | (with_reducible refine at_same (by with_reducible assumption) ?_; wtm_at "off12"))
local macro_rules | `(tactic| wtm_at "at13") => `(tactic| first | with_reducible assumption | with_reducible exact upd_same | (with_reducible refine at_new (by assumption) ?_; wtm_at "at12") | (with_reducible refine at_same (by with_reducible assumption) ?_; wtm_at "at12") | (with_reducible apply Off.at; wtm_at "off13"))
local macro_rules | `(tactic| wtm_at "off14") => `(tactic| first | with_reducible assumption | (with_reducible apply Off.mk; wtm_at "pen"; assumption) | (with_reducible refine Off.new (by assumption) _ _ ?_; wtm_at "off13") | (with_reducible refine at_same (by with_reducible assumption) ?_; wtm_at "off13"))
local macro_rules | `(tactic| wtm_at "at14") => `(tactic| first | with_reducible assumption | with_reducible exact upd_same | (with_reducible refine at_new (by assumption) ?_; wtm_at "at13") | (with_reducible refine at_same (by with_reducible assumption) ?_; wtm_at "at13") | (with_reducible apply Off.at; wtm_at "off14"))
local macro_rules | `(tactic| wtm_at "off15") => `(tactic| first | with_reducible assumption | (with_reducible apply Off.mk; wtm_at "pen"; assumption) | (with_reducible refine Off.new (by assumption) _ _ ?_; wtm_at "off14") | (with_reducible refine at_same (by with_reducible assumption) ?_; wtm_at "off14"))
local macro_rules | `(tactic| wtm_at "at15") => `(tactic| first | with_reducible assumption | with_reducible exact upd_same | (with_reducible refine at_new (by assumption) ?_; wtm_at "at14") | (with_reducible refine at_same (by with_reducible assumption) ?_; wtm_at "at14") | (with_reducible apply Off.at; wtm_at "off15"))
local macro_rules | `(tactic| wtm_at "off16") => `(tactic| first | with_reducible assumption | (with_reducible apply Off.mk; wtm_at "pen"; assumption) | (with_reducible refine Off.new (by assumption) _ _ ?_; wtm_at "off15") | (with_reducible refine at_same (by with_reducible assumption) ?_; wtm_at "off15"))
local macro_rules | `(tactic| wtm_at "at16") => `(tactic| first | with_reducible assumption | with_reducible exact upd_same | (with_reducible refine at_new (by assumption) ?_; wtm_at "at15") | (with_reducible refine at_same (by with_reducible assumption) ?_; wtm_at "at15") | (with_reducible apply Off.at; wtm_at "off16"))
local macro_rules | `(tactic| wtm_at "off17") => `(tactic| first | with_reducible assumption | (with_reducible apply Off.mk; wtm_at "pen"; assumption) | (with_reducible refine Off.new (by assumption) _ _ ?_; wtm_at "off16") | (with_reducible refine at_same (by with_reducible assumption) ?_; wtm_at "off16"))
local macro_rules | `(tactic| wtm_at "at17") => `(tactic| first | with_reducible assumption | with_reducible exact upd_same | (with_reducible refine at_new (by assumption) ?_; wtm_at "at16") | (with_reducible refine at_same (by with_reducible assumption) ?_; wtm_at "at16") | (with_reducible apply Off.at; wtm_at "off17"))
local macro_rules | `(tactic| wtm_at "off18") => `(tactic| first | with_reducible assumption | (with_reducible apply Off.mk; wtm_at "pen"; assumption) | (with_reducible refine Off.new (by assumption) _ _ ?_; wtm_at "off17") | (with_reducible refine at_same (by with_reducible assumption) ?_; wtm_at "off17"))
local macro_rules | `(tactic| wtm_at "at18") => `(tactic| first | with_reducible assumption | with_reducible exact upd_same | (with_reducible refine at_new (by assumption) ?_; wtm_at "at17") | (with_reducible refine at_same (by with_reducible assumption) ?_; wtm_at "at17") | (with_reducible apply Off.at; wtm_at "off18"))
local macro_rules | `(tactic| wtm_at "off19") => `(tactic| first | with_reducible assumption | (with_reducible apply Off.mk; wtm_at "pen"; assumption) | (with_reducible refine Off.new (by assumption) _ _ ?_; wtm_at "off18") | (with_reducible refine at_same (by with_reducible assumption) ?_; wtm_at "off18"))
local macro_rules | `(tactic| wtm_at "at19") => `(tactic| first | with_reducible assumption | with_reducible exact upd_same | (with_reducible refine at_new (by assumption) ?_; wtm_at "at18") | (with_reducible refine at_same (by with_reducible assumption) ?_; wtm_at "at18") | (with_reducible apply Off.at; wtm_at "off19"))
local macro_rules | `(tactic| wtm_at "off20") => `(tactic| first | with_reducible assumption | (with_reducible apply Off.mk; wtm_at "pen"; assumption) | (with_reducible refine Off.new (by assumption) _ _ ?_; wtm_at "off19") | (with_reducible refine at_same (by with_reducible assumption) ?_; wtm_at "off19"))
local macro_rules | `(tactic| wtm_at "at20") => `(tactic| first | with_reducible assumption | with_reducible exact upd_same | (with_reducible refine at_new (by assumption) ?_; wtm_at "at19") | (with_reducible refine at_same (by with_reducible assumption) ?_; wtm_at "at19") | (with_reducible apply Off.at; wtm_at "off20"))
local macro_rules | `(tactic| wtm_at "off21") => `(tactic| first | with_reducible assumption | (with_reducible apply Off.mk; wtm_at "pen"; assumption) | (with_reducible refine Off.new (by assumption) _ _ ?_; wtm_at "off20") | (with_reducible refine at_same (by with_reducible assumption) ?_; wtm_at "off20"))
local macro_rules | `(tactic| wtm_at "at21") => `(tactic| first | with_reducible assumption | with_reducible exact upd_same | (with_reducible refine at_new (by assumption) ?_; wtm_at "at20") | (with_reducible refine at_same (by with_reducible assumption) ?_; wtm_at "at20") | (with_reducible apply Off.at; wtm_at "off21"))
local macro_rules | `(tactic| wtm_at "off22") => `(tactic| first | with_reducible assumption | (with_reducible apply Off.mk; wtm_at "pen"; assumption) | (with_reducible refine Off.new (by assumption) _ _ ?_; wtm_at "off21") | (with_reducible refine at_same (by with_reducible assumption) ?_; wtm_at "off21"))
local macro_rules | `(tactic| wtm_at "at22") => `(tactic| first | with_reducible assumption | with_reducible exact upd_same | (with_reducible refine at_new (by assumption) ?_; wtm_at "at21") | (with_reducible refine at_same (by with_reducible assumption) ?_; wtm_at "at21") | (with_reducible apply Off.at; wtm_at "off22"))
local macro_rules | `(tactic| wtm_at "off23") => `(tactic| first | with_reducible assumption | (with_reducible apply Off.mk; wtm_at "pen"; assumption) | (with_reducible refine Off.new (by assumption) _ _ ?_; wtm_at "off22") | (with_reducible refine at_same (by with_reducible assumption) ?_; wtm_at "off22"))
local macro_rules | `(tactic| wtm_at "at23") => `(tactic| first | with_reducible assumption | with_reducible exact upd_same | (with_reducible refine at_new (by assumption) ?_; wtm_at "at22") | (with_reducible refine at_same (by with_reducible assumption) ?_; wtm_at "at22") | (with_reducible apply Off.at; wtm_at "off23"))
local macro_rules | `(tactic| wtm_at "off24") => `(tactic| first | with_reducible assumption | (with_reducible apply Off.mk; wtm_at "pen"; assumption) | (with_reducible refine Off.new (by assumption) _ _ ?_; wtm_at "off23") | (with_reducible refine at_same (by with_reducible assumption) ?_; wtm_at "off23"))
local macro_rules | `(tactic| wtm_at "at24") => `(tactic| first | with_reducible assumption | with_reducible exact upd_same | (with_reducible refine at_new (by assumption) ?_; wtm_at "at23") | (with_reducible refine at_same (by with_reducible assumption) ?_; wtm_at "at23") | (with_reducible apply Off.at; wtm_at "off24"))
local macro_rules | `(tactic| wtm_at "off25") => `(tactic| first | with_reducible assumption | (with_reducible apply Off.mk; wtm_at "pen"; assumption) | (with_reducible refine Off.new (by assumption) _ _ ?_; wtm_at "off24") | (with_reducible refine at_same (by with_reducible assumption) ?_; wtm_at "off24"))
local macro_rules | `(tactic| wtm_at "at25") => `(tactic| first | with_reducible assumption | with_reducible exact upd_same | (with_reducible refine at_new (by assumption) ?_; wtm_at "at24") | (with_reducible refine at_same (by with_reducible assumption) ?_; wtm_at "at24") | (with_reducible apply Off.at; wtm_at "off25"))
local macro_rules | `(tactic| wtm_at "off26") => `(tactic| first | with_reducible assumption | (with_reducible apply Off.mk; wtm_at "pen"; assumption) | (with_reducible refine Off.new (by assumption) _ _ ?_; wtm_at "off25") | (with_reducible refine at_same (by with_reducible assumption) ?_; wtm_at "off25"))
local macro_rules | `(tactic| wtm_at "at26") => `(tactic| first | with_reducible assumption | with_reducible exact upd_same | (with_reducible refine at_new (by assumption) ?_; wtm_at "at25") | (with_reducible refine at_same (by with_reducible assumption) ?_; wtm_at "at25") | (with_reducible apply Off.at; wtm_at "off26"))
local macro_rules | `(tactic| wtm_at "off27") => `(tactic| first | with_reducible assumption | (with_reducible apply Off.mk; wtm_at "pen"; assumption) | (with_reducible refine Off.new (by assumption) _ _ ?_; wtm_at "off26") | (with_reducible refine at_same (by with_reducible assumption) ?_; wtm_at "off26"))
local macro_rules | `(tactic| wtm_at "at27") => `(tactic| first | with_reducible assumption | with_reducible exact upd_same | (with_reducible refine at_new (by assumption) ?_; wtm_at "at26") | (with_reducible refine at_same (by with_reducible assumption) ?_; wtm_at "at26") | (with_reducible apply Off.at; wtm_at "off27"))
local macro_rules | `(tactic| wtm_at "off28") => `(tactic| first | with_reducible assumption | (with_reducible apply Off.mk; wtm_at "pen"; assumption) | (with_reducible refine Off.new (by assumption) _ _ ?_; wtm_at "off27") | (with_reducible refine at_same (by with_reducible assumption) ?_; wtm_at "off27"))
local macro_rules | `(tactic| wtm_at "at28") => `(tactic| first | with_reducible assumption | with_reducible exact upd_same | (with_reducible refine at_new (by assumption) ?_; wtm_at "at27") | (with_reducible refine at_same (by with_reducible assumption) ?_; wtm_at "at27") | (with_reducible apply Off.at; wtm_at "off28"))
local macro_rules | `(tactic| wtm_at "off29") => `(tactic| first | with_reducible assumption | (with_reducible apply Off.mk; wtm_at "pen"; assumption) | (with_reducible refine Off.new (by assumption) _ _ ?_; wtm_at "off28") | (with_reducible refine at_same (by with_reducible assumption) ?_; wtm_at "off28"))
local macro_rules | `(tactic| wtm_at "at29") => `(tactic| first | with_reducible assumption | with_reducible exact upd_same | (with_reducible refine at_new (by assumption) ?_; wtm_at "at28") | (with_reducible refine at_same (by with_reducible assumption) ?_; wtm_at "at28") | (with_reducible apply Off.at; wtm_at "off29"))
local macro_rules | `(tactic| wtm_at "off30") => `(tactic| first | with_reducible assumption | (with_reducible apply Off.mk; wtm_at "pen"; assumption) | (with_reducible refine Off.new (by assumption) _ _ ?_; wtm_at "off29") | (with_reducible refine at_same (by with_reducible assumption) ?_; wtm_at "off29"))
local macro_rules | `(tactic| wtm_at "at30") => `(tactic| first | with_reducible assumption | with_reducible exact upd_same | (with_reducible refine at_new (by assumption) ?_; wtm_at "at29") | (with_reducible refine at_same (by with_reducible assumption) ?_; wtm_at "at29") | (with_reducible apply Off.at; wtm_at "off30"))
local macro_rules | `(tactic| wtm_at "off31") => `(tactic| first | with_reducible assumption | (with_reducible apply Off.mk; wtm_at "pen"; assumption) | (with_reducible refine Off.new (by assumption) _ _ ?_; wtm_at "off30") | (with_reducible refine at_same (by with_reducible assumption) ?_; wtm_at "off30"))
local macro_rules | `(tactic| wtm_at "at31") => `(tactic| first | with_reducible assumption | with_reducible exact upd_same | (with_reducible refine at_new (by assumption) ?_; wtm_at "at30") | (with_reducible refine at_same (by with_reducible assumption) ?_; wtm_at "at30") | (with_reducible apply Off.at; wtm_at "off31"))
local macro_rules | `(tactic| wtm_at "off32") => `(tactic| first | with_reducible assumption | (with_reducible apply Off.mk; wtm_at "pen"; assumption) | (with_reducible refine Off.new (by assumption) _ _ ?_; wtm_at "off31") | (with_reducible refine at_same (by with_reducible assumption) ?_; wtm_at "off31"))
local macro_rules | `(tactic| wtm_at "at32") => `(tactic| first | with_reducible assumption | with_reducible exact upd_same | (with_reducible refine at_new (by assumption) ?_; wtm_at "at31") | (with_reducible refine at_same (by with_reducible assumption) ?_; wtm_at "at31") | (with_reducible apply Off.at; wtm_at "off32"))
local macro_rules | `(tactic| wtm_at "off33") => `(tactic| first | with_reducible assumption | (with_reducible apply Off.mk; wtm_at "pen"; assumption) | (with_reducible refine Off.new (by assumption) _ _ ?_; wtm_at "off32") | (with_reducible refine at_same (by with_reducible assumption) ?_; wtm_at "off32"))
local macro_rules | `(tactic| wtm_at "at33") => `(tactic| first | with_reducible assumption | with_reducible exact upd_same | (with_reducible refine at_new (by assumption) ?_; wtm_at "at32") | (with_reducible refine at_same (by with_reducible assumption) ?_; wtm_at "at32") | (with_reducible apply Off.at; wtm_at "off33"))
local macro_rules | `(tactic| wtm_at "off34") => `(tactic| first | with_reducible assumption | (with_reducible apply Off.mk; wtm_at "pen"; assumption) | (with_reducible refine Off.new (by assumption) _ _ ?_; wtm_at "off33") | (with_reducible refine at_same (by with_reducible assumption) ?_; wtm_at "off33"))
local macro_rules | `(tactic| wtm_at "at34") => `(tactic| first | with_reducible assumption | with_reducible exact upd_same | (with_reducible refine at_new (by assumption) ?_; wtm_at "at33") | (with_reducible refine at_same (by with_reducible assumption) ?_; wtm_at "at33") | (with_reducible apply Off.at; wtm_at "off34"))
local macro_rules | `(tactic| wtm_at "off35") => `(tactic| first | with_reducible assumption | (with_reducible apply Off.mk; wtm_at "pen"; assumption) | (with_reducible refine Off.new (by assumption) _ _ ?_; wtm_at "off34") | (with_reducible refine at_same (by with_reducible assumption) ?_; wtm_at "off34"))
local macro_rules | `(tactic| wtm_at "at35") => `(tactic| first | with_reducible assumption | with_reducible exact upd_same | (with_reducible refine at_new (by assumption) ?_; wtm_at "at34") | (with_reducible refine at_same (by with_reducible assumption) ?_; wtm_at "at34") | (with_reducible apply Off.at; wtm_at "off35"))
local macro_rules | `(tactic| wtm_at "off36") => `(tactic| first | with_reducible assumption | (with_reducible apply Off.mk; wtm_at "pen"; assumption) | (with_reducible refine Off.new (by assumption) _ _ ?_; wtm_at "off35") | (with_reducible refine at_same (by with_reducible assumption) ?_; wtm_at "off35"))
local macro_rules | `(tactic| wtm_at "at36") => `(tactic| first | with_reducible assumption | with_reducible exact upd_same | (with_reducible refine at_new (by assumption) ?_; wtm_at "at35") | (with_reducible refine at_same (by with_reducible assumption) ?_; wtm_at "at35") | (with_reducible apply Off.at; wtm_at "off36"))
local macro_rules | `(tactic| wtm_at "off37") => `(tactic| first | with_reducible assumption | (with_reducible apply Off.mk; wtm_at "pen"; assumption) | (with_reducible refine Off.new (by assumption) _ _ ?_; wtm_at "off36") | (with_reducible refine at_same (by with_reducible assumption) ?_; wtm_at "off36"))
local macro_rules | `(tactic| wtm_at "at37") => `(tactic| first | with_reducible assumption | with_reducible exact upd_same | (with_reducible refine at_new (by assumption) ?_; wtm_at "at36") | (with_reducible refine at_same (by with_reducible assumption) ?_; wtm_at "at36") | (with_reducible apply Off.at; wtm_at "off37"))
local macro_rules | `(tactic| wtm_at "off38") => `(tactic| first | with_reducible assumption | (with_reducible apply Off.mk; wtm_at "pen"; assumption) | (with_reducible refine Off.new (by assumption) _ _ ?_; wtm_at "off37") | (with_reducible refine at_same (by with_reducible assumption) ?_; wtm_at "off37"))
local macro_rules | `(tactic| wtm_at "at38") => `(tactic| first | with_reducible assumption | with_reducible exact upd_same | (with_reducible refine at_new (by assumption) ?_; wtm_at "at37") | (with_reducible refine at_same (by with_reducible assumption) ?_; wtm_at "at37") | (with_reducible apply Off.at; wtm_at "off38"))
local macro_rules | `(tactic| wtm_at "off39") => `(tactic| first | with_reducible assumption | (with_reducible apply Off.mk; wtm_at "pen"; assumption) | (with_reducible refine Off.new (by assumption) _ _ ?_; wtm_at "off38") | (with_reducible refine at_same (by with_reducible assumption) ?_; wtm_at "off38"))
local macro_rules | `(tactic| wtm_at "at39") => `(tactic| first | with_reducible assumption | with_reducible exact upd_same | (with_reducible refine at_new (by assumption) ?_; wtm_at "at38") | (with_reducible refine at_same (by with_reducible assumption) ?_; wtm_at "at38") | (with_reducible apply Off.at; wtm_at "off39"))
local macro_rules | `(tactic| wtm_at "at") => `(tactic| wtm_at "at39")
local macro_rules | `(tactic| wtm_at "off") => `(tactic| wtm_at "off39")
local macro_rules | `(tactic| wtm_at "pen") => `(tactic| first
  | assumption | (refine Pen.new (by assumption) ?_; wtm_at "pen") | (refine Pen.same (by assumption) ?_; wtm_at "pen"))
local macro_rules | `(tactic| wtm_at "same") => `(tactic| first
  | exact fun _ _ h => h | assumption | exact same_new (by assumption) | (refine same_trans ?_ (same_new (by assumption)); wtm_at "same") | (refine same_trans ?_ (by assumption); wtm_at "same")
  | (refine same_trans ?_ (Off.new (by assumption)); wtm_at "same") | (refine same_trans ?_ (Off.same (by assumption)); wtm_at "same"))
local macro_rules | `(tactic| wtm_at "dps") => `(tactic| first
  | exact .nil | (apply DpAll.cons; wtm_at "dp"; wtm_at "dps") | exact dpAll_ints _)
local macro_rules | `(tactic| wtm_at "dp") => `(tactic| first
  | exact .non | exact .bl _ | exact .int _ | exact .str _ | (exact dp_O _) | (apply Dp.lst; (apply SqL.of; wtm_at "at"); wtm_at "dps") | (apply Dp.tup; (apply SqT.of; wtm_at "at"); wtm_at "dps"))
local macro_rules | `(tactic| wtm_at "side") => `(tactic| first
  | exact ⟨by decide, by decide⟩ | exact ⟨by decide, by decide, by decide⟩ | exact .inl ⟨by decide, by decide⟩ | exact .inr ⟨by decide, by decide⟩ | (show ¬ _ = _; decide))
local macro_rules | `(tactic| wtm_at "sml") => `(tactic| first
  | exact sml_none (by decide) | exact sml_bool (by decide) | exact sml_int (by decide) (by omega) | (exact sml_O (by decide) (by assumption)) | exact sml_list (n := 19) (k := 0) (by wtm_at "smls") (by decide) (by decide))
local macro_rules | `(tactic| wtm_at "smls") => `(tactic| first | exact smlAll_nil (m := 0) | (apply smlAll_cons; wtm_at "sml"; wtm_at "smls"))
local macro_rules | `(tactic| wtm_at "shw") => `(tactic| exact Sml.shw (n := 10000) (k := 50) (by wtm_at "sml") (by decide) (by decide))
local macro_rules | `(tactic| wtm_at "rd") => `(tactic| first
  | refine ⟨_, rfl, ?_⟩ | refine ⟨_, _, rfl, rfl, ?_⟩ | refine ifT rfl ?_ | refine ifF rfl ?_ | refine ⟨rfl, ?_⟩
  | refine ⟨_, _, rfl, ?_⟩
  | refine ⟨_, _, by rfl, by wtm_at "dp", by wtm_at "shw", ?_⟩
  | refine ⟨_, _, _, _, _, rfl, by wtm_at "at", by wtm_at "cls", by wtm_at "na", by rfl, ?_⟩
  | refine ⟨_, _, rfl, rfl, by wtm_at "side", ?_⟩
  | refine ⟨_, _, by wtm_at "dp", by wtm_at "dp", by rfl, by rfl, ?_⟩
  | refine ⟨_, _, [_, _], [_, _], rfl, rfl, sqI2 (by wtm_at "at"), sqI2 (by wtm_at "at"), ?_⟩
  | refine ⟨Nat.le_of_ble_eq_true rfl, fun _ _ => ?_⟩
  | refine ifF (nd_refl _) ?_ | refine ifT (de_refl _) ?_)
local macro_rules | `(tactic| wtm_at "cls") => `(tactic| first | exact cls_Lag _)
local macro_rules | `(tactic| wtm_at "na") => `(tactic| first | exact na_Lag_rounds _ | exact na_Lag_lacking _ | exact na_Lag_far _)

def spLaw (K : PySem.W.Frag) : Sp := fun vs H Q _ => ∃ (a : Addr) (ns : List Int), vs = [.ref a] ∧ SqL K H a (ns.map V.int) ∧ ∀ H', Q (.bl true) H'
section
variable {mg : PySem.Str → Option Value} {base : Heap} {w : World}
theorem ok_law (M : Mod (hd19.heap_39 w.params) mg base) : CallG PP w (hd19.heap_39 w.params) mg base 5 (.ref 132) (pos (spLaw (hd19.heap_39 w.params))) := by
  obtain ⟨fd, F⟩ := fn_law w
  refine def_pos F sc_law (fun vs H Q E h => ?_) (fun _ _ _ _ _ _ us hl => match us, hl with | [_], _ => rfl) (fun cdv A outer s H vs Q E hr hg h => ?_)
  · obtain ⟨a, ns, rfl, _⟩ := h; rfl
  have nd := sc_law.nd
  obtain ⟨a, ns, rfl, ha, q⟩ := h
  refine ⟨_, (pss_cons (ps_set (i := 1) nd rfl (.inr rfl) (pe_cl (takes_of rfl rfl rfl rfl) (ok__law_pen M) (hr.mono (by decide)) hg rfl (mg__law_pen M) (kp__law_pen w) (pa_cons (pv 0) pa_nil)))
      (pss_cons (ps_set (i := 2) nd rfl (.inl rfl) (pe_op op_cat (pe_lst (pa_cons pe_non (pa_cons pe_int (pa_cons pe_int pa_nil)))) (pe_lc (own := [("k", 3)]) (g := gName 3) (by rfl) nd (pi_range1 (by rfl) (mn_range M) (pa_cons pe_int pa_nil)) (blkOk_by (own := [("k", 3)]) (N := ["script", "pen", "found", "k", "one", "other"]) (sc := defScope s_law) (by decide +kernel)) (fun _ _ _ _ _ => pg_name (i := 3) nd rfl (Or.inl rfl)) (fun _ _ _ _ _ => pts_nil) (fun _ _ _ _ _ => (pe_cl takes_no (ok__law_number M) (hr.mono (by decide)) hg rfl (mg__law_number M) (kp__law_number w) (pa_cons (pv 1) pa_nil))))))
      (pss_cons (ps_for (passes_of rfl) rfl (pi_list (pv 2)) (pg_name (i := 4) nd rfl (.inl rfl)) (pss_cons (ps_if (pt_not (pt_val (pe_cl (takes_of rfl rfl rfl rfl) (ok__law_one_right M) (hr.mono (by decide)) hg rfl (mg__law_one_right M) (kp__law_one_right w) (pa_cons (pv 4) pa_nil)))) (pss_one (ps_ret pe_bl)) pss_nil)
      (pss_one (ps_for (passes_of rfl) rfl (pi_list (pv 2)) (pg_name (i := 5) nd rfl (.inl rfl)) (pss_one (ps_if (pt_not (pt_val (pe_cl (takes_of rfl rfl rfl rfl) (ok__law_pair_right M) (hr.mono (by decide)) hg rfl (mg__law_pair_right M) (kp__law_pair_right w) (pa_cons (pv 4) (pa_cons (pv 5) pa_nil))))) (pss_one (ps_ret pe_bl)) pss_nil))))))
      (pss_one (ps_ret (pe_and (pe_notR (pe_sm0 (takes_of rfl rfl rfl rfl) (pe_glob (v := .ref 69) rfl (mg_Lag M) rfl) (sm_Lag_none w) (ok_Lag_none M) (hr.mono (by decide)) hg) (tru_O (ok_Lag___bool__ M) (hr.mono (by decide)) hg (D := fun C => C = 69) (fun C e => by subst e; exact own_Lag_bool w))) (pe_and (pe_callTy (call_boolO (ok_Lag___bool__ M) (hr.mono (by decide)) hg (D := fun C => C = 69) (fun C e => by subst e; exact own_Lag_bool w)) (by rfl) (mn_bool M) (by decide +kernel) (pa_cons (pe_mkG (takes_of rfl rfl rfl rfl) (mk_Lag w) (ok_Lag___init__ M) (hr.mono (by decide)) hg rfl (mg_Lag M) (pa_cons pe_int pa_nil)) pa_nil)) (pe_one (pe_not (pe_callTy (call_boolO (ok_Lag___bool__ M) (hr.mono (by decide)) hg (D := fun C => C = 69) (fun C e => by subst e; exact own_Lag_bool w)) (by rfl) (mn_bool M) (by decide +kernel) (pa_cons (pe_mkG (takes_of rfl rfl rfl rfl) (mk_Lag w) (ok_Lag___init__ M) (hr.mono (by decide)) hg rfl (mg_Lag M) (pa_cons pe_non pa_nil)) pa_nil))))))))))), ?_⟩
  wtm_at "rd"
  refine ⟨rfl, a, ns, rfl, ha, fun p c H1 s1 P1 => ?_⟩
  refine ⟨Nat.le_of_ble_eq_true rfl, fun z0 hz0 => ?_⟩
  have z0p : z0 ≠ p := P1.ne hz0
  have P2 := P1.new (o := .lst [.non, .int 0, .int 1]) hz0
  have g0 : upd H1 z0 (.lst [.non, .int 0, .int 1]) z0 = some (.lst [.non, .int 0, .int 1]) := upd_same
  generalize upd H1 z0 (.lst [.non, .int 0, .int 1]) = H2 at *
  refine ⟨5, rfl, by decide, by decide, fun D hD => ?_⟩
  have Dp : D ≠ p := P2.ne hD
  have Dc : D ≠ c := P2.ne2 hD
  have z0D : z0 ≠ D := fun e => by rw [e, hD] at g0; cases g0
  refine lc_range (lo := 0) (n := 5) (fun i H' => ∃ os : List (Option Int), os.length = i ∧ (∀ o ∈ os, okN o) ∧ H' D = some (.lst (os.map vO)) ∧ H' z0 = some (.lst [.non, .int 0, .int 1]) ∧ Pen H' p c (4 * i))
    ⟨[], rfl, (fun _ h => nomatch h), upd_same, by wtm_at "at", P2.new hD⟩ (fun i H' hi h => ?_) (fun H' h => ?_)
  · obtain ⟨os, rfl, ok, e1, e2, P3⟩ := h
    refine ⟨rfl, ?_⟩
    wtm_at "rd"
    refine ⟨rfl, p, c, 4 * os.length, rfl, P3, by omega, fun n H4 kn s4 P4 => ?_⟩
    have e3 : H4 D = some (.lst (os.map vO)) := Off.at (s4 _ _ (Off.of e1 Dp))
    have e4 := Off.at (s4 _ _ (Off.of e2 z0p))
    refine ⟨os.map vO, e3, ?_, os ++ [n], by simp, fun o ho => ?_, ?_, ?_, ?_⟩
    · rw [List.length_map]
      exact Nat.lt_of_lt_of_le hi (by decide)
    · rcases List.mem_append.mp ho with h | h
      · exact ok o h
      · rw [List.mem_singleton.mp h]; exact kn
    · rw [upd_same, List.map_append]; rfl
    · rw [upd_ne z0D]; exact e4
    · exact (P4.upd Dp Dc).mono (by omega)
  obtain ⟨os, l5, ok, e1, e2, P3⟩ := h
  refine ⟨z0, D, _, _, rfl, rfl, e2, e1, ?_, fun z hz => ?_⟩
  · rw [List.length_map, l5]; decide
  have gz : upd H' z (.lst ([V.non, V.int 0, V.int 1] ++ os.map vO)) z = some (.lst (([none, some 0, some 1] ++ os).map vO)) := upd_same
  have okf : ∀ o ∈ [none, some 0, some 1] ++ os, okN o := fun o ho => by
    rcases List.mem_append.mp ho with h | h
    · simp only [List.mem_cons, List.not_mem_nil, or_false] at h
      rcases h with rfl | rfl | rfl
      · exact fun i e => nomatch e
      · exact fun i e => by cases e; decide
      · exact fun i e => by cases e; decide
    · exact ok o h
  generalize [none, some 0, some 1] ++ os = fs at gz okf
  generalize upd H' z (.lst ([V.non, V.int 0, V.int 1] ++ os.map vO)) = H5 at gz ⊢
  have pick : ∀ {i : Nat} {x : V}, (fs.map vO)[i]? = some x → ∃ n, x = vO n ∧ okN n := fun {i x} hx => by
    rw [List.getElem?_map] at hx
    cases e : fs[i]? with
    | none => rw [e] at hx; cases hx
    | some n =>
      rw [e] at hx
      cases hx
      exact ⟨n, rfl, okf n (List.mem_of_getElem? e)⟩
  refine ⟨_, rfl, z, rfl, ⟨_, SqL.of gz⟩, ?_⟩
  refine for_list (xs := fs.map vO) (fun i σ H' => (∃ o4 o5, σ = [some (.ref a), some (.ref p), some (.ref z), none, o4, o5]) ∧ H' z = some (.lst (fs.map vO))) ⟨⟨_, _, rfl⟩, gz⟩ (fun i σ H' _ h => SqL.of h.2) (fun i x σ H' hx h => ?_) (fun σ H' h => ?_)
  · obtain ⟨⟨o4, o5, rfl⟩, hz⟩ := h
    obtain ⟨n, rfl, kn⟩ := pick hx
    wtm_at "rd"
    refine ⟨rfl, n, rfl, kn, fun H6 s6 => ?_⟩
    refine ⟨_, rfl, ifF rfl ?_⟩
    refine ⟨_, rfl, z, rfl, ⟨_, SqL.of (s6 _ _ hz)⟩, ?_⟩
    refine for_list (xs := fs.map vO) (fun i σ H' => (∃ o5, σ = [some (.ref a), some (.ref p), some (.ref z), none, some (vO n), o5]) ∧ H' z = some (.lst (fs.map vO))) ⟨⟨_, rfl⟩, s6 _ _ hz⟩ (fun i σ H' _ h => SqL.of h.2) (fun i x σ H' hx h => ?_) (fun σ H' h => ?_)
    · obtain ⟨⟨o5, rfl⟩, hz⟩ := h
      obtain ⟨m, rfl, km⟩ := pick hx
      wtm_at "rd"
      wtm_at "rd"
      refine ⟨rfl, n, m, rfl, kn, km, fun H7 s7 => ?_⟩
      refine ⟨_, rfl, ifF rfl ?_⟩
      exact ⟨⟨_, rfl⟩, s7 _ _ hz⟩
    · obtain ⟨⟨o5, rfl⟩, hz⟩ := h
      exact ⟨⟨_, _, rfl⟩, hz⟩
  · refine ⟨rfl, rfl, rfl, fun b1 d1 H8 s8 e8 => ?_⟩
    refine ⟨b1, 69, d1, _, rfl, rfl, e8, rfl, b1, d1, none, rfl, e8, _, rfl, ?_⟩
    refine ⟨_, rfl, ifT rfl ?_⟩
    refine ⟨rfl, New.mk (n := some 0) fun b2 d2 H9 s9 e9 => ?_⟩
    refine ⟨_, rfl, b2, 69, d2, _, rfl, rfl, e9, rfl, b2, d2, some 0, rfl, e9, _, rfl, ?_⟩
    refine ⟨_, rfl, ifT rfl ?_⟩
    refine ⟨rfl, New.mk (n := none) fun b3 d3 H10 s10 e10 => ?_⟩
    refine ⟨_, rfl, b3, 69, d3, _, rfl, rfl, e10, rfl, b3, d3, none, rfl, e10, _, rfl, ?_⟩
    exact ⟨_, rfl, q _⟩
end
theorem done : PySem.Challenge.rw_unkeptlines_k19_lags_as_values.Holds := by
  refine hd19 ?_
  refine walkG (K := hd19.heap_39) (sp := fun w => spLaw (hd19.heap_39 w.params)) (k := 5) (by rfl) (by decide) (by rfl) ?_ (fun w h Y => PySem.W.kIn_of Y) (fun w mg fa h KX hns hm base M => ?_) fun w H a ns hl hs => ⟨a, ns, rfl, hs, fun _ => rfl⟩
  · exact ⟨by decide, by decide, by decide⟩
  · have e : fa = 132 := by
      have h1 : some (Value.ref fa) = some (.ref 132) := hm.symm.trans (mg_law M)
      cases h1
      rfl
    subst e
    exact ok_law M
end M19

theorem PySem.Challenge.cw_unkeptlines_k19_lags_as_values_holds : PySem.Challenge.rw_unkeptlines_k19_lags_as_values.Holds := by
  exact M19.done
