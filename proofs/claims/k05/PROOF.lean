import PyProof.Rows.All
import Wide.All
import OpenK.AllK
import Wide.FinOn
import PySem.Challenge.RW_unkeptlines_k05_words_allowed
import KE.KStar
import HandS.ForMost
import HandS.ForExc
import HandS.Star
import HandS.IsInst
import HandS.ClsMeth
import PyProof.Conv_bool
import PyProof.MeetsIn
import PyProof.Rows.Range3
import HandS.Ends
import KE.KSuper
import KE.GoesEnum
import KE.GoesMore
import HandS.Iter
import HandS.Walk
import HandS.Text
set_option Elab.async false
set_option linter.all false
set_option maxRecDepth 100000
set_option maxHeartbeats 0
section
open PySem PySem.W PyProof.Rows
open_top hd05 for PySem.Challenge.rw_unkeptlines_k05_words_allowed

end

/-! UkA: promises of whatever is called (defs, classes), with the stack's guards told; calls by them -/
namespace Uk
open PySem PySem.Spec PyProof.Rows L2 StX

abbrev SpK := List V → List (Str × V) → Hp → VK → XK → Prop
abbrev KVs (zs : List (Str × V)) (ks : List (Str × Value)) : Prop := Paired (fun (p : Str × V) (q : Str × Value) => p.1 = q.1 ∧ RelV p.2 q.2) zs ks

/-- a promise of what stands at fv, however it is called -/
def CallG (P : Program) (w : World) (K : PySem.W.Frag) (mg : Str → Option Value) (base : Heap) (k : Nat) (fv : Value) (sp : SpK) : Prop :=
  ∀ (A : Around) (outer : List Env) (s : Shared) (H : Hp) (us : List Value) (kws : List (Str × Value)) (vs : List V) (zs : List (Str × V)) (Q : VK) (E : XK),
    Room k A → A.guards = some [] → Env0 P w K mg base A outer s H → Vals vs us → KVs zs kws → sp vs zs H Q E →
    codeAny (model P w) A (.call fv ⟨us, kws⟩) (CR (L2.CX P w) outer P w H s Q E) s
/-- positional arguments alone -/
def pos (sp : Sp) : SpK := fun vs zs H Q E => zs = [] ∧ sp vs H Q E

section
variable {P : Program} {w : World} {K : PySem.W.Frag} {mg : Str → Option Value} {base : Heap} {j k : Nat} {fv : Value} {sp sp' : SpK}
theorem CallG.mono (F : CallG P w K mg base j fv sp) (h : j ≤ k) : CallG P w K mg base k fv sp := fun A o s H us kws vs zs Q E hr => F A o s H us kws vs zs Q E (hr.mono h)
theorem CallG.imp (F : CallG P w K mg base k fv sp) (h : ∀ vs zs H Q E, sp' vs zs H Q E → sp vs zs H Q E) : CallG P w K mg base k fv sp' :=
  fun A o s H us kws vs zs Q E hr hg e0 r rk q => F A o s H us kws vs zs Q E hr hg e0 r rk (h _ _ _ _ _ q)
end

section
variable {P : Program} {w : World} {K : PySem.W.Frag} {mg : Str → Option Value} {base : Heap} {k : Nat}
/-- a def without defaults, by its body -/
theorem def_pos {x qual : Str} {st : Stmt} {f : Addr} {fd : FuncData} {N ps : List Str} {sp : Sp} (F : Fun K x qual st f fd) (S : FnScope N ps (defScope st)) (len : ∀ vs H Q E, sp vs H Q E → vs.length = ps.length)
    (hb : ∀ (kV doc pm : Value) (an : Option Addr) (cdv ct : Value) (us : List Value), us.length = ps.length → bindArgs (PySem.W.fnOf x qual (defArgs st) (defBody st) (defScope st) .none kV doc pm an cdv ct) ⟨us, []⟩ = pure (ps.zip us))
    (hbody : ∀ (cdv : Value) (A : Around) (outer : List Env) (s : Shared) (H : Hp) (vs : List V) (Q : VK) (E : XK), Room k (A.deeper (envOfC qual (defScope st) s.heap.objs.size f cdv)) → A.guards = some [] → sp vs H Q E →
      ∃ t, PSs (cxOf (L2.CX P w) P w K mg base N qual (defScope st) f cdv A outer s H E) (defBody st) t ∧ t { nx := fun _ H' => Q .non H', rt := Q } (start N vs) H) : CallG P w K mg base (k + 1) (.ref f) (pos sp) := by
  obtain ⟨oc, od, kV, doc, pm, an, cdv, ct, osl, rfl, lk, hcd⟩ := F.ex
  rintro A outer s H us kws vs zs Q E hr hg e0 r rk ⟨rfl, hsp⟩
  cases rk
  refine run_bnd lk hcd S hr e0 (G := fun xs H2 => xs = vs ∧ H2 = H) (fun A' Ex Q' h => ?_) fun s2 H2 xs ⟨ex, eH⟩ hr' => ?_
  · have hl : us.length = ps.length := by rw [← r.length]; exact len _ _ _ _ hsp
    rw [hb kV doc pm an cdv ct us hl]
    exact wpAny_pure (h s H vs us e0 Un.refl rfl (fun _ _ z => z) r (len _ _ _ _ hsp) ⟨rfl, rfl⟩)
  · subst ex eH
    exact hbody cdv A outer s2 _ _ Q E hr' hg hsp
/-- a def with a star behind its parameters -/
theorem def_star {x qual : Str} {st : Stmt} {f : Addr} {fd : FuncData} {N ps : List Str} {pv : Str} {sp : Sp} (F : Fun K x qual st f fd) (S : FnScope N (ps ++ [pv]) (defScope st))
    (hb : ∀ (kV doc pm : Value) (an : Option Addr) (cdv ct : Value) (us rest : List Value), us.length = ps.length → bindArgs (PySem.W.fnOf x qual (defArgs st) (defBody st) (defScope st) .none kV doc pm an cdv ct) ⟨us ++ rest, []⟩ = (newTuple rest >>= fun t => pure (ps.zip us ++ [(pv, t)])))
    (hbody : ∀ (cdv : Value) (A : Around) (outer : List Env) (s : Shared) (H : Hp) (vs : List V) (Q : VK) (E : XK), Room k (A.deeper (envOfC qual (defScope st) s.heap.objs.size f cdv)) → A.guards = some [] → sp vs H Q E →
      ∃ t, PSs (cxOf (L2.CX P w) P w K mg base N qual (defScope st) f cdv A outer s H E) (defBody st) t ∧ t { nx := fun _ H' => Q .non H', rt := Q } (start N vs) H) :
    CallG P w K mg base (k + 1) (.ref f) (pos fun vs H Q E => ∃ ws rest, vs = ws ++ rest ∧ ws.length = ps.length ∧ rest.length ≤ sizeLine ∧ ∀ p, H p = none → sp (ws ++ [.ref p]) (upd H p (.tup rest)) Q E) := by
  obtain ⟨oc, od, kV, doc, pm, an, cdv, ct, osl, rfl, lk, hcd⟩ := F.ex
  rintro A outer s H us kws vs zs Q E hr hg e0 r rk ⟨rfl, ws, rest, rfl, hl, hz, hq⟩
  cases rk
  obtain ⟨u1, u2, rfl, r1, r2⟩ := vals_split r
  have hn : H s.heap.objs.size = none := e0.hok.fresh (Nat.le_refl _)
  have hl1 : u1.length = ps.length := by rw [← r1.length]; exact hl
  have hl2 : u2.length ≤ sizeLine := by rw [← r2.length]; exact hz
  refine run_bnd lk hcd S hr e0 (G := fun xs H2 => ∃ p, H p = none ∧ xs = ws ++ [V.ref p] ∧ H2 = upd H p (.tup rest)) (fun A' Ex Q' h => ?_) fun s2 H2 xs ⟨p, hp, ex, eH⟩ hr' => ?_
  · rw [hb kV doc pm an cdv ct u1 u2 hl1]
    refine wpAny_bind (wpAny_newTuple (wpAny_pure ?_) hl2)
    have new : ObjOk P w (upd H s.heap.objs.size (.tup rest)) (s.heap.push ({ cls := .type "tuple", data := .seq u2.toArray } : Obj)) s.heap.objs.size (.tup rest) :=
      ⟨hz, u2, r2, ⟨_, Heap.get?_push_size _ rfl, rfl, _, rfl⟩⟩
    have un := un_laid (fs := frs outer) (s := s) (o := ({ cls := .type "tuple", data := .seq u2.toArray } : Obj)) (u := .tup rest) hn
    have z := h _ _ (ws ++ [V.ref s.heap.objs.size]) (u1 ++ [Value.ref s.heap.objs.size]) (env0_laid e0 new) un rfl
      (fun e s' => cxUp outer s H _ _ E e s' un (fun b o q => Heap.get?_push_of_some _ q) rfl) (r1.append (.cons rfl .nil)) (by rw [List.length_append, List.length_append, hl] <;> rfl) ⟨_, hn, rfl, rfl⟩
    rw [List.zip_append hl1.symm] at z
    exact z
  · subst ex eH
    exact hbody cdv A outer s2 _ _ Q E hr' hg (hq p hp)
end

section
variable {X : Cx} {W : WX} {k : Nat} {fv : Value} {sp : SpK} {pins : List (Addr × Obj)} {σ : L2.St} {H : Hp} {s : Shared} {Q : VK}
/-- the callee runs, from a body -/
theorem run_call {us : List Value} {kws : List (Str × Value)} {vs : List V} {zs : List (Str × V)} (tk : Takes X W) (F : CallG X.prog X.w X.K X.mg X.base k fv sp) (hr : Room k X.A) (hg : X.A.guards = some []) (I : Inv X pins σ H s) (r : Vals vs us) (rk : KVs zs kws)
    (h : sp vs zs H Q (WE W σ)) : wpAny (model X.prog X.w) X.A (call fv us kws) (EP X pins σ Q) X.xe s := by
  refine wpAny_call (codeAny_mono (F X.A X.stack s H us kws vs zs Q _ hr hg I.env0 r rk h) fun r s' hq => ?_)
  cases r with
  | error e => exact passAt tk σ pins H s e s' I hq
  | ok fl =>
    cases fl with
    | ret u => exact I.after hq
    | next => exact False.elim hq
    | brk => exact False.elim hq
    | cont => exact False.elim hq
def tCl (W : WX) (sp : SpK) (t : TA) : TE := fun σ H Q => t σ H fun vs H1 => sp vs [] H1 Q (WE W σ)
variable {x : Str} {p qs : Pos} {e : Expr} {es : List Expr} {t : TA}
/-- x(e, ..) -/
theorem pe_cl (tk : Takes X W) (F : CallG X.prog X.w X.K X.mg X.base k fv sp) (hr : Room k X.A) (hg : X.A.guards = some []) (hx : Gl X x) (hm : X.mg x = some fv) (hk : PySem.W.keepIn X.K fv = true) (ha : PA X (e :: es) t)
    (hdb : (x == ("__debug__" : Str)) = false := by decide) (he : starEach (e :: es) X.env = (false, eval e X.env) :: starEach es X.env := by rfl) (hpl : (backTo qs (starEach es X.env)).any (·.1) = false := by rfl) :
    PE X (.Call (.Name x p) (e :: es) [] qs) (tCl W sp t) := by
  refine ⟨fun pins s σ H Q I h => ?_⟩
  refine wpAny_Call_Name_kw (ld_glob I hx hm ?_ hdb)
  refine PySem.W.callWith_K (h₀ := X.base) I.ok.mod.kin hk (thn (ha.run qs pins s σ H _ I h) fun us s1 ⟨vs, H1, I1, r, q⟩ => ⟨I1.kIn, ?_⟩) he hpl
  exact run_call tk F hr hg I1 r .nil q
theorem pe_cl0 (tk : Takes X W) (F : CallG X.prog X.w X.K X.mg X.base k fv sp) (hr : Room k X.A) (hg : X.A.guards = some []) (hx : Gl X x) (hm : X.mg x = some fv) (hk : PySem.W.keepIn X.K fv = true)
    (hdb : (x == ("__debug__" : Str)) = false := by decide) : PE X (.Call (.Name x p) [] [] qs) (tCl W sp tNil) := by
  refine ⟨fun pins s σ H Q I h => ?_⟩
  refine wpAny_Call_Name_kw (ld_glob I hx hm ?_ hdb)
  exact PySem.W.callWith_K0 I.kIn hk (run_call (us := []) tk F hr hg I .nil .nil h)
end
end Uk

/-! UkB: from the layer into the walk: a def's promise shown by the walker -/
namespace Uk
open PySem PySem.Spec PyProof.Rows L2 StX

/-- the surroundings as the walk wants them -/
abbrev wideA (outer : List Env) : Around := { handled := none, depth := 395, frames := some outer, guards := some [], units := 6500 }
theorem below_wide {A : Around} {outer : List Env} {k : Nat} (hr : Room k A) (hk : 200 ≤ k) (hg : A.guards = some []) (hf : A.frames = some outer) {Γ : PySem.Ctx} (h : Γ.Below A) : Γ.Below (wideA outer) := by
  obtain ⟨h1, h2, h3, h4, h5⟩ := h
  have d := hr.dp
  have u := hr.un
  have e1 : recursionLimit = 1000 := rfl
  have e2 : cLine = 9900 := rfl
  rw [e1] at d
  rw [e2] at u
  refine ⟨h1.trans hr.hd, ?_, fun l hl => ?_, fun g hl => ?_, ?_⟩
  · show _ ≤ 395
    omega
  · cases hl
    exact h3 _ hf
  · cases hl
    exact h4 _ hg
  · show _ ≤ 6500
    omega
theorem code_wide {M : Model} {A : Around} {outer : List Env} {k : Nat} (hr : Room k A) (hk : 200 ≤ k) (hg : A.guards = some []) (hf : A.frames = some outer) {c : Code} {R : Result → Shared → Prop} {s : Shared} (h : codeAny M (wideA outer) c R s) : codeAny M A c R s :=
  fun Γ p hc hb => h Γ p hc (below_wide hr hk hg hf hb)

section
variable {P : Program} {w : World} {K : PySem.W.Frag} {mg : Str → Option Value} {base : Heap} {A : Around} {outer : List Env} {s : Shared} {H : Hp} {Q : VK} {E : XK} {k : Nat}
theorem Env0.kIn (e0 : Env0 P w K mg base A outer s H) : K.In s.heap := e0.mod.kin.keeps fun b o e => (e0.bs b o e).1
theorem Env0.keep (e0 : Env0 P w K mg base A outer s H) : ∀ b o, base.get? b = some o → s.heap.get? b = some o := fun b o e => (e0.bs b o e).1
/-- back from the walk: all that stood stands -/
theorem leave_same {v : V} {u : Value} {h' : Heap} {tk : Nat} {g : Array GenState} {d : Drawn} {os : OsState} (e0 : Env0 P w K mg base A outer s H) (kp : ∀ b o, s.heap.get? b = some o → h'.get? b = some o) (rv : RelV v u) (q : Q v H)
    (hg : AllBare g := by first | assumption | exact Env0.bare (by assumption)) (ho : os = s.os := by rfl) :
    CR (L2.CX P w) outer P w H s Q E (.ok (.ret u)) ⟨h', g, d, tk, os⟩ := ⟨v, H, ho, hg, Un.kept kp, e0.hok.kept kp, rv, q⟩
/-- a def entered, for the walk -/
theorem enter_W {p : Program} {loose : List Str} {mean : ExcName → Option Value} {mb : Str → Option Value} {R : Result → Shared → Prop} {name qual : Str} {params : Arguments} {body : List Stmt} {scope : Scope} {dV kV doc pm cdv ct oc : Value} {an od : Option Addr} {osl : Array (Option Value)}
    {f : Addr} {args : Args} {binds : List (Str × Value)} (hr : Room k A) (hk : 200 ≤ k) (hg : A.guards = some []) (e0 : Env0 P w K mg base A outer s H) (T : Top p loose mean mg mb base)
    (ho : K.lookup f = some ⟨oc, od, .func (PySem.W.fnOf name qual params body scope dV kV doc pm an cdv ct), osl⟩) (hcd : PySem.W.codeIn K cdv qual = true)
    (hbind : BindsTo s (PySem.W.fnOf name qual params body scope dV kV doc pm an cdv ct) args binds) (hloc : ∀ y ∈ binds, scope.names.lookup y.1 = some .local)
    (h : ∀ L' h₁, Fr s.heap L' h₁ (fun y => binds.reverse.lookup y) → News s.heap L' h₁ [] → Below (wideA outer) base outer s.heap → K.In s.heap → Top p loose mean mg mb s.heap →
      wpAny (model P w) ((wideA outer).deeper (envOf qual scope L' f cdv)) (execs body (envOf qual scope L' f cdv))
        (fun fl s' => R (.ok (.ret (match fl with | .ret v => v | _ => .none))) s')
        (fun e s' => wpAny (model P w) ((wideA outer).deeper (envOf qual scope L' f cdv)) (leaving (envOf qual scope L' f cdv) e) (fun _ s'' => R (.error e) s'') (fun e' s'' => R (.error e') s'') s')
        { s with heap := h₁, toks := s.toks + binds.length })
    (hco : scope.isCoroutine = false) (hgen : scope.isGenerator = false) (hkd : scope.kind = .function) (hcell : ∀ x ∈ scope.names, x.2 ≠ .cell) :
    codeAny (model P w) A (.call (.ref f) args) R s := by
  have KX := Env0.kIn e0
  refine code_wide hr hk hg e0.frames ?_
  refine codeAny_call_def (fd := PySem.W.fnOf name qual params body scope dV kV doc pm an cdv ct) (body := body) (binds := binds) (by show 395 < recursionLimit; decide) (KX _ _ ho) rfl (T.nolimit.keeps (Env0.keep e0))
    (PySem.W.codeRec_of KX hcd) rfl hbind hcell hloc (fun h₁ hns hk₁ => ?_) hco hgen hkd
  exact h s.heap.objs.size h₁ ⟨hns, hk₁, Nat.le_refl _⟩ (fun _ hp => nomatch hp) ⟨rfl, Env0.keep e0, e0.funs⟩ KX (T.keeps (Env0.keep e0))
end
end Uk

/-! UkC: != of an instance whose class has its own == and no != -/
namespace Uk
open PySem PySem.W PySem.Spec PySem.Calls PyProof.Rows

section
variable {prog : Program} {w : World} {A : Around} {E : Value → Shared → Prop} {s : Shared} {K : Frag} {x C L f : Addr} {h₀ : Heap} {m : PySem.Str → Option Value} {ox : Obj} {od : Option Obj} {b tb : Value}
/-- a built-in of object's, bound to the instance -/
theorem ifBound_bi {M : Model} {name : PySem.Str} {id T : String} {args : List Value} {Q : Option Value → Shared → Prop} (X : K.In s.heap) (I : InstAt s.heap x ox C od) (hs : findIn K (.ref C) name = some (some (.builtin id))) (S : Slot T name id)
    (h : wpAny M A (call (.builtin id) (.ref x :: args)) (fun v => Q (some v)) E s) : wpAny M A (callSpecialIfBound? (.ref x) name args) Q E s := by
  simp only [callSpecialIfBound?, bindSpecialIfBound?]
  refine wpAny_holding (wpAny_bind (wpAny_bind (wpAny_bind (I.type.here ((looks_findIn X hs).here ?_)))))
  simp only [S.bind]
  refine wpAny_bind (wpAny_askSetting (wpAny_ite ?_))
  have fin : wpAny M A (call (.builtin id) ([.ref x] ++ args) >>= fun v => pure (some v)) Q E s := wpAny_bind (wpAny_mono h (fun v s' h' => wpAny_pure h') fun _ _ h' => h')
  split
  · exact wpAny_bind (wpAny_pure (wpAny_pure fin))
  · exact wpAny_tryCatch (wpAny_bind (wpAny_pure (wpAny_pure fin)))

theorem objNe_K {Q : Fin → Shared → Prop} (hu : A.units < cLine) (X : K.In s.heap) (I : InstAt s.heap x ox C od) (hs : findIn K (.ref C) "__eq__" = some (some (.ref f))) (hf : isFn K (.ref f) = true)
    (h : wpAny (model prog w) A (call (.ref f) [.ref x, b]) (fun v s' => ∃ c, v = .bool c ∧ Q (.done (.ret (.bool (!c)))) s') E s) :
    wpAny (model prog w) A (Builtin.«object.__ne__» ⟨[.ref x, b], []⟩) Q E s := by
  obtain ⟨hp, g, d, t, os⟩ := s
  unfold Builtin.«object.__ne__»
  repeat (first
    | with_reducible refine wpAny_cRoomFor hu ?_
    | (refine wpAny_bind (m := callSpecialIfBound? (.ref x) (PySem.Str.ofString "__eq__") [b])
        (ifBound_K X I hs hf (wpAny_mono h (fun r s' hr => by
          obtain ⟨c, rfl, hq⟩ := hr
          repeat (first | exact hq | exact wpAny_pure hq | exact wpAny_truthy_bool hq | (refine wpAny_bind (m := truthy (.bool _)) (wpAny_truthy_bool ?_)) | wp_step)) fun _ _ e => e)))
    | wp_step)

theorem ne_K {Q : Value → Shared → Prop} (hu : A.units + 1 < cLine) (F : Fr h₀ L s.heap m) (X₀ : K.In h₀) (I : InstAt s.heap x ox C od) (hb : Looks (model prog w) s.heap (typeOf b) tb) (hn : notFirst K C tb = true)
    (hne : findIn K (.ref C) "__ne__" = some (some (.builtin "object.__ne__"))) (hs : findIn K (.ref C) "__eq__" = some (some (.ref f))) (hf : isFn K (.ref f) = true) (ho : mroIn K C (.type "object") = some true)
    (h : wpAny (model prog w) A.in1 (call (.ref f) [.ref x, b]) (fun v s' => ∃ c, v = .bool c ∧ Q (.bool (!c)) s') E s) : wpAny (model prog w) A (richCompare .NotEq (.ref x) b) Q E s := by
  have X := X₀.keeps F.keep
  have sub : Looks (model prog w) s.heap (isInstance (.ref x) (.type "object")) true := I.type.andThen (looks_mroIn X ho)
  have one : wpAny (model prog w) A (tryCompare (.ref x) "__ne__" b) (fun r s' => ∃ v, r = some v ∧ Q v s') E s := by
    unfold tryCompare
    refine wpAny_bind (ifBound_bi X I hne PySem.F.cmp_object.ne (wpAny_call (codeAny_call_builtin PySem.F.cmp_object.ne.plain PySem.F.cmpEntry_ne (check_slot PySem.F.cmpKind_ne PySem.F.cmpSplit_ne sub (PySem.F.cmpArgs_ne _ _) ?_))))
    refine objNe_K (A := A.in1) (by show A.units + 1 < cLine; exact hu) X I hs hf (wpAny_mono h (fun v s' hv => ?_) fun _ _ e => e)
    obtain ⟨c, rfl, hq⟩ := hv
    exact ⟨c, rfl, wpAny_pure ⟨_, rfl, hq⟩⟩
  unfold richCompare
  simp only [oneThing_ref]
  refine wpAny_holding (wpAny_bind (wpAny_cRoomFor (Nat.lt_of_succ_lt hu) ?_))
  rw [cmpInfo_NotEq]
  dsimp only
  refine wpAny_bind (I.type.here (wpAny_bind (hb.here ?_)))
  split
  · rename_i q
    have e : subIn K tb (.ref C) = some false := by
      rcases Bool.or_eq_true_iff.mp hn with e | e
      · rw [beq_iff_eq.mp e] at q; simp at q
      · exact beq_iff_eq.mp e
    refine wpAny_bind ((looks_subIn X e).here ?_)
    simp only [Bool.false_eq_true, if_false]
    refine wpAny_bind (wpAny_mono one (fun r s' z => ?_) fun _ _ e => e)
    obtain ⟨v, rfl, hq⟩ := z
    exact wpAny_pure hq
  · refine wpAny_bind (wpAny_pure ?_)
    simp only [Bool.false_eq_true, if_false]
    refine wpAny_bind (wpAny_mono one (fun r s' z => ?_) fun _ _ e => e)
    obtain ⟨v, rfl, hq⟩ := z
    exact wpAny_pure hq
def BoolNot (Q : Value → Shared → Prop) (v : Value) (s' : Shared) : Prop := match v with
  | .bool c => Q (.bool (!c)) s'
  | _ => False
theorem ne_K' {Q : Value → Shared → Prop} (hu : A.units + 1 < cLine) (F : Fr h₀ L s.heap m) (X₀ : K.In h₀) (I : InstAt s.heap x ox C od) (hb : Looks (model prog w) s.heap (typeOf b) tb) (hn : notFirst K C tb = true)
    (hne : findIn K (.ref C) "__ne__" = some (some (.builtin "object.__ne__"))) (hs : findIn K (.ref C) "__eq__" = some (some (.ref f))) (hf : isFn K (.ref f) = true) (ho : mroIn K C (.type "object") = some true)
    (h : wpAny (model prog w) A.in1 (call (.ref f) [.ref x, b]) (BoolNot Q) E s) : wpAny (model prog w) A (compareOp .NotEq (.ref x) b) Q E s :=
  ne_K hu F X₀ I hb hn hne hs hf ho (wpAny_mono h (fun v s' hv => by
    cases v <;> first | exact False.elim hv | exact ⟨_, rfl, hv⟩) fun _ _ e => e)
end
end Uk

/-! UkD: operators that a class of the program defines -/
namespace Uk
open PySem PySem.Spec PyProof.Rows L2 StX

/-- nothing is raised -/
abbrev NoE : XK := fun _ _ _ => False
section
variable {X : Cx} {W : WX} {k : Nat} {fv : Value} {sp : SpK} {pins : List (Addr × Obj)} {σ : L2.St} {H : Hp} {s : Shared} {Q : VK}
theorem cx_no {P : Program} {w : World} {outer : List Env} {u : Value} {s' : Shared} (h : L2.CX P w outer H s NoE u s') : False := by
  obtain ⟨a, B, H', cls, d, ea, fl, hok, ub, na, os, ag, he⟩ := h
  exact he
/-- the callee runs in the body's surroundings, or in ones like them, and raises nothing -/
theorem run_callN {A' : Around} {E₁ : Value → Shared → Prop} {us : List Value} {vs : List V} (F : CallG X.prog X.w X.K X.mg X.base k fv sp) (hr : Room k A') (hg : A'.guards = some []) (hf : A'.frames = X.A.frames) (I : Inv X pins σ H s) (r : Vals vs us)
    (h : sp vs [] H Q NoE) : wpAny (model X.prog X.w) A' (call fv us) (EP X pins σ Q) E₁ s := by
  have e := I.env0
  have e0 : Env0 X.prog X.w X.K X.mg X.base A' X.stack s H := ⟨hf.trans e.frames, e.mod, e.bs, e.bsz, e.funs, e.frf, e.hok, e.bare⟩
  refine wpAny_call (codeAny_mono (F A' X.stack s H us [] vs [] Q NoE hr hg e0 r .nil h) fun r s' hq => ?_)
  cases r with
  | error e => exact (cx_no hq).elim
  | ok fl =>
    cases fl with
    | ret u => exact I.after hq
    | next => exact False.elim hq
    | brk => exact False.elim hq
    | cont => exact False.elim hq
theorem rel_ne {v : V} {u : Value} (r : RelV v u) : u ≠ .notImplemented := by
  intro e
  subst e
  cases v <;> first | (cases r; done) | (obtain ⟨_, e⟩ := r; cases e)
/-- a method of the class by its special name -/
structure Own (K : PySem.W.Frag) (C : Addr) (m : PySem.Str) (f : Addr) : Prop where
  at_ : PySem.W.findIn K (.ref C) m = some (some (.ref f))
  fn : PySem.W.isFn K (.ref f) = true
theorem ins_at {P : Program} {w : World} {h : Heap} {a C dx : Addr} {fs : List (Str × V)} (hok : HOk P w H h) (e : H a = some (.ins C dx fs)) : ∃ od, PySem.W.InstAt h a (PySem.W.instObj C dx) C (some od) := by
  obtain ⟨mA, O, _⟩ := ins_get hok e
  obtain ⟨od, J, _⟩ := O.look
  exact ⟨od, J⟩
theorem looks_ty {x : V} {u t : Value} (I : Inv X pins σ H s) (rx : RelV x u) (ty : TyX X.K H x t) {M : Model} : PySem.W.Looks M s.heap (typeOf u) t := by
  obtain ⟨P, Z, p, _⟩ := kit_of I rx ty
  exact Z.ty M s.heap I.kIn p
/-- one own, the other any -/
def rOw (K : PySem.W.Frag) (D : Addr → Prop) (sp : SpK) (g : V → V) : R2 := fun x y H Q => ∃ (a C dx : Addr) (fs : List (Str × V)) (t : Value), x = .ref a ∧ D C ∧ H a = some (.ins C dx fs) ∧ TyX K H y t ∧ PySem.W.notFirst K C t = true ∧ sp [x, y] [] H (fun v H' => Q (g v) H') NoE
theorem op_eqO {D : Addr → Prop} {f : Addr} (F : CallG X.prog X.w X.K X.mg X.base k (.ref f) sp) (hr : Room k X.A) (hg : X.A.guards = some []) (hD : ∀ C, D C → Own X.K C "__eq__" f) : OpR X (compareOp .Eq) (rOw X.K D sp id) := by
  intro pins s σ H x y u v Q I rx ry h
  obtain ⟨a, C, dx, fs, t, rfl, d, e, ty, nf, q⟩ := h
  obtain rfl : u = Value.ref a := rx
  obtain ⟨od, J⟩ := ins_at I.hok e
  obtain ⟨m, fr⟩ := I.fr
  refine PySem.W.cmp_ofEq (PySem.W.cmp_K hr.units0 fr I.ok.mod.kin J (looks_ty I ry ty) nf (hD C d).at_ (hD C d).fn (wpAny_mono (run_callN F hr hg rfl I (vs := [.ref a, y]) (us := [.ref a, v]) (.cons rfl (.cons ry .nil)) q) (fun z s' hz => ?_) fun _ _ y => y))
  obtain ⟨v', H', I', rv, q'⟩ := hz
  have hn := rel_ne rv
  cases z <;> first | exact absurd rfl hn | exact ⟨v', H', I', rv, q'⟩
theorem op_ltO {D : Addr → Prop} {f : Addr} (F : CallG X.prog X.w X.K X.mg X.base k (.ref f) sp) (hr : Room k X.A) (hg : X.A.guards = some []) (hD : ∀ C, D C → Own X.K C "__lt__" f) : OpR X (compareOp .Lt) (rOw X.K D sp id) := by
  intro pins s σ H x y u v Q I rx ry h
  obtain ⟨a, C, dx, fs, t, rfl, d, e, ty, nf, q⟩ := h
  obtain rfl : u = Value.ref a := rx
  obtain ⟨od, J⟩ := ins_at I.hok e
  obtain ⟨m, fr⟩ := I.fr
  refine PySem.W.cmp_ofLt (PySem.W.cmp_K hr.units0 fr I.ok.mod.kin J (looks_ty I ry ty) nf (hD C d).at_ (hD C d).fn (wpAny_mono (run_callN F hr hg rfl I (vs := [.ref a, y]) (us := [.ref a, v]) (.cons rfl (.cons ry .nil)) q) (fun z s' hz => ?_) fun _ _ y => y))
  obtain ⟨v', H', I', rv, q'⟩ := hz
  have hn := rel_ne rv
  cases z <;> first | exact absurd rfl hn | exact ⟨v', H', I', rv, q'⟩
def notV : V → V
  | .bl b => .bl (!b)
  | v => v
/-- != by an own == -/
def rNeOw (K : PySem.W.Frag) (D : Addr → Prop) (sp : SpK) : R2 := fun x y H Q => ∃ (a C dx : Addr) (fs : List (Str × V)) (t : Value), x = .ref a ∧ D C ∧ H a = some (.ins C dx fs) ∧ TyX K H y t ∧ PySem.W.notFirst K C t = true ∧ sp [x, y] [] H (fun v H' => ∃ b, v = .bl b ∧ Q (.bl (!b)) H') NoE
structure OwnNe (K : PySem.W.Frag) (C : Addr) (f : Addr) : Prop where
  eq : Own K C "__eq__" f
  ne : PySem.W.findIn K (.ref C) "__ne__" = some (some (.builtin "object.__ne__"))
  ob : PySem.W.mroIn K C (.type "object") = some true
theorem op_neO {D : Addr → Prop} {f : Addr} (F : CallG X.prog X.w X.K X.mg X.base k (.ref f) sp) (hr : Room (k + 1) X.A) (hg : X.A.guards = some []) (hD : ∀ C, D C → OwnNe X.K C f) : OpR X (compareOp .NotEq) (rNeOw X.K D sp) := by
  intro pins s σ H x y u v Q I rx ry h
  obtain ⟨a, C, dx, fs, t, rfl, d, e, ty, nf, q⟩ := h
  obtain rfl : u = Value.ref a := rx
  obtain ⟨od, J⟩ := ins_at I.hok e
  obtain ⟨m, fr⟩ := I.fr
  refine ne_K' (by have := hr.units; omega) fr I.ok.mod.kin J (looks_ty I ry ty) nf (hD C d).ne (hD C d).eq.at_ (hD C d).eq.fn (hD C d).ob (wpAny_mono (run_callN F hr.in1 hg rfl I (vs := [.ref a, y]) (us := [.ref a, v]) (.cons rfl (.cons ry .nil)) q) (fun z s' hz => ?_) fun _ _ y => y)
  obtain ⟨v', H', I', rv, b, rfl, q'⟩ := hz
  obtain rfl : z = Value.bool b := rv
  exact ⟨.bl (!b), H', I', rfl, q'⟩
/-- a + b, both of one class -/
def rBinO (D : Addr → Prop) (sp : SpK) : R2 := fun x y H Q => ∃ (a b C dx dy : Addr) (fs gs : List (Str × V)), x = .ref a ∧ y = .ref b ∧ D C ∧ H a = some (.ins C dx fs) ∧ H b = some (.ins C dy gs) ∧ sp [x, y] [] H Q NoE
structure OwnBin (K : PySem.W.Frag) (C : Addr) (m : PySem.Str) (f : Addr) : Prop where
  at_ : PySem.W.findIn K (.ref C) m = some (some (.ref f))
  fn : PySem.W.isFn K (.ref f) = true
  first : PySem.W.selfFirst K C = true
theorem op_binO {op : Operator} {D : Addr → Prop} {f : Addr} (F : CallG X.prog X.w X.K X.mg X.base k (.ref f) sp) (hr : Room k X.A) (hg : X.A.guards = some []) (hD : ∀ C, D C → OwnBin X.K C (PySem.dunder op.info.2) f) : OpR X (binaryOp op) (rBinO D sp) := by
  intro pins s σ H x y u v Q I rx ry h
  obtain ⟨a, b, C, dx, dy, fs, gs, rfl, rfl, d, e1, e2, q⟩ := h
  obtain rfl : u = Value.ref a := rx
  obtain rfl : v = Value.ref b := ry
  obtain ⟨od, J⟩ := ins_at I.hok e1
  obtain ⟨od2, J2⟩ := ins_at I.hok e2
  obtain ⟨m, fr⟩ := I.fr
  refine PySem.W.binop_K fr I.ok.mod.kin J J2.type (hD C d).first (hD C d).at_ (hD C d).fn (wpAny_mono (run_callN F hr hg rfl I (vs := [.ref a, .ref b]) (us := [.ref a, .ref b]) (.cons rfl (.cons rfl .nil)) q) (fun z s' hz => ?_) fun _ _ y => y)
  obtain ⟨v', H', I', rv, q'⟩ := hz
  have hn := rel_ne rv
  cases z <;> first | exact absurd rfl hn | exact ⟨v', H', I', rv, q'⟩
/-- an instance's truth by its own __bool__ -/
def rTruO (D : Addr → Prop) (sp : SpK) : V → Hp → (Bool → Hp → Prop) → Prop := fun x H Q => ∃ (a C dx : Addr) (fs : List (Str × V)), x = .ref a ∧ D C ∧ H a = some (.ins C dx fs) ∧ sp [x] [] H (fun v H' => ∃ b, v = .bl b ∧ Q b H') NoE
theorem tru_O {D : Addr → Prop} {f : Addr} (F : CallG X.prog X.w X.K X.mg X.base k (.ref f) sp) (hr : Room k X.A) (hg : X.A.guards = some []) (hD : ∀ C, D C → Own X.K C "__bool__" f) : TruR X (rTruO D sp) := by
  intro pins s σ H x u Q I rx h
  obtain ⟨a, C, dx, fs, rfl, d, e, q⟩ := h
  obtain rfl : u = Value.ref a := rx
  obtain ⟨od, J⟩ := ins_at I.hok e
  obtain ⟨m, fr⟩ := I.fr
  refine PySem.W.truthy_K fr I.ok.mod.kin J (hD C d).at_ (hD C d).fn (wpAny_mono (run_callN F hr hg rfl I (vs := [.ref a]) (us := [.ref a]) (.cons rfl .nil) q) (fun z s' hz => ?_) fun _ _ y => y)
  obtain ⟨v', H', I', rv, b, rfl, q'⟩ := hz
  obtain rfl : z = Value.bool b := rv
  exact ⟨H', I', q'⟩
end
end Uk

/-! UkE: repr of data -/
namespace Uk
open PySem PySem.Spec PyProof.Rows L2 StX

section
variable {K : PySem.W.Frag} {H H' : Hp}
mutual
theorem dp_noDict : ∀ {d : PyData} {v : V}, Dp K H v d → d.hasDict = false
  | .none, _, _ => rfl
  | .bool _, _, _ => rfl
  | .int _, _, _ => rfl
  | .str _, _, _ => rfl
  | .list ds, _, h => by
    cases h with
    | lst _ r => exact dpAll_noDict r
  | .tuple ds, _, h => by
    cases h with
    | tup _ r => exact dpAll_noDict r
  | .dict _, _, h => nomatch h
theorem dpAll_noDict : ∀ {ds : List PyData} {vs : List V}, DpAll K H vs ds → PyData.hasDictAll ds = false
  | [], _, _ => rfl
  | d :: ds, _, h => by
    cases h with
    | cons a r =>
      show (PyData.hasDict d || PyData.hasDictAll ds) = false
      rw [dp_noDict a, dpAll_noDict r] <;> rfl
end
theorem sq_mono {a : Addr} {xs : List V} (e : Same H H') (h : SqL K H a xs) : SqL K H' a xs := e.seq h
theorem st_mono {a : Addr} {xs : List V} (e : Same H H') (h : SqT K H a xs) : SqT K H' a xs := by
  rcases h with (h | ⟨o, h⟩) | h
  · exact .inl (.inl (e _ _ h))
  · exact .inl (.inr ⟨o, e _ _ h⟩)
  · exact .inr h
mutual
theorem dp_mono (e : Same H H') : ∀ {d : PyData} {v : V}, Dp K H v d → Dp K H' v d
  | .none, _, h => by cases h; exact .non
  | .bool b, _, h => by cases h; exact .bl b
  | .int i, _, h => by cases h; exact .int i
  | .str x, _, h => by cases h; exact .str x
  | .list ds, _, h => by
    cases h with
    | lst a r => exact .lst (sq_mono e a) (dpAll_mono e r)
  | .tuple ds, _, h => by
    cases h with
    | tup a r => exact .tup (st_mono e a) (dpAll_mono e r)
  | .dict _, _, h => nomatch h
theorem dpAll_mono (e : Same H H') : ∀ {ds : List PyData} {vs : List V}, DpAll K H vs ds → DpAll K H' vs ds
  | [], _, h => by cases h; exact .nil
  | d :: ds, _, h => by
    cases h with
    | cons a r => exact .cons (dp_mono e a) (dpAll_mono e r)
end
end

/-- what may be shown -/
structure Shw (d : PyData) : Prop where
  sh : d.showable = true
  sz : d.shown.length ≤ sizeLine
  dp : d.depth ≤ 60
def rRepr (K : PySem.W.Frag) : List V → Hp → VK → Prop := fun xs H Q => ∃ v d, xs = [v] ∧ Dp K H v d ∧ Shw d ∧ Q (.str d.shown) H
section
variable {X : Cx}
theorem call_repr (hg : X.A.guards = some []) (hu : X.A.units + 64 < cLine) : CallR X (.builtin "repr") (rRepr X.K) := by
  intro pins s σ H xs us Q I r h
  obtain ⟨v, d, rfl, hd, ⟨h1, h2, h3⟩, q⟩ := h
  obtain ⟨u, rfl, rv⟩ := vals1 r
  cases hd with
  | non => cases (show u = Value.none from rv); exact PySem.P.repr_of_none ⟨.str _, H, I.tok _, ⟨_, rfl⟩, q⟩
  | bl b =>
    cases (show u = Value.bool b from rv)
    refine PySem.P.repr_of_bool ⟨.str _, H, I.tok _, ⟨_, rfl⟩, ?_⟩
    cases b <;> exact q
  | int i =>
    obtain ⟨t, rfl⟩ := (show ∃ t, u = Value.int i t from rv)
    exact PySem.P.repr_of_int (of_decide_eq_true h1) ⟨.str _, H, I.tok _, ⟨_, rfl⟩, q⟩
  | str x =>
    obtain ⟨t, rfl⟩ := (show ∃ t, u = Value.str x t from rv)
    exact PySem.P.repr_of_str ⟨.str _, H, I.tok _, ⟨_, rfl⟩, q⟩ h2
  | @lst a xs ds hl hr =>
    have hd := Dp.lst hl hr
    obtain ⟨as, rd⟩ := Dp.reads I _ _ u hd rv
    obtain rfl : u = Value.ref a := rv
    refine repr_of_reads' (h₀ := s.heap) rd h1 (fun z => by rw [dp_noDict hd] at z; cases z) hg (by omega) (fun _ _ e => e) (fun h' t tk kp => ?_) h2
    exact ⟨.str _, H, I.kept kp, ⟨_, rfl⟩, q⟩
  | @tup a xs ds hl hr =>
    have hd := Dp.tup hl hr
    obtain ⟨as, rd⟩ := Dp.reads I _ _ u hd rv
    obtain rfl : u = Value.ref a := rv
    refine repr_of_reads' (h₀ := s.heap) rd h1 (fun z => by rw [dp_noDict hd] at z; cases z) hg (by omega) (fun _ _ e => e) (fun h' t tk kp => ?_) h2
    exact ⟨.str _, H, I.kept kp, ⟨_, rfl⟩, q⟩
end
end Uk

/-! UkF: small words for readings; the pen -/
namespace Uk
open PySem PySem.Spec PyProof.Rows L2 StX

theorem hu_big {A : Around} {k : Nat} (hr : Room k A) : A.units + 64 < cLine := hr.units
/-- one object was changed (or made), all else that was told stands -/
structure Chg (p : Addr) (o : HO) (H H' : Hp) : Prop where
  at_ : H' p = some o
  ne : ∀ a u, a ≠ p → H a = some u → H' a = some u
theorem Chg.upd {p : Addr} {o : HO} {H : Hp} : Chg p o H (upd H p o) := ⟨upd_same, fun a u n e => by rw [upd_ne n]; exact e⟩
theorem Chg.same {p : Addr} {o : HO} {H H1 H2 : Hp} (e : Same H H1) (c : Chg p o H1 H2) : Chg p o H H2 := ⟨c.at_, fun a u n h => c.ne a u n (e a u h)⟩
theorem Chg.trans {p : Addr} {o u : HO} {H H1 H2 : Hp} (a : Chg p o H H1) (b : Chg p u H1 H2) : Chg p u H H2 := ⟨b.at_, fun x y n e => b.ne x y n (a.ne x y n e)⟩
theorem Chg.then {p : Addr} {o : HO} {H H1 H2 : Hp} (a : Chg p o H H1) (b : Same H1 H2) : Chg p o H H2 := ⟨b _ _ a.at_, fun x y n e => b _ _ (a.ne x y n e)⟩
theorem same_new {H : Hp} {p : Addr} {o : HO} (h : H p = none) : Same H (upd H p o) := fun b x e => by rw [upd_ne (ne_of_none e h)]; exact e
/-- an item of a list at a written place -/
theorem atI_lit {α : Type} {xs : List α} {i : Int} {v : α} (h0 : 0 ≤ i) (h : xs[i.toNat]? = some v) : atI xs i = some v := by
  have := atI_nat h
  rwa [Int.toNat_of_nonneg h0] at this
theorem ixN_lit {n : Nat} {i : Int} (h0 : 0 ≤ i) (h1 : i < n) : ixN n i = some i.toNat := by unfold ixN; rw [if_pos h0, if_pos h1]
theorem atI_mem {α : Type} {xs : List α} {i : Int} (h0 : 0 ≤ i) (h1 : i < xs.length) : ∃ v, atI xs i = some v ∧ v ∈ xs := by
  have hl : i.toNat < xs.length := by omega
  exact ⟨xs[i.toNat], atI_lit h0 (List.getElem?_eq_getElem hl), List.getElem_mem hl⟩
theorem ite_b {b : Bool} {A B : Prop} (h1 : b = true → A) (h2 : b = false → B) : if b = true then A else B := by
  cases b with
  | true => exact iteT (h1 rfl)
  | false => exact iteF (h2 rfl)

/-- the pen at p: its cells at c, how many were begun, what is left -/
abbrev penO (c : Addr) (b l : Int) : HO := .lst [.ref c, .int b, .int l]
/-- the promise of what draws -/
def spDraw : Sp := fun vs H Q _ => ∃ (p c : Addr) (b l many : Int) (ns : List Int), vs = [.ref p, .int many] ∧ H p = some (penO c b l) ∧ H c = some (.lst (ns.map .int)) ∧ ns.length ≤ 63 ∧ 0 ≤ b ∧ b ≤ 100000 ∧ 1 ≤ many ∧ many ≤ 100000 ∧
  ∀ (d b' l' : Int) (H' : Hp), 0 ≤ d → d < many → b ≤ b' → b' ≤ b + 1 → Chg p (penO c b' l') H H' → Q (.int d) H'
theorem fmod_range {i j : Int} (h : 0 < j) : 0 ≤ i.fmod j ∧ i.fmod j < j := by
  rw [Int.fmod_eq_emod_of_nonneg _ (Int.le_of_lt h)]
  exact ⟨Int.emod_nonneg _ (Int.ne_of_gt h), Int.emod_lt_of_pos _ h⟩
theorem fmod_ex {C : Int} (h : 0 < C) (i : Int) : ∃ m, i.fmod C = m ∧ 0 ≤ m ∧ m < C := ⟨_, rfl, (fmod_range h).1, (fmod_range h).2⟩
theorem lay_ints : ∀ ns : List Int, PyData.canLayAll0 (ns.map PyData.int) = true
  | [] => rfl
  | n :: r => by
    show (PyData.canLay0 (.int n) && PyData.canLayAll0 (r.map PyData.int)) = true
    rw [lay_ints r]
    rfl
theorem dep_ints : ∀ ns : List Int, PyData.depthAll (ns.map PyData.int) = 0
  | [] => rfl
  | n :: r => by
    show max (PyData.depth (.int n)) (PyData.depthAll (r.map PyData.int)) = 0
    rw [dep_ints r]
    rfl
theorem shaped_ints (ns : List Int) : SeqAt.shaped (.list (ns.map PyData.int)) = true := by
  unfold SeqAt.shaped
  rw [show PyData.canLay0 (.list (ns.map PyData.int)) = true from lay_ints ns, show PyData.depth (.list (ns.map PyData.int)) = 1 by show PyData.depthAll (ns.map PyData.int) + 1 = 1; rw [dep_ints]]
  rfl
theorem dpAll_ints {K : PySem.W.Frag} {H : Hp} : ∀ ns : List Int, DpAll K H (ns.map V.int) (ns.map PyData.int)
  | [] => .nil
  | n :: r => .cons (.int n) (dpAll_ints r)
end Uk

/-! UkG: making instances, static methods and own methods by the promises of UkA -/
namespace Uk
open PySem PySem.Spec PyProof.Rows L2 StX
theorem under_guards {A : Around} {C : Addr} {us : List Value} {kw : List (Str × Value)} (h : A.guards = some []) : (A.under (.builtin "type.__call__" ⟨.ref C :: us, kw⟩)).guards = some [] := by
  first | exact h | (simpa [Around.under, Code.envs, Code.isFrame, pushEnvs] using h)
section
variable {X : Cx} {W : WX} {k : Nat} {C f : Addr} {sp : Sp} {pins : List (Addr × Obj)} {σ : L2.St} {H : Hp} {s : Shared} {Q : VK}
/-- what the making of an instance asks of its __init__ -/
def spMk (C : Addr) (sp : Sp) : Sp := fun vs H Q E => ∀ x dx, H x = none → H dx = none → dx ≠ x → sp (.ref x :: vs) (upd (upd H dx (.own x)) x (.ins C dx [])) (fun v H2 => v = .non ∧ Q (.ref x) H2) E
theorem run_makeG {us : List Value} {vs : List V} (tk : Takes X W) (M : Mk X.K C f) (F : CallG X.prog X.w X.K X.mg X.base k (.ref f) (pos sp)) (hr : Room (k + 1) X.A) (hg : X.A.guards = some []) (I : Inv X pins σ H s) (r : Vals vs us)
    (h : spMk C sp vs H Q (WE W σ)) : wpAny (model X.prog X.w) X.A (call (.ref C) us) (EP X pins σ Q) X.xe s := by
  have hq := h (s.heap.objs.size + 1) s.heap.objs.size (I.hok.fresh (Nat.le_succ _)) (I.hok.fresh (Nat.le_refl _)) (Nat.ne_of_lt (Nat.lt_succ_self _))
  have I2 := Inv.made (C := C) I
  have r2 : Vals (V.ref (s.heap.objs.size + 1) :: vs) (Value.ref (s.heap.objs.size + 1) :: us) := .cons rfl r
  refine wpAny_call (make_map (f := f) I.kIn M.makes M.init (beq_iff_eq.mp M.fn) (codeAny_mono (F _ X.stack _ _ (Value.ref (s.heap.objs.size + 1) :: us) [] _ [] _ _ (hr.make C us []) (under_guards hg) (I2.env0.make C us []) r2 .nil ⟨rfl, hq⟩) fun r s' hq' => ?_))
  cases r with
  | error e => exact passAt tk σ pins _ _ e s' I2 hq'
  | ok fl =>
    cases fl with
    | ret u =>
      obtain ⟨v, H', I3, rv, ev, q3⟩ := I2.after hq'
      subst ev
      exact ⟨rv, ⟨V.ref (s.heap.objs.size + 1), H', I3, rfl, q3⟩⟩
    | next => exact False.elim hq'
    | brk => exact False.elim hq'
    | cont => exact False.elim hq'
variable {x : Str} {p qs : Pos} {e : Expr} {es : List Expr} {t : TA}
/-- C(e, ..) -/
theorem pe_mkG (tk : Takes X W) (M : Mk X.K C f) (F : CallG X.prog X.w X.K X.mg X.base k (.ref f) (pos sp)) (hr : Room (k + 1) X.A) (hg : X.A.guards = some []) (hx : Gl X x) (hm : X.mg x = some (.ref C)) (ha : PA X (e :: es) t)
    (hdb : (x == ("__debug__" : Str)) = false := by decide) (he : starEach (e :: es) X.env = (false, eval e X.env) :: starEach es X.env := by rfl) (hpl : (backTo qs (starEach es X.env)).any (·.1) = false := by rfl) :
    PE X (.Call (.Name x p) (e :: es) [] qs) (tCl W (pos (spMk C sp)) t) := by
  refine ⟨fun pins s σ H Q I h => ?_⟩
  refine wpAny_Call_Name_kw (ld_glob I hx hm ?_ hdb)
  refine PySem.W.callWith_K (h₀ := X.base) I.ok.mod.kin M.kp (thn (ha.run qs pins s σ H _ I h) fun us s1 ⟨vs, H1, I1, r, q⟩ => ⟨I1.kIn, ?_⟩) he hpl
  exact run_makeG tk M F hr hg I1 r q.2
theorem pe_mkG0 (tk : Takes X W) (M : Mk X.K C f) (F : CallG X.prog X.w X.K X.mg X.base k (.ref f) (pos sp)) (hr : Room (k + 1) X.A) (hg : X.A.guards = some []) (hx : Gl X x) (hm : X.mg x = some (.ref C))
    (hdb : (x == ("__debug__" : Str)) = false := by decide) : PE X (.Call (.Name x p) [] [] qs) (tCl W (pos (spMk C sp)) tNil) := by
  refine ⟨fun pins s σ H Q I h => ?_⟩
  refine wpAny_Call_Name_kw (ld_glob I hx hm ?_ hdb)
  exact PySem.W.callWith_K0 I.kIn M.kp (run_makeG (us := []) tk M F hr hg I .nil h.2)
end

/-- C.m is a staticmethod: its record at p, its def at g -/
structure SMet (K : PySem.W.Frag) (C : Addr) (mc : Value) (m : Str) (p g : Addr) : Prop where
  rd : PySem.W.readsIn K C mc = true
  ga : PySem.W.specialIn K (.ref C) "__getattribute__" = some (some (.builtin "type.__getattribute__"))
  at_ : PySem.W.findCls K (.ref C) mc m = some (.get (.builtin "staticmethod.__get__") (.ref p) .none (.ref C))
  rc : ∃ rest, PySem.W.recIn K p "staticmethod" = some (.ref g :: rest)
  kp : PySem.W.keepIn K (.ref g) = true
section
variable {X : Cx} {W : WX} {k : Nat} {C f p g : Addr} {mc : Value} {sp : SpK} {m x : Str} {o e : Expr} {es : List Expr} {qs apos : Pos} {ta : TE} {t : TA} {pl : Sem Bool} {pins : List (Addr × Obj)} {σ : L2.St} {H : Hp} {s : Shared} {A : Around} {E : Value → Shared → Prop}
theorem getmethsm_ok {pl : Sem Bool} {Q : Value × List Value → Shared → Prop} (I : Inv X pins σ H s) (k : SMet X.K C mc m p g)
    (h : ∀ s', Inv X pins σ H s' → Q (.ref g, []) s') : wpAny (model X.prog X.w) A (getMethod (.ref C) m pl) Q E s := by
  obtain ⟨rest, hp⟩ := k.rc
  refine PySem.W.method_cls I.kIn k.ga (PySem.W.cls_bind I.kIn k.rd k.at_ ?_)
  exact wpAny_call (PySem.W.sm_get (s := { s with toks := s.toks + 1 }) I.kIn hp (PySem.W.handed_on rfl (h _ (I.tok _))))
/-- C.m(e, ..), m a staticmethod -/
def tSm (W : WX) (C : Addr) (sp : SpK) (ta : TE) (t : TA) : TE := fun σ H Q => ta σ H fun x H1 => x = .ref C ∧ t σ H1 fun vs H2 => sp vs [] H2 Q (WE W σ)
theorem pe_sm (tk : Takes X W) (he : PE X o ta) (c : SMet X.K C mc m p g) (F : CallG X.prog X.w X.K X.mg X.base k (.ref g) sp) (hr : Room k X.A) (hg : X.A.guards = some []) (ha : PA X (e :: es) t)
    (hst : starEach (e :: es) X.env = (false, eval e X.env) :: starEach es X.env := by rfl) (hpl : (backTo qs (starEach es X.env)).any (·.1) = false := by rfl)
    (ht : eval (.Call (.Attribute o m apos) (e :: es) [] qs) X.env = (do
      let ov ← eval o X.env
      standAt apos.atName
      let (f, first) ← holding [ov] (getMethod ov m pl)
      callWith qs f first (backTo qs (starEach (e :: es) X.env)) (backToKw qs (keywordEach [] X.env))) := by rfl) :
    PE X (.Call (.Attribute o m apos) (e :: es) [] qs) (tSm W C sp ta t) := by
  refine ⟨fun pins s σ H Q I h => ?_⟩
  refine PySem.W.methodCall_KW (pl := pl) (thn (he.run pins s σ H _ I h) fun u s1 ⟨x, H1, I1, rx, ex, q⟩ => ?_) ht
  subst ex
  obtain rfl : u = Value.ref C := rx
  refine getmethsm_ok I1 c fun s2 I2 => ?_
  refine PySem.W.callWith_K (h₀ := X.base) I2.ok.mod.kin c.kp (thn (ha.run qs pins s2 σ H1 _ I2 q) fun us s3 ⟨vs, H2, I3, r, q2⟩ => ⟨I3.kIn, ?_⟩) hst hpl
  exact run_call tk F hr hg I3 r .nil q2
theorem pe_sm0 (tk : Takes X W) (he : PE X o ta) (c : SMet X.K C mc m p g) (F : CallG X.prog X.w X.K X.mg X.base k (.ref g) sp) (hr : Room k X.A) (hg : X.A.guards = some [])
    (ht : eval (.Call (.Attribute o m apos) [] [] qs) X.env = (do
      let ov ← eval o X.env
      standAt apos.atName
      let (f, first) ← holding [ov] (getMethod ov m pl)
      callWith qs f first (backTo qs (starEach [] X.env)) (backToKw qs (keywordEach [] X.env))) := by rfl) :
    PE X (.Call (.Attribute o m apos) [] [] qs) (tSm W C sp ta tNil) := by
  refine ⟨fun pins s σ H Q I h => ?_⟩
  refine PySem.W.methodCall_KW (pl := pl) (thn (he.run pins s σ H _ I h) fun u s1 ⟨x, H1, I1, rx, ex, q⟩ => ?_) ht
  subst ex
  obtain rfl : u = Value.ref C := rx
  refine getmethsm_ok I1 c fun s2 I2 => ?_
  exact PySem.W.callWith_K0 I2.kIn c.kp (run_call (us := []) tk F hr hg I2 .nil .nil q)
/-- o.m(e, ..), m a method of o's class -/
def tMeG (W : WX) (C : Addr) (m : Str) (sp : SpK) (ta : TE) (t : TA) : TE := fun σ H Q => ta σ H fun x H1 => ∃ a dx fs, x = .ref a ∧ H1 a = some (.ins C dx fs) ∧ fs.lookup m = none ∧ t σ H1 fun vs H2 => sp (.ref a :: vs) [] H2 Q (WE W σ)
theorem pe_meG (tk : Takes X W) (he : PE X o ta) (c : Cls X.K C) (hm : Meth X.K C m f) (F : CallG X.prog X.w X.K X.mg X.base k (.ref f) sp) (hr : Room k X.A) (hg : X.A.guards = some []) (ha : PA X (e :: es) t)
    (hst : starEach (e :: es) X.env = (false, eval e X.env) :: starEach es X.env := by rfl) (hpl : (backTo qs (starEach es X.env)).any (·.1) = false := by rfl)
    (ht : eval (.Call (.Attribute o m apos) (e :: es) [] qs) X.env = (do
      let ov ← eval o X.env
      standAt apos.atName
      let (f, first) ← holding [ov] (getMethod ov m pl)
      callWith qs f first (backTo qs (starEach (e :: es) X.env)) (backToKw qs (keywordEach [] X.env))) := by rfl) :
    PE X (.Call (.Attribute o m apos) (e :: es) [] qs) (tMeG W C m sp ta t) := by
  refine ⟨fun pins s σ H Q I h => ?_⟩
  refine PySem.W.methodCall_KW (pl := pl) (thn (he.run pins s σ H _ I h) fun u s1 ⟨x, H1, I1, rx, a, dx, fs, ex, ea, l, q⟩ => ?_) ht
  subst ex
  obtain rfl : u = Value.ref a := rx
  refine getmeth_ok I1 ea c hm l ?_
  refine PySem.W.callWith_K (h₀ := X.base) (first := [.ref a]) I1.ok.mod.kin hm.kp (thn (ha.run qs pins s1 σ H1 _ I1 q) fun us s2 ⟨vs, H2, I2, r, q2⟩ => ⟨I2.kIn, ?_⟩) hst hpl
  exact run_call (us := .ref a :: us) (vs := .ref a :: vs) tk F hr hg I2 (.cons rfl r) .nil q2
theorem pe_meG0 (tk : Takes X W) (he : PE X o ta) (c : Cls X.K C) (hm : Meth X.K C m f) (F : CallG X.prog X.w X.K X.mg X.base k (.ref f) sp) (hr : Room k X.A) (hg : X.A.guards = some [])
    (ht : eval (.Call (.Attribute o m apos) [] [] qs) X.env = (do
      let ov ← eval o X.env
      standAt apos.atName
      let (f, first) ← holding [ov] (getMethod ov m pl)
      callWith qs f first (backTo qs (starEach [] X.env)) (backToKw qs (keywordEach [] X.env))) := by rfl) :
    PE X (.Call (.Attribute o m apos) [] [] qs) (tMeG W C m sp ta tNil) := by
  refine ⟨fun pins s σ H Q I h => ?_⟩
  refine PySem.W.methodCall_KW (pl := pl) (thn (he.run pins s σ H _ I h) fun u s1 ⟨x, H1, I1, rx, a, dx, fs, ex, ea, l, q⟩ => ?_) ht
  subst ex
  obtain rfl : u = Value.ref a := rx
  refine getmeth_ok I1 ea c hm l ?_
  exact PySem.W.callWith_K0 (first := [.ref a]) I1.kIn hm.kp (run_call (us := [.ref a]) (vs := [.ref a]) tk F hr hg I1 (.cons rfl .nil) .nil q)
end
theorem ifT {b : Bool} {A B : Prop} (e : b = true) (h : A) : if b = true then A else B := by rw [if_pos e]; exact h
theorem ifF {b : Bool} {A B : Prop} (e : b = false) (h : B) : if b = true then A else B := by rw [if_neg (by rw [e]; exact Bool.false_ne_true)]; exact h
theorem at_new {H : Hp} {p a : Addr} {o u : HO} (hp : H p = none) (h : H a = some u) : upd H p o a = some u := by rw [upd_ne (ne_of_none h hp)]; exact h
theorem at_same {H H' : Hp} {a : Addr} {u : HO} (s : Same H H') (h : H a = some u) : H' a = some u := s _ _ h
theorem same_trans {H H1 H2 : Hp} (a : Same H H1) (b : Same H1 H2) : Same H H2 := fun x y e => b x y (a x y e)
theorem takes_no {X : Cx} : Takes X (fun _ _ _ _ => False) := fun _ _ ⟨_, _, _, _, _, _, _, _, _, _, _, _, _, _, _, _, w⟩ => w.elim
theorem nd_refl (x : V) : (!decide (x = x)) = false := by simp
theorem de_refl (x : V) : decide (x = x) = true := by simp
theorem sqI2 {K : PySem.W.Frag} {H : Hp} {a : Addr} {i j : Int} (h : H a = some (.tup [.int i, .int j])) : SqT K H a ([i, j].map V.int) := SqT.of h
theorem sqI3 {K : PySem.W.Frag} {H : Hp} {a : Addr} {i j k : Int} (h : H a = some (.tup [.int i, .int j, .int k])) : SqT K H a ([i, j, k].map V.int) := SqT.of h
/-- what is never reached -/
def tDead : TE := fun _ _ _ => False
theorem pe_dead {X : Cx} {e : Expr} : PE X e tDead := ⟨fun _ _ _ _ _ _ h => h.elim⟩
def sDead : TS := fun _ _ _ => False
theorem ps_dead {X : Cx} {st : Stmt} : PS X st sDead := ⟨fun _ _ _ _ _ _ h => h.elim⟩
/-- what of a class isinstance looks at -/
structure TyC (K : PySem.W.Frag) (C : Addr) : Prop where
  cl : Cls K C
  ha : PySem.W.findIn K (.ref C) "__class__" = some (some (.builtin "object.__class__"))
  hn : PySem.W.specialIn K (.builtin "object.__class__") "__get__" = some (some (.builtin "getset_descriptor.__get__"))
  htk : PySem.W.takesIn K (.builtin "object.__class__") = some true
  hm : PySem.W.mroIn K C (.type "object") = some true
theorem TyC.ty {K : PySem.W.Frag} {C : Addr} (c : TyC K C) {H : Hp} {a dx : Addr} {fs : List (Str × V)} (e : H a = some (.ins C dx fs)) : TyX K H (.ref a) (.ref C) := .base (.ins e c.cl c.ha c.hn c.htk c.hm)
end Uk

/-! UkH: the pen, and the heap without it -/
namespace Uk
open PySem PySem.Spec PyProof.Rows L2 StX

/-- the heap without the object at p -/
def Off (p : Addr) (H : Hp) : Hp := fun a => if a = p then none else H a
section
variable {H H' H1 H2 : Hp} {p a z : Addr} {o u v : HO} {m n : Int}
theorem Off.at (h : Off p H a = some u) : H a = some u := by
  unfold Off at h
  by_cases e : a = p
  · rw [if_pos e] at h; cases h
  · rw [if_neg e] at h; exact h
theorem Off.ne (h : Off p H a = some u) : a ≠ p := fun e => by
  unfold Off at h
  rw [if_pos e] at h
  cases h
theorem Off.of (h : H a = some u) (n : a ≠ p) : Off p H a = some u := by
  unfold Off
  rw [if_neg n]
  exact h
theorem Off.same (s : Same H H') : Same (Off p H) (Off p H') := fun a u e => Off.of (s _ _ (Off.at e)) (Off.ne e)
theorem Off.new (hz : H z = none) : Same (Off p H) (Off p (upd H z o)) := Off.same (same_new hz)
/-- the pen at p, its cells at c, with at most m of them begun -/
def Pen (H : Hp) (p c : Addr) (m : Int) : Prop := ∃ (b l : Int) (ns : List Int), H p = some (penO c b l) ∧ H c = some (.lst (ns.map .int)) ∧ ns.length ≤ 63 ∧ 0 ≤ b ∧ b ≤ m
section
variable {c : Addr}
theorem Pen.same (s : Same H H') (P : Pen H p c m) : Pen H' p c m := by
  obtain ⟨b, l, ns, h1, h2, h3⟩ := P
  exact ⟨b, l, ns, s _ _ h1, s _ _ h2, h3⟩
theorem Pen.new (hz : H z = none) (P : Pen H p c m) : Pen (upd H z o) p c m := P.same (same_new hz)
theorem Pen.mono (P : Pen H p c m) (h : m ≤ n) : Pen H p c n := by
  obtain ⟨b, l, ns, h1, h2, h3, h4, h5⟩ := P
  exact ⟨b, l, ns, h1, h2, h3, h4, Int.le_trans h5 h⟩
theorem Pen.ne (P : Pen H p c m) (hz : H z = none) : z ≠ p := fun e => by
  obtain ⟨b, l, ns, h1, _⟩ := P
  rw [← e, hz] at h1
  cases h1
theorem Pen.ne2 (P : Pen H p c m) (hz : H z = none) : z ≠ c := fun e => by
  obtain ⟨b, l, ns, _, h1, _⟩ := P
  rw [← e, hz] at h1
  cases h1
/-- another object is changed -/
theorem Pen.upd (n1 : z ≠ p) (n2 : z ≠ c) (P : Pen H p c m) : Pen (upd H z o) p c m := by
  obtain ⟨b, l, ns, h1, h2, h3⟩ := P
  exact ⟨b, l, ns, by rw [upd_ne n1.symm]; exact h1, by rw [upd_ne n2.symm]; exact h2, h3⟩
/-- a new object, told without the pen -/
theorem Off.mk (P : Pen H p c m) (hz : H z = none) : Off p (upd H z o) z = some o := Off.of upd_same (P.ne hz)
end
/-- what draws, told by the pen -/
def spDrawP : Sp := fun vs H Q _ => ∃ (p c : Addr) (m many : Int), vs = [.ref p, .int many] ∧ Pen H p c m ∧ m ≤ 99999 ∧ 1 ≤ many ∧ many ≤ 100000 ∧
  ∀ (d : Int) (H' : Hp), 0 ≤ d → d < many → Same (Off p H) (Off p H') → Pen H' p c (m + 1) → Q (.int d) H'
theorem draw_P {vs : List V} {Q : VK} {E : XK} (h : spDrawP vs H Q E) : spDraw vs H Q E := by
  obtain ⟨p, c, m, many, rfl, ⟨b, l, ns, h1, h2, h3, h4, h5⟩, h6, h7, h8, q⟩ := h
  have pc : c ≠ p := fun e => by
    rw [e, h1] at h2
    match ns, h2 with
    | [], hc => cases hc
    | n :: r, hc => cases hc
  refine ⟨p, c, b, l, many, ns, rfl, h1, h2, h3, h4, by omega, h7, h8, fun d b' l' H' d0 d1 e1 e2 ch => ?_⟩
  exact q d H' d0 d1 (fun a u e => Off.of (ch.ne _ _ (Off.ne e) (Off.at e)) (Off.ne e)) ⟨b', l', ns, ch.at_, ch.ne _ _ pc h2, h3, by omega, by omega⟩
theorem Same.rfl {H : Hp} : Same H H := fun _ _ h => h
end
end Uk

/-! UkI: how long shown data is -/
namespace Uk
open PySem PySem.Spec PyProof.Rows L2 StX

theorem ofString_len (s : String) : (Str.ofString s).length = s.length := by
  rw [Str.ofString_eq_toList]
  show (List.toArray _).size = _
  rw [List.size_toArray, List.length_map, String.length_toList]
theorem int_len {i : Int} (h : i.natAbs < 10 ^ 18) : (Str.ofString (toString i)).length ≤ 19 := by
  rw [ofString_len]
  cases i with
  | ofNat n =>
    show (Nat.repr n).length ≤ 19
    have := (Nat.length_repr_le_iff (n := n) (k := 18) (by decide)).mpr (by simpa using h)
    omega
  | negSucc n =>
    show ("-" ++ Nat.repr (n + 1)).length ≤ 19
    rw [String.length_append]
    have := (Nat.length_repr_le_iff (n := n + 1) (k := 18) (by decide)).mpr (by simpa using h)
    have e : ("-" : String).length = 1 := by decide
    omega
/-- may be shown in at most n signs, at most k deep -/
structure Sml (n k : Nat) (d : PyData) : Prop where
  sh : d.showable = true
  sz : d.shown.length ≤ n
  dp : d.depth ≤ k
structure SmlAll (n k m : Nat) (ds : List PyData) : Prop where
  sh : PyData.showableAll ds = true
  sz : ∀ t ∈ PyData.shownAll ds, t.length ≤ n
  ln : ds.length ≤ m
  dp : PyData.depthAll ds ≤ k
theorem Sml.shw {n k : Nat} {d : PyData} (h : Sml n k d) (hn : n ≤ sizeLine) (hk : k ≤ 60) : Shw d := ⟨h.sh, Nat.le_trans h.sz hn, Nat.le_trans h.dp hk⟩
theorem sml_none {n k : Nat} (h : 4 ≤ n) : Sml n k .none := ⟨rfl, h, Nat.zero_le _⟩
theorem sml_bool {n k : Nat} {b : Bool} (h : 5 ≤ n) : Sml n k (.bool b) := ⟨rfl, Nat.le_trans (by cases b <;> decide) h, Nat.zero_le _⟩
theorem sml_int {n k : Nat} {i : Int} (h : 19 ≤ n) (hi : i.natAbs < 10 ^ 18) : Sml n k (.int i) := by
  refine ⟨?_, Nat.le_trans (int_len hi) h, Nat.zero_le _⟩
  show decide (i.natAbs.log2 < 1920) = true
  rw [decide_eq_true_eq]
  have h1 : i.natAbs < 2 ^ 1920 := Nat.lt_of_lt_of_le hi (by decide +kernel)
  by_cases e : i.natAbs = 0
  · rw [e]; decide
  · exact (Nat.log2_lt e).mpr h1
theorem smlAll_nil {n k m : Nat} : SmlAll n k m [] := ⟨rfl, (fun _ h => nomatch h), Nat.zero_le _, Nat.zero_le _⟩
theorem smlAll_cons {n k m : Nat} {d : PyData} {ds : List PyData} (h : Sml n k d) (r : SmlAll n k m ds) : SmlAll n k (m + 1) (d :: ds) := by
  refine ⟨?_, fun t ht => ?_, Nat.succ_le_succ r.ln, ?_⟩
  · show (PyData.showable d && PyData.showableAll ds) = true
    rw [h.sh, r.sh] <;> rfl
  · rcases List.mem_cons.mp ht with e | e
    · rw [e]; exact h.sz
    · exact r.sz t e
  · show max (PyData.depth d) (PyData.depthAll ds) ≤ k
    exact Nat.max_le.mpr ⟨h.dp, r.dp⟩
theorem str_len_append (a b : Str) : (a ++ b).length = a.length + b.length := PySem.Str.length_append a b
theorem textFrom_le {n : Nat} : ∀ (ts : List Str) (k : Nat) (acc : Str), (∀ t ∈ ts, t.length ≤ n) → (textFrom k acc ts).length ≤ acc.length + (n + 2) * ts.length
  | [], k, acc, _ => by
    show acc.length ≤ acc.length + _
    exact Nat.le_add_right _ _
  | t :: r, k, acc, h => by
    have h1 := textFrom_le r (k + 1) (acc ++ (if k > 0 then ", " else "" : String) ++ t) (fun u hu => h u (List.mem_cons_of_mem _ hu))
    have h2 := h t List.mem_cons_self
    show (textFrom (k + 1) (acc ++ (if k > 0 then ", " else "" : String) ++ t) r).length ≤ _
    refine Nat.le_trans h1 ?_
    rw [str_len_append, str_len_append, List.length_cons, Nat.mul_succ]
    have h3 : (Str.ofString (if k > 0 then ", " else "")).length ≤ 2 := by split <;> decide
    omega
theorem sml_list {n k m N K : Nat} {ds : List PyData} (h : SmlAll n k m ds) (hN : 2 + (n + 2) * m ≤ N) (hK : k + 1 ≤ K) : Sml N K (.list ds) := by
  have hl : ∀ ds : List PyData, (PyData.shownAll ds).length = ds.length := by
    intro ds
    induction ds with
    | nil => rfl
    | cons d r ih =>
      show (PyData.shown d :: PyData.shownAll r).length = _
      rw [List.length_cons, ih, List.length_cons]
  refine ⟨h.sh, ?_, ?_⟩
  · show (textFrom 0 "[" (PyData.shownAll ds) ++ ("]" : Str)).length ≤ N
    have h1 := textFrom_le (n := n) (PyData.shownAll ds) 0 "[" h.sz
    rw [str_len_append]
    have e1 : ("[" : Str).length = 1 := by decide
    have e2 : ("]" : Str).length = 1 := by decide
    rw [hl] at h1
    have h2 : (n + 2) * ds.length ≤ (n + 2) * m := Nat.mul_le_mul_left _ h.ln
    omega
  · show PyData.depthAll ds + 1 ≤ K
    exact Nat.le_trans (Nat.succ_le_succ h.dp) hK
end Uk

/-! UkJ: bool(x) of an instance with an own __bool__; more -/
namespace Uk
open PySem PySem.Spec PyProof.Rows L2 StX
section
variable {prog : Program} {w : World} {A : Around} {E : Value → Shared → Prop} {s : Shared}
theorem bool_in (x : Value) : MeetsIn prog w (Builtin.«bool.__new__» ⟨[.type "bool", x], []⟩) (fun A R s => ∀ tk, wpAny (model prog w) A.in1 (truthy x) (fun b s' => R (.ok (.ret (.bool b))) s') (fun e s' => R (.error e) s') { s with toks := tk }) :=
  .of_wp fun A R s hs => by
    obtain ⟨hp, g, d, tk, os⟩ := s
    have f1 := F.conv_sub_bool
    repeat (any_goals (first | assumption | (with_reducible refine wpAny_mono (hs _) (fun b s2 h2 => ?_) (fun _ _ h2 => h2)) | wp_step))
    all_goals first | exact ⟨_, rfl, by assumption⟩ | skip
    all_goals trace_state
theorem call_bool_in {x : Value} {Q : Value → Shared → Prop} (h : ∀ tk, wpAny (model prog w) A.in1.in1 (truthy x) (fun b s' => Q (.bool b) s') E { s with toks := tk }) : wpAny (model prog w) A (call (.type "bool") [x]) Q E s :=
  callType_newIn F.called_bool F.newNe_bool (F.typeCall_bool_1 x) (F.newCall_bool_1 x) (fun obj => F.args_object_init_2 obj x) F.entry_bool_new (bool_in x)
    (fun tk => wpAny_mono (h tk) (fun b s' q => ⟨rfl, q⟩) fun _ _ q => q)
end
/-- bool(x), x an instance with an own __bool__ -/
theorem call_boolO {X : Cx} {k : Nat} {sp : SpK} {D : Addr → Prop} {f : Addr} (F : CallG X.prog X.w X.K X.mg X.base k (.ref f) sp) (hr : Room (k + 2) X.A) (hg : X.A.guards = some []) (hD : ∀ C, D C → Own X.K C "__bool__" f) :
    CallR X (.type "bool") (fun xs H Q => ∃ x, xs = [x] ∧ rTruO D sp x H fun b H' => Q (.bl b) H') := by
  intro pins s σ H xs us Q I r h
  obtain ⟨x, rfl, a, C, dx, fs, rfl, d, e, q⟩ := h
  obtain ⟨u, rfl, r1⟩ := vals1 r
  obtain rfl : u = Value.ref a := r1
  refine call_bool_in fun tk => ?_
  have I := I.tok tk
  obtain ⟨od, J⟩ := ins_at I.hok e
  obtain ⟨m, fr⟩ := I.fr
  refine PySem.W.truthy_K fr I.ok.mod.kin J (hD C d).at_ (hD C d).fn (wpAny_mono (run_callN F hr.in1.in1 hg rfl I (vs := [.ref a]) (us := [.ref a]) (.cons rfl .nil) q) (fun z s' hz => ?_) fun _ _ y => y)
  obtain ⟨v', H', I', rv, b, rfl, q'⟩ := hz
  obtain rfl : z = Value.bool b := rv
  exact ⟨.bl b, H', I', rfl, q'⟩
end Uk

/-! UkK: the end: from the head's walk to the promise of the law's def -/
namespace Uk
open PySem PySem.Spec PyProof.Rows L2 StX
section
variable {P : Program} {w : World} {K : PySem.W.Frag} {mg mb : Str → Option Value} {k : Nat} {fa a : Addr} {sp : Sp} {s₁ : Shared} {vs : List Value} {ns : List Int}
/-- a heap that tells of one frozen object, or of none -/
structure OneFrz (P : Program) (w : World) (K : PySem.W.Frag) (h : Heap) (a : Addr) (H : Hp) : Prop where
  hok : HOk P w H h
  one : ∀ b, H b = none ∨ (b = a ∧ ∃ o ys, H b = some (.frz o (.lst ys)))
  free : H a ≠ none → K.lookup a = none
theorem endG (KX : K.In s₁.heap) (hns : s₁.heap.Ns mainGlobals mg) (hb : s₁.heap.Ns builtinsNs mb) (hbb : ∀ x : Str, x ≠ "__name__" → mb x = bootBuiltins x) (hlim : s₁.heap.NoLimit) (hgen : s₁.gens = #[])
    (isList : ∃ its, s₁.heap.get? a = some { cls := .type "list", data := .seq its }) (hr : Room k callerA) (F : ∀ base : Heap, Mod K mg base → CallG P w K mg base k (.ref fa) (pos sp)) {H : Hp} (T : OneFrz P w K s₁.heap a H)
    (law : sp [.ref a] H (fun v _ => v = .bl true) NoE) :
    codeAny (model P w) callerA (.call (.ref fa) ⟨[.ref a], []⟩) (fun r s' => r = .ok (.ret (.bool true)) ∧ OldK s₁.heap s'.heap ∧ s'.os = s₁.os ∧ AllBare s'.gens) s₁ := by
  obtain ⟨its, hlist⟩ := isList
  have clear : ∀ {b : Addr} {o : Obj}, s₁.heap.get? b = some o → (b = a → K.lookup a = none → False) → (hidT s₁.heap H).get? b = some o := fun {b o} e no => hidT_get e (by
    rcases T.one b with z | ⟨eb, ob, ys, z⟩
    · exact z
    · refine (no eb (T.free fun q => ?_)).elim
      rw [← eb, z] at q
      cases q)
  have names : ∀ {b : Addr} {m : Str → Option Value}, s₁.heap.Ns b m → (hidT s₁.heap H).Ns b m := fun {b m} ⟨o, es, ep, e, d, r⟩ => by
    refine ⟨o, es, ep, clear e (fun eb _ => ?_), d, r⟩
    rw [eb, hlist] at e
    cases e
    cases d
  have kIn : K.In (hidT s₁.heap H) := fun b o e => clear (KX b o e) fun eb kn => by
    rw [eb, kn] at e
    cases e
  have M : Mod K mg (hidT s₁.heap H) := ⟨kIn, names hns, ⟨mb, names hb, hbb⟩, hlim.elim fun mc z => ⟨mc, names z.1, z.2⟩⟩
  have env : Env0 P w K mg (hidT s₁.heap H) callerA [] s₁ H := ⟨rfl, M, fun _ _ => of_hidT, Nat.le_of_eq (hidT_size _ _), trivial, (fun b z => nomatch (show b ∈ ([] : List Addr) from z)), T.hok, .of_eq hgen⟩
  refine codeAny_mono (F _ M callerA [] s₁ H [.ref a] [] [.ref a] [] (fun v _ => v = .bl true) NoE hr rfl env (.cons rfl .nil) .nil ⟨rfl, law⟩) fun r s' got => ?_
  rcases r with e | fl
  · exact (cx_no got).elim
  · cases fl
    case ret u =>
      obtain ⟨v, H', os, bare, un, hok', rv, hv⟩ := got
      cases (show v = .bl true from hv)
      cases (show u = Value.bool true from rv)
      refine ⟨rfl, .of_keep fun b o e => ?_, os, bare⟩
      obtain z | ⟨_, ob, ys, z⟩ := T.one b
      · exact un.keep b o e z (fun i => nomatch (show b ∈ ([] : List Addr) from i)) (fun i => nomatch i)
      · have same := (T.hok b _ z).1
        rw [e] at same
        cases same
        exact (hok' b _ (un.frzs b _ _ z)).1
    all_goals exact got.elim
/-- the law's call, by the promise of its def -/
theorem lawG (KX : K.In s₁.heap) (hns : s₁.heap.Ns mainGlobals mg) (hb : s₁.heap.Ns builtinsNs mb) (hbb : ∀ x : Str, x ≠ "__name__" → mb x = bootBuiltins x) (hlim : s₁.heap.NoLimit) (hgen : s₁.gens = #[])
    (ha : s₁.heap.get? a = some { cls := .type "list", data := .seq vs.toArray }) (hi : IntsAre vs ns) (hl : ns.length ≤ sizeLine) (hr : Room k callerA) (F : ∀ base : Heap, Mod K mg base → CallG P w K mg base k (.ref fa) (pos sp))
    (law : ∀ H : Hp, SqL K H a (ns.map V.int) → sp [.ref a] H (fun v _ => v = .bl true) NoE) :
    codeAny (model P w) callerA (.call (.ref fa) ⟨[.ref a], []⟩) (fun r s' => r = .ok (.ret (.bool true)) ∧ OldK s₁.heap s'.heap ∧ s'.os = s₁.os ∧ AllBare s'.gens) s₁ := by
  have many := hi.length
  have rel := vals_ints hi
  by_cases hk : K.lookup a = none
  · let H : Hp := fun b => if b = a then some (.frz { cls := .type "list", data := .seq vs.toArray } (.lst (ns.map V.int))) else none
    have Ha : H a = some (.frz { cls := .type "list", data := .seq vs.toArray } (.lst (ns.map V.int))) := if_pos rfl
    have Hn : ∀ b, b ≠ a → H b = none := fun b nb => if_neg nb
    refine endG KX hns hb hbb hlim hgen ⟨_, ha⟩ hr F (H := H) ⟨fun b u z => ?_, fun b => ?_, fun _ => hk⟩ (law H (.inl (.inr ⟨_, Ha⟩)))
    · by_cases eb : b = a
      · subst eb
        rw [Ha] at z
        cases z
        exact ⟨ha, by rw [List.length_map]; exact hl, vs, _, rel, ha⟩
      · rw [Hn b eb] at z
        cases z
    · by_cases eb : b = a
      · subst eb
        exact .inr ⟨rfl, _, _, Ha⟩
      · exact .inl (Hn b eb)
  · obtain ⟨o, ho⟩ := Option.ne_none_iff_exists'.mp hk
    have e := KX a o ho
    rw [ha] at e
    cases e
    refine endG KX hns hb hbb hlim hgen ⟨_, ha⟩ hr F (H := fun _ => none) ⟨(fun b u z => nomatch z), (fun b => Or.inl rfl), fun z => absurd rfl z⟩ (law _ (.inr ⟨_, vs.toArray, _, ho, rfl, rfl, rfl, ?_, by simpa using rel⟩))
    rw [List.size_toArray, many]
    exact hl
end
/-- the goal that the head leaves, from the law's promise -/
theorem walkG {l : PySem.W.OpenLaw} {n k : Nat} {q : Program} {loose : List Str} {XP : (Str → Option Value) → Heap → Prop} {YP : World → Heap → Prop} {d : DefRec} {K : Params → PySem.W.Frag} {sp : World → Sp}
    (hn : l.most = some n) (hn2 : n ≤ sizeLine) (hdf : d.params.defaults = []) (hr : Room k callerA) (hY : ∀ (w : World) (h : Heap), YP w h → (K w.params).In h)
    (F : ∀ (w : World) (mg : Str → Option Value) (fa : Addr) (h : Heap), (K w.params).In h → h.Ns mainGlobals mg → mg d.name = some (.ref fa) → ∀ base : Heap, Mod (K w.params) mg base → CallG l.prog w (K w.params) mg base k (.ref fa) (pos (sp w)))
    (law : ∀ (w : World) (H : Hp) (a : Addr) (ns : List Int), ns.length ≤ n → SqL (K w.params) H a (ns.map V.int) → sp w [.ref a] H (fun v _ => v = .bl true) NoE) :
    PySem.W.WalkO q loose XP YP l.row.toRowW d [] (fun f vs => PySem.call f vs) := by
  refine Att.attach_call hn hdf fun w s₀ s₁ mg mb fa o pm cd doc a vs ns G Y ho hd hcd hmg hobj hints hlen hgen => ?_
  have KX := hY w _ Y
  exact lawG KX G.T.g G.T.b G.T.builtins G.T.nolimit hgen hobj hints (Nat.le_trans hlen hn2) hr (F w mg fa _ KX G.T.g hmg) fun H hS => law w H a ns hlen hS
/-- not e as a value, by a rule of its truth -/
theorem pe_notR {X : Cx} {a : Expr} {ta : TE} {pos : Pos} {r : V → Hp → (Bool → Hp → Prop) → Prop} (ha : PE X a ta) (ru : TruR X r) : PE X (.UnaryOp .Not a pos) (fun σ H Q => ta σ H fun x H1 => r x H1 fun b H2 => Q (.bl (!b)) H2) :=
  ⟨fun pins s σ H Q I h => UnaryOp_ (thn (ha.run pins s σ H _ I h) fun v s1 ⟨x, H1, I1, r1, q1⟩ => not_of (thn (ru pins s1 σ H1 x v (fun b H2 => Q (.bl (!b)) H2) I1 r1 q1) fun c s2 ⟨H2, I2, q2⟩ => ⟨.bl (!c), H2, I2, rfl, q2⟩))⟩
end Uk

/-! UkL: defs that say super() -/
namespace Uk
open PySem PySem.Spec PyProof.Rows L2 StX

/-- the frame of a def that closes over __class__ -/
abbrev envS (qual : Str) (scope : Scope) (L f : Addr) (cd : Value) (cc : Addr) : Env := PySem.W.ksEnv qual scope L f cd cc
def cxS (P : Program) (w : World) (K : PySem.W.Frag) (mg : Str → Option Value) (base : Heap) (N : List Str) (qual : Str) (scope : Scope) (f : Addr) (cd : Value) (cc : Addr) (A : Around) (outer : List Env) (s : Shared) (H : Hp) (E : XK) : Cx :=
  { prog := P, w := w, K := K, mg := mg, base := base, A := A.deeper (envS qual scope s.heap.objs.size f cd cc), N := N, s_0 := s, H_0 := H, env := envS qual scope s.heap.objs.size f cd cc, outer := outer,
    stack := envS qual scope s.heap.objs.size f cd cc :: outer, ex := [], fn := fun _ => false, calm := true, pn := [],
    xe := fun e s' => wpAny (model P w) (A.deeper (envS qual scope s.heap.objs.size f cd cc)) (leaving (envS qual scope s.heap.objs.size f cd cc) e) (fun _ s'' => L2.CX P w outer H s E e s'') (fun e' s'' => L2.CX P w outer H s E e' s'') s' }
structure ScopeS (N P : List Str) (sc : Scope) : Prop where
  kind : sc.kind = .function
  co : sc.isCoroutine = false
  gen : sc.isGenerator = false
  nd : N.Nodup
  pre : N.take P.length = P
  par : ∀ x ∈ P, sc.names.lookup x = some .local
  nocell : ∀ y ∈ sc.names, y.2 ≠ .cell
  free : ∀ y ∈ sc.names, y.2 = .free → y.1 = ("__class__" : Str)
/-- a def of the text that closes over __class__, whose cell at cc holds the class at D -/
structure FunS (K : PySem.W.Frag) (x qual : Str) (st : Stmt) (f cc cda D : Addr) : Prop where
  ex : ∃ (oc : Value) (od : Option Addr) (kV doc pm : Value) (an : Option Addr) (ct : Value) (osl : Array (Option Value)),
    K.lookup f = some ⟨oc, od, .func (PySem.W.ksFn x qual (defArgs st) (defBody st) (defScope st) .none kV doc pm an (.ref cda) ct cc), osl⟩ ∧ PySem.W.codeIn K (.ref cda) qual = true
  cell : ∃ (cl : Value) (cld : Option Addr) (csl : Array (Option Value)), K.lookup cc = some ⟨cl, cld, .cell (some (.ref D)), csl⟩
  kp : PySem.W.keepIn K (.ref f) = true
theorem rev_get : ∀ {ps : List Str} {us : List Value} {i : Nat} {y : Str} {u : Value}, ps.Nodup → ps[i]? = some y → us[i]? = some u → (ps.zip us).reverse.lookup y = some u
  | [], _, _, _, _, _, h, _ => by simp at h
  | _ :: _, [], _, _, _, _, _, h => by simp at h
  | p :: ps, v :: us, 0, y, u, nd, h1, h2 => by
    simp at h1 h2
    subst h1 h2
    show ((p, v) :: ps.zip us).reverse.lookup p = some v
    rw [List.reverse_cons, List.lookup_append]
    have hn : (ps.zip us).reverse.lookup p = none := by
      rw [List.lookup_eq_none_iff]
      intro q hq
      have hm := (List.of_mem_zip (List.mem_reverse.mp hq)).1
      have : p ≠ q.1 := fun e => (List.nodup_cons.mp nd).1 (e ▸ hm)
      simpa using this
    rw [hn]
    simp [List.lookup]
  | p :: ps, v :: us, i + 1, y, u, nd, h1, h2 => by
    have ih := rev_get (List.nodup_cons.mp nd).2 (by simpa using h1) (by simpa using h2)
    show ((p, v) :: ps.zip us).reverse.lookup y = some u
    rw [List.reverse_cons, List.lookup_append, ih]
    rfl
section
variable {P : Program} {w : World} {K : PySem.W.Frag} {mg : Str → Option Value} {base : Heap} {N ps : List Str} {qual x : Str} {scope : Scope} {st : Stmt} {f cc cda D : Addr} {cd : Value} {A : Around} {outer : List Env} {s : Shared} {H : Hp} {E : XK} {us : List Value} {vs : List V} {k n : Nat} {h1 : Heap} {sp : Sp}
theorem inv_S (S : ScopeS N ps scope) (hd : A.handled = none) (e0 : Env0 P w K mg base A outer s H) (hl : vs.length = ps.length) (r : Vals vs us) (hc : ∃ (cl : Value) (cld : Option Addr) (csl : Array (Option Value)), K.lookup cc = some ⟨cl, cld, .cell (some (.ref D)), csl⟩)
    (hn : h1.Ns s.heap.objs.size (fun x => (ps.zip us).reverse.lookup x)) (hk : ∀ b o, s.heap.get? b = some o → h1.get? b = some o) :
    Inv (cxS P w K mg base N qual scope f cd cc A outer s H E) [] (L2.start N vs) H { s with heap := h1, toks := s.toks + n } := by
  obtain ⟨cl, cld, csl, hcell⟩ := hc
  have bcc := e0.mod.kin _ _ hcell
  have hcc : s.heap.get? cc = some ⟨cl, cld, .cell (some (.ref D)), csl⟩ := (e0.bs _ _ bcc).1
  have ccn : cc ≠ s.heap.objs.size := Nat.ne_of_lt (Heap.lt_size hcc)
  have hpl : ps.length ≤ N.length := by have := congrArg List.length S.pre; rw [List.length_take] at this; omega
  have one : ∀ {y : Str} {c : Addr}, ([(("__class__" : Str), cc)] : List (Str × Addr)).lookup y = some c → y = "__class__" ∧ c = cc := fun {y c} h => by
    unfold List.lookup at h
    split at h
    · rename_i e
      exact ⟨beq_iff_eq.mp e, (Option.some.inj h).symm⟩
    · cases h
  have noA : ∀ b : Addr, b ∉ (cxS P w K mg base N qual scope f cd cc A outer s H E).ex := fun b z => nomatch (show b ∈ ([] : List Addr) from z)
  refine ⟨⟨e0.mod, S.kind, rfl, rfl, Nat.le_refl _, fun y z c h1 h2 => (one h1).1.trans (one h2).1.symm, fun y hy => ?_, (fun y c h _ => nomatch (show false = true from h)), fun _ => hd, Around.frames_deeper e0.frames, .inr ⟨rfl, rfl⟩, fun b z => absurd z (noA b), e0.bs, e0.bsz, fun b _ _ => noA b, fun b z => absurd z (noA b), e0.funs, e0.frf⟩,
    rfl, e0.bare, Un.kept hk, ⟨_, hn, fun i y v h1 h2 h3 => ?_⟩, fun y c h => ?_, e0.hok.fresh (Nat.le_refl _), fun y c h => ?_, fun p hp => absurd (show p ∈ ([] : List (Addr × Obj)) from hp) (by simp), e0.hok.kept hk, ?_⟩
  · have hy : scope.names.lookup y = some .cell ∨ scope.names.lookup y = some .free := hy
    rcases hy with hy | hy
    · exact absurd rfl (S.nocell _ (PySem.mem_of_lookup hy))
    · have e := S.free _ (PySem.mem_of_lookup hy) rfl
      dsimp only at e
      subst e
      exact ⟨cc, rfl⟩
  · have hi : i < vs.length := by
      unfold L2.start at h2
      by_cases hi : i < vs.length
      · exact hi
      · rw [List.getElem?_append_right (by simpa using hi), List.getElem?_replicate] at h2
        split at h2 <;> cases h2
    have ha : vs[i]? = some v := by
      unfold L2.start at h2
      rw [List.getElem?_append_left (by simpa using hi), List.getElem?_map] at h2
      cases e : vs[i]? with
      | none => rw [e] at h2; cases h2
      | some a => rw [e] at h2; cases h2; rfl
    obtain ⟨u, hu, rv⟩ := r.get ha
    have hp : ps[i]? = some y := by
      rw [← S.pre, List.getElem?_take_of_lt (by omega)]; exact h1
    have ndP : ps.Nodup := by rw [← S.pre]; exact S.nd.sublist (List.take_sublist _ _)
    exact ⟨u, rv, .inl ⟨S.par y (List.mem_of_getElem? hp), rev_get ndP hp hu⟩⟩
  · rw [(one h).2]
    exact ⟨some (.ref D), _, hk _ _ hcc, rfl⟩
  · rw [(one h).2]
    exact (e0.bs _ _ bcc).2
  · unfold L2.start
    show _ = N.length
    rw [List.length_append, List.length_map, List.length_replicate]
    omega
end

/-- code that runs within the known body c -/
structure PEt (X : Cx) (c : Code) (e : Expr) (t : TE) : Prop where
  run : ∀ (pins : List (Addr × Obj)) (s : Shared) (σ : L2.St) (H : Hp) (Q : VK), Inv X pins σ H s → t σ H Q → _root_.PySem.wpAt (model X.prog X.w) X.A c (eval e X.env) (EP X pins σ Q) X.xe s
structure PSst (X : Cx) (c : Code) (b : List Stmt) (t : TS) : Prop where
  run : ∀ (pins : List (Addr × Obj)) (s : Shared) (σ : L2.St) (H : Hp) (D : Ends), Inv X pins σ H s → t D σ H → _root_.PySem.wpAt (model X.prog X.w) X.A c (execs b X.env) (SP X pins D) X.xe s
section
variable {X : Cx} {c : Code} {e : Expr} {st : Stmt} {b : List Stmt} {t : TE} {u v : TS} {pos : Pos}
theorem pet_of (h : PE X e t) : PEt X c e t := ⟨fun pins s σ H Q I q => wpAt_of_wpAny (h.run pins s σ H Q I q)⟩
theorem psst_of (h : PSs X b u) : PSst X c b u := ⟨fun pins s σ H D I q => wpAt_of_wpAny (h.run pins s σ H D I q)⟩
/-- e; rest, where e says super() -/
theorem psst_expr (h : PEt X c e t) (r : PSst X c b v) (hi : interactive X.env = false := by rfl) (hs : swapsWith e none pos.line X.env = pure false := by rfl) : PSst X c (.Expr e pos :: b) (fun D σ H => t σ H fun _ H1 => v D σ H1) :=
  ⟨fun pins s σ H D I q => ks_wpAt_execs_cons (ks_wpAt_Expr_any (ks_wpAt_mono (h.run pins s σ H _ I q) (fun _ s' ⟨_, H1, I1, _, q1⟩ => r.run pins s' σ H1 D I1 q1) fun _ _ z => z) hi hs)⟩
/-- return e, where e says super() -/
theorem psst_ret (h : PEt X c e t) : PSst X c (.Return (some e) pos :: b) (fun D σ H => t σ H D.rt) :=
  ⟨fun pins s σ H D I q => ks_wpAt_execs_cons (ks_wpAt_Return_some (ks_wpAt_mono (h.run pins s σ H _ I q) (fun _ s' ⟨v, H1, I1, r1, q1⟩ => ⟨v, σ, H1, I1, r1, q1⟩) fun _ _ z => z))⟩
/-- a or b, a says super() and answers a bool -/
theorem pet_or {a : Expr} {rest : List Expr} {ta tb : TE} (ha : PEt X c a ta) (hb : PE X (.BoolOp .Or (e :: rest) pos) tb) : PEt X c (.BoolOp .Or (a :: e :: rest) pos) (tOrV ta tb) := by
  refine ⟨fun pins s σ H Q I q => ?_⟩
  show _root_.PySem.wpAt _ _ _ (do
    let v ← eval a X.env
    standAt pos
    let c ← holding [v] (truthy v)
    match BoolOp.Or, c with
    | .And, false | .Or, true => pure v
    | _, _ => boolOp pos .Or (eval e X.env :: evalEach rest X.env)) _ _ _
  refine _root_.PySem.wpAt_bind (ks_wpAt_mono (ha.run pins s σ H _ I q) (fun v s1 ⟨x, H1, I1, r1, k, ex, q1⟩ => ?_) fun _ _ z => z)
  subst ex
  obtain rfl : v = Value.bool k := r1
  refine _root_.PySem.wpAt_of_wpAny (wpAny_bind (wpAny_standAt (wpAny_bind (wpAny_holding (wpAny_truthy_bool ?_)))))
  cases k with
  | true => exact wpAny_pure ⟨.bl true, H1, I1, rfl, q1⟩
  | false => exact hb.run pins s1 σ H1 Q I1 q1
end
/-- a def that says super(), by its body -/
theorem def_S {P : Program} {w : World} {K : PySem.W.Frag} {mg : Str → Option Value} {base : Heap} {N ps : List Str} {qual x : Str} {st : Stmt} {f cc cda D : Addr} {k : Nat} {sp : Sp} (F : FunS K x qual st f cc cda D) (S : ScopeS N ps (defScope st))
    (len : ∀ vs H Q E, sp vs H Q E → vs.length = ps.length)
    (hb : ∀ (kV doc pm : Value) (an : Option Addr) (ct : Value) (us : List Value), us.length = ps.length → bindArgs (PySem.W.ksFn x qual (defArgs st) (defBody st) (defScope st) .none kV doc pm an (.ref cda) ct cc) ⟨us, []⟩ = pure (ps.zip us))
    (hbody : ∀ (A : Around) (outer : List Env) (s : Shared) (H : Hp) (vs : List V) (Q : VK) (E : XK), Room k (A.deeper (envS qual (defScope st) s.heap.objs.size f (.ref cda) cc)) → A.guards = some [] → sp vs H Q E →
      ∃ t, PSst (cxS P w K mg base N qual (defScope st) f (.ref cda) cc A outer s H E) (.func (defBody st) (envS qual (defScope st) s.heap.objs.size f (.ref cda) cc)) (defBody st) t ∧ t { nx := fun _ H' => Q .non H', rt := Q } (L2.start N vs) H) :
    CallG P w K mg base (k + 1) (.ref f) (pos sp) := by
  obtain ⟨oc, od, kV, doc, pm, an, ct, osl, lk, hcd⟩ := F.ex
  rintro A outer s H us kws vs zs Q E hr hg e0 r rk ⟨rfl, hsp⟩
  cases rk
  have hl := len _ _ _ _ hsp
  have hu : us.length = ps.length := by rw [← r.length]; exact hl
  have KX : K.In s.heap := Env0.kIn e0
  have lim : s.heap.NoLimit := e0.mod.nolimit.keeps fun b o e => (e0.bs b o e).1
  refine ks_codeAny_call_defAt (fd := PySem.W.ksFn x qual (defArgs st) (defBody st) (defScope st) .none kV doc pm an (.ref cda) ct cc) (body := defBody st) (binds := ps.zip us) hr.depth (KX _ _ lk) rfl lim (PySem.W.codeRec_of KX hcd) rfl (BindsTo.of_eq (hb kV doc pm an ct us hu))
    S.nocell (fun y hy => S.par y.1 (List.of_mem_zip hy).1) (fun h1 hns hk => ?_) S.co S.gen S.kind
  obtain ⟨t, ht, hq⟩ := hbody A outer s H vs Q E (hr.deeper _) hg hsp
  have I := inv_S (P := P) (w := w) (mg := mg) (N := N) (qual := qual) (f := f) (cd := .ref cda) (outer := outer) (E := E) (n := (ps.zip us).length) S hr.hd e0 hl r F.cell hns hk
  refine ks_wpAt_mono (ht.run [] _ _ _ _ I hq) (fun fl s' hs => ?_) fun e s' hs => hs
  have fin : ∀ {σ' : L2.St} {H' : Hp} {v : V} {u : Value}, Inv (cxS P w K mg base N qual (defScope st) f (.ref cda) cc A outer s H E) [] σ' H' s' → RelV v u → Q v H' → CE outer P w H s Q u s' :=
    fun {σ' H' v u} J rv q => ⟨v, H', J.os, J.bare, J.base, J.hok, rv, q⟩
  cases fl with
  | ret u =>
    obtain ⟨v, σ', H', J, rv, q⟩ := hs
    exact fin J rv q
  | next =>
    obtain ⟨σ', H', J, q⟩ := hs
    exact fin (v := V.non) (u := Value.none) J rfl q
  | brk =>
    obtain ⟨_, _, _, q⟩ := hs
    exact q.elim
  | cont =>
    obtain ⟨_, _, _, q⟩ := hs
    exact q.elim

/-- what the text must hold where the def at f says super() -/
structure SupF (P : Program) (K : PySem.W.Frag) (cda D : Addr) : Prop where
  code : ∃ (ccl : Value) (cdd : Option Addr) (vs : Array Value) (ccs : Array (Option Value)) (file : Str) (tf : Tok), K.lookup cda = some ⟨ccl, cdd, .fields vs, ccs⟩ ∧ vs[2]? = some (.str file tf) ∧ ((P.main.file : Str) == file) = true
  cls : ∃ cd, PySem.W.clsIn K D = some cd
  sup : PySem.W.nsIn K mainGlobals "super" = some none
  top : (P.main.scope.names.lookup ("super" : Str)).isSome = false
  opq : PySem.W.nsIn K cStatics "thirdparty.any" = some none
/-- behind the class at D, C's next m is the def at g -/
structure SupC (K : PySem.W.Frag) (C D : Addr) (m : Str) (g : Addr) : Prop where
  own : ∃ cd, PySem.W.clsIn K C = some cd
  sub : PySem.W.mroIn K C (.ref D) = some true
  nx : PySem.W.ks_superIn K C D m = some (some (.ref g))
  ty : PySem.W.typeIn K (.ref g) = some (.type "function")
  fi : PySem.W.fnIn K g = true
def tSup (W : WX) (K : PySem.W.Frag) (D : Addr) (m : Str) (g : Addr) (sp : SpK) (t : TA) : TE := fun σ H Q => ∃ (a C dx : Addr) (fs : List (Str × V)), σ[0]? = some (some (.ref a)) ∧ H a = some (.ins C dx fs) ∧ SupC K C D m g ∧ t σ H fun vs H2 => sp (.ref a :: vs) [] H2 Q (WE W σ)
section
variable {X : Cx} {W : WX} {k : Nat} {g q a : Addr} {sp : SpK} {pins : List (Addr × Obj)} {σ : L2.St} {H : Hp} {s : Shared} {Q : VK}
theorem run_callM {us : List Value} {vs : List V} (tk : Takes X W) (F : CallG X.prog X.w X.K X.mg X.base k (.ref g) sp) (hr : Room k X.A) (hg : X.A.guards = some []) (I : Inv X ((q, PySem.W.methodObj (.ref g) (.ref a)) :: pins) σ H s) (r : Vals vs us)
    (h : sp (.ref a :: vs) [] H Q (WE W σ)) : wpAny (model X.prog X.w) X.A (call (.ref q) us) (EP X pins σ Q) X.xe s := by
  have z : wpAny (model X.prog X.w) X.A (call (.ref q) us) (EP X ((q, PySem.W.methodObj (.ref g) (.ref a)) :: pins) σ Q) X.xe s := by
    refine wpAny_call (PySem.W.method_call (ClX.pin_at I) (codeAny_mono (F X.A X.stack s H (.ref a :: us) [] (.ref a :: vs) [] Q _ hr hg I.env0 (.cons rfl r) .nil h) fun r s' hq => ?_))
    cases r with
    | error e => exact passAt tk σ _ H s e s' I hq
    | ok fl =>
      cases fl with
      | ret u => exact I.after hq
      | next => exact False.elim hq
      | brk => exact False.elim hq
      | cont => exact False.elim hq
  exact thn z fun _ _ y => ClX.unpinE y
end
section
variable {P : Program} {w : World} {K : PySem.W.Frag} {mg : Str → Option Value} {base : Heap} {N ps : List Str} {qual x m : Str} {st : Stmt} {f cc cda D g : Addr} {A : Around} {outer : List Env} {s0 : Shared} {H0 : Hp} {E : XK} {W : WX} {k : Nat} {sp : SpK} {e : Expr} {es : List Expr} {t : TA} {p0 p1 apos pos : Pos} {ar : Arg} {body : List Stmt}
theorem pet_super {pl : Sem Bool} (tk : Takes (cxS P w K mg base N qual (defScope st) f (.ref cda) cc A outer s0 H0 E) W) (F : FunS K x qual st f cc cda D) (S : ScopeS N ps (defScope st)) (U : SupF P K cda D) (G : CallG P w K mg base k (.ref g) sp)
    (hr : Room k (A.deeper (envS qual (defScope st) s0.heap.objs.size f (.ref cda) cc))) (hg : A.guards = some []) (hp : ((defArgs st).posonlyargs ++ (defArgs st).args).head? = some ar) (hN : N[0]? = some ar.arg)
    (hks : (defScope st).names.lookup ("super" : Str) = some .globalImplicit) (hkc : (defScope st).names.lookup ("__class__" : Str) = some .free) (hka : (defScope st).names.lookup ar.arg = some .local) (hat : (m == ("__class__" : Str)) = false)
    (ha : PA (cxS P w K mg base N qual (defScope st) f (.ref cda) cc A outer s0 H0 E) (e :: es) t)
    (ht : eval (.Call (.Attribute (.Call (.Name "super" p0) [] [] p1) m apos) (e :: es) [] pos) (envS qual (defScope st) s0.heap.objs.size f (.ref cda) cc) = (do
      let ov ← attributeBase (.Call (.Name "super" p0) [] [] p1) m (envS qual (defScope st) s0.heap.objs.size f (.ref cda) cc) (eval (.Call (.Name "super" p0) [] [] p1) (envS qual (defScope st) s0.heap.objs.size f (.ref cda) cc))
      standAt apos.atName
      let (f', first) ← holding [ov] (getMethod ov m pl)
      callWith pos f' first (backTo pos (starEach (e :: es) (envS qual (defScope st) s0.heap.objs.size f (.ref cda) cc))) []) := by rfl)
    (hst : starEach (e :: es) (envS qual (defScope st) s0.heap.objs.size f (.ref cda) cc) = (false, eval e (envS qual (defScope st) s0.heap.objs.size f (.ref cda) cc)) :: starEach es (envS qual (defScope st) s0.heap.objs.size f (.ref cda) cc) := by rfl)
    (hpl : (backTo pos (starEach es (envS qual (defScope st) s0.heap.objs.size f (.ref cda) cc))).any (·.1) = false := by rfl) :
    PEt (cxS P w K mg base N qual (defScope st) f (.ref cda) cc A outer s0 H0 E) (.func body (envS qual (defScope st) s0.heap.objs.size f (.ref cda) cc)) (.Call (.Attribute (.Call (.Name "super" p0) [] [] p1) m apos) (e :: es) [] pos) (tSup W K D m g sp t) := by
  refine ⟨fun pins s σ H Q I ⟨a, C, dx, fs, hσ, ea, U2, q⟩ => ?_⟩
  obtain ⟨oc, od, kV, doc, pm, an, ct, osl, lk, hcd⟩ := F.ex
  obtain ⟨cl, cld, csl, hcell⟩ := F.cell
  obtain ⟨ccl, cdd, vsc, ccs, file, tf, lkc, hv2, hfile⟩ := U.code
  obtain ⟨cdD, hcD⟩ := U.cls
  obtain ⟨cdC, hcC⟩ := U2.own
  have KX : K.In s.heap := I.kIn
  obtain ⟨oD, hD1, hD2⟩ : ∃ oD, s.heap.get? D = some oD ∧ oD.data = .cls cdD := by
    unfold PySem.W.clsIn at hcD
    split at hcD
    · rename_i c d cd' sl ho
      cases hcD
      exact ⟨_, KX _ _ ho, rfl⟩
    · cases hcD
  obtain ⟨odx, J⟩ := ins_at I.hok ea
  obtain ⟨mb, nb, hbb⟩ := I.ok.mod.blt
  obtain ⟨ml, hnl, hloc⟩ := I.loc
  obtain ⟨u, ru, hlk⟩ := hloc 0 ar.arg _ hN hσ (.inl hka)
  obtain rfl : u = Value.ref a := ru
  have hself : ml ar.arg = some (.ref a) := by
    rcases hlk with ⟨_, h⟩ | ⟨h, _⟩
    · exact h
    · have h' : (defScope st).names.lookup ar.arg = some .cell ∨ (defScope st).names.lookup ar.arg = some .free := h
      rw [hka] at h'
      rcases h' with h' | h' <;> cases h'
  obtain ⟨hh, gg, dd, tt, os⟩ := s
  refine ks_wpAt_MethodCall (pl := pl) ?_ ht
  refine ks_wpAt_super_base (env := envS qual (defScope st) s0.heap.objs.size f (.ref cda) cc) hks hkc hat rfl (KX _ _ lk) rfl hp rfl (KX _ _ lkc) rfl hv2 hfile U.top ?_
  refine PySem.W.ks_loadName_global S.kind hks (PySem.Calls.loadGlobal_builtin (env := envS qual (defScope st) s0.heap.objs.size f (.ref cda) cc) (I.ok.mod.glob.keeps I.bk) (PySem.W.mg_none_of I.ok.mod.kin I.ok.mod.glob U.sup) (nb.keeps I.bk) ((hbb _ (by decide +kernel)).trans (show bootBuiltins ("super" : Str) = some (.type "super") by decide +kernel)) ⟨rfl, ?_⟩)
  refine wpAny_loadName_free S.kind hkc rfl ⟨_, KX _ _ hcell, rfl⟩ ?_
  refine wpAny_loadName_local S.kind hka hnl hself ?_
  refine ks_wpAny_isType_cls hD1 hD2 ⟨rfl, ?_⟩
  refine ks_wpAny_call_super hD1 hD2 J.at_ J.cls (fun c ec => ?_) (PySem.W.looks_mroIn KX U2.sub) (fun h' eso kso => ?_)
  · have := J.no
    unfold PySem.W.notCls at this
    rw [ec] at this
    exact Bool.noConfusion this
  have I1 := ClX.pin_new (t' := tt) I kso (Nat.le_refl _) eso (fun v z => nomatch z)
  have KX1 : K.In h' := I1.kIn
  obtain ⟨og, hog, hogc⟩ : ∃ og, h'.get? g = some og ∧ og.cls = .type "function" := by
    have ht' : (K.lookup g).map (·.cls) = some (.type "function") := U2.ty
    cases z : K.lookup g with
    | none => rw [z] at ht'; cases ht'
    | some og => rw [z] at ht'; exact ⟨og, KX1 _ _ z, Option.some.inj ht'⟩
  have hnx := U2.nx
  unfold PySem.W.ks_superIn at hnx
  rw [hcC] at hnx
  refine ks_wpAny_getMethod_super (ClX.pin_at I1) (PySem.W.looks_opaque KX1 U.opq) (l₀ := cdC.mro) ((PySem.W.looks_clsIn KX1 hcC).andThen .now) rfl KX1 hnx hog hogc (PySem.W.ks_ne KX J hcC) hat ?_
  have I2 := ClX.met_new (g := g) (C := a) I1
  have I3 : Inv (cxS P w K mg base N qual (defScope st) f (.ref cda) cc A outer s0 H0 E) ((h'.objs.size, PySem.W.methodObj (.ref g) (.ref a)) :: pins) σ H { (⟨h', gg, dd, tt, os⟩ : Shared) with heap := h'.push (PySem.W.methodObj (.ref g) (.ref a)), toks := tt + 1 } :=
    I2.pins_of fun p hp' => I2.pin p (List.mem_append_right _ (by
      rcases List.mem_cons.mp (show p ∈ _ :: pins from hp') with z | z
      · rw [z]; exact List.mem_cons_self
      · exact List.mem_cons_of_mem _ (List.mem_cons_of_mem _ z)))
  exact ClX.callwith_cm I3 (ClX.base_none I1 (Nat.le_refl _)) U2.fi (thn (ha.run pos _ _ σ H _ I3 q) fun us s3 ⟨vs, H2, I4, rv, q2⟩ => ⟨⟨ClX.pin_at I4, I4.kIn⟩, run_callM tk G hr hg I4 rv q2⟩) hst hpl
end
end Uk

/-! UkM: small words of the text's own constants -/
namespace Uk
open PySem PySem.Spec PyProof.Rows L2 StX
section
variable {K : PySem.W.Frag} {H : Hp} {a : Addr} {xs : List V} {us : List Value} {n : Nat} {dd : Option Addr} {sl : Array (Option Value)}
/-- a tuple of the text's own -/
theorem sqT_k (h : K.lookup a = some ⟨.type "tuple", dd, .seq us.toArray n, sl⟩) (r : Vals xs us) (hz : us.length ≤ 1000) : SqT K H a xs :=
  .inr ⟨_, us.toArray, n, h, rfl, rfl, by rw [List.size_toArray, sizeLine_eq]; omega, by simpa using r⟩
end
end Uk
namespace Uk
open PySem PySem.Spec PyProof.Rows L2 StX
theorem TyX.same {K : PySem.W.Frag} {H H' : Hp} {v : V} {t : Value} (s : Same H H') (h : TyX K H v t) : TyX K H' v t := by
  cases h with
  | base b =>
    cases b with
    | non => exact .base .non
    | bl y => exact .base (.bl y)
    | int i => exact .base (.int i)
    | str y => exact .base (.str y)
    | flt y => exact .base (.flt y)
    | lst e => exact .base (.lst (s _ _ e))
    | frz e => exact .base (.frz (s _ _ e))
    | tup e => exact .base (.tup (s _ _ e))
    | dK e => exact .base (.dK (s _ _ e))
    | dT e => exact .base (.dT (s _ _ e))
    | ins e cl ha hn htk hm => exact .base (.ins (s _ _ e) cl ha hn htk hm)
  | byt b => exact .byt b
  | set e => exact .set (s _ _ e)
  | kList e c => exact .kList e c
  | kTuple e c => exact .kTuple e c
  | kDict e c => exact .kDict e c
  | fTuple e => exact .fTuple (s _ _ e)
  | fDict e => exact .fDict (s _ _ e)
theorem inV_strs (x : Str) (ws : List Str) : inV (.str x) (ws.map V.str) = decide (x ∈ ws) := by
  induction ws with
  | nil => rfl
  | cons y r ih =>
    show ((y == x) || inV (.str x) (r.map V.str)) = _
    rw [ih]
    by_cases e : y = x
    · subst e
      simp
    · have e2 : ¬ x = y := fun z => e z.symm
      simp [e, e2]
/-- o.m(e, ..), m by o's class -/
def tMeV (W : WX) (dom : Addr → Prop) (m : Str) (sp : Addr → SpK) (ta : TE) (t : TA) : TE := fun σ H Q => ta σ H fun x H1 => ∃ a C dx fs, x = .ref a ∧ dom C ∧ H1 a = some (.ins C dx fs) ∧ fs.lookup m = none ∧ t σ H1 fun vs H2 => sp C (.ref a :: vs) [] H2 Q (WE W σ)
theorem pe_meV {X : Cx} {W : WX} {k : Nat} {dom : Addr → Prop} {f : Addr → Addr} {sp : Addr → SpK} {m : Str} {o e : Expr} {es : List Expr} {qs apos : Pos} {ta : TE} {t : TA} {pl : Sem Bool} (tk : Takes X W) (he : PE X o ta) (hm : ∀ C, dom C → Cls X.K C ∧ Meth X.K C m (f C))
    (F : ∀ C, dom C → CallG X.prog X.w X.K X.mg X.base k (.ref (f C)) (sp C)) (hr : Room k X.A) (hg : X.A.guards = some []) (ha : PA X (e :: es) t)
    (hst : starEach (e :: es) X.env = (false, eval e X.env) :: starEach es X.env := by rfl) (hpl : (backTo qs (starEach es X.env)).any (·.1) = false := by rfl)
    (ht : eval (.Call (.Attribute o m apos) (e :: es) [] qs) X.env = (do
      let ov ← eval o X.env
      standAt apos.atName
      let (f, first) ← holding [ov] (getMethod ov m pl)
      callWith qs f first (backTo qs (starEach (e :: es) X.env)) (backToKw qs (keywordEach [] X.env))) := by rfl) :
    PE X (.Call (.Attribute o m apos) (e :: es) [] qs) (tMeV W dom m sp ta t) := by
  refine ⟨fun pins s σ H Q I h => ?_⟩
  refine PySem.W.methodCall_KW (pl := pl) (thn (he.run pins s σ H _ I h) fun u s1 ⟨x, H1, I1, rx, a, C, dx, fs, ex, d, ea, l, q⟩ => ?_) ht
  subst ex
  obtain rfl : u = Value.ref a := rx
  refine getmeth_ok I1 ea (hm C d).1 (hm C d).2 l ?_
  refine PySem.W.callWith_K (h₀ := X.base) (first := [.ref a]) I1.ok.mod.kin (hm C d).2.kp (thn (ha.run qs pins s1 σ H1 _ I1 q) fun us s2 ⟨vs, H2, I2, r, q2⟩ => ⟨I2.kIn, ?_⟩) hst hpl
  exact run_call (us := .ref a :: us) (vs := .ref a :: vs) tk (F C d) hr hg I2 (.cons rfl r) .nil q2
theorem same_disp {H : Hp} {p : Addr} {o u : HO} (h : H p = none) : Same H (upd (upd H p o) p u) := by rw [upd_upd]; exact same_new h
end Uk

/-! UkN: enumerate(a tuple) -/
namespace Uk
open PySem PySem.Spec PyProof.Rows L2 StX
abbrev tupItr (t : Addr) : Obj := { cls := .type "tuple_iterator", data := .fields #[.ref t, .int 0 0] }
abbrev enumOf (it : Addr) : Obj := { cls := .type "enumerate", data := .fields #[.none, .bool false, .ref it, rawInt 0, .none, .none] }
theorem enumT_new (t : Addr) (items : Array Value) : Meets (Builtin.«enumerate.__new__» ⟨[.type "enumerate", .ref t], []⟩) (fun _ R s => s.heap.IsTuple t items ∧ R (.ok (.ret (.ref (s.heap.push (tupItr t)).objs.size))) { s with heap := (s.heap.push (tupItr t)).push (enumOf s.heap.objs.size) }) :=
  .of_wp fun prog w A R s ⟨hT, h⟩ => by
    obtain ⟨⟨cl, dd, dt, sl⟩, hl, hc, n, hd⟩ := id hT
    simp only at hc hd
    subst hc hd
    obtain ⟨hh, gg, dr, tt, os⟩ := s
    have sub := sub_enumerate
    wp_walk using AutoSeq1.wpAny_loadPart' hl
    refine wpAny_stack_any fun st => wpAny_pure ?_
    split
    · rename_i c _ _ _ _ _
      cases (c == Value.type "enumerate") <;> (wp_walk using AutoSeq1.wpAny_loadPart' hl, wpAny_pyIter_tuple hT; exact ⟨_, rfl, h⟩)
    · wp_walk using AutoSeq1.wpAny_loadPart' hl, wpAny_pyIter_tuple hT
      exact ⟨_, rfl, h⟩
section
variable {prog : Program} {w : World} {A : Around} {E : Value → Shared → Prop} {s : Shared}
theorem call_enumT {t : Addr} {items : Array Value} {Q : Value → Shared → Prop} (hT : s.heap.IsTuple t items)
    (h : ∀ h', IsEnum h' (s.heap.objs.size + 1) s.heap.objs.size 0 .none → h'.IsTupleIter s.heap.objs.size t 0 → (∀ b o, s.heap.get? b = some o → h'.get? b = some o) → Q (.ref (s.heap.objs.size + 1)) { s with heap := h' }) :
    wpAny (model prog w) A (call (.type "enumerate") [.ref t]) Q E s := by
  refine callType_new F.called_enumerate (by decide) (F.typeCall_enumerate_1 _) (F.newCall_enumerate_1 _) (fun obj => F.args_object_init_2 obj _) F.entry_enumerate_new (enumT_new t items) ⟨hT, ?_⟩
  have sz : (s.heap.push (tupItr t)).objs.size = s.heap.objs.size + 1 := Heap.size_push ..
  show _ ∧ _
  rw [sz]
  have en : IsEnum ((s.heap.push (tupItr t)).push (enumOf s.heap.objs.size)) (s.heap.objs.size + 1) s.heap.objs.size 0 .none := by
    have := Heap.get?_push_size (s.heap.push (tupItr t)) (o := enumOf s.heap.objs.size) rfl
    rwa [sz] at this
  exact ⟨⟨_, en, rfl⟩, h _ en ⟨_, Heap.get?_push_of_some _ (Heap.get?_push_size _ rfl), rfl, rfl⟩ fun b o x => Heap.get?_push_of_some _ (Heap.get?_push_of_some _ x)⟩
end
/-- the tuple at a, each item in a new pair -/
def ItEt (K : PySem.W.Frag) (a : Addr) : It :=
  ⟨fun i H => ∃ (xs : List V) (x : V), SqT K H a xs ∧ xs[i]? = some x, fun i H v H' => ∃ T x, v = .ref T ∧ H T = none ∧ H' = upd H T (.tup [.int (i : Nat), x]) ∧ ∀ xs, SqT K H a xs → xs[i]? = some x, fun i H => ∃ xs : List V, SqT K H a xs ∧ xs.length = i⟩
theorem turn_enumT {P : Program} {w : World} {K : PySem.W.Frag} {elts : List Expr} {kk : Nat} {tpos : Pos} (a e it : Addr) :
    Turn P w K (.Tuple elts kk tpos) (ItEt K a) [e, it] e (fun i h => (∃ old, IsEnum h e it ((i : Nat) : Int) old) ∧ h.IsTupleIter it a i ∧ e ≠ it ∧ a ≠ it ∧ a ≠ e) where
  mem := by simp
  obj := fun i h st b hb => by
    obtain ⟨⟨old, he⟩, ⟨o, ho, hc, hd⟩, _⟩ := st
    rcases (by simpa using hb : b = e ∨ b = it) with z | z
    · rw [z]; exact ⟨_, he, fun v q => nomatch q⟩
    · rw [z]; exact ⟨o, ho, fun v q => by rw [hd] at q; cases q⟩
  keep := fun i h h' ⟨⟨old, he⟩, hi, hne⟩ k => ⟨⟨old, k e (by simp) _ he⟩, hi.at fun o q => k it (by simp) o q, hne⟩
  item := by
    intro X hP hw hK hc i pins s σ H E I hf st hg
    subst hP hw hK
    obtain ⟨⟨old, he⟩, hit, hne, hai, hae⟩ := st
    obtain ⟨xs, x, hq, hx⟩ := hg
    obtain ⟨its, rv, p, hz⟩ := I.tuple hq
    have hT : s.heap.IsTuple a its.toArray := p
    obtain ⟨u, hu, ru⟩ := rv.get hx
    have hel : e < s.heap.objs.size := Heap.lt_size he
    have hil : it < s.heap.objs.size := by obtain ⟨_, q, _⟩ := hit; exact Heap.lt_size q
    have hlt : i < its.toArray.size := by
      have := (List.getElem?_eq_some_iff.mp hu).1
      simpa using this
    refine wpAny_pyNext_enum_itemC (Draws.tuple (by exact I.ok.hd hc) it a hai its.toArray) he ⟨hit, hT⟩ hlt hne (by simp [hne, Ne.symm hae]) fun x' h' tk hx' ho hst hTn hsz hk => ?_
    have ex : x' = u := by
      have h1 : its[i]? = some x' := by simpa using hx'
      rw [hu] at h1
      exact (Option.some.inj h1).symm
    subst ex
    refine ⟨_, rfl, wpAny_letOwnedTupleGo_enum (s := { s with heap := h', toks := tk + 1 }) ho fun h'' he' sb => ?_⟩
    have hT2 : h''.get? s.heap.objs.size = some { cls := .type "tuple", data := .seq #[.int i tk, x'] } := (sb.2 _ (Nat.ne_of_gt hel)).trans hTn
    have new : ObjOk X.prog X.w (upd H s.heap.objs.size (.tup [.int (i : Nat), x])) h'' s.heap.objs.size (.tup [.int (i : Nat), x]) :=
      ⟨by show 2 ≤ sizeLine; decide, [.int i tk, x'], .cons ⟨_, rfl⟩ (.cons ru .nil), ⟨_, hT2, rfl, _, rfl⟩⟩
    have I1 : Inv X pins σ (upd H s.heap.objs.size (.tup [.int (i : Nat), x])) { s with heap := h'', toks := tk + 1 } :=
      I.turnedNew (ch := [e, it]) (fun b ob hb q => (sb.2 b (fun z => hb (by simp [z]))).trans (hk b ob (fun z => hb (by simp [z])) (fun z => hb (by simp [z])) q)) hf (Nat.le_refl _) new
    refine ⟨.ref s.heap.objs.size, _, I1, rfl, ⟨_, x, rfl, I.hok.fresh (Nat.le_refl _), rfl, fun ys hy => by rw [I.tuple_inj hy hq]; exact hx⟩, ⟨⟨x', ?_⟩, hst.1.at fun o q => (sb.2 it (Ne.symm hne)).trans q, hne, hai, hae⟩, fun b hb => ?_⟩
    · have e1 : ((i + 1 : Nat) : Int) = (i : Int) + 1 := by omega
      rw [e1]; exact he'
    · have hb' : b < s.heap.objs.size := by
        rcases (by simpa using hb : b = e ∨ b = it) with z | z
        · rw [z]; exact hel
        · rw [z]; exact hil
      rw [upd_ne (Nat.ne_of_lt hb')]
      exact (hf b hb).1
  done := by
    intro X hP hw hK hc i pins s σ H E I hf st hg
    subst hP hw hK
    obtain ⟨⟨old, he⟩, hit, hne, hai, hae⟩ := st
    obtain ⟨xs, hq, hx⟩ := hg
    obtain ⟨its, rv, p, hz⟩ := I.tuple hq
    obtain ⟨f0, f1, f2, f3, f4, f5⟩ := hf it (by simp)
    have hT : s.heap.IsTuple a its.toArray := p
    have hl : its.toArray.size = i := by rw [List.size_toArray, ← rv.length]; exact hx
    subst hl
    exact wpAny_pyNext_enum_endD (Draws.tuple (by exact I.ok.hd hc) it a hai its.toArray) he ⟨hit, hT⟩ fun h' eb => ⟨rfl, I.turned (t' := s.toks) (fun b o hb q => eb b o hb q) f0 f1 f3 f4 f5⟩
  self := fun A i s Q E ⟨⟨_, he⟩, _⟩ h => wpAny_pyIter_enum he h
def iEnumT (K : PySem.W.Frag) (ta : TA) : TI := fun σ H R => ta σ H fun vs H1 => ∃ a xs, vs = [.ref a] ∧ SqT K H1 a xs ∧ R (ItEt K a) H1
theorem pi_enumT {X : Cx} {e : Expr} {ta : TA} {p pos tpos : Pos} {elts : List Expr} {kk : Nat} (hg : Gl X "enumerate") (hm : X.mg "enumerate" = none) (ha : PA X [e] ta) (hs : starEach [e] X.env = [(false, eval e X.env)] := by rfl) :
    PI X (.Tuple elts kk tpos) (.Call (.Name "enumerate" p) [e] [] pos) (iEnumT X.K ta) := by
  refine ⟨fun pins s σ H R I h => ?_⟩
  refine Call_ (ld_blt I hg hm boot_enumerate (PyProof.Rows.callWith_type1 (thn (ha.run pos pins s σ H _ I h) fun us s1 ⟨vs, H1, I1, r1, q1⟩ => ?_) hs rfl))
  obtain ⟨a, xs, rfl, hq, q⟩ := q1
  obtain rfl := Vals.ref1 r1
  obtain ⟨its, rv, p', hz⟩ := I1.tuple hq
  have hT : s1.heap.IsTuple a its.toArray := p'
  have al : a < s1.heap.objs.size := by obtain ⟨o, ho, _⟩ := id hT; exact Heap.lt_size ho
  refine call_enumT hT fun h' he hit hk => wpAny_pyIter_enum he ?_
  have I2 : Inv X pins σ H1 { s1 with heap := h' } := I1.kept (t' := s1.toks) hk
  refine ⟨s1.heap.objs.size + 1, [s1.heap.objs.size + 1, s1.heap.objs.size], _, _, H1, rfl, I2, turn_enumT a (s1.heap.objs.size + 1) s1.heap.objs.size, ⟨⟨.none, he⟩, hit, Nat.succ_ne_self _, Nat.ne_of_lt al, Nat.ne_of_lt (Nat.lt_succ_of_lt al)⟩, fun b hb => ?_, q⟩
  have hle : s1.heap.objs.size ≤ b := by
    rcases (by simpa using hb : b = s1.heap.objs.size + 1 ∨ b = s1.heap.objs.size) with z | z
    · exact z ▸ Nat.le_succ _
    · exact z ▸ Nat.le_refl _
  exact I1.fpOk hle (I1.hok.fresh hle)
theorem walk_enumT {K : PySem.W.Frag} {a : Addr} {xs : List V} : Walk (ItEt K a) xs.length (fun H => SqT K H a xs) (YPair (fun i => some (.int (i : Nat))) (fun i => xs[i]?)) := by
  refine ⟨fun i _ hi q => ⟨xs, xs[i], q, by simp [hi]⟩, fun _ q => ⟨xs, q, rfl⟩, fun i H v H' _ q y => ?_⟩
  obtain ⟨T, x, h1, h2, h3, h4⟩ := y
  exact ⟨T, .int (i : Nat), x, h1, h2, h3, rfl, h4 xs q⟩
end Uk

namespace M05
open PySem PySem.Spec PyProof.Rows L2 StX Uk
abbrev PP := PySem.Challenge.pw_unkeptlines_k05_words_allowed
def topS (i : Nat) : Stmt := PP.main.body.getD i (.Pass ⟨0, 0, 0, 0⟩)
abbrev s__wall : Stmt := topS 0
theorem sc__wall : FnScope ["k"] ["k"] (defScope s__wall) := ⟨rfl, rfl, rfl, by decide +kernel, rfl, by decide +kernel, by decide +kernel⟩
abbrev s_NoPart___init__ : Stmt := inClass (topS 3) 0
theorem sc_NoPart___init__ : ScopeS ["self", "reason", "place"] ["self", "reason", "place"] (defScope s_NoPart___init__) := ⟨rfl, rfl, rfl, by decide +kernel, rfl, by decide +kernel, by decide +kernel, by decide +kernel⟩
abbrev s_is_integer : Stmt := topS 7
theorem sc_is_integer : FnScope ["value"] ["value"] (defScope s_is_integer) := ⟨rfl, rfl, rfl, by decide +kernel, rfl, by decide +kernel, by decide +kernel⟩
abbrev s_is_within : Stmt := topS 8
theorem sc_is_within : FnScope ["value", "least", "most"] ["value", "least", "most"] (defScope s_is_within) := ⟨rfl, rfl, rfl, by decide +kernel, rfl, by decide +kernel, by decide +kernel⟩
abbrev s_is_name : Stmt := topS 9
theorem sc_is_name : FnScope ["value", "letter"] ["value"] (defScope s_is_name) := ⟨rfl, rfl, rfl, by decide +kernel, rfl, by decide +kernel, by decide +kernel⟩
abbrev s_is_word : Stmt := topS 18
theorem sc_is_word : FnScope ["value", "words"] ["value", "words"] (defScope s_is_word) := ⟨rfl, rfl, rfl, by decide +kernel, rfl, by decide +kernel, by decide +kernel⟩
abbrev s_is_range : Stmt := topS 19
theorem sc_is_range : FnScope ["first", "last"] ["first", "last"] (defScope s_is_range) := ⟨rfl, rfl, rfl, by decide +kernel, rfl, by decide +kernel, by decide +kernel⟩
abbrev s_is_step : Stmt := topS 20
theorem sc_is_step : FnScope ["value"] ["value"] (defScope s_is_step) := ⟨rfl, rfl, rfl, by decide +kernel, rfl, by decide +kernel, by decide +kernel⟩
abbrev s_Agent___init__ : Stmt := inClass (topS 23) 2
theorem sc_Agent___init__ : FnScope ["self", "name", "steps", "k", "step"] ["self", "name", "steps"] (defScope s_Agent___init__) := ⟨rfl, rfl, rfl, by decide +kernel, rfl, by decide +kernel, by decide +kernel⟩
abbrev s_Agent_made : Stmt := inClass (topS 23) 3
theorem sc_Agent_made : FnScope ["cls", "name", "steps"] ["cls", "name", "steps"] (defScope s_Agent_made) := ⟨rfl, rfl, rfl, by decide +kernel, rfl, by decide +kernel, by decide +kernel⟩
abbrev s_Agent___len__ : Stmt := inClass (topS 23) 4
theorem sc_Agent___len__ : FnScope ["self"] ["self"] (defScope s_Agent___len__) := ⟨rfl, rfl, rfl, by decide +kernel, rfl, by decide +kernel, by decide +kernel⟩
abbrev s_Agent___getitem__ : Stmt := inClass (topS 23) 5
theorem sc_Agent___getitem__ : FnScope ["self", "number"] ["self", "number"] (defScope s_Agent___getitem__) := ⟨rfl, rfl, rfl, by decide +kernel, rfl, by decide +kernel, by decide +kernel⟩
abbrev s_Agent___iter__ : Stmt := inClass (topS 23) 6
theorem sc_Agent___iter__ : FnScope ["self"] ["self"] (defScope s_Agent___iter__) := ⟨rfl, rfl, rfl, by decide +kernel, rfl, by decide +kernel, by decide +kernel⟩
abbrev s_Agent___eq__ : Stmt := inClass (topS 23) 7
theorem sc_Agent___eq__ : FnScope ["self", "other"] ["self", "other"] (defScope s_Agent___eq__) := ⟨rfl, rfl, rfl, by decide +kernel, rfl, by decide +kernel, by decide +kernel⟩
abbrev s_Agent_may : Stmt := inClass (topS 23) 8
theorem sc_Agent_may : FnScope ["self", "word"] ["self", "word"] (defScope s_Agent_may) := ⟨rfl, rfl, rfl, by decide +kernel, rfl, by decide +kernel, by decide +kernel⟩
abbrev s_Agent_with_steps : Stmt := inClass (topS 23) 9
theorem sc_Agent_with_steps : FnScope ["self", "steps"] ["self", "steps"] (defScope s_Agent_with_steps) := ⟨rfl, rfl, rfl, by decide +kernel, rfl, by decide +kernel, by decide +kernel⟩
abbrev s_Through_made : Stmt := inClass (topS 24) 2
theorem sc_Through_made : FnScope ["cls", "name", "steps"] ["cls", "name", "steps"] (defScope s_Through_made) := ⟨rfl, rfl, rfl, by decide +kernel, rfl, by decide +kernel, by decide +kernel⟩
abbrev s_Through_may : Stmt := inClass (topS 24) 3
theorem sc_Through_may : ScopeS ["self", "word"] ["self", "word"] (defScope s_Through_may) := ⟨rfl, rfl, rfl, by decide +kernel, rfl, by decide +kernel, by decide +kernel, by decide +kernel⟩
abbrev s_Through_with_steps : Stmt := inClass (topS 24) 4
theorem sc_Through_with_steps : FnScope ["self", "steps"] ["self", "steps"] (defScope s_Through_with_steps) := ⟨rfl, rfl, rfl, by decide +kernel, rfl, by decide +kernel, by decide +kernel⟩
abbrev s_Back_made : Stmt := inClass (topS 25) 1
theorem sc_Back_made : FnScope ["cls", "name", "steps"] ["cls", "name", "steps"] (defScope s_Back_made) := ⟨rfl, rfl, rfl, by decide +kernel, rfl, by decide +kernel, by decide +kernel⟩
abbrev s_Back_may : Stmt := inClass (topS 25) 2
theorem sc_Back_may : ScopeS ["self", "word"] ["self", "word"] (defScope s_Back_may) := ⟨rfl, rfl, rfl, by decide +kernel, rfl, by decide +kernel, by decide +kernel, by decide +kernel⟩
abbrev s_Back_with_steps : Stmt := inClass (topS 25) 3
theorem sc_Back_with_steps : FnScope ["self", "steps"] ["self", "steps"] (defScope s_Back_with_steps) := ⟨rfl, rfl, rfl, by decide +kernel, rfl, by decide +kernel, by decide +kernel⟩
abbrev s__law_pen : Stmt := topS 27
theorem sc__law_pen : FnScope ["script"] ["script"] (defScope s__law_pen) := ⟨rfl, rfl, rfl, by decide +kernel, rfl, by decide +kernel, by decide +kernel⟩
abbrev s__law_draw : Stmt := topS 28
theorem sc__law_draw : FnScope ["pen", "many", "digit", "begun", "cell", "great", "mixed"] ["pen", "many"] (defScope s__law_draw) := ⟨rfl, rfl, rfl, by decide +kernel, rfl, by decide +kernel, by decide +kernel⟩
abbrev s__law_thing : Stmt := topS 29
theorem sc__law_thing : FnScope ["pen", "some"] ["pen"] (defScope s__law_thing) := ⟨rfl, rfl, rfl, by decide +kernel, rfl, by decide +kernel, by decide +kernel⟩
abbrev s__law_word : Stmt := topS 30
theorem sc__law_word : FnScope ["pen", "some", "choice"] ["pen"] (defScope s__law_word) := ⟨rfl, rfl, rfl, by decide +kernel, rfl, by decide +kernel, by decide +kernel⟩
abbrev s__law_right : Stmt := topS 31
theorem sc__law_right : FnScope ["agent", "kind", "word", "words", "wanted", "found"] ["agent", "kind", "word"] (defScope s__law_right) := ⟨rfl, rfl, rfl, by decide +kernel, rfl, by decide +kernel, by decide +kernel⟩
abbrev s__law_family : Stmt := topS 32
theorem sc__law_family : FnScope ["pen", "called", "plain", "through", "back", "k", "word"] ["pen"] (defScope s__law_family) := ⟨rfl, rfl, rfl, by decide +kernel, rfl, by decide +kernel, by decide +kernel⟩
abbrev s_law : Stmt := topS 33
theorem sc_law : FnScope ["script", "pen", "k"] ["script"] (defScope s_law) := ⟨rfl, rfl, rfl, by decide +kernel, rfl, by decide +kernel, by decide +kernel⟩
section
variable {mg : PySem.Str → Option Value} {base : Heap} {w : World}
theorem mg_UnkeptError (M : Mod (hd05.heap_39 w.params) mg base) : mg "UnkeptError" = some (.ref 31) := PySem.W.mg_of M.kin M.glob (by k_is)
theorem kp_UnkeptError (w : World) : PySem.W.keepIn (hd05.heap_39 w.params) (.ref 31) = true := by k_is
theorem mg_NoPart (M : Mod (hd05.heap_39 w.params) mg base) : mg "NoPart" = some (.ref 53) := PySem.W.mg_of M.kin M.glob (by k_is)
theorem kp_NoPart (w : World) : PySem.W.keepIn (hd05.heap_39 w.params) (.ref 53) = true := by k_is
theorem mg_Agent (M : Mod (hd05.heap_39 w.params) mg base) : mg "Agent" = some (.ref 169) := PySem.W.mg_of M.kin M.glob (by k_is)
theorem kp_Agent (w : World) : PySem.W.keepIn (hd05.heap_39 w.params) (.ref 169) = true := by k_is
theorem mg_Through (M : Mod (hd05.heap_39 w.params) mg base) : mg "Through" = some (.ref 209) := PySem.W.mg_of M.kin M.glob (by k_is)
theorem kp_Through (w : World) : PySem.W.keepIn (hd05.heap_39 w.params) (.ref 209) = true := by k_is
theorem mg_Back (M : Mod (hd05.heap_39 w.params) mg base) : mg "Back" = some (.ref 247) := PySem.W.mg_of M.kin M.glob (by k_is)
theorem kp_Back (w : World) : PySem.W.keepIn (hd05.heap_39 w.params) (.ref 247) = true := by k_is
theorem mg__wall (M : Mod (hd05.heap_39 w.params) mg base) : mg "_wall" = some (.ref 21) := PySem.W.mg_of M.kin M.glob (by k_is)
theorem kp__wall (w : World) : PySem.W.keepIn (hd05.heap_39 w.params) (.ref 21) = true := by k_is
theorem fn__wall (w : World) : ∃ fd, Fun (hd05.heap_39 w.params) "_wall" "_wall" s__wall 21 fd := ⟨_, fun_mk (by k_is) (by k_is) (by k_is)⟩
theorem mg_is_integer (M : Mod (hd05.heap_39 w.params) mg base) : mg "is_integer" = some (.ref 62) := PySem.W.mg_of M.kin M.glob (by k_is)
theorem kp_is_integer (w : World) : PySem.W.keepIn (hd05.heap_39 w.params) (.ref 62) = true := by k_is
theorem fn_is_integer (w : World) : ∃ fd, Fun (hd05.heap_39 w.params) "is_integer" "is_integer" s_is_integer 62 fd := ⟨_, fun_mk (by k_is) (by k_is) (by k_is)⟩
theorem mg_is_within (M : Mod (hd05.heap_39 w.params) mg base) : mg "is_within" = some (.ref 69) := PySem.W.mg_of M.kin M.glob (by k_is)
theorem kp_is_within (w : World) : PySem.W.keepIn (hd05.heap_39 w.params) (.ref 69) = true := by k_is
theorem fn_is_within (w : World) : ∃ fd, Fun (hd05.heap_39 w.params) "is_within" "is_within" s_is_within 69 fd := ⟨_, fun_mk (by k_is) (by k_is) (by k_is)⟩
theorem mg_is_name (M : Mod (hd05.heap_39 w.params) mg base) : mg "is_name" = some (.ref 74) := PySem.W.mg_of M.kin M.glob (by k_is)
theorem kp_is_name (w : World) : PySem.W.keepIn (hd05.heap_39 w.params) (.ref 74) = true := by k_is
theorem fn_is_name (w : World) : ∃ fd, Fun (hd05.heap_39 w.params) "is_name" "is_name" s_is_name 74 fd := ⟨_, fun_mk (by k_is) (by k_is) (by k_is)⟩
theorem mg_is_word (M : Mod (hd05.heap_39 w.params) mg base) : mg "is_word" = some (.ref 86) := PySem.W.mg_of M.kin M.glob (by k_is)
theorem kp_is_word (w : World) : PySem.W.keepIn (hd05.heap_39 w.params) (.ref 86) = true := by k_is
theorem fn_is_word (w : World) : ∃ fd, Fun (hd05.heap_39 w.params) "is_word" "is_word" s_is_word 86 fd := ⟨_, fun_mk (by k_is) (by k_is) (by k_is)⟩
theorem mg_is_range (M : Mod (hd05.heap_39 w.params) mg base) : mg "is_range" = some (.ref 93) := PySem.W.mg_of M.kin M.glob (by k_is)
theorem kp_is_range (w : World) : PySem.W.keepIn (hd05.heap_39 w.params) (.ref 93) = true := by k_is
theorem fn_is_range (w : World) : ∃ fd, Fun (hd05.heap_39 w.params) "is_range" "is_range" s_is_range 93 fd := ⟨_, fun_mk (by k_is) (by k_is) (by k_is)⟩
theorem mg_is_step (M : Mod (hd05.heap_39 w.params) mg base) : mg "is_step" = some (.ref 100) := PySem.W.mg_of M.kin M.glob (by k_is)
theorem kp_is_step (w : World) : PySem.W.keepIn (hd05.heap_39 w.params) (.ref 100) = true := by k_is
theorem fn_is_step (w : World) : ∃ fd, Fun (hd05.heap_39 w.params) "is_step" "is_step" s_is_step 100 fd := ⟨_, fun_mk (by k_is) (by k_is) (by k_is)⟩
theorem mg__law_pen (M : Mod (hd05.heap_39 w.params) mg base) : mg "_law_pen" = some (.ref 256) := PySem.W.mg_of M.kin M.glob (by k_is)
theorem kp__law_pen (w : World) : PySem.W.keepIn (hd05.heap_39 w.params) (.ref 256) = true := by k_is
theorem fn__law_pen (w : World) : ∃ fd, Fun (hd05.heap_39 w.params) "_law_pen" "_law_pen" s__law_pen 256 fd := ⟨_, fun_mk (by k_is) (by k_is) (by k_is)⟩
theorem mg__law_draw (M : Mod (hd05.heap_39 w.params) mg base) : mg "_law_draw" = some (.ref 263) := PySem.W.mg_of M.kin M.glob (by k_is)
theorem kp__law_draw (w : World) : PySem.W.keepIn (hd05.heap_39 w.params) (.ref 263) = true := by k_is
theorem fn__law_draw (w : World) : ∃ fd, Fun (hd05.heap_39 w.params) "_law_draw" "_law_draw" s__law_draw 263 fd := ⟨_, fun_mk (by k_is) (by k_is) (by k_is)⟩
theorem mg__law_thing (M : Mod (hd05.heap_39 w.params) mg base) : mg "_law_thing" = some (.ref 270) := PySem.W.mg_of M.kin M.glob (by k_is)
theorem kp__law_thing (w : World) : PySem.W.keepIn (hd05.heap_39 w.params) (.ref 270) = true := by k_is
theorem fn__law_thing (w : World) : ∃ fd, Fun (hd05.heap_39 w.params) "_law_thing" "_law_thing" s__law_thing 270 fd := ⟨_, fun_mk (by k_is) (by k_is) (by k_is)⟩
theorem mg__law_word (M : Mod (hd05.heap_39 w.params) mg base) : mg "_law_word" = some (.ref 277) := PySem.W.mg_of M.kin M.glob (by k_is)
theorem kp__law_word (w : World) : PySem.W.keepIn (hd05.heap_39 w.params) (.ref 277) = true := by k_is
theorem fn__law_word (w : World) : ∃ fd, Fun (hd05.heap_39 w.params) "_law_word" "_law_word" s__law_word 277 fd := ⟨_, fun_mk (by k_is) (by k_is) (by k_is)⟩
theorem mg__law_right (M : Mod (hd05.heap_39 w.params) mg base) : mg "_law_right" = some (.ref 284) := PySem.W.mg_of M.kin M.glob (by k_is)
theorem kp__law_right (w : World) : PySem.W.keepIn (hd05.heap_39 w.params) (.ref 284) = true := by k_is
theorem fn__law_right (w : World) : ∃ fd, Fun (hd05.heap_39 w.params) "_law_right" "_law_right" s__law_right 284 fd := ⟨_, fun_mk (by k_is) (by k_is) (by k_is)⟩
theorem mg__law_family (M : Mod (hd05.heap_39 w.params) mg base) : mg "_law_family" = some (.ref 291) := PySem.W.mg_of M.kin M.glob (by k_is)
theorem kp__law_family (w : World) : PySem.W.keepIn (hd05.heap_39 w.params) (.ref 291) = true := by k_is
theorem fn__law_family (w : World) : ∃ fd, Fun (hd05.heap_39 w.params) "_law_family" "_law_family" s__law_family 291 fd := ⟨_, fun_mk (by k_is) (by k_is) (by k_is)⟩
theorem mg_law (M : Mod (hd05.heap_39 w.params) mg base) : mg "law" = some (.ref 296) := PySem.W.mg_of M.kin M.glob (by k_is)
theorem kp_law (w : World) : PySem.W.keepIn (hd05.heap_39 w.params) (.ref 296) = true := by k_is
theorem fn_law (w : World) : ∃ fd, Fun (hd05.heap_39 w.params) "law" "law" s_law 296 fd := ⟨_, fun_mk (by k_is) (by k_is) (by k_is)⟩
theorem fn_NoPart___init__ (w : World) : FunS (hd05.heap_39 w.params) "__init__" "NoPart.__init__" s_NoPart___init__ 50 38 49 53 := ⟨⟨_, _, _, _, _, _, _, _, by k_is, by k_is⟩, ⟨_, _, _, by k_is⟩, by k_is⟩
theorem sup_NoPart___init__ (w : World) : SupF PP (hd05.heap_39 w.params) 49 53 := ⟨⟨_, _, _, _, _, _, by k_is, by rfl, by decide +kernel⟩, ⟨_, by k_is⟩, by k_is, by decide +kernel, by k_is⟩
theorem fn_Agent___init__ (w : World) : ∃ fd, Fun (hd05.heap_39 w.params) "__init__" "Agent.__init__" s_Agent___init__ 114 fd := ⟨_, fun_mk (by k_is) (by k_is) (by k_is)⟩
theorem fn_Agent___len__ (w : World) : ∃ fd, Fun (hd05.heap_39 w.params) "__len__" "Agent.__len__" s_Agent___len__ 131 fd := ⟨_, fun_mk (by k_is) (by k_is) (by k_is)⟩
theorem fn_Agent___getitem__ (w : World) : ∃ fd, Fun (hd05.heap_39 w.params) "__getitem__" "Agent.__getitem__" s_Agent___getitem__ 138 fd := ⟨_, fun_mk (by k_is) (by k_is) (by k_is)⟩
theorem fn_Agent___iter__ (w : World) : ∃ fd, Fun (hd05.heap_39 w.params) "__iter__" "Agent.__iter__" s_Agent___iter__ 145 fd := ⟨_, fun_mk (by k_is) (by k_is) (by k_is)⟩
theorem fn_Agent___eq__ (w : World) : ∃ fd, Fun (hd05.heap_39 w.params) "__eq__" "Agent.__eq__" s_Agent___eq__ 152 fd := ⟨_, fun_mk (by k_is) (by k_is) (by k_is)⟩
theorem fn_Agent_may (w : World) : ∃ fd, Fun (hd05.heap_39 w.params) "may" "Agent.may" s_Agent_may 159 fd := ⟨_, fun_mk (by k_is) (by k_is) (by k_is)⟩
theorem fn_Agent_with_steps (w : World) : ∃ fd, Fun (hd05.heap_39 w.params) "with_steps" "Agent.with_steps" s_Agent_with_steps 166 fd := ⟨_, fun_mk (by k_is) (by k_is) (by k_is)⟩
theorem fn_Through_may (w : World) : FunS (hd05.heap_39 w.params) "may" "Through.may" s_Through_may 199 177 198 209 := ⟨⟨_, _, _, _, _, _, _, _, by k_is, by k_is⟩, ⟨_, _, _, by k_is⟩, by k_is⟩
theorem sup_Through_may (w : World) : SupF PP (hd05.heap_39 w.params) 198 209 := ⟨⟨_, _, _, _, _, _, by k_is, by rfl, by decide +kernel⟩, ⟨_, by k_is⟩, by k_is, by decide +kernel, by k_is⟩
theorem fn_Through_with_steps (w : World) : ∃ fd, Fun (hd05.heap_39 w.params) "with_steps" "Through.with_steps" s_Through_with_steps 206 fd := ⟨_, fun_mk (by k_is) (by k_is) (by k_is)⟩
theorem fn_Back_may (w : World) : FunS (hd05.heap_39 w.params) "may" "Back.may" s_Back_may 237 215 236 247 := ⟨⟨_, _, _, _, _, _, _, _, by k_is, by k_is⟩, ⟨_, _, _, by k_is⟩, by k_is⟩
theorem sup_Back_may (w : World) : SupF PP (hd05.heap_39 w.params) 236 247 := ⟨⟨_, _, _, _, _, _, by k_is, by rfl, by decide +kernel⟩, ⟨_, by k_is⟩, by k_is, by decide +kernel, by k_is⟩
theorem fn_Back_with_steps (w : World) : ∃ fd, Fun (hd05.heap_39 w.params) "with_steps" "Back.with_steps" s_Back_with_steps 244 fd := ⟨_, fun_mk (by k_is) (by k_is) (by k_is)⟩
theorem cls_Agent (w : World) : Cls (hd05.heap_39 w.params) 169 := ⟨by k_is, by k_is, by k_is, by k_is⟩
theorem tyc_Agent (w : World) : TyC (hd05.heap_39 w.params) 169 := ⟨cls_Agent w, by k_is, by k_is, by k_is, by k_is⟩
theorem mk_Agent (w : World) : Mk (hd05.heap_39 w.params) 169 114 := ⟨by k_is, by k_is, by k_is, by k_is⟩
theorem na_Agent_name (w : World) : NoAttr (hd05.heap_39 w.params) 169 "name" := by show PySem.W.findIn _ _ _ = _; k_is
theorem na_Agent_steps (w : World) : NoAttr (hd05.heap_39 w.params) 169 "steps" := by show PySem.W.findIn _ _ _ = _; k_is
theorem na_Agent_shape (w : World) : NoAttr (hd05.heap_39 w.params) 169 "shape" := by show PySem.W.findIn _ _ _ = _; k_is
theorem own_Agent_len (w : World) : Own (hd05.heap_39 w.params) 169 "__len__" 131 := ⟨by k_is, by k_is⟩
theorem own_Agent_eq (w : World) : Own (hd05.heap_39 w.params) 169 "__eq__" 152 := ⟨by k_is, by k_is⟩
theorem own_Agent_ne (w : World) : OwnNe (hd05.heap_39 w.params) 169 152 := ⟨own_Agent_eq w, by k_is, by k_is⟩
theorem me_Agent_may (w : World) : Meth (hd05.heap_39 w.params) 169 "may" 159 := ⟨by k_is, by k_is, by k_is⟩
theorem me_Agent_with_steps (w : World) : Meth (hd05.heap_39 w.params) 169 "with_steps" 166 := ⟨by k_is, by k_is, by k_is⟩
theorem cls_Through (w : World) : Cls (hd05.heap_39 w.params) 209 := ⟨by k_is, by k_is, by k_is, by k_is⟩
theorem tyc_Through (w : World) : TyC (hd05.heap_39 w.params) 209 := ⟨cls_Through w, by k_is, by k_is, by k_is, by k_is⟩
theorem mk_Through (w : World) : Mk (hd05.heap_39 w.params) 209 114 := ⟨by k_is, by k_is, by k_is, by k_is⟩
theorem na_Through_name (w : World) : NoAttr (hd05.heap_39 w.params) 209 "name" := by show PySem.W.findIn _ _ _ = _; k_is
theorem na_Through_steps (w : World) : NoAttr (hd05.heap_39 w.params) 209 "steps" := by show PySem.W.findIn _ _ _ = _; k_is
theorem na_Through_shape (w : World) : NoAttr (hd05.heap_39 w.params) 209 "shape" := by show PySem.W.findIn _ _ _ = _; k_is
theorem me_Through_may (w : World) : Meth (hd05.heap_39 w.params) 209 "may" 199 := ⟨by k_is, by k_is, by k_is⟩
theorem me_Through_with_steps (w : World) : Meth (hd05.heap_39 w.params) 209 "with_steps" 206 := ⟨by k_is, by k_is, by k_is⟩
theorem cls_Back (w : World) : Cls (hd05.heap_39 w.params) 247 := ⟨by k_is, by k_is, by k_is, by k_is⟩
theorem tyc_Back (w : World) : TyC (hd05.heap_39 w.params) 247 := ⟨cls_Back w, by k_is, by k_is, by k_is, by k_is⟩
theorem mk_Back (w : World) : Mk (hd05.heap_39 w.params) 247 114 := ⟨by k_is, by k_is, by k_is, by k_is⟩
theorem na_Back_name (w : World) : NoAttr (hd05.heap_39 w.params) 247 "name" := by show PySem.W.findIn _ _ _ = _; k_is
theorem na_Back_steps (w : World) : NoAttr (hd05.heap_39 w.params) 247 "steps" := by show PySem.W.findIn _ _ _ = _; k_is
theorem na_Back_shape (w : World) : NoAttr (hd05.heap_39 w.params) 247 "shape" := by show PySem.W.findIn _ _ _ = _; k_is
theorem me_Back_may (w : World) : Meth (hd05.heap_39 w.params) 247 "may" 237 := ⟨by k_is, by k_is, by k_is⟩
theorem me_Back_with_steps (w : World) : Meth (hd05.heap_39 w.params) 247 "with_steps" 244 := ⟨by k_is, by k_is, by k_is⟩
theorem mg_LETTERS (M : Mod (hd05.heap_39 w.params) mg base) : mg "LETTERS" = some (.str "abcdefghijklmnopqrstuvwxyz" 245) := PySem.W.mg_of M.kin M.glob (by k_is)
theorem mg_LONGEST (M : Mod (hd05.heap_39 w.params) mg base) : mg "LONGEST" = some (.int 8 247) := PySem.W.mg_of M.kin M.glob (by k_is)
theorem mg_ACCESSES (M : Mod (hd05.heap_39 w.params) mg base) : mg "ACCESSES" = some (.ref 75) := PySem.W.mg_of M.kin M.glob (by k_is)
theorem sq_ACCESSES (w : World) (H : Hp) : SqT (hd05.heap_39 w.params) H 75 [.str "read", .str "write", .str "get", .str "put"] := sqT_k (by k_is) (.cons ⟨_, rfl⟩ (.cons ⟨_, rfl⟩ (.cons ⟨_, rfl⟩ (.cons ⟨_, rfl⟩ .nil)))) (by decide)
theorem mg_CACHED_ACCESSES (M : Mod (hd05.heap_39 w.params) mg base) : mg "CACHED_ACCESSES" = some (.ref 76) := PySem.W.mg_of M.kin M.glob (by k_is)
theorem sq_CACHED_ACCESSES (w : World) (H : Hp) : SqT (hd05.heap_39 w.params) H 76 [.str "read", .str "write"] := sqT_k (by k_is) (.cons ⟨_, rfl⟩ (.cons ⟨_, rfl⟩ .nil)) (by decide)
theorem mg_DIRECT (M : Mod (hd05.heap_39 w.params) mg base) : mg "DIRECT" = some (.ref 77) := PySem.W.mg_of M.kin M.glob (by k_is)
theorem sq_DIRECT (w : World) (H : Hp) : SqT (hd05.heap_39 w.params) H 77 [.str "get", .str "put"] := sqT_k (by k_is) (.cons ⟨_, rfl⟩ (.cons ⟨_, rfl⟩ .nil)) (by decide)
theorem mg_UPKEEP (M : Mod (hd05.heap_39 w.params) mg base) : mg "UPKEEP" = some (.ref 78) := PySem.W.mg_of M.kin M.glob (by k_is)
theorem sq_UPKEEP (w : World) (H : Hp) : SqT (hd05.heap_39 w.params) H 78 [.str "clean", .str "drop", .str "flush"] := sqT_k (by k_is) (.cons ⟨_, rfl⟩ (.cons ⟨_, rfl⟩ (.cons ⟨_, rfl⟩ .nil))) (by decide)
theorem mg_SIGNALLING (M : Mod (hd05.heap_39 w.params) mg base) : mg "SIGNALLING" = some (.ref 79) := PySem.W.mg_of M.kin M.glob (by k_is)
theorem sq_SIGNALLING (w : World) (H : Hp) : SqT (hd05.heap_39 w.params) H 79 [.str "post", .str "wait"] := sqT_k (by k_is) (.cons ⟨_, rfl⟩ (.cons ⟨_, rfl⟩ .nil)) (by decide)
theorem mg_MOST_SHIFT (M : Mod (hd05.heap_39 w.params) mg base) : mg "MOST_SHIFT" = some (.int 3 291) := PySem.W.mg_of M.kin M.glob (by k_is)
theorem mg_LAST_BYTE (M : Mod (hd05.heap_39 w.params) mg base) : mg "LAST_BYTE" = some (.int 7 293) := PySem.W.mg_of M.kin M.glob (by k_is)
theorem mg_MOST_STEPS (M : Mod (hd05.heap_39 w.params) mg base) : mg "MOST_STEPS" = some (.int 24 320) := PySem.W.mg_of M.kin M.glob (by k_is)
theorem mn_len (M : Mod (hd05.heap_39 w.params) mg base) : mg "len" = none := PySem.W.mg_none_of M.kin M.glob (by k_is)
theorem mn_int (M : Mod (hd05.heap_39 w.params) mg base) : mg "int" = none := PySem.W.mg_none_of M.kin M.glob (by k_is)
theorem mn_abs (M : Mod (hd05.heap_39 w.params) mg base) : mg "abs" = none := PySem.W.mg_none_of M.kin M.glob (by k_is)
theorem mn_list (M : Mod (hd05.heap_39 w.params) mg base) : mg "list" = none := PySem.W.mg_none_of M.kin M.glob (by k_is)
theorem mn_tuple (M : Mod (hd05.heap_39 w.params) mg base) : mg "tuple" = none := PySem.W.mg_none_of M.kin M.glob (by k_is)
theorem mn_range (M : Mod (hd05.heap_39 w.params) mg base) : mg "range" = none := PySem.W.mg_none_of M.kin M.glob (by k_is)
theorem mn_isinstance (M : Mod (hd05.heap_39 w.params) mg base) : mg "isinstance" = none := PySem.W.mg_none_of M.kin M.glob (by k_is)
theorem mn_bool (M : Mod (hd05.heap_39 w.params) mg base) : mg "bool" = none := PySem.W.mg_none_of M.kin M.glob (by k_is)
theorem mn_all (M : Mod (hd05.heap_39 w.params) mg base) : mg "all" = none := PySem.W.mg_none_of M.kin M.glob (by k_is)
theorem mn_enumerate (M : Mod (hd05.heap_39 w.params) mg base) : mg "enumerate" = none := PySem.W.mg_none_of M.kin M.glob (by k_is)
theorem mn_str (M : Mod (hd05.heap_39 w.params) mg base) : mg "str" = none := PySem.W.mg_none_of M.kin M.glob (by k_is)
theorem mn_ValueError (M : Mod (hd05.heap_39 w.params) mg base) : mg "ValueError" = none := PySem.W.mg_none_of M.kin M.glob (by k_is)
theorem mn_super (M : Mod (hd05.heap_39 w.params) mg base) : mg "super" = none := PySem.W.mg_none_of M.kin M.glob (by k_is)
theorem mn_TypeError (M : Mod (hd05.heap_39 w.params) mg base) : mg "TypeError" = none := PySem.W.mg_none_of M.kin M.glob (by k_is)
theorem kt_169_209 (w : World) : PySem.W.kitOne (hd05.heap_39 w.params) (.ref 169) (.ref 209) = some false := by kit_is
theorem kt_209_247 (w : World) : PySem.W.kitOne (hd05.heap_39 w.params) (.ref 209) (.ref 247) = some false := by kit_is
theorem kt_247_209 (w : World) : PySem.W.kitOne (hd05.heap_39 w.params) (.ref 247) (.ref 209) = some true := by kit_is
theorem kt_247_169 (w : World) : PySem.W.kitOne (hd05.heap_39 w.params) (.ref 247) (.ref 169) = some true := by kit_is
theorem kt_209_169 (w : World) : PySem.W.kitOne (hd05.heap_39 w.params) (.ref 209) (.ref 169) = some true := by kit_is
theorem crd_Agent (w : World) : ClX.CRead (hd05.heap_39 w.params) 169 (.type "type") := ⟨by k_is, by k_is⟩
theorem crd_Through (w : World) : ClX.CRead (hd05.heap_39 w.params) 209 (.type "type") := ⟨by k_is, by k_is⟩
theorem crd_Back (w : World) : ClX.CRead (hd05.heap_39 w.params) 247 (.type "type") := ⟨by k_is, by k_is⟩
theorem cva_Agent_KIND (w : World) : ClX.CVal (hd05.heap_39 w.params) 169 (.type "type") "KIND" (.str "plain") (.str "plain" 334) := ⟨by k_is, ⟨_, rfl⟩⟩
theorem cva_Through_KIND (w : World) : ClX.CVal (hd05.heap_39 w.params) 209 (.type "type") "KIND" (.str "through") (.str "through" 439) := ⟨by k_is, ⟨_, rfl⟩⟩
theorem cva_Back_KIND (w : World) : ClX.CVal (hd05.heap_39 w.params) 247 (.type "type") "KIND" (.str "back") (.str "back" 497) := ⟨by k_is, ⟨_, rfl⟩⟩
theorem cva_Agent_CACHED (w : World) : ClX.CVal (hd05.heap_39 w.params) 169 (.type "type") "CACHED" (.bl false) (.bool false) := ⟨by k_is, rfl⟩
theorem cva_Through_CACHED (w : World) : ClX.CVal (hd05.heap_39 w.params) 209 (.type "type") "CACHED" (.bl true) (.bool true) := ⟨by k_is, rfl⟩
theorem cva_Back_CACHED (w : World) : ClX.CVal (hd05.heap_39 w.params) 247 (.type "type") "CACHED" (.bl true) (.bool true) := ⟨by k_is, rfl⟩
theorem con_Agent_KIND (w : World) : Con (hd05.heap_39 w.params) 169 "KIND" (.str "plain") (.str "plain" 334) := ⟨by k_is, ⟨_, rfl⟩, by k_is, by decide +kernel⟩
theorem con_Through_KIND (w : World) : Con (hd05.heap_39 w.params) 209 "KIND" (.str "through") (.str "through" 439) := ⟨by k_is, ⟨_, rfl⟩, by k_is, by decide +kernel⟩
theorem con_Back_KIND (w : World) : Con (hd05.heap_39 w.params) 247 "KIND" (.str "back") (.str "back" 497) := ⟨by k_is, ⟨_, rfl⟩, by k_is, by decide +kernel⟩
theorem con_Agent_CACHED (w : World) : Con (hd05.heap_39 w.params) 169 "CACHED" (.bl false) (.bool false) := ⟨by k_is, rfl, by k_is, by decide +kernel⟩
theorem con_Through_CACHED (w : World) : Con (hd05.heap_39 w.params) 209 "CACHED" (.bl true) (.bool true) := ⟨by k_is, rfl, by k_is, by decide +kernel⟩
theorem con_Back_CACHED (w : World) : Con (hd05.heap_39 w.params) 247 "CACHED" (.bl true) (.bool true) := ⟨by k_is, rfl, by k_is, by decide +kernel⟩
theorem supc_Through_may (w : World) (C : Addr) (h : C = 209 ∨ C = 247) : SupC (hd05.heap_39 w.params) C 209 "may" 159 := by
  rcases h with rfl | rfl
  · exact ⟨⟨_, by k_is⟩, by k_is, by ks_is, by k_is, by k_is⟩
  · exact ⟨⟨_, by k_is⟩, by k_is, by ks_is, by k_is, by k_is⟩
theorem supc_Back_may (w : World) : SupC (hd05.heap_39 w.params) 247 247 "may" 199 := ⟨⟨_, by k_is⟩, by k_is, by ks_is, by k_is, by k_is⟩
end
end M05

namespace M05
open PySem PySem.Spec PyProof.Rows L2 StX Uk
section
variable {mg : PySem.Str → Option Value} {base : Heap} {w : World}
theorem ok__law_draw (M : Mod (hd05.heap_39 w.params) mg base) : CallG PP w (hd05.heap_39 w.params) mg base 1 (.ref 263) (pos spDraw) := by
  obtain ⟨fd, F⟩ := fn__law_draw w
  refine def_pos F sc__law_draw (fun vs H Q E h => ?_) (fun _ _ _ _ _ _ us hl => match us, hl with | [_, _], _ => rfl) (fun cdv A outer s H vs Q E hr hg h => ?_)
  · obtain ⟨p, c, b, l, many, ns, rfl, _⟩ := h
    rfl
  obtain ⟨p, c, b, l, many, ns, rfl, hp, hc, hns, hb0, hb1, hm1, hm2, q⟩ := h
  have nd := sc__law_draw.nd
  -- the mixing
  obtain ⟨tm, PM, mix⟩ : ∃ tm : TS, PSs (cxOf (L2.CX PP w) PP w (hd05.heap_39 w.params) mg base ["pen", "many", "digit", "begun", "cell", "great", "mixed"] "_law_draw" (defScope s__law_draw) 263 cdv A outer s H E) ((defBody s__law_draw).drop 6) tm ∧
      ∀ (cell : Int) (H2 : Hp), Chg p (penO c (b + 1) l) H H2 → tm { nx := fun _ H' => Q .non H', rt := Q } [some (.ref p), some (.int many), none, some (.int b), some (.int cell), none, none] H2 := by
    refine ⟨_, (pss_cons (ps_set (i := 6) nd rfl (.inl rfl) (pe_op op_modN (pe_callTy call_int1 (by rfl) (mn_int M) (by decide +kernel) (pa_cons (pe_op op_pow (pe_op op_add (pe_op op_add (pe_op op_modN (pe_callTy call_int1 (by rfl) (mn_int M) (by decide +kernel) (pa_cons (pv 4) pa_nil)) pe_int) (pe_op op_mul pe_int (pv 3))) pe_int) pe_int) pa_nil)) pe_int))
      (pss_cons (ps_set (i := 6) nd rfl (.inl rfl) (pe_op op_modN (pe_callTy call_int1 (by rfl) (mn_int M) (by decide +kernel) (pa_cons (pe_op op_pow (pe_op op_add (pe_op op_add (pe_op op_mul (pv 6) (pe_op op_add (pe_op op_mul pe_int (pv 3)) pe_int)) (pe_op op_mul (pe_op op_mul pe_int (pv 3)) (pv 3))) pe_int) pe_int) pa_nil)) pe_int))
      (pss_one (ps_ret (pe_op op_modN (pe_op op_fdivN (pe_callTy call_int1 (by rfl) (mn_int M) (by decide +kernel) (pa_cons (pv 6) pa_nil)) pe_int) (pv 1)))))), fun cell H2 c2 => ?_⟩
    have hr1 := @fmod_range cell 2147483579 (by decide)
    refine ⟨_, rfl, .inl ⟨cell, rfl, ?_⟩⟩
    refine ⟨_, _, rfl, rfl, by show ¬ _ = _; decide, ?_⟩
    refine ⟨_, rfl, _, _, rfl, rfl, .inl ⟨by decide, by decide⟩, ?_⟩
    refine ⟨_, _, rfl, rfl, ?_⟩
    refine ⟨_, _, rfl, rfl, ?_⟩
    refine ⟨_, _, rfl, rfl, ⟨by decide, by decide, by omega⟩, .inl ⟨_, rfl, ?_⟩⟩
    refine ⟨_, _, rfl, rfl, by show ¬ _ = _; decide, ?_⟩
    obtain ⟨m1, e1, m10, m11⟩ := fmod_ex (C := 2147483647) (by decide) ((Int.fmod cell 2147483579 + 40813 * b + 41) ^ Int.toNat 5)
    simp only [e1]
    clear e1
    refine ⟨_, rfl, _, rfl, _, _, rfl, rfl, .inl ⟨by decide, by decide⟩, ?_⟩
    refine ⟨_, _, rfl, rfl, ?_⟩
    refine ⟨_, _, rfl, rfl, .inl ⟨by show _ < m1; omega, by show m1 < _; omega⟩, ?_⟩
    refine ⟨_, rfl, _, _, rfl, rfl, .inl ⟨by decide, by decide⟩, ?_⟩
    refine ⟨_, rfl, _, _, rfl, rfl, .inr ⟨by show _ < b; omega, by show b < _; omega⟩, ?_⟩
    refine ⟨_, _, rfl, rfl, ?_⟩
    refine ⟨_, _, rfl, rfl, ?_⟩
    refine ⟨_, _, rfl, rfl, ⟨by decide, by decide, ?_⟩, .inl ⟨_, rfl, ?_⟩⟩
    · have i1 : m1 * (2 * b + 37) ≤ 2147483649 * (2 * b + 37) := Int.mul_le_mul_of_nonneg_right (by omega) (by omega)
      have i2 : 0 ≤ m1 * (2 * b + 37) := Int.mul_nonneg m10 (by omega)
      have i3 : 70001 * b * b ≤ 70001 * b * 100000 := Int.mul_le_mul_of_nonneg_left hb1 (by omega)
      have i4 : 0 ≤ 70001 * b * b := Int.mul_nonneg (by omega) hb0
      omega
    refine ⟨_, _, rfl, rfl, by show ¬ _ = _; decide, ?_⟩
    refine ⟨_, rfl, .inl ⟨_, rfl, ?_⟩⟩
    refine ⟨_, _, rfl, rfl, ⟨by decide, by decide⟩, ?_⟩
    refine ⟨_, rfl, _, many, rfl, rfl, by show ¬ many = 0; omega, ?_⟩
    exact q _ (b + 1) _ _ (fmod_range (by omega)).1 (fmod_range (by omega)).2 (by omega) (by omega) c2
  -- what stands behind the cell
  obtain ⟨tr, PR, key⟩ : ∃ tr : TS, PSs (cxOf (L2.CX PP w) PP w (hd05.heap_39 w.params) mg base ["pen", "many", "digit", "begun", "cell", "great", "mixed"] "_law_draw" (defScope s__law_draw) 263 cdv A outer s H E) ((defBody s__law_draw).drop 5) tr ∧
      ∀ (cell : Int) (H2 : Hp), Chg p (penO c (b + 1) l) H H2 → H2 c = some (.lst (ns.map .int)) → tr { nx := fun _ H' => Q .non H', rt := Q } [some (.ref p), some (.int many), none, some (.int b), some (.int cell), none, none] H2 := by
    refine ⟨_, (pss_cons (ps_if (PW.pt (pw_and (pt_cmpR op_lt (pv 3) (pe_callB call_len_seq (by rfl) (mn_len M) (by decide +kernel) (pa_cons (pe_ix ix_list (pv 0) pe_int (fun _ _ => rfl)) pa_nil)) (nomark _)) (pw_and1 (pt_cmpR op_ge (pe_callB call_abs (by rfl) (mn_abs M) (by decide +kernel) (pa_cons (pv 4) pa_nil)) (pe_op op_pow pe_int pe_int) (nomark _))))) (pss_cons (ps_set (i := 5) nd rfl (.inl rfl) (pe_op op_add (pe_op op_mul pe_int (pe_op op_sub (pe_callB call_abs (by rfl) (mn_abs M) (by decide +kernel) (pa_cons (pv 4) pa_nil)) (pe_op op_pow pe_int pe_int))) (pe_callTy call_int1 (by rfl) (mn_int M) (by decide +kernel) (pa_cons (pe_cmpR op_lt (pv 4) pe_int (nomark _)) pa_nil))))
      (pss_cons (ps_asg (pe_op op_fdivN (pe_callTy call_int1 (by rfl) (mn_int M) (by decide +kernel) (pa_cons (pv 5) pa_nil)) (pv 1)) (pg_sub (pv 0) pe_int set_list))
      (pss_one (ps_ret (pe_op op_modN (pe_callTy call_int1 (by rfl) (mn_int M) (by decide +kernel) (pa_cons (pv 5) pa_nil)) (pv 1)))))) pss_nil) PM), fun cell H2 c2 h4 => ?_⟩
    have h3 := c2.at_
    refine ⟨_, rfl, .ref p, rfl, p, _, _, _, rfl, rfl, SqL.of h3, rfl, c, _, rfl, .inl (SqL.of h4), b, _, rfl, rfl, _, rfl, ?_⟩
    refine ite_b (fun hlt => ?_) (fun hlt => ?_)
    · refine ⟨_, rfl, cell, rfl, ?_⟩
      refine ⟨10, 18, rfl, rfl, ⟨by decide, by decide, by decide⟩, _, _, rfl, rfl, _, rfl, ?_⟩
      refine ite_b (fun hbig => ?_) (fun hbig => ?_)
      · refine ⟨_, rfl, cell, rfl, ?_⟩
        refine ⟨10, 18, rfl, rfl, ⟨by decide, by decide, by decide⟩, ?_⟩
        refine ⟨_, _, rfl, rfl, ?_⟩
        refine ⟨2, _, rfl, rfl, .inl ⟨by decide, by decide⟩, ?_⟩
        refine ⟨_, rfl, cell, 0, rfl, rfl, .inr ⟨_, rfl, ?_⟩⟩
        refine ⟨_, _, rfl, rfl, ?_⟩
        refine ⟨_, rfl, .inl ⟨_, rfl, ?_⟩⟩
        refine ⟨_, rfl, _, many, rfl, rfl, ⟨by omega, by omega⟩, ?_⟩
        refine ⟨.ref p, rfl, p, _, _, _, rfl, rfl, h3, rfl, ?_⟩
        refine ⟨_, rfl, .inl ⟨_, rfl, ?_⟩⟩
        refine ⟨_, rfl, _, many, rfl, rfl, by omega, ?_⟩
        exact q _ (b + 1) _ _ (fmod_range (by omega)).1 (fmod_range (by omega)).2 (by omega) (by omega) (c2.trans Chg.upd)
      · exact mix cell _ c2
    · exact mix cell _ c2
  refine ⟨_, (pss_cons (ps_if (pt_cmpR op_gt (pe_ix ix_list (pv 0) pe_int (fun _ _ => rfl)) pe_int (nomark _)) (pss_cons (ps_set (i := 2) nd rfl (.inl rfl) (pe_op op_modN (pe_callTy call_int1 (by rfl) (mn_int M) (by decide +kernel) (pa_cons (pe_ix ix_list (pv 0) pe_int (fun _ _ => rfl)) pa_nil)) (pv 1)))
      (pss_cons (ps_asg (pe_op op_fdivN (pe_callTy call_int1 (by rfl) (mn_int M) (by decide +kernel) (pa_cons (pe_ix ix_list (pv 0) pe_int (fun _ _ => rfl)) pa_nil)) (pv 1)) (pg_sub (pv 0) pe_int set_list))
      (pss_one (ps_ret (pv 2))))) pss_nil)
      (pss_cons (ps_set (i := 3) nd rfl (.inl rfl) (pe_ix ix_list (pv 0) pe_int (fun _ _ => rfl)))
      (pss_cons (ps_asg (pe_op op_add (pv 3) pe_int) (pg_sub (pv 0) pe_int set_list))
      (pss_cons (ps_set (i := 4) nd rfl (.inl rfl) (pe_op op_add (pe_op op_mul pe_int (pv 3)) pe_int))
      (pss_cons (ps_if (pt_cmpR (op_neD (hu_big hr)) (pe_ix ix_list (pv 0) pe_int (fun _ _ => rfl)) (pe_lst pa_nil) (nomark _)) (pss_one (ps_set (i := 4) nd rfl (.inl rfl) (pe_ix ix_list (pe_ix ix_list (pv 0) pe_int (fun _ _ => rfl)) (pe_op op_modN (pe_callTy call_int1 (by rfl) (mn_int M) (by decide +kernel) (pa_cons (pv 3) pa_nil)) (pe_callB call_len_seq (by rfl) (mn_len M) (by decide +kernel) (pa_cons (pe_ix ix_list (pv 0) pe_int (fun _ _ => rfl)) pa_nil))) (fun _ _ => rfl)))) pss_nil)
      PR))))), ?_⟩
  refine ⟨.ref p, rfl, p, _, _, _, rfl, rfl, SqL.of hp, atI_lit (by decide) rfl, l, 0, rfl, rfl, _, rfl, ?_⟩
  refine ite_b (fun hl => ?_) (fun hl => ?_)
  · refine ⟨.ref p, rfl, p, _, _, _, rfl, rfl, SqL.of hp, atI_lit (by decide) rfl, .inl ⟨l, rfl, ?_⟩⟩
    refine ⟨_, rfl, l, many, rfl, rfl, by omega, ?_⟩
    refine ⟨.ref p, rfl, p, _, _, _, rfl, rfl, SqL.of hp, atI_lit (by decide) rfl, .inl ⟨l, rfl, ?_⟩⟩
    refine ⟨_, rfl, l, many, rfl, rfl, ⟨by omega, by omega⟩, ?_⟩
    refine ⟨.ref p, rfl, p, _, _, _, rfl, rfl, hp, rfl, ?_⟩
    refine ⟨_, rfl, ?_⟩
    exact q _ b _ _ (fmod_range (by omega)).1 (fmod_range (by omega)).2 (by omega) (by omega) Chg.upd
  · refine ⟨.ref p, rfl, p, _, _, _, rfl, rfl, SqL.of hp, rfl, ?_⟩
    refine ⟨_, rfl, b, 1, rfl, rfl, .ref p, rfl, p, _, _, _, rfl, rfl, hp, rfl, ?_⟩
    generalize eH1 : upd H p (.lst ([V.ref c, V.int b, V.int l].set _ _)) = H1
    have c1 : Chg p (penO c (b + 1) l) H H1 := by rw [← eH1]; exact Chg.upd
    clear eH1
    have pc : c ≠ p := fun e => by
      rw [e, hp] at hc
      match ns, hc with
      | [], hc => cases hc
      | n :: r, hc => cases hc
    have h1 : H1 p = some (penO c (b + 1) l) := c1.at_
    have h2 : H1 c = some (.lst (ns.map .int)) := c1.ne _ _ pc hc
    refine ⟨_, rfl, 30059, b, rfl, rfl, .inl ⟨by decide, by decide⟩, _, _, rfl, rfl, ?_⟩
    refine ⟨.ref p, rfl, p, _, _, _, rfl, rfl, SqL.of h1, rfl, Nat.zero_le _, fun z hz => ?_⟩
    have sz := same_new (o := .lst []) hz
    refine ⟨.list (ns.map PyData.int), .list [], .lst (SqL.of (sz _ _ h2)) (dpAll_ints ns), .lst (SqL.of upd_same) .nil, Uk.shaped_ints ns, rfl, ?_⟩
    refine ⟨_, rfl, ?_⟩
    have c2 := c1.then sz
    have h3 := sz _ _ h1
    have h4 := sz _ _ h2
    generalize upd H1 z (.lst []) = H2 at *
    refine ite_b (fun hne => ?_) (fun hne => ?_)
    · have hl : 0 < ns.length := by
        cases ns with
        | nil => cases hne
        | cons n r => exact Nat.succ_pos _
      obtain ⟨cell, hcell⟩ : ∃ cell : Int, atI (ns.map V.int) (b.fmod (ns.length : Int)) = some (.int cell) := by
        have hr := fmod_range (i := b) (j := (ns.length : Int)) (by omega)
        have hi : (b.fmod (ns.length : Int)).toNat < ns.length := by omega
        refine ⟨ns[(b.fmod (ns.length : Int)).toNat], atI_lit hr.1 ?_⟩
        rw [List.getElem?_map, List.getElem?_eq_getElem hi]
        rfl
      refine ⟨.ref p, rfl, p, _, _, _, rfl, rfl, SqL.of h3, rfl, _, rfl, .inl ⟨b, rfl, ?_⟩⟩
      refine ⟨.ref p, rfl, p, _, _, _, rfl, rfl, SqL.of h3, rfl, c, _, rfl, .inl (SqL.of h4), _, _, rfl, rfl, ?_, ?_⟩
      · rw [List.length_map]; omega
      refine ⟨c, _, _, _, rfl, rfl, SqL.of h4, by rw [List.length_map]; exact hcell, ?_⟩
      exact key cell _ c2 h4
    · exact key _ _ c2 h4
theorem ok_drawP (M : Mod (hd05.heap_39 w.params) mg base) : CallG PP w (hd05.heap_39 w.params) mg base 1 (.ref 263) (pos spDrawP) := (ok__law_draw M).imp fun _ _ _ _ _ h => ⟨h.1, draw_P h.2⟩
end
end M05

namespace M05
open PySem PySem.Spec PyProof.Rows L2 StX Uk

local macro_rules | `(tactic| wtm_at "off0") => `(tactic| first | with_reducible assumption | (with_reducible apply Off.mk; wtm_at "pen"; assumption))
local macro_rules | `(tactic| wtm_at "at0") => `(tactic| first | with_reducible assumption | with_reducible exact upd_same | (with_reducible apply Off.at; wtm_at "off0"))
local macro_rules | `(tactic| wtm_at "off1") => `(tactic| first | with_reducible assumption | (with_reducible apply Off.mk; wtm_at "pen"; assumption) | (with_reducible refine Off.new (by assumption) _ _ ?_; wtm_at "off0") | (with_reducible refine at_same (by with_reducible assumption) ?_; wtm_at "off0"))
local macro_rules | `(tactic| wtm_at "at1") => `(tactic| first | with_reducible assumption | with_reducible exact upd_same | (with_reducible refine at_new (by assumption) ?_; wtm_at "at0") | (with_reducible refine at_same (by with_reducible assumption) ?_; wtm_at "at0") | (with_reducible apply Off.at; wtm_at "off1"))
local macro_rules | `(tactic| wtm_at "off2") => `(tactic| first | with_reducible assumption | (with_reducible apply Off.mk; wtm_at "pen"; assumption) | (with_reducible refine Off.new (by assumption) _ _ ?_; wtm_at "off1") | (with_reducible refine at_same (by with_reducible assumption) ?_; wtm_at "off1"))
local macro_rules | `(tactic| wtm_at "at2") => `(tactic| first | with_reducible assumption | with_reducible exact upd_same | (with_reducible refine at_new (by assumption) ?_; wtm_at "at1") | (with_reducible refine at_same (by with_reducible assumption) ?_; wtm_at "at1") | (with_reducible apply Off.at; wtm_at "off2"))
local macro_rules | `(tactic| wtm_at "off3") => `(tactic| first | with_reducible assumption | (with_reducible apply Off.mk; wtm_at "pen"; assumption) | (with_reducible refine Off.new (by assumption) _ _ ?_; wtm_at "off2") | (with_reducible refine at_same (by with_reducible assumption) ?_; wtm_at "off2"))
local macro_rules | `(tactic| wtm_at "at3") => `(tactic| first | with_reducible assumption | with_reducible exact upd_same | (with_reducible refine at_new (by assumption) ?_; wtm_at "at2") | (with_reducible refine at_same (by with_reducible assumption) ?_; wtm_at "at2") | (with_reducible apply Off.at; wtm_at "off3"))
local macro_rules | `(tactic| wtm_at "off4") => `(tactic| first | with_reducible assumption | (with_reducible apply Off.mk; wtm_at "pen"; assumption) | (with_reducible refine Off.new (by assumption) _ _ ?_; wtm_at "off3") | (with_reducible refine at_same (by with_reducible assumption) ?_; wtm_at "off3"))
local macro_rules | `(tactic| wtm_at "at4") => `(tactic| first | with_reducible assumption | with_reducible exact upd_same | (with_reducible refine at_new (by assumption) ?_; wtm_at "at3") | (with_reducible refine at_same (by with_reducible assumption) ?_; wtm_at "at3") | (with_reducible apply Off.at; wtm_at "off4"))
local macro_rules | `(tactic| wtm_at "off5") => `(tactic| first | with_reducible assumption | (with_reducible apply Off.mk; wtm_at "pen"; assumption) | (with_reducible refine Off.new (by assumption) _ _ ?_; wtm_at "off4") | (with_reducible refine at_same (by with_reducible assumption) ?_; wtm_at "off4"))
local macro_rules | `(tactic| wtm_at "at5") => `(tactic| first | with_reducible assumption | with_reducible exact upd_same | (with_reducible refine at_new (by assumption) ?_; wtm_at "at4") | (with_reducible refine at_same (by with_reducible assumption) ?_; wtm_at "at4") | (with_reducible apply Off.at; wtm_at "off5"))
local macro_rules | `(tactic| wtm_at "off6") => `(tactic| first | with_reducible assumption | (with_reducible apply Off.mk; wtm_at "pen"; assumption) | (with_reducible refine Off.new (by assumption) _ _ ?_; wtm_at "off5") | (with_reducible refine at_same (by with_reducible assumption) ?_; wtm_at "off5"))
local macro_rules | `(tactic| wtm_at "at6") => `(tactic| first | with_reducible assumption | with_reducible exact upd_same | (with_reducible refine at_new (by assumption) ?_; wtm_at "at5") | (with_reducible refine at_same (by with_reducible assumption) ?_; wtm_at "at5") | (with_reducible apply Off.at; wtm_at "off6"))
local macro_rules | `(tactic| wtm_at "off7") => `(tactic| first | with_reducible assumption | (with_reducible apply Off.mk; wtm_at "pen"; assumption) | (with_reducible refine Off.new (by assumption) _ _ ?_; wtm_at "off6") | (with_reducible refine at_same (by with_reducible assumption) ?_; wtm_at "off6"))
local macro_rules | `(tactic| wtm_at "at7") => `(tactic| first | with_reducible assumption | with_reducible exact upd_same | (with_reducible refine at_new (by assumption) ?_; wtm_at "at6") | (with_reducible refine at_same (by with_reducible assumption) ?_; wtm_at "at6") | (with_reducible apply Off.at; wtm_at "off7"))
local macro_rules | `(tactic| wtm_at "off8") => `(tactic| first | with_reducible assumption | (with_reducible apply Off.mk; wtm_at "pen"; assumption) | (with_reducible refine Off.new (by assumption) _ _ ?_; wtm_at "off7") | (with_reducible refine at_same (by with_reducible assumption) ?_; wtm_at "off7"))
local macro_rules | `(tactic| wtm_at "at8") => `(tactic| first | with_reducible assumption | with_reducible exact upd_same | (with_reducible refine at_new (by assumption) ?_; wtm_at "at7") | (with_reducible refine at_same (by with_reducible assumption) ?_; wtm_at "at7") | (with_reducible apply Off.at; wtm_at "off8"))
local macro_rules | `(tactic| wtm_at "off9") => `(tactic| first | with_reducible assumption | (with_reducible apply Off.mk; wtm_at "pen"; assumption) | (with_reducible refine Off.new (by assumption) _ _ ?_; wtm_at "off8") | (with_reducible refine at_same (by with_reducible assumption) ?_; wtm_at "off8"))
local macro_rules | `(tactic| wtm_at "at9") => `(tactic| first | with_reducible assumption | with_reducible exact upd_same | (with_reducible refine at_new (by assumption) ?_; wtm_at "at8") | (with_reducible refine at_same (by with_reducible assumption) ?_; wtm_at "at8") | (with_reducible apply Off.at; wtm_at "off9"))
local macro_rules | `(tactic| wtm_at "off10") => `(tactic| first | with_reducible assumption | (with_reducible apply Off.mk; wtm_at "pen"; assumption) | (with_reducible refine Off.new (by assumption) _ _ ?_; wtm_at "off9") | (with_reducible refine at_same (by with_reducible assumption) ?_; wtm_at "off9"))
local macro_rules | `(tactic| wtm_at "at10") => `(tactic| first | with_reducible assumption | with_reducible exact upd_same | (with_reducible refine at_new (by assumption) ?_; wtm_at "at9") | (with_reducible refine at_same (by with_reducible assumption) ?_; wtm_at "at9") | (with_reducible apply Off.at; wtm_at "off10"))
local macro_rules | `(tactic| wtm_at "off11") => `(tactic| first | with_reducible assumption | (with_reducible apply Off.mk; wtm_at "pen"; assumption) | (with_reducible refine Off.new (by assumption) _ _ ?_; wtm_at "off10") | (with_reducible refine at_same (by with_reducible assumption) ?_; wtm_at "off10"))
local macro_rules | `(tactic| wtm_at "at11") => `(tactic| first | with_reducible assumption | with_reducible exact upd_same | (with_reducible refine at_new (by assumption) ?_; wtm_at "at10") | (with_reducible refine at_same (by with_reducible assumption) ?_; wtm_at "at10") | (with_reducible apply Off.at; wtm_at "off11"))
local macro_rules | `(tactic| wtm_at "off12") => `(tactic| first | with_reducible assumption | (with_reducible apply Off.mk; wtm_at "pen"; assumption) | (with_reducible refine Off.new (by assumption) _ _ ?_; wtm_at "off11") | (with_reducible refine at_same (by with_reducible assumption) ?_; wtm_at "off11"))
local macro_rules | `(tactic| wtm_at "at12") => `(tactic| first | with_reducible assumption | with_reducible exact upd_same | (with_reducible refine at_new (by assumption) ?_; wtm_at "at11") | (with_reducible refine at_same (by with_reducible assumption) ?_; wtm_at "at11") | (with_reducible apply Off.at; wtm_at "off12"))
local macro_rules | `(tactic| wtm_at "off13") => `(tactic| first | with_reducible assumption | (with_reducible apply Off.mk; wtm_at "pen"; assumption) | (with_reducible refine Off.new (by assumption) _ _ ?_; wtm_at "off12") | (with_reducible refine at_same (by with_reducible assumption) ?_; wtm_at "off12"))
local macro_rules | `(tactic| wtm_at "at13") => `(tactic| first | with_reducible assumption | with_reducible exact upd_same | (with_reducible refine at_new (by assumption) ?_; wtm_at "at12") | (with_reducible refine at_same (by with_reducible assumption) ?_; wtm_at "at12") | (with_reducible apply Off.at; wtm_at "off13"))
local macro_rules | `(tactic| wtm_at "off14") => `(tactic| first | with_reducible assumption | (with_reducible apply Off.mk; wtm_at "pen"; assumption) | (with_reducible refine Off.new (by assumption) _ _ ?_; wtm_at "off13") | (with_reducible refine at_same (by with_reducible assumption) ?_; wtm_at "off13"))
local macro_rules | `(tactic| wtm_at "at14") => `(tactic| first | with_reducible assumption | with_reducible exact upd_same | (with_reducible refine at_new (by assumption) ?_; wtm_at "at13") | (with_reducible refine at_same (by with_reducible assumption) ?_; wtm_at "at13") | (with_reducible apply Off.at; wtm_at "off14"))
local macro_rules | `(tactic| wtm_at "off15") => `(tactic| first | with_reducible assumption | (with_reducible apply Off.mk; wtm_at "pen"; assumption) | (with_reducible refine Off.new (by assumption) _ _ ?_; wtm_at "off14") | (with_reducible refine at_same (by with_reducible assumption) ?_; wtm_at "off14"))
local macro_rules | `(tactic| wtm_at "at15") => `(tactic| first | with_reducible assumption | with_reducible exact upd_same | (with_reducible refine at_new (by assumption) ?_; wtm_at "at14") | (with_reducible refine at_same (by with_reducible assumption) ?_; wtm_at "at14") | (with_reducible apply Off.at; wtm_at "off15"))
local macro_rules | `(tactic| wtm_at "off16") => `(tactic| first | with_reducible assumption | (with_reducible apply Off.mk; wtm_at "pen"; assumption) | (with_reducible refine Off.new (by assumption) _ _ ?_; wtm_at "off15") | (with_reducible refine at_same (by with_reducible assumption) ?_; wtm_at "off15"))
local macro_rules | `(tactic| wtm_at "at16") => `(tactic| first | with_reducible assumption | with_reducible exact upd_same | (with_reducible refine at_new (by assumption) ?_; wtm_at "at15") | (with_reducible refine at_same (by with_reducible assumption) ?_; wtm_at "at15") | (with_reducible apply Off.at; wtm_at "off16"))
local macro_rules | `(tactic| wtm_at "off17") => `(tactic| first | with_reducible assumption | (with_reducible apply Off.mk; wtm_at "pen"; assumption) | (with_reducible refine Off.new (by assumption) _ _ ?_; wtm_at "off16") | (with_reducible refine at_same (by with_reducible assumption) ?_; wtm_at "off16"))
local macro_rules | `(tactic| wtm_at "at17") => `(tactic| first | with_reducible assumption | with_reducible exact upd_same | (with_reducible refine at_new (by assumption) ?_; wtm_at "at16") | (with_reducible refine at_same (by with_reducible assumption) ?_; wtm_at "at16") | (with_reducible apply Off.at; wtm_at "off17"))
local macro_rules | `(tactic| wtm_at "off18") => `(tactic| first | with_reducible assumption | (with_reducible apply Off.mk; wtm_at "pen"; assumption) | (with_reducible refine Off.new (by assumption) _ _ ?_; wtm_at "off17") | (with_reducible refine at_same (by with_reducible assumption) ?_; wtm_at "off17"))
local macro_rules | `(tactic| wtm_at "at18") => `(tactic| first | with_reducible assumption | with_reducible exact upd_same | (with_reducible refine at_new (by assumption) ?_; wtm_at "at17") | (with_reducible refine at_same (by with_reducible assumption) ?_; wtm_at "at17") | (with_reducible apply Off.at; wtm_at "off18"))
local macro_rules | `(tactic| wtm_at "off19") => `(tactic| first | with_reducible assumption | (with_reducible apply Off.mk; wtm_at "pen"; assumption) | (with_reducible refine Off.new (by assumption) _ _ ?_; wtm_at "off18") | (with_reducible refine at_same (by with_reducible assumption) ?_; wtm_at "off18"))
local macro_rules | `(tactic| wtm_at "at19") => `(tactic| first | with_reducible assumption | with_reducible exact upd_same | (with_reducible refine at_new (by assumption) ?_; wtm_at "at18") | (with_reducible refine at_same (by with_reducible assumption) ?_; wtm_at "at18") | (with_reducible apply Off.at; wtm_at "off19"))
local macro_rules | `(tactic| wtm_at "off20") => `(tactic| first | with_reducible assumption | (with_reducible apply Off.mk; wtm_at "pen"; assumption) | (with_reducible refine Off.new (by assumption) _ _ ?_; wtm_at "off19") | (with_reducible refine at_same (by with_reducible assumption) ?_; wtm_at "off19"))
local macro_rules | `(tactic| wtm_at "at20") => `(tactic| first | with_reducible assumption | with_reducible exact upd_same | (with_reducible refine at_new (by assumption) ?_; wtm_at "at19") | (with_reducible refine at_same (by with_reducible assumption) ?_; wtm_at "at19") | (with_reducible apply Off.at; wtm_at "off20"))
local macro_rules | `(tactic| wtm_at "off21") => `(tactic| first | with_reducible assumption | (with_reducible apply Off.mk; wtm_at "pen"; assumption) | (with_reducible refine Off.new (by assumption) _ _ ?_; wtm_at "off20") | (with_reducible refine at_same (by with_reducible assumption) ?_; wtm_at "off20"))
local macro_rules | `(tactic| wtm_at "at21") => `(tactic| first | with_reducible assumption | with_reducible exact upd_same | (with_reducible refine at_new (by assumption) ?_; wtm_at "at20") | (with_reducible refine at_same (by with_reducible assumption) ?_; wtm_at "at20") | (with_reducible apply Off.at; wtm_at "off21"))
local macro_rules | `(tactic| wtm_at "off22") => `(tactic| first | with_reducible assumption | (with_reducible apply Off.mk; wtm_at "pen"; assumption) | (with_reducible refine Off.new (by assumption) _ _ ?_; wtm_at "off21") | (with_reducible refine at_same (by with_reducible assumption) ?_; wtm_at "off21"))
local macro_rules | `(tactic| wtm_at "at22") => `(tactic| first | with_reducible assumption | with_reducible exact upd_same | (with_reducible refine at_new (by assumption) ?_; wtm_at "at21") | (with_reducible refine at_same (by with_reducible assumption) ?_; wtm_at "at21") | (with_reducible apply Off.at; wtm_at "off22"))
local macro_rules | `(tactic| wtm_at "off23") => `(tactic| first | with_reducible assumption | (with_reducible apply Off.mk; wtm_at "pen"; assumption) | (with_reducible refine Off.new (by assumption) _ _ ?_; wtm_at "off22") | (with_reducible refine at_same (by with_reducible assumption) ?_; wtm_at "off22"))
local macro_rules | `(tactic| wtm_at "at23") => `(tactic| first | with_reducible assumption | with_reducible exact upd_same | (with_reducible refine at_new (by assumption) ?_; wtm_at "at22") | (with_reducible refine at_same (by with_reducible assumption) ?_; wtm_at "at22") | (with_reducible apply Off.at; wtm_at "off23"))
local macro_rules | `(tactic| wtm_at "off24") => `(tactic| first | with_reducible assumption | (with_reducible apply Off.mk; wtm_at "pen"; assumption) | (with_reducible refine Off.new (by assumption) _ _ ?_; wtm_at "off23") | (with_reducible refine at_same (by with_reducible assumption) ?_; wtm_at "off23"))
local macro_rules | `(tactic| wtm_at "at24") => `(tactic| first | with_reducible assumption | with_reducible exact upd_same | (with_reducible refine at_new (by assumption) ?_; wtm_at "at23") | (with_reducible refine at_same (by with_reducible assumption) ?_; wtm_at "at23") | (with_reducible apply Off.at; wtm_at "off24"))
local macro_rules | `(tactic| wtm_at "off25") => `(tactic| first | with_reducible assumption | (with_reducible apply Off.mk; wtm_at "pen"; assumption) | (with_reducible refine Off.new (by assumption) _ _ ?_; wtm_at "off24") | (with_reducible refine at_same (by with_reducible assumption) ?_; wtm_at "off24"))
local macro_rules | `(tactic| wtm_at "at25") => `(tactic| first | with_reducible assumption | with_reducible exact upd_same | (with_reducible refine at_new (by assumption) ?_; wtm_at "at24") | (with_reducible refine at_same (by with_reducible assumption) ?_; wtm_at "at24") | (with_reducible apply Off.at; wtm_at "off25"))
local macro_rules | `(tactic| wtm_at "off26") => `(tactic| first | with_reducible assumption | (with_reducible apply Off.mk; wtm_at "pen"; assumption) | (with_reducible refine Off.new (by assumption) _ _ ?_; wtm_at "off25") | (with_reducible refine at_same (by with_reducible assumption) ?_; wtm_at "off25"))
local macro_rules | `(tactic| wtm_at "at26") => `(tactic| first | with_reducible assumption | with_reducible exact upd_same | (with_reducible refine at_new (by assumption) ?_; wtm_at "at25") | (with_reducible refine at_same (by with_reducible assumption) ?_; wtm_at "at25") | (with_reducible apply Off.at; wtm_at "off26"))
local macro_rules | `(tactic| wtm_at "off27") => `(tactic| first | with_reducible assumption | (with_reducible apply Off.mk; wtm_at "pen"; assumption) | (with_reducible refine Off.new (by assumption) _ _ ?_; wtm_at "off26") | (with_reducible refine at_same (by with_reducible assumption) ?_; wtm_at "off26"))
local macro_rules | `(tactic| wtm_at "at27") => `(tactic| first | with_reducible assumption | with_reducible exact upd_same | (with_reducible refine at_new (by assumption) ?_; wtm_at "at26") | (with_reducible refine at_same (by with_reducible assumption) ?_; wtm_at "at26") | (with_reducible apply Off.at; wtm_at "off27"))
local macro_rules | `(tactic| wtm_at "off28") => `(tactic| first | with_reducible assumption | (with_reducible apply Off.mk; wtm_at "pen"; assumption) | (with_reducible refine Off.new (by assumption) _ _ ?_; wtm_at "off27") | (with_reducible refine at_same (by with_reducible assumption) ?_; wtm_at "off27"))
local macro_rules | `(tactic| wtm_at "at28") => `(tactic| first | with_reducible assumption | with_reducible exact upd_same | (with_reducible refine at_new (by assumption) ?_; wtm_at "at27") | (with_reducible refine at_same (by with_reducible assumption) ?_; wtm_at "at27") | (with_reducible apply Off.at; wtm_at "off28"))
local macro_rules | `(tactic| wtm_at "off29") => `(tactic| first | with_reducible assumption | (with_reducible apply Off.mk; wtm_at "pen"; assumption) | (with_reducible refine Off.new (by assumption) _ _ ?_; wtm_at "off28") | (with_reducible refine at_same (by with_reducible assumption) ?_; wtm_at "off28"))
local macro_rules | `(tactic| wtm_at "at29") => `(tactic| first | with_reducible assumption | with_reducible exact upd_same | (with_reducible refine at_new (by assumption) ?_; wtm_at "at28") | (with_reducible refine at_same (by with_reducible assumption) ?_; wtm_at "at28") | (with_reducible apply Off.at; wtm_at "off29"))
local macro_rules | `(tactic| wtm_at "off30") => `(tactic| first | with_reducible assumption | (with_reducible apply Off.mk; wtm_at "pen"; assumption) | (with_reducible refine Off.new (by assumption) _ _ ?_; wtm_at "off29") | (with_reducible refine at_same (by with_reducible assumption) ?_; wtm_at "off29"))
local macro_rules | `(tactic| wtm_at "at30") => `(tactic| first | with_reducible assumption | with_reducible exact upd_same | (with_reducible refine at_new (by assumption) ?_; wtm_at "at29") | (with_reducible refine at_same (by with_reducible assumption) ?_; wtm_at "at29") | (with_reducible apply Off.at; wtm_at "off30"))
local macro_rules | `(tactic| wtm_at "off31") => `(tactic| first | with_reducible assumption | (with_reducible apply Off.mk; wtm_at "pen"; assumption) | (with_reducible refine Off.new (by assumption) _ _ ?_; wtm_at "off30") | (with_reducible refine at_same (by with_reducible assumption) ?_; wtm_at "off30"))
local macro_rules | `(tactic| wtm_at "at31") => `(tactic| first | with_reducible assumption | with_reducible exact upd_same | (with_reducible refine at_new (by assumption) ?_; wtm_at "at30") | (with_reducible refine at_same (by with_reducible assumption) ?_; wtm_at "at30") | (with_reducible apply Off.at; wtm_at "off31"))
local macro_rules | `(tactic| wtm_at "off32") => `(tactic| first | with_reducible assumption | (with_reducible apply Off.mk; wtm_at "pen"; assumption) | (with_reducible refine Off.new (by assumption) _ _ ?_; wtm_at "off31") | (with_reducible refine at_same (by with_reducible assumption) ?_; wtm_at "off31"))
local macro_rules | `(tactic| wtm_at "at32") => `(tactic| first | with_reducible assumption | with_reducible exact upd_same | (with_reducible refine at_new (by assumption) ?_; wtm_at "at31") | (with_reducible refine at_same (by with_reducible assumption) ?_; wtm_at "at31") | (with_reducible apply Off.at; wtm_at "off32"))
local macro_rules | `(tactic| wtm_at "off33") => `(tactic| first | with_reducible assumption | (with_reducible apply Off.mk; wtm_at "pen"; assumption) | (with_reducible refine Off.new (by assumption) _ _ ?_; wtm_at "off32") | (with_reducible refine at_same (by with_reducible assumption) ?_; wtm_at "off32"))
local macro_rules | `(tactic| wtm_at "at33") => `(tactic| first | with_reducible assumption | with_reducible exact upd_same | (with_reducible refine at_new (by assumption) ?_; wtm_at "at32") | (with_reducible refine at_same (by with_reducible assumption) ?_; wtm_at "at32") | (with_reducible apply Off.at; wtm_at "off33"))
local macro_rules | `(tactic| wtm_at "off34") => `(tactic| first | with_reducible assumption | (with_reducible apply Off.mk; wtm_at "pen"; assumption) | (with_reducible refine Off.new (by assumption) _ _ ?_; wtm_at "off33") | (with_reducible refine at_same (by with_reducible assumption) ?_; wtm_at "off33"))
local macro_rules | `(tactic| wtm_at "at34") => `(tactic| first | with_reducible assumption | with_reducible exact upd_same | (with_reducible refine at_new (by assumption) ?_; wtm_at "at33") | (with_reducible refine at_same (by with_reducible assumption) ?_; wtm_at "at33") | (with_reducible apply Off.at; wtm_at "off34"))
local macro_rules | `(tactic| wtm_at "off35") => `(tactic| first | with_reducible assumption | (with_reducible apply Off.mk; wtm_at "pen"; assumption) | (with_reducible refine Off.new (by assumption) _ _ ?_; wtm_at "off34") | (with_reducible refine at_same (by with_reducible assumption) ?_; wtm_at "off34"))
local macro_rules | `(tactic| wtm_at "at35") => `(tactic| first | with_reducible assumption | with_reducible exact upd_same | (with_reducible refine at_new (by assumption) ?_; wtm_at "at34") | (with_reducible refine at_same (by with_reducible assumption) ?_; wtm_at "at34") | (with_reducible apply Off.at; wtm_at "off35"))
local macro_rules | `(tactic| wtm_at "off36") => `(tactic| first | with_reducible assumption | (with_reducible apply Off.mk; wtm_at "pen"; assumption) | (with_reducible refine Off.new (by assumption) _ _ ?_; wtm_at "off35") | (with_reducible refine at_same (by with_reducible assumption) ?_; wtm_at "off35"))
local macro_rules | `(tactic| wtm_at "at36") => `(tactic| first | with_reducible assumption | with_reducible exact upd_same | (with_reducible refine at_new (by assumption) ?_; wtm_at "at35") | (with_reducible refine at_same (by with_reducible assumption) ?_; wtm_at "at35") | (with_reducible apply Off.at; wtm_at "off36"))
local macro_rules | `(tactic| wtm_at "off37") => `(tactic| first | with_reducible assumption | (with_reducible apply Off.mk; wtm_at "pen"; assumption) | (with_reducible refine Off.new (by assumption) _ _ ?_; wtm_at "off36") | (with_reducible refine at_same (by with_reducible assumption) ?_; wtm_at "off36"))
local macro_rules | `(tactic| wtm_at "at37") => `(tactic| first | with_reducible assumption | with_reducible exact upd_same | (with_reducible refine at_new (by assumption) ?_; wtm_at "at36") | (with_reducible refine at_same (by with_reducible assumption) ?_; wtm_at "at36") | (with_reducible apply Off.at; wtm_at "off37"))
local macro_rules | `(tactic| wtm_at "off38") => `(tactic| first | with_reducible assumption | (with_reducible apply Off.mk; wtm_at "pen"; assumption) | (with_reducible refine Off.new (by assumption) _ _ ?_; wtm_at "off37") | (with_reducible refine at_same (by with_reducible assumption) ?_; wtm_at "off37"))
local macro_rules | `(tactic| wtm_at "at38") => `(tactic| first | with_reducible assumption | with_reducible exact upd_same | (with_reducible refine at_new (by assumption) ?_; wtm_at "at37") | (with_reducible refine at_same (by with_reducible assumption) ?_; wtm_at "at37") | (with_reducible apply Off.at; wtm_at "off38"))
local macro_rules | `(tactic| wtm_at "off39") => `(tactic| first | with_reducible assumption | (with_reducible apply Off.mk; wtm_at "pen"; assumption) | (with_reducible refine Off.new (by assumption) _ _ ?_; wtm_at "off38") | (with_reducible refine at_same (by with_reducible assumption) ?_; wtm_at "off38"))
local macro_rules | `(tactic| wtm_at "at39") => `(tactic| first | with_reducible assumption | with_reducible exact upd_same | (with_reducible refine at_new (by assumption) ?_; wtm_at "at38") | (with_reducible refine at_same (by with_reducible assumption) ?_; wtm_at "at38") | (with_reducible apply Off.at; wtm_at "off39"))
local macro_rules | `(tactic| wtm_at "at") => `(tactic| wtm_at "at39")
local macro_rules | `(tactic| wtm_at "off") => `(tactic| wtm_at "off39")
local macro_rules | `(tactic| wtm_at "pen") => `(tactic| first
  | assumption | (refine Pen.new (by assumption) ?_; wtm_at "pen") | (refine Pen.same (by assumption) ?_; wtm_at "pen"))
local macro_rules | `(tactic| wtm_at "same") => `(tactic| first
  | exact fun _ _ h => h | assumption | exact same_new (by assumption) | (refine same_trans ?_ (same_new (by assumption)); wtm_at "same") | (refine same_trans ?_ (by assumption); wtm_at "same")
  | (refine same_trans ?_ (Off.new (by assumption)); wtm_at "same") | (refine same_trans ?_ (Off.same (by assumption)); wtm_at "same"))
local macro_rules | `(tactic| wtm_at "dps") => `(tactic| first
  | exact .nil | (apply DpAll.cons; wtm_at "dp"; wtm_at "dps") | exact dpAll_ints _)
local macro_rules | `(tactic| wtm_at "dp") => `(tactic| first
  | exact .non | exact .bl _ | exact .int _ | exact .str _ | (fail) | (apply Dp.lst; (apply SqL.of; wtm_at "at"); wtm_at "dps") | (apply Dp.tup; (apply SqT.of; wtm_at "at"); wtm_at "dps"))
local macro_rules | `(tactic| wtm_at "side") => `(tactic| first
  | exact ⟨by decide, by decide⟩ | exact ⟨by decide, by decide, by decide⟩ | exact .inl ⟨by decide, by decide⟩ | exact .inr ⟨by decide, by decide⟩ | (show ¬ _ = _; decide))
local macro_rules | `(tactic| wtm_at "sml") => `(tactic| first
  | exact sml_none (by decide) | exact sml_bool (by decide) | exact sml_int (by decide) (by omega) | (fail) | exact sml_list (n := 19) (k := 0) (by wtm_at "smls") (by decide) (by decide))
local macro_rules | `(tactic| wtm_at "smls") => `(tactic| first | exact smlAll_nil (m := 0) | (apply smlAll_cons; wtm_at "sml"; wtm_at "smls"))
local macro_rules | `(tactic| wtm_at "shw") => `(tactic| exact Sml.shw (n := 10000) (k := 50) (by wtm_at "sml") (by decide) (by decide))
local macro_rules | `(tactic| wtm_at "rd") => `(tactic| first
  | refine ⟨_, rfl, ?_⟩ | refine ⟨_, _, rfl, rfl, ?_⟩ | refine ifT rfl ?_ | refine ifF rfl ?_ | refine ⟨rfl, ?_⟩
  | refine ⟨_, _, rfl, ?_⟩
  | refine ⟨_, _, by rfl, by wtm_at "dp", by wtm_at "shw", ?_⟩
  | refine ⟨_, _, _, _, _, rfl, by wtm_at "at", by wtm_at "cls", by wtm_at "na", by rfl, ?_⟩
  | refine ⟨_, _, rfl, rfl, by wtm_at "side", ?_⟩
  | refine ⟨_, _, by wtm_at "dp", by wtm_at "dp", by rfl, by rfl, ?_⟩
  | refine ⟨_, _, [_, _], [_, _], rfl, rfl, sqI2 (by wtm_at "at"), sqI2 (by wtm_at "at"), ?_⟩
  | refine ⟨Nat.le_of_ble_eq_true rfl, fun _ _ => ?_⟩
  | refine ifF (nd_refl _) ?_ | refine ifT (de_refl _) ?_)

def lettersOk (x : Str) : Bool := x.cps.toList.all fun c => decide (97 ≤ c ∧ c ≤ 122)
def nameOk (x : Str) : Bool := decide (1 ≤ x.length ∧ x.length ≤ 8) && lettersOk x
def NoStr (K : PySem.W.Frag) (H : Hp) (v : V) : Prop := ∃ t, TyX K H v t ∧ PySem.W.kitOne K t (.type "str") = some false
def spName (K : PySem.W.Frag) : Sp := fun vs H Q _ => ∃ v, vs = [v] ∧ ((∃ x, v = .str x ∧ x.length ≤ 1000 ∧ ∀ H', Same H H' → Q (.bl (nameOk x)) H') ∨ (NoStr K H v ∧ Q (.bl false) H))
def spWord (K : PySem.W.Frag) : Sp := fun vs H Q _ => ∃ (v : V) (p : Addr) (ws : List Str), vs = [v, .ref p] ∧ SqT K H p (ws.map V.str) ∧ ((∃ x, v = .str x ∧ Q (.bl (decide (x ∈ ws))) H) ∨ (NoStr K H v ∧ Q (.bl false) H))
abbrev wordsA : List Str := ["read", "write", "post", "wait"]
abbrev wordsT : List Str := wordsA ++ (["get", "put", "clean", "drop", "flush"] : List Str)
def spMay (K : PySem.W.Frag) (D : Addr → Prop) (ws : List Str) : Sp := fun vs H Q _ => ∃ (a C dx : Addr) (fs : List (Str × V)) (v : V), vs = [.ref a, v] ∧ H a = some (.ins C dx fs) ∧ D C ∧ ((∃ x, v = .str x ∧ ∀ H', Same H H' → Q (.bl (decide (x ∈ ws))) H') ∨ (NoStr K H v ∧ ∀ H', Same H H' → Q (.bl false) H'))
theorem NoStr.same {K : PySem.W.Frag} {H H' : Hp} {v : V} (s : Same H H') (h : NoStr K H v) : NoStr K H' v := ⟨h.choose, Uk.TyX.same s h.choose_spec.1, h.choose_spec.2⟩
theorem flat_strs (ws : List Str) : (ws.map V.str).all flatV = true := by
  rw [List.all_map]
  exact List.all_eq_true.mpr fun _ _ => rfl
theorem letter_in (c : Nat) : decide (c ∈ (("abcdefghijklmnopqrstuvwxyz" : Str)).cps.toList) = decide (97 ≤ c ∧ c ≤ 122) := by
  have e : (("abcdefghijklmnopqrstuvwxyz" : Str)).cps.toList = [97,98,99,100,101,102,103,104,105,106,107,108,109,110,111,112,113,114,115,116,117,118,119,120,121,122] := by decide +kernel
  rw [e]
  apply decide_eq_decide.mpr
  simp only [List.mem_cons, List.not_mem_nil, or_false]
  omega
section
variable {mg : PySem.Str → Option Value} {base : Heap} {w : World}
theorem ok_is_name (M : Mod (hd05.heap_39 w.params) mg base) : CallG PP w (hd05.heap_39 w.params) mg base 1 (.ref 74) (pos (spName (hd05.heap_39 w.params))) := by
  obtain ⟨fd, F⟩ := fn_is_name w
  refine def_pos F sc_is_name (fun vs H Q E h => ?_) (fun _ _ _ _ _ _ us hl => match us, hl with | [_], _ => rfl) (fun cdv A outer s H vs Q E hr hg h => ?_)
  · obtain ⟨v, rfl, _⟩ := h; rfl
  have nd := sc_is_name.nd
  obtain ⟨v, rfl, h⟩ := h
  refine ⟨_, (pss_cons (ps_if (PW.pt (pw_or (pt_not (pt_val (pe_callB call_isi (by rfl) (mn_isinstance M) (by decide +kernel) (pa_cons (pv 0) (pa_cons (pe_bltn (v := .ty "str") (by rfl) (mn_str M) (by decide +kernel) rfl) pa_nil))))) (pw_or1 (pt_not (pt_chain op_le op_le pe_int (pe_callB call_len_str (by rfl) (mn_len M) (by decide +kernel) (pa_cons (pv 0) pa_nil)) (pe_glob (v := .int 8) rfl (mg_LONGEST M) ⟨_, rfl⟩)))))) (pss_one (ps_ret pe_bl)) pss_nil)
      (pss_one (ps_ret (pe_callB (cr_all rfl) (by rfl) (mn_all M) (by decide +kernel) (pa_cons (pe_lc (own := [("letter", 1)]) (g := gName 1) (by rfl) nd (pi_str (pv 0)) (blkOk_by (own := [("letter", 1)]) (N := ["value", "letter"]) (sc := defScope s_is_name) (by decide +kernel)) (fun _ _ _ _ _ => pg_name (i := 1) nd rfl (Or.inl rfl)) (fun _ _ _ _ _ => pts_nil) (fun _ _ _ _ _ => (pe_cmpR op_in_sign (pv 1) (pe_glob (v := .str _) rfl (mg_LETTERS M) ⟨_, rfl⟩) (by rfl)))) pa_nil))))), ?_⟩
  rcases h with ⟨x, rfl, hx, q⟩ | ⟨⟨t, ty, e⟩, q⟩
  · refine ⟨_, rfl, _, _, _, _, _, rfl, .ty "str", .base (.str x), kit_ty (r := true) (by decide +kernel), ?_⟩
    repeat wtm_at "rd"
    refine ⟨Nat.le_trans hx (by decide), 1, _, rfl, rfl, _, rfl, ?_⟩
    have bad : ¬ (1 ≤ x.length ∧ x.length ≤ 8) → nameOk x = false := fun h => by unfold nameOk; rw [decide_eq_false h, Bool.false_and]
    refine ite_b (fun h1 => ?_) (fun h1 => ?_)
    · have h1 := of_decide_eq_true h1
      refine ⟨_, _, rfl, rfl, _, rfl, ?_⟩
      by_cases h8 : (x.length : Int) ≤ 8
      · rw [decide_eq_true h8]
        wtm_at "rd"
        refine ⟨_, rfl, fun D hD => ?_⟩
        have sD := same_new (o := .lst []) hD
        refine lc_it walk_str (fun i H' => Same H H' ∧ H' D = some (.lst ((x.cps.toList.take i).map fun c => .bl (decide (97 ≤ c ∧ c ≤ 122))))) ⟨sD, upd_same⟩ (fun _ _ _ _ => trivial) (fun i v H1 H2 hi p y => ?_) (fun H' p => ?_)
        · obtain ⟨rfl, c, hc, rfl⟩ := y
          obtain ⟨sm, e⟩ := p
          refine ⟨rfl, ?_⟩
          wtm_at "rd"
          refine ⟨c, _, rfl, rfl, _, e, ?_, ?_, ?_⟩
          · rw [List.length_map, List.length_take]
            exact Nat.lt_of_le_of_lt (Nat.le_trans (Nat.min_le_right _ _) (Nat.le_trans (Nat.le_of_eq rfl) hx)) (by decide)
          · exact fun a u h => by
              by_cases ea : a = D
              · rw [ea, hD] at h; cases h
              · rw [upd_ne ea]; exact sm a u h
          · rw [upd_same, letter_in]
            have hc' : x.cps.toList[i]? = some c := by rw [Array.getElem?_toList]; exact hc
            rw [List.take_add_one, hc', List.map_append]
            rfl
        · obtain ⟨sm, e⟩ := p
          refine ⟨D, x.cps.toList.map fun c => decide (97 ≤ c ∧ c ≤ 122), rfl, ?_, ?_⟩
          · rw [List.map_map]
            refine SqL.of (e.trans ?_)
            rw [List.take_of_length_le (by rw [Array.length_toList]; exact Nat.le_refl _)]
            rfl
          · have : nameOk x = ((x.cps.toList.map fun c => decide (97 ≤ c ∧ c ≤ 122)).all id) := by
              unfold nameOk lettersOk
              rw [decide_eq_true (by omega), Bool.true_and, List.all_map]
              rfl
            rw [← this]
            exact q _ sm
      · rw [decide_eq_false h8]
        repeat wtm_at "rd"
        have := q H Same.rfl
        rw [bad (by omega)] at this
        exact this
    · have h1 := of_decide_eq_false h1
      repeat wtm_at "rd"
      have := q H Same.rfl
      rw [bad (by omega)] at this
      exact this
  · refine ⟨_, rfl, _, _, _, _, _, rfl, .ty "str", ty, e, ?_⟩
    repeat wtm_at "rd"
    exact q
theorem ok_is_word (M : Mod (hd05.heap_39 w.params) mg base) : CallG PP w (hd05.heap_39 w.params) mg base 1 (.ref 86) (pos (spWord (hd05.heap_39 w.params))) := by
  obtain ⟨fd, F⟩ := fn_is_word w
  refine def_pos F sc_is_word (fun vs H Q E h => ?_) (fun _ _ _ _ _ _ us hl => match us, hl with | [_, _], _ => rfl) (fun cdv A outer s H vs Q E hr hg h => ?_)
  · obtain ⟨v, p, ws, rfl, _⟩ := h; rfl
  have nd := sc_is_word.nd
  obtain ⟨v, p, ws, rfl, hp, h⟩ := h
  refine ⟨_, (pss_one (ps_ret (pe_and (pe_callB call_isi (by rfl) (mn_isinstance M) (by decide +kernel) (pa_cons (pv 0) (pa_cons (pe_bltn (v := .ty "str") (by rfl) (mn_str M) (by decide +kernel) rfl) pa_nil))) (pe_one (pe_cmpR op_in_seq (pv 0) (pv 1) (by rfl)))))), ?_⟩
  rcases h with ⟨x, rfl, q⟩ | ⟨⟨t, ty, e⟩, q⟩
  · refine ⟨_, rfl, _, _, _, _, _, rfl, .ty "str", .base (.str x), kit_ty (r := true) (by decide +kernel), ?_⟩
    repeat wtm_at "rd"
    refine ⟨p, _, rfl, .inr hp, rfl, flat_strs ws, ?_⟩
    rw [← inV_strs] at q
    exact q
  · refine ⟨_, rfl, _, _, _, _, _, rfl, .ty "str", ty, e, ?_⟩
    repeat wtm_at "rd"
    exact q
theorem ok_Agent_may (M : Mod (hd05.heap_39 w.params) mg base) : CallG PP w (hd05.heap_39 w.params) mg base 2 (.ref 159) (pos (spMay (hd05.heap_39 w.params) (fun _ => True) wordsA)) := by
  obtain ⟨fd, F⟩ := fn_Agent_may w
  refine def_pos F sc_Agent_may (fun vs H Q E h => ?_) (fun _ _ _ _ _ _ us hl => match us, hl with | [_, _], _ => rfl) (fun cdv A outer s H vs Q E hr hg h => ?_)
  · obtain ⟨a, C, dx, fs, v, rfl, _⟩ := h; rfl
  have nd := sc_Agent_may.nd
  obtain ⟨a, C, dx, fs, v, rfl, ha, _, h⟩ := h
  refine ⟨_, (pss_one (ps_ret (pe_cl (takes_of rfl rfl rfl rfl) (ok_is_word M) (hr.mono (by decide)) hg rfl (mg_is_word M) (kp_is_word w) (pa_cons (pv 1) (pa_cons (pe_op op_catT (pe_glob (v := .ref 76) rfl (mg_CACHED_ACCESSES M) rfl) (pe_glob (v := .ref 79) rfl (mg_SIGNALLING M) rfl)) pa_nil))))), ?_⟩
  wtm_at "rd"
  refine ⟨76, 79, _, _, rfl, rfl, sq_CACHED_ACCESSES w _, sq_SIGNALLING w _, by simp, by decide, (fun e => nomatch e), fun _ p hp => ?_⟩
  have hs := same_new (o := .tup ([V.str "read", V.str "write"] ++ [V.str "post", V.str "wait"])) hp
  refine ⟨rfl, v, p, wordsA, rfl, SqT.of upd_same, ?_⟩
  rcases h with ⟨x, rfl, q⟩ | ⟨ns, q⟩
  · exact .inl ⟨x, rfl, q _ hs⟩
  · exact .inr ⟨ns.same hs, q _ hs⟩
theorem ok_Through_may (M : Mod (hd05.heap_39 w.params) mg base) : CallG PP w (hd05.heap_39 w.params) mg base 4 (.ref 199) (pos (spMay (hd05.heap_39 w.params) (fun C => C = 209 ∨ C = 247) wordsT)) := by
  refine def_S (fn_Through_may w) sc_Through_may (fun vs H Q E h => ?_) (fun _ _ _ _ _ us hl => match us, hl with | [_, _], _ => rfl) (fun A outer s H vs Q E hr hg h => ?_)
  · obtain ⟨a, C, dx, fs, v, rfl, _⟩ := h; rfl
  have nd := sc_Through_may.nd
  obtain ⟨a, C, dx, fs, v, rfl, ha, hC, h⟩ := h
  refine ⟨_, psst_ret (pet_or (pet_super (takes_of rfl rfl rfl rfl) (fn_Through_may w) sc_Through_may (sup_Through_may w) (ok_Agent_may M) (hr.mono (by decide)) hg rfl rfl rfl rfl rfl (by decide) (pa_cons (pv 1) pa_nil)) (pe_one (pe_cl (takes_of rfl rfl rfl rfl) (ok_is_word M) (hr.mono (by decide)) hg rfl (mg_is_word M) (kp_is_word w) (pa_cons (pv 1) (pa_cons (pe_op op_catT (pe_glob (v := .ref 77) rfl (mg_DIRECT M) rfl) (pe_glob (v := .ref 78) rfl (mg_UPKEEP M) rfl)) pa_nil))))), ?_⟩
  refine ⟨a, C, dx, fs, rfl, ha, supc_Through_may w C hC, ?_⟩
  wtm_at "rd"
  refine ⟨rfl, a, C, dx, fs, v, rfl, ha, trivial, ?_⟩
  rcases h with ⟨x, rfl, q⟩ | ⟨ns, q⟩
  · refine .inl ⟨x, rfl, fun H1 s1 => ⟨_, rfl, ite_b (fun e => ?_) (fun e => ?_)⟩⟩
    · have := q H1 s1
      have e' := of_decide_eq_true e
      rw [decide_eq_true (List.mem_append_left _ e')] at this
      exact this
    · have e' := of_decide_eq_false e
      wtm_at "rd"
      refine ⟨77, 78, _, _, rfl, rfl, sq_DIRECT w _, sq_UPKEEP w _, by simp, by decide, (fun e => nomatch e), fun _ p hp => ?_⟩
      have hs := same_new (o := .tup ([V.str "get", V.str "put"] ++ [V.str "clean", V.str "drop", V.str "flush"])) hp
      refine ⟨rfl, .str x, p, ["get", "put", "clean", "drop", "flush"], rfl, SqT.of upd_same, .inl ⟨x, rfl, ?_⟩⟩
      have := q _ (same_trans s1 hs)
      have e2 : decide (x ∈ wordsT) = decide (x ∈ (["get", "put", "clean", "drop", "flush"] : List Str)) := by
        apply decide_eq_decide.mpr
        exact ⟨fun h => (List.mem_append.mp h).resolve_left e', fun h => List.mem_append_right _ h⟩
      rw [e2] at this
      exact this
  · refine .inr ⟨ns, fun H1 s1 => ⟨_, rfl, ifF rfl ?_⟩⟩
    wtm_at "rd"
    refine ⟨77, 78, _, _, rfl, rfl, sq_DIRECT w _, sq_UPKEEP w _, by simp, by decide, (fun e => nomatch e), fun _ p hp => ?_⟩
    have hs := same_new (o := .tup ([V.str "get", V.str "put"] ++ [V.str "clean", V.str "drop", V.str "flush"])) hp
    exact ⟨rfl, v, p, ["get", "put", "clean", "drop", "flush"], rfl, SqT.of upd_same, .inr ⟨(ns.same s1).same hs, q _ (same_trans s1 hs)⟩⟩
theorem ok_Back_may (M : Mod (hd05.heap_39 w.params) mg base) : CallG PP w (hd05.heap_39 w.params) mg base 6 (.ref 237) (pos (spMay (hd05.heap_39 w.params) (fun C => C = 247) wordsT)) := by
  refine def_S (fn_Back_may w) sc_Back_may (fun vs H Q E h => ?_) (fun _ _ _ _ _ us hl => match us, hl with | [_, _], _ => rfl) (fun A outer s H vs Q E hr hg h => ?_)
  · obtain ⟨a, C, dx, fs, v, rfl, _⟩ := h; rfl
  have nd := sc_Back_may.nd
  obtain ⟨a, C, dx, fs, v, rfl, ha, rfl, h⟩ := h
  refine ⟨_, psst_ret (pet_super (takes_of rfl rfl rfl rfl) (fn_Back_may w) sc_Back_may (sup_Back_may w) (ok_Through_may M) (hr.mono (by decide)) hg rfl rfl rfl rfl rfl (by decide) (pa_cons (pv 1) pa_nil)), ?_⟩
  refine ⟨a, 247, dx, fs, rfl, ha, supc_Back_may w, ?_⟩
  wtm_at "rd"
  exact ⟨rfl, a, 247, dx, fs, v, rfl, ha, .inr rfl, h⟩
end
end M05

namespace M05
open PySem PySem.Spec PyProof.Rows L2 StX Uk

local macro_rules | `(tactic| wtm_at "off0") => `(tactic| first | with_reducible assumption | (with_reducible apply Off.mk; wtm_at "pen"; assumption))
local macro_rules | `(tactic| wtm_at "at0") => `(tactic| first | with_reducible assumption | with_reducible exact upd_same | (with_reducible apply Off.at; wtm_at "off0"))
local macro_rules | `(tactic| wtm_at "off1") => `(tactic| first | with_reducible assumption | (with_reducible apply Off.mk; wtm_at "pen"; assumption) | (with_reducible refine Off.new (by assumption) _ _ ?_; wtm_at "off0") | (with_reducible refine at_same (by with_reducible assumption) ?_; wtm_at "off0"))
local macro_rules | `(tactic| wtm_at "at1") => `(tactic| first | with_reducible assumption | with_reducible exact upd_same | (with_reducible refine at_new (by assumption) ?_; wtm_at "at0") | (with_reducible refine at_same (by with_reducible assumption) ?_; wtm_at "at0") | (with_reducible apply Off.at; wtm_at "off1"))
local macro_rules | `(tactic| wtm_at "off2") => `(tactic| first | with_reducible assumption | (with_reducible apply Off.mk; wtm_at "pen"; assumption) | (with_reducible refine Off.new (by assumption) _ _ ?_; wtm_at "off1") | (with_reducible refine at_same (by with_reducible assumption) ?_; wtm_at "off1"))
local macro_rules | `(tactic| wtm_at "at2") => `(tactic| first | with_reducible assumption | with_reducible exact upd_same | (with_reducible refine at_new (by assumption) ?_; wtm_at "at1") | (with_reducible refine at_same (by with_reducible assumption) ?_; wtm_at "at1") | (with_reducible apply Off.at; wtm_at "off2"))
local macro_rules | `(tactic| wtm_at "off3") => `(tactic| first | with_reducible assumption | (with_reducible apply Off.mk; wtm_at "pen"; assumption) | (with_reducible refine Off.new (by assumption) _ _ ?_; wtm_at "off2") | (with_reducible refine at_same (by with_reducible assumption) ?_; wtm_at "off2"))
local macro_rules | `(tactic| wtm_at "at3") => `(tactic| first | with_reducible assumption | with_reducible exact upd_same | (with_reducible refine at_new (by assumption) ?_; wtm_at "at2") | (with_reducible refine at_same (by with_reducible assumption) ?_; wtm_at "at2") | (with_reducible apply Off.at; wtm_at "off3"))
local macro_rules | `(tactic| wtm_at "off4") => `(tactic| first | with_reducible assumption | (with_reducible apply Off.mk; wtm_at "pen"; assumption) | (with_reducible refine Off.new (by assumption) _ _ ?_; wtm_at "off3") | (with_reducible refine at_same (by with_reducible assumption) ?_; wtm_at "off3"))
local macro_rules | `(tactic| wtm_at "at4") => `(tactic| first | with_reducible assumption | with_reducible exact upd_same | (with_reducible refine at_new (by assumption) ?_; wtm_at "at3") | (with_reducible refine at_same (by with_reducible assumption) ?_; wtm_at "at3") | (with_reducible apply Off.at; wtm_at "off4"))
local macro_rules | `(tactic| wtm_at "off5") => `(tactic| first | with_reducible assumption | (with_reducible apply Off.mk; wtm_at "pen"; assumption) | (with_reducible refine Off.new (by assumption) _ _ ?_; wtm_at "off4") | (with_reducible refine at_same (by with_reducible assumption) ?_; wtm_at "off4"))
local macro_rules | `(tactic| wtm_at "at5") => `(tactic| first | with_reducible assumption | with_reducible exact upd_same | (with_reducible refine at_new (by assumption) ?_; wtm_at "at4") | (with_reducible refine at_same (by with_reducible assumption) ?_; wtm_at "at4") | (with_reducible apply Off.at; wtm_at "off5"))
local macro_rules | `(tactic| wtm_at "off6") => `(tactic| first | with_reducible assumption | (with_reducible apply Off.mk; wtm_at "pen"; assumption) | (with_reducible refine Off.new (by assumption) _ _ ?_; wtm_at "off5") | (with_reducible refine at_same (by with_reducible assumption) ?_; wtm_at "off5"))
local macro_rules | `(tactic| wtm_at "at6") => `(tactic| first | with_reducible assumption | with_reducible exact upd_same | (with_reducible refine at_new (by assumption) ?_; wtm_at "at5") | (with_reducible refine at_same (by with_reducible assumption) ?_; wtm_at "at5") | (with_reducible apply Off.at; wtm_at "off6"))
local macro_rules | `(tactic| wtm_at "off7") => `(tactic| first | with_reducible assumption | (with_reducible apply Off.mk; wtm_at "pen"; assumption) | (with_reducible refine Off.new (by assumption) _ _ ?_; wtm_at "off6") | (with_reducible refine at_same (by with_reducible assumption) ?_; wtm_at "off6"))
local macro_rules | `(tactic| wtm_at "at7") => `(tactic| first | with_reducible assumption | with_reducible exact upd_same | (with_reducible refine at_new (by assumption) ?_; wtm_at "at6") | (with_reducible refine at_same (by with_reducible assumption) ?_; wtm_at "at6") | (with_reducible apply Off.at; wtm_at "off7"))
local macro_rules | `(tactic| wtm_at "off8") => `(tactic| first | with_reducible assumption | (with_reducible apply Off.mk; wtm_at "pen"; assumption) | (with_reducible refine Off.new (by assumption) _ _ ?_; wtm_at "off7") | (with_reducible refine at_same (by with_reducible assumption) ?_; wtm_at "off7"))
local macro_rules | `(tactic| wtm_at "at8") => `(tactic| first | with_reducible assumption | with_reducible exact upd_same | (with_reducible refine at_new (by assumption) ?_; wtm_at "at7") | (with_reducible refine at_same (by with_reducible assumption) ?_; wtm_at "at7") | (with_reducible apply Off.at; wtm_at "off8"))
local macro_rules | `(tactic| wtm_at "off9") => `(tactic| first | with_reducible assumption | (with_reducible apply Off.mk; wtm_at "pen"; assumption) | (with_reducible refine Off.new (by assumption) _ _ ?_; wtm_at "off8") | (with_reducible refine at_same (by with_reducible assumption) ?_; wtm_at "off8"))
local macro_rules | `(tactic| wtm_at "at9") => `(tactic| first | with_reducible assumption | with_reducible exact upd_same | (with_reducible refine at_new (by assumption) ?_; wtm_at "at8") | (with_reducible refine at_same (by with_reducible assumption) ?_; wtm_at "at8") | (with_reducible apply Off.at; wtm_at "off9"))
local macro_rules | `(tactic| wtm_at "off10") => `(tactic| first | with_reducible assumption | (with_reducible apply Off.mk; wtm_at "pen"; assumption) | (with_reducible refine Off.new (by assumption) _ _ ?_; wtm_at "off9") | (with_reducible refine at_same (by with_reducible assumption) ?_; wtm_at "off9"))
local macro_rules | `(tactic| wtm_at "at10") => `(tactic| first | with_reducible assumption | with_reducible exact upd_same | (with_reducible refine at_new (by assumption) ?_; wtm_at "at9") | (with_reducible refine at_same (by with_reducible assumption) ?_; wtm_at "at9") | (with_reducible apply Off.at; wtm_at "off10"))
local macro_rules | `(tactic| wtm_at "off11") => `(tactic| first | with_reducible assumption | (with_reducible apply Off.mk; wtm_at "pen"; assumption) | (with_reducible refine Off.new (by assumption) _ _ ?_; wtm_at "off10") | (with_reducible refine at_same (by with_reducible assumption) ?_; wtm_at "off10"))
local macro_rules | `(tactic| wtm_at "at11") => `(tactic| first | with_reducible assumption | with_reducible exact upd_same | (with_reducible refine at_new (by assumption) ?_; wtm_at "at10") | (with_reducible refine at_same (by with_reducible assumption) ?_; wtm_at "at10") | (with_reducible apply Off.at; wtm_at "off11"))
local macro_rules | `(tactic| wtm_at "off12") => `(tactic| first | with_reducible assumption | (with_reducible apply Off.mk; wtm_at "pen"; assumption) | (with_reducible refine Off.new (by assumption) _ _ ?_; wtm_at "off11") | (with_reducible refine at_same (by with_reducible assumption) ?_; wtm_at "off11"))
local macro_rules | `(tactic| wtm_at "at12") => `(tactic| first | with_reducible assumption | with_reducible exact upd_same | (with_reducible refine at_new (by assumption) ?_; wtm_at "at11") | (with_reducible refine at_same (by with_reducible assumption) ?_; wtm_at "at11") | (with_reducible apply Off.at; wtm_at "off12"))
local macro_rules | `(tactic| wtm_at "off13") => `(tactic| first | with_reducible assumption | (with_reducible apply Off.mk; wtm_at "pen"; assumption) | (with_reducible refine Off.new (by assumption) _ _ ?_; wtm_at "off12") | (with_reducible refine at_same (by with_reducible assumption) ?_; wtm_at "off12"))
local macro_rules | `(tactic| wtm_at "at13") => `(tactic| first | with_reducible assumption | with_reducible exact upd_same | (with_reducible refine at_new (by assumption) ?_; wtm_at "at12") | (with_reducible refine at_same (by with_reducible assumption) ?_; wtm_at "at12") | (with_reducible apply Off.at; wtm_at "off13"))
local macro_rules | `(tactic| wtm_at "off14") => `(tactic| first | with_reducible assumption | (with_reducible apply Off.mk; wtm_at "pen"; assumption) | (with_reducible refine Off.new (by assumption) _ _ ?_; wtm_at "off13") | (with_reducible refine at_same (by with_reducible assumption) ?_; wtm_at "off13"))
local macro_rules | `(tactic| wtm_at "at14") => `(tactic| first | with_reducible assumption | with_reducible exact upd_same | (with_reducible refine at_new (by assumption) ?_; wtm_at "at13") | (with_reducible refine at_same (by with_reducible assumption) ?_; wtm_at "at13") | (with_reducible apply Off.at; wtm_at "off14"))
local macro_rules | `(tactic| wtm_at "off15") => `(tactic| first | with_reducible assumption | (with_reducible apply Off.mk; wtm_at "pen"; assumption) | (with_reducible refine Off.new (by assumption) _ _ ?_; wtm_at "off14") | (with_reducible refine at_same (by with_reducible assumption) ?_; wtm_at "off14"))
local macro_rules | `(tactic| wtm_at "at15") => `(tactic| first | with_reducible assumption | with_reducible exact upd_same | (with_reducible refine at_new (by assumption) ?_; wtm_at "at14") | (with_reducible refine at_same (by with_reducible assumption) ?_; wtm_at "at14") | (with_reducible apply Off.at; wtm_at "off15"))
local macro_rules | `(tactic| wtm_at "off16") => `(tactic| first | with_reducible assumption | (with_reducible apply Off.mk; wtm_at "pen"; assumption) | (with_reducible refine Off.new (by assumption) _ _ ?_; wtm_at "off15") | (with_reducible refine at_same (by with_reducible assumption) ?_; wtm_at "off15"))
local macro_rules | `(tactic| wtm_at "at16") => `(tactic| first | with_reducible assumption | with_reducible exact upd_same | (with_reducible refine at_new (by assumption) ?_; wtm_at "at15") | (with_reducible refine at_same (by with_reducible assumption) ?_; wtm_at "at15") | (with_reducible apply Off.at; wtm_at "off16"))
local macro_rules | `(tactic| wtm_at "off17") => `(tactic| first | with_reducible assumption | (with_reducible apply Off.mk; wtm_at "pen"; assumption) | (with_reducible refine Off.new (by assumption) _ _ ?_; wtm_at "off16") | (with_reducible refine at_same (by with_reducible assumption) ?_; wtm_at "off16"))
local macro_rules | `(tactic| wtm_at "at17") => `(tactic| first | with_reducible assumption | with_reducible exact upd_same | (with_reducible refine at_new (by assumption) ?_; wtm_at "at16") | (with_reducible refine at_same (by with_reducible assumption) ?_; wtm_at "at16") | (with_reducible apply Off.at; wtm_at "off17"))
local macro_rules | `(tactic| wtm_at "off18") => `(tactic| first | with_reducible assumption | (with_reducible apply Off.mk; wtm_at "pen"; assumption) | (with_reducible refine Off.new (by assumption) _ _ ?_; wtm_at "off17") | (with_reducible refine at_same (by with_reducible assumption) ?_; wtm_at "off17"))
local macro_rules | `(tactic| wtm_at "at18") => `(tactic| first | with_reducible assumption | with_reducible exact upd_same | (with_reducible refine at_new (by assumption) ?_; wtm_at "at17") | (with_reducible refine at_same (by with_reducible assumption) ?_; wtm_at "at17") | (with_reducible apply Off.at; wtm_at "off18"))
local macro_rules | `(tactic| wtm_at "off19") => `(tactic| first | with_reducible assumption | (with_reducible apply Off.mk; wtm_at "pen"; assumption) | (with_reducible refine Off.new (by assumption) _ _ ?_; wtm_at "off18") | (with_reducible refine at_same (by with_reducible assumption) ?_; wtm_at "off18"))
local macro_rules | `(tactic| wtm_at "at19") => `(tactic| first | with_reducible assumption | with_reducible exact upd_same | (with_reducible refine at_new (by assumption) ?_; wtm_at "at18") | (with_reducible refine at_same (by with_reducible assumption) ?_; wtm_at "at18") | (with_reducible apply Off.at; wtm_at "off19"))
local macro_rules | `(tactic| wtm_at "off20") => `(tactic| first | with_reducible assumption | (with_reducible apply Off.mk; wtm_at "pen"; assumption) | (with_reducible refine Off.new (by assumption) _ _ ?_; wtm_at "off19") | (with_reducible refine at_same (by with_reducible assumption) ?_; wtm_at "off19"))
local macro_rules | `(tactic| wtm_at "at20") => `(tactic| first | with_reducible assumption | with_reducible exact upd_same | (with_reducible refine at_new (by assumption) ?_; wtm_at "at19") | (with_reducible refine at_same (by with_reducible assumption) ?_; wtm_at "at19") | (with_reducible apply Off.at; wtm_at "off20"))
local macro_rules | `(tactic| wtm_at "off21") => `(tactic| first | with_reducible assumption | (with_reducible apply Off.mk; wtm_at "pen"; assumption) | (with_reducible refine Off.new (by assumption) _ _ ?_; wtm_at "off20") | (with_reducible refine at_same (by with_reducible assumption) ?_; wtm_at "off20"))
local macro_rules | `(tactic| wtm_at "at21") => `(tactic| first | with_reducible assumption | with_reducible exact upd_same | (with_reducible refine at_new (by assumption) ?_; wtm_at "at20") | (with_reducible refine at_same (by with_reducible assumption) ?_; wtm_at "at20") | (with_reducible apply Off.at; wtm_at "off21"))
local macro_rules | `(tactic| wtm_at "off22") => `(tactic| first | with_reducible assumption | (with_reducible apply Off.mk; wtm_at "pen"; assumption) | (with_reducible refine Off.new (by assumption) _ _ ?_; wtm_at "off21") | (with_reducible refine at_same (by with_reducible assumption) ?_; wtm_at "off21"))
local macro_rules | `(tactic| wtm_at "at22") => `(tactic| first | with_reducible assumption | with_reducible exact upd_same | (with_reducible refine at_new (by assumption) ?_; wtm_at "at21") | (with_reducible refine at_same (by with_reducible assumption) ?_; wtm_at "at21") | (with_reducible apply Off.at; wtm_at "off22"))
local macro_rules | `(tactic| wtm_at "off23") => `(tactic| first | with_reducible assumption | (with_reducible apply Off.mk; wtm_at "pen"; assumption) | (with_reducible refine Off.new (by assumption) _ _ ?_; wtm_at "off22") | (with_reducible refine at_same (by with_reducible assumption) ?_; wtm_at "off22"))
local macro_rules | `(tactic| wtm_at "at23") => `(tactic| first | with_reducible assumption | with_reducible exact upd_same | (with_reducible refine at_new (by assumption) ?_; wtm_at "at22") | (with_reducible refine at_same (by with_reducible assumption) ?_; wtm_at "at22") | (with_reducible apply Off.at; wtm_at "off23"))
local macro_rules | `(tactic| wtm_at "off24") => `(tactic| first | with_reducible assumption | (with_reducible apply Off.mk; wtm_at "pen"; assumption) | (with_reducible refine Off.new (by assumption) _ _ ?_; wtm_at "off23") | (with_reducible refine at_same (by with_reducible assumption) ?_; wtm_at "off23"))
local macro_rules | `(tactic| wtm_at "at24") => `(tactic| first | with_reducible assumption | with_reducible exact upd_same | (with_reducible refine at_new (by assumption) ?_; wtm_at "at23") | (with_reducible refine at_same (by with_reducible assumption) ?_; wtm_at "at23") | (with_reducible apply Off.at; wtm_at "off24"))
local macro_rules | `(tactic| wtm_at "off25") => `(tactic| first | with_reducible assumption | (with_reducible apply Off.mk; wtm_at "pen"; assumption) | (with_reducible refine Off.new (by assumption) _ _ ?_; wtm_at "off24") | (with_reducible refine at_same (by with_reducible assumption) ?_; wtm_at "off24"))
local macro_rules | `(tactic| wtm_at "at25") => `(tactic| first | with_reducible assumption | with_reducible exact upd_same | (with_reducible refine at_new (by assumption) ?_; wtm_at "at24") | (with_reducible refine at_same (by with_reducible assumption) ?_; wtm_at "at24") | (with_reducible apply Off.at; wtm_at "off25"))
local macro_rules | `(tactic| wtm_at "off26") => `(tactic| first | with_reducible assumption | (with_reducible apply Off.mk; wtm_at "pen"; assumption) | (with_reducible refine Off.new (by assumption) _ _ ?_; wtm_at "off25") | (with_reducible refine at_same (by with_reducible assumption) ?_; wtm_at "off25"))
local macro_rules | `(tactic| wtm_at "at26") => `(tactic| first | with_reducible assumption | with_reducible exact upd_same | (with_reducible refine at_new (by assumption) ?_; wtm_at "at25") | (with_reducible refine at_same (by with_reducible assumption) ?_; wtm_at "at25") | (with_reducible apply Off.at; wtm_at "off26"))
local macro_rules | `(tactic| wtm_at "off27") => `(tactic| first | with_reducible assumption | (with_reducible apply Off.mk; wtm_at "pen"; assumption) | (with_reducible refine Off.new (by assumption) _ _ ?_; wtm_at "off26") | (with_reducible refine at_same (by with_reducible assumption) ?_; wtm_at "off26"))
local macro_rules | `(tactic| wtm_at "at27") => `(tactic| first | with_reducible assumption | with_reducible exact upd_same | (with_reducible refine at_new (by assumption) ?_; wtm_at "at26") | (with_reducible refine at_same (by with_reducible assumption) ?_; wtm_at "at26") | (with_reducible apply Off.at; wtm_at "off27"))
local macro_rules | `(tactic| wtm_at "off28") => `(tactic| first | with_reducible assumption | (with_reducible apply Off.mk; wtm_at "pen"; assumption) | (with_reducible refine Off.new (by assumption) _ _ ?_; wtm_at "off27") | (with_reducible refine at_same (by with_reducible assumption) ?_; wtm_at "off27"))
local macro_rules | `(tactic| wtm_at "at28") => `(tactic| first | with_reducible assumption | with_reducible exact upd_same | (with_reducible refine at_new (by assumption) ?_; wtm_at "at27") | (with_reducible refine at_same (by with_reducible assumption) ?_; wtm_at "at27") | (with_reducible apply Off.at; wtm_at "off28"))
local macro_rules | `(tactic| wtm_at "off29") => `(tactic| first | with_reducible assumption | (with_reducible apply Off.mk; wtm_at "pen"; assumption) | (with_reducible refine Off.new (by assumption) _ _ ?_; wtm_at "off28") | (with_reducible refine at_same (by with_reducible assumption) ?_; wtm_at "off28"))
local macro_rules | `(tactic| wtm_at "at29") => `(tactic| first | with_reducible assumption | with_reducible exact upd_same | (with_reducible refine at_new (by assumption) ?_; wtm_at "at28") | (with_reducible refine at_same (by with_reducible assumption) ?_; wtm_at "at28") | (with_reducible apply Off.at; wtm_at "off29"))
local macro_rules | `(tactic| wtm_at "off30") => `(tactic| first | with_reducible assumption | (with_reducible apply Off.mk; wtm_at "pen"; assumption) | (with_reducible refine Off.new (by assumption) _ _ ?_; wtm_at "off29") | (with_reducible refine at_same (by with_reducible assumption) ?_; wtm_at "off29"))
local macro_rules | `(tactic| wtm_at "at30") => `(tactic| first | with_reducible assumption | with_reducible exact upd_same | (with_reducible refine at_new (by assumption) ?_; wtm_at "at29") | (with_reducible refine at_same (by with_reducible assumption) ?_; wtm_at "at29") | (with_reducible apply Off.at; wtm_at "off30"))
local macro_rules | `(tactic| wtm_at "off31") => `(tactic| first | with_reducible assumption | (with_reducible apply Off.mk; wtm_at "pen"; assumption) | (with_reducible refine Off.new (by assumption) _ _ ?_; wtm_at "off30") | (with_reducible refine at_same (by with_reducible assumption) ?_; wtm_at "off30"))
local macro_rules | `(tactic| wtm_at "at31") => `(tactic| first | with_reducible assumption | with_reducible exact upd_same | (with_reducible refine at_new (by assumption) ?_; wtm_at "at30") | (with_reducible refine at_same (by with_reducible assumption) ?_; wtm_at "at30") | (with_reducible apply Off.at; wtm_at "off31"))
local macro_rules | `(tactic| wtm_at "off32") => `(tactic| first | with_reducible assumption | (with_reducible apply Off.mk; wtm_at "pen"; assumption) | (with_reducible refine Off.new (by assumption) _ _ ?_; wtm_at "off31") | (with_reducible refine at_same (by with_reducible assumption) ?_; wtm_at "off31"))
local macro_rules | `(tactic| wtm_at "at32") => `(tactic| first | with_reducible assumption | with_reducible exact upd_same | (with_reducible refine at_new (by assumption) ?_; wtm_at "at31") | (with_reducible refine at_same (by with_reducible assumption) ?_; wtm_at "at31") | (with_reducible apply Off.at; wtm_at "off32"))
local macro_rules | `(tactic| wtm_at "off33") => `(tactic| first | with_reducible assumption | (with_reducible apply Off.mk; wtm_at "pen"; assumption) | (with_reducible refine Off.new (by assumption) _ _ ?_; wtm_at "off32") | (with_reducible refine at_same (by with_reducible assumption) ?_; wtm_at "off32"))
local macro_rules | `(tactic| wtm_at "at33") => `(tactic| first | with_reducible assumption | with_reducible exact upd_same | (with_reducible refine at_new (by assumption) ?_; wtm_at "at32") | (with_reducible refine at_same (by with_reducible assumption) ?_; wtm_at "at32") | (with_reducible apply Off.at; wtm_at "off33"))
local macro_rules | `(tactic| wtm_at "off34") => `(tactic| first | with_reducible assumption | (with_reducible apply Off.mk; wtm_at "pen"; assumption) | (with_reducible refine Off.new (by assumption) _ _ ?_; wtm_at "off33") | (with_reducible refine at_same (by with_reducible assumption) ?_; wtm_at "off33"))
local macro_rules | `(tactic| wtm_at "at34") => `(tactic| first | with_reducible assumption | with_reducible exact upd_same | (with_reducible refine at_new (by assumption) ?_; wtm_at "at33") | (with_reducible refine at_same (by with_reducible assumption) ?_; wtm_at "at33") | (with_reducible apply Off.at; wtm_at "off34"))
local macro_rules | `(tactic| wtm_at "off35") => `(tactic| first | with_reducible assumption | (with_reducible apply Off.mk; wtm_at "pen"; assumption) | (with_reducible refine Off.new (by assumption) _ _ ?_; wtm_at "off34") | (with_reducible refine at_same (by with_reducible assumption) ?_; wtm_at "off34"))
local macro_rules | `(tactic| wtm_at "at35") => `(tactic| first | with_reducible assumption | with_reducible exact upd_same | (with_reducible refine at_new (by assumption) ?_; wtm_at "at34") | (with_reducible refine at_same (by with_reducible assumption) ?_; wtm_at "at34") | (with_reducible apply Off.at; wtm_at "off35"))
local macro_rules | `(tactic| wtm_at "off36") => `(tactic| first | with_reducible assumption | (with_reducible apply Off.mk; wtm_at "pen"; assumption) | (with_reducible refine Off.new (by assumption) _ _ ?_; wtm_at "off35") | (with_reducible refine at_same (by with_reducible assumption) ?_; wtm_at "off35"))
local macro_rules | `(tactic| wtm_at "at36") => `(tactic| first | with_reducible assumption | with_reducible exact upd_same | (with_reducible refine at_new (by assumption) ?_; wtm_at "at35") | (with_reducible refine at_same (by with_reducible assumption) ?_; wtm_at "at35") | (with_reducible apply Off.at; wtm_at "off36"))
local macro_rules | `(tactic| wtm_at "off37") => `(tactic| first | with_reducible assumption | (with_reducible apply Off.mk; wtm_at "pen"; assumption) | (with_reducible refine Off.new (by assumption) _ _ ?_; wtm_at "off36") | (with_reducible refine at_same (by with_reducible assumption) ?_; wtm_at "off36"))
local macro_rules | `(tactic| wtm_at "at37") => `(tactic| first | with_reducible assumption | with_reducible exact upd_same | (with_reducible refine at_new (by assumption) ?_; wtm_at "at36") | (with_reducible refine at_same (by with_reducible assumption) ?_; wtm_at "at36") | (with_reducible apply Off.at; wtm_at "off37"))
local macro_rules | `(tactic| wtm_at "off38") => `(tactic| first | with_reducible assumption | (with_reducible apply Off.mk; wtm_at "pen"; assumption) | (with_reducible refine Off.new (by assumption) _ _ ?_; wtm_at "off37") | (with_reducible refine at_same (by with_reducible assumption) ?_; wtm_at "off37"))
local macro_rules | `(tactic| wtm_at "at38") => `(tactic| first | with_reducible assumption | with_reducible exact upd_same | (with_reducible refine at_new (by assumption) ?_; wtm_at "at37") | (with_reducible refine at_same (by with_reducible assumption) ?_; wtm_at "at37") | (with_reducible apply Off.at; wtm_at "off38"))
local macro_rules | `(tactic| wtm_at "off39") => `(tactic| first | with_reducible assumption | (with_reducible apply Off.mk; wtm_at "pen"; assumption) | (with_reducible refine Off.new (by assumption) _ _ ?_; wtm_at "off38") | (with_reducible refine at_same (by with_reducible assumption) ?_; wtm_at "off38"))
local macro_rules | `(tactic| wtm_at "at39") => `(tactic| first | with_reducible assumption | with_reducible exact upd_same | (with_reducible refine at_new (by assumption) ?_; wtm_at "at38") | (with_reducible refine at_same (by with_reducible assumption) ?_; wtm_at "at38") | (with_reducible apply Off.at; wtm_at "off39"))
local macro_rules | `(tactic| wtm_at "at") => `(tactic| wtm_at "at39")
local macro_rules | `(tactic| wtm_at "off") => `(tactic| wtm_at "off39")
local macro_rules | `(tactic| wtm_at "pen") => `(tactic| first
  | assumption | (refine Pen.new (by assumption) ?_; wtm_at "pen") | (refine Pen.same (by assumption) ?_; wtm_at "pen"))
local macro_rules | `(tactic| wtm_at "same") => `(tactic| first
  | exact fun _ _ h => h | assumption | exact same_new (by assumption) | (refine same_trans ?_ (same_new (by assumption)); wtm_at "same") | (refine same_trans ?_ (by assumption); wtm_at "same")
  | (refine same_trans ?_ (Off.new (by assumption)); wtm_at "same") | (refine same_trans ?_ (Off.same (by assumption)); wtm_at "same"))
local macro_rules | `(tactic| wtm_at "dps") => `(tactic| first
  | exact .nil | (apply DpAll.cons; wtm_at "dp"; wtm_at "dps") | exact dpAll_ints _)
local macro_rules | `(tactic| wtm_at "dp") => `(tactic| first
  | exact .non | exact .bl _ | exact .int _ | exact .str _ | (fail) | (apply Dp.lst; (apply SqL.of; wtm_at "at"); wtm_at "dps") | (apply Dp.tup; (apply SqT.of; wtm_at "at"); wtm_at "dps"))
local macro_rules | `(tactic| wtm_at "side") => `(tactic| first
  | exact ⟨by decide, by decide⟩ | exact ⟨by decide, by decide, by decide⟩ | exact .inl ⟨by decide, by decide⟩ | exact .inr ⟨by decide, by decide⟩ | (show ¬ _ = _; decide))
local macro_rules | `(tactic| wtm_at "sml") => `(tactic| first
  | exact sml_none (by decide) | exact sml_bool (by decide) | exact sml_int (by decide) (by omega) | (fail) | exact sml_list (n := 19) (k := 0) (by wtm_at "smls") (by decide) (by decide))
local macro_rules | `(tactic| wtm_at "smls") => `(tactic| first | exact smlAll_nil (m := 0) | (apply smlAll_cons; wtm_at "sml"; wtm_at "smls"))
local macro_rules | `(tactic| wtm_at "shw") => `(tactic| exact Sml.shw (n := 10000) (k := 50) (by wtm_at "sml") (by decide) (by decide))
local macro_rules | `(tactic| wtm_at "rd") => `(tactic| first
  | refine ⟨_, rfl, ?_⟩ | refine ⟨_, _, rfl, rfl, ?_⟩ | refine ifT rfl ?_ | refine ifF rfl ?_ | refine ⟨rfl, ?_⟩
  | refine ⟨_, _, by rfl, by wtm_at "dp", by wtm_at "shw", ?_⟩
  | refine ⟨_, _, _, _, _, rfl, by wtm_at "at", by wtm_at "cls", by wtm_at "na", by rfl, ?_⟩
  | refine ⟨_, _, rfl, .inr (SqT.of (by wtm_at "at")), ?_⟩ | refine ⟨_, _, rfl, .inl (SqL.of (by wtm_at "at")), ?_⟩
  | refine ⟨_, _, rfl, .inr (SqT.of (by wtm_at "at")), by rfl, by rfl, ?_⟩ | refine ⟨_, _, rfl, .inl (SqL.of (by wtm_at "at")), by rfl, by rfl, ?_⟩
  | refine ⟨_, _, _, _, rfl, rfl, SqT.of (by wtm_at "at"), by rfl, ?_⟩ | refine ⟨_, _, _, _, rfl, rfl, SqL.of (by wtm_at "at"), by rfl, ?_⟩
  | refine ⟨_, _, rfl, rfl, by wtm_at "side", ?_⟩
  | refine ⟨_, _, by wtm_at "dp", by wtm_at "dp", by rfl, by rfl, ?_⟩
  | refine ⟨_, _, [_, _], [_, _], rfl, rfl, sqI2 (by wtm_at "at"), sqI2 (by wtm_at "at"), ?_⟩
  | refine ⟨_, _, rfl, ?_⟩
  | refine ⟨Nat.le_of_ble_eq_true rfl, fun _ _ => ?_⟩
  | refine ifF (nd_refl _) ?_ | refine ifT (de_refl _) ?_)
local macro_rules | `(tactic| wtm_at "cls") => `(tactic| first | exact cls_Agent _)
local macro_rules | `(tactic| wtm_at "na") => `(tactic| first | exact na_Agent_name _ | exact na_Agent_steps _ | exact na_Agent_shape _)

def isAg (C : Addr) : Prop := C = 169 ∨ C = 209 ∨ C = 247
def mayOf (C : Addr) : Addr := if C = 169 then 159 else if C = 209 then 199 else 237
def mayWs (C : Addr) : List Str := if C = 169 then wordsA else wordsT
def spStep2 : Sp := fun vs H Q _ => ∃ r wd n, vs = [.ref r] ∧ H r = some (.tup [.str wd, .str n]) ∧ wd ∈ (["post", "wait"] : List Str) ∧ nameOk n = true ∧ n.length ≤ 8 ∧ ∀ H', Same H H' → Q (.bl true) H'
theorem may_has {C : Addr} {wd : Str} (h : isAg C) (hw : wd ∈ (["post", "wait"] : List Str)) : decide (wd ∈ mayWs C) = true := by
  have : wd ∈ wordsA := by
    simp only [List.mem_cons, List.not_mem_nil, or_false] at hw ⊢
    rcases hw with rfl | rfl <;> simp
  apply decide_eq_true
  rcases h with rfl | rfl | rfl
  · exact this
  · exact List.mem_append_left _ this
  · exact List.mem_append_left _ this
def kindOf (C : Addr) : Str := if C = 169 then "plain" else if C = 209 then "through" else "back"
/-- an agent at x: its name, its steps at p, its shape at q -/
abbrev agentO (C dx p q : Addr) (n : Str) : HO := .ins C dx [("name", .str n), ("steps", .ref p), ("shape", .ref q)]
def Step2 (H : Hp) (C : Addr) (v : V) : Prop := ∃ r wd n, v = .ref r ∧ H r = some (.tup [.str wd, .str n]) ∧ wd ∈ (["post", "wait"] : List Str) ∧ nameOk n = true ∧ n.length ≤ 8
def spInit : Sp := fun vs H Q _ => ∃ a C dx n p rs, vs = [.ref a, .str n, .ref p] ∧ isAg C ∧ H a = some (.ins C dx []) ∧ nameOk n = true ∧ n.length ≤ 8 ∧ H p = some (.tup rs) ∧ 1 ≤ rs.length ∧ rs.length ≤ 24 ∧ (∀ v ∈ rs, Step2 H C v) ∧
  ∀ H' q, Chg a (agentO C dx p q n) H H' → Q .non H'
section
variable {mg : PySem.Str → Option Value} {base : Heap} {w : World}
theorem may_cls (w : World) (C : Addr) (h : isAg C) : Cls (hd05.heap_39 w.params) C ∧ Meth (hd05.heap_39 w.params) C "may" (mayOf C) := by
  rcases h with rfl | rfl | rfl
  · exact ⟨cls_Agent w, me_Agent_may w⟩
  · exact ⟨cls_Through w, me_Through_may w⟩
  · exact ⟨cls_Back w, me_Back_may w⟩
theorem may_ok (M : Mod (hd05.heap_39 w.params) mg base) (C : Addr) (h : isAg C) : CallG PP w (hd05.heap_39 w.params) mg base 6 (.ref (mayOf C)) (pos (spMay (hd05.heap_39 w.params) (fun D => D = C) (mayWs C))) := by
  rcases h with rfl | rfl | rfl
  · exact ((ok_Agent_may M).mono (by decide)).imp fun vs zs H Q E h => ⟨h.1, let ⟨a, C, dx, fs, v, e, ha, _, r⟩ := h.2; ⟨a, C, dx, fs, v, e, ha, trivial, r⟩⟩
  · exact ((ok_Through_may M).mono (by decide)).imp fun vs zs H Q E h => ⟨h.1, let ⟨a, C, dx, fs, v, e, ha, hC, r⟩ := h.2; ⟨a, C, dx, fs, v, e, ha, .inl hC, r⟩⟩
  · exact (ok_Back_may M).imp fun vs zs H Q E h => ⟨h.1, let ⟨a, C, dx, fs, v, e, ha, hC, r⟩ := h.2; ⟨a, C, dx, fs, v, e, ha, hC, r⟩⟩
theorem ok_is_step (M : Mod (hd05.heap_39 w.params) mg base) : CallG PP w (hd05.heap_39 w.params) mg base 3 (.ref 100) (pos spStep2) := by
  obtain ⟨fd, F⟩ := fn_is_step w
  refine def_pos F sc_is_step (fun vs H Q E h => ?_) (fun _ _ _ _ _ _ us hl => match us, hl with | [_], _ => rfl) (fun cdv A outer s H vs Q E hr hg h => ?_)
  · obtain ⟨r, wd, n, rfl, _⟩ := h; rfl
  have nd := sc_is_step.nd
  obtain ⟨r, wd, n, rfl, hr1, hw, hn, hl, q⟩ := h
  refine ⟨_, (pss_cons (ps_if (PW.pt (pw_or (pt_not (pt_val (pe_callB call_isi (by rfl) (mn_isinstance M) (by decide +kernel) (pa_cons (pv 0) (pa_cons (pe_bltn (v := .ty "tuple") (by rfl) (mn_tuple M) (by decide +kernel) rfl) pa_nil))))) (pw_or1 (pt_cmpR op_notIn_seq (pe_callB call_len_seq (by rfl) (mn_len M) (by decide +kernel) (pa_cons (pv 0) pa_nil)) (pe_tup (pa_cons pe_int (pa_cons pe_int pa_nil))) (by rfl))))) (pss_one (ps_ret pe_bl)) pss_nil)
      (pss_cons (ps_if (pt_not (pt_val (pe_cl (takes_of rfl rfl rfl rfl) (ok_is_name M) (hr.mono (by decide)) hg rfl (mg_is_name M) (kp_is_name w) (pa_cons (pe_ix ix_tup (pv 0) pe_int (fun _ _ => rfl)) pa_nil)))) (pss_one (ps_ret pe_bl)) pss_nil)
      (pss_cons (ps_if (pt_cmpR op_eq (pe_callB call_len_seq (by rfl) (mn_len M) (by decide +kernel) (pa_cons (pv 0) pa_nil)) pe_int (nomark _)) (pss_one (ps_ret (pe_cl (takes_of rfl rfl rfl rfl) (ok_is_word M) (hr.mono (by decide)) hg rfl (mg_is_word M) (kp_is_word w) (pa_cons (pe_ix ix_tup (pv 0) pe_int (fun _ _ => rfl)) (pa_cons (pe_glob (v := .ref 79) rfl (mg_SIGNALLING M) rfl) pa_nil))))) pss_nil)
      (pss_one (ps_ret pe_dead))))), ?_⟩
  refine ⟨_, rfl, _, _, _, _, _, rfl, .ty "tuple", .base (.tup hr1), kit_ty (r := true) (by decide +kernel), ?_⟩
  repeat wtm_at "rd"
  refine .inl ⟨n, rfl, by omega, fun H1 s1 => ?_⟩
  rw [hn]
  repeat wtm_at "rd"
  refine ⟨.str wd, 79, ["post", "wait"], rfl, sq_SIGNALLING w _, .inl ⟨wd, rfl, ?_⟩⟩
  rw [decide_eq_true hw]
  exact q _ (by wtm_at "same")
theorem ok_Agent___init__ (M : Mod (hd05.heap_39 w.params) mg base) : CallG PP w (hd05.heap_39 w.params) mg base 8 (.ref 114) (pos fun vs H Q E => ∃ ws rest, vs = ws ++ rest ∧ ws.length = 2 ∧ rest.length ≤ sizeLine ∧ ∀ p, H p = none → spInit (ws ++ [.ref p]) (upd H p (.tup rest)) Q E) := by
  obtain ⟨fd, F⟩ := fn_Agent___init__ w
  refine def_star (ps := ["self", "name"]) (pv := "steps") F sc_Agent___init__ (fun _ _ _ _ _ _ => bind_star2 (B := fun l => bindArgs _ ⟨l, []⟩) (fun _ _ => rfl) (fun _ _ _ _ => rfl)) (fun cdv A outer s H vs Q E hr hg h => ?_)
  have nd := sc_Agent___init__.nd
  obtain ⟨a, C, dx, n, p, rs, rfl, hC, ha, hn, hl, hp, h1, h24, hst, q⟩ := h
  refine ⟨_, (pss_cons (ps_if (pt_not (pt_val (pe_cl (takes_of rfl rfl rfl rfl) (ok_is_name M) (hr.mono (by decide)) hg rfl (mg_is_name M) (kp_is_name w) (pa_cons (pv 1) pa_nil)))) (pss_one ps_dead) pss_nil)
      (pss_cons (ps_if (pt_not (pt_chain op_le op_le pe_int (pe_callB call_len_seq (by rfl) (mn_len M) (by decide +kernel) (pa_cons (pv 2) pa_nil)) (pe_glob (v := .int 24) rfl (mg_MOST_STEPS M) ⟨_, rfl⟩))) (pss_one ps_dead) pss_nil)
      (pss_cons (ps_for (passes_of rfl) rfl (pi_enumT (by rfl) (mn_enumerate M) (pa_cons (pv 2) pa_nil)) (pg_tup (by rfl) (pgs_cons (pg_name (i := 3) nd rfl (.inl rfl)) (pgs_cons (pg_name (i := 4) nd rfl (.inl rfl)) pgs_nil))) (pss_one (ps_if (PW.pt (pw_or (pt_not (pt_val (pe_cl (takes_of rfl rfl rfl rfl) (ok_is_step M) (hr.mono (by decide)) hg rfl (mg_is_step M) (kp_is_step w) (pa_cons (pv 4) pa_nil)))) (pw_or1 (pt_not (pt_val (pe_meV (takes_of rfl rfl rfl rfl) (pv 0) (hm := fun C h => may_cls w C h) (may_ok M) (hr.mono (by decide)) hg (pa_cons (pe_ix ix_tup (pv 4) pe_int (fun _ _ => rfl)) pa_nil))))))) (pss_one ps_dead) pss_nil)))
      (pss_cons (ps_fld (pv 0) (pv 1) rfl)
      (pss_cons (ps_fld (pv 0) (pv 2) rfl)
      (pss_one (ps_fld (pv 0) (pe_tup (pa_cons (pe_con (pv 0) rfl) (pa_cons (pv 1) (pa_cons (pv 2) pa_nil)))) rfl))))))), ?_⟩
  wtm_at "rd"
  refine ⟨rfl, .str n, rfl, .inl ⟨n, rfl, by omega, fun H1 s1 => ?_⟩⟩
  rw [hn]
  repeat wtm_at "rd"
  refine ifT (decide_eq_true (by omega)) ?_
  refine ⟨_, _, rfl, rfl, _, rfl, ?_⟩
  refine ifF (b := !decide ((rs.length : Int) ≤ 24)) (by rw [decide_eq_true (by omega)]; rfl) ?_
  wtm_at "rd"
  refine ⟨p, rs, rfl, SqT.of (by wtm_at "at"), ?_⟩
  refine for_it walk_enumT (fun i σ H' => (∃ o3 o4, σ = [some (.ref a), some (.str n), some (.ref p), o3, o4]) ∧ Same H H') ⟨⟨_, _, rfl⟩, s1⟩ (fun i σ H' _ h => SqT.of (h.2 _ _ hp)) (fun i x σ H2 H3 hi h y => ?_) (fun σ H2 h => ?_)
  · obtain ⟨⟨o3, o4, rfl⟩, sm⟩ := h
    obtain ⟨T, k, v, rfl, hT, rfl, hk, hv⟩ := y
    cases hk
    obtain ⟨r, wd, nn, rfl, hr1, hw, hnn, hll⟩ := hst v (List.mem_of_getElem? hv)
    refine ⟨T, _, rfl, SqT.of upd_same, rfl, _, _, rfl, _, _, rfl, rfl, ?_⟩
    wtm_at "rd"
    refine ⟨rfl, r, wd, nn, rfl, by wtm_at "at", hw, hnn, hll, fun H3 s3 => ?_⟩
    repeat wtm_at "rd"
    refine ⟨a, C, dx, _, rfl, hC, by wtm_at "at", rfl, ?_⟩
    wtm_at "rd"
    wtm_at "rd"
    refine ⟨rfl, a, C, dx, _, .str wd, rfl, by wtm_at "at", rfl, .inl ⟨wd, rfl, fun H4 s4 => ?_⟩⟩
    rw [may_has hC hw]
    repeat wtm_at "rd"
    exact ⟨⟨_, _, rfl⟩, by wtm_at "same"⟩
  obtain ⟨⟨o3, o4, rfl⟩, sm⟩ := h
  rcases hC with rfl | rfl | rfl
  · refine ⟨_, rfl, _, rfl, a, 169, dx, _, rfl, by wtm_at "at", cls_Agent w, na_Agent_name w, Nat.le_of_ble_eq_true rfl, ?_⟩
    refine ⟨_, rfl, _, rfl, a, 169, dx, _, rfl, upd_same, cls_Agent w, na_Agent_steps w, Nat.le_of_ble_eq_true rfl, ?_⟩
    refine ⟨_, rfl, a, 169, dx, _, _, _, rfl, upd_same, cls_Agent w, con_Agent_KIND w, rfl, ?_⟩
    refine ⟨_, rfl, _, rfl, Nat.le_of_ble_eq_true rfl, fun z hz => ?_⟩
    refine ⟨_, rfl, a, 169, dx, _, rfl, at_new hz upd_same, cls_Agent w, na_Agent_shape w, Nat.le_of_ble_eq_true rfl, ?_⟩
    exact q _ z (Chg.same sm (((Chg.upd.trans Chg.upd).then (same_new hz)).trans Chg.upd))
  · refine ⟨_, rfl, _, rfl, a, 209, dx, _, rfl, by wtm_at "at", cls_Through w, na_Through_name w, Nat.le_of_ble_eq_true rfl, ?_⟩
    refine ⟨_, rfl, _, rfl, a, 209, dx, _, rfl, upd_same, cls_Through w, na_Through_steps w, Nat.le_of_ble_eq_true rfl, ?_⟩
    refine ⟨_, rfl, a, 209, dx, _, _, _, rfl, upd_same, cls_Through w, con_Through_KIND w, rfl, ?_⟩
    refine ⟨_, rfl, _, rfl, Nat.le_of_ble_eq_true rfl, fun z hz => ?_⟩
    refine ⟨_, rfl, a, 209, dx, _, rfl, at_new hz upd_same, cls_Through w, na_Through_shape w, Nat.le_of_ble_eq_true rfl, ?_⟩
    exact q _ z (Chg.same sm (((Chg.upd.trans Chg.upd).then (same_new hz)).trans Chg.upd))
  · refine ⟨_, rfl, _, rfl, a, 247, dx, _, rfl, by wtm_at "at", cls_Back w, na_Back_name w, Nat.le_of_ble_eq_true rfl, ?_⟩
    refine ⟨_, rfl, _, rfl, a, 247, dx, _, rfl, upd_same, cls_Back w, na_Back_steps w, Nat.le_of_ble_eq_true rfl, ?_⟩
    refine ⟨_, rfl, a, 247, dx, _, _, _, rfl, upd_same, cls_Back w, con_Back_KIND w, rfl, ?_⟩
    refine ⟨_, rfl, _, rfl, Nat.le_of_ble_eq_true rfl, fun z hz => ?_⟩
    refine ⟨_, rfl, a, 247, dx, _, rfl, at_new hz upd_same, cls_Back w, na_Back_shape w, Nat.le_of_ble_eq_true rfl, ?_⟩
    exact q _ z (Chg.same sm (((Chg.upd.trans Chg.upd).then (same_new hz)).trans Chg.upd))
end
end M05

namespace M05
open PySem PySem.Spec PyProof.Rows L2 StX Uk

local macro_rules | `(tactic| wtm_at "off0") => `(tactic| first | with_reducible assumption | (with_reducible apply Off.mk; wtm_at "pen"; assumption))
local macro_rules | `(tactic| wtm_at "at0") => `(tactic| first | with_reducible assumption | with_reducible exact upd_same | (with_reducible apply Off.at; wtm_at "off0"))
local macro_rules | `(tactic| wtm_at "off1") => `(tactic| first | with_reducible assumption | (with_reducible apply Off.mk; wtm_at "pen"; assumption) | (with_reducible refine Off.new (by assumption) _ _ ?_; wtm_at "off0") | (with_reducible refine at_same (by with_reducible assumption) ?_; wtm_at "off0"))
local macro_rules | `(tactic| wtm_at "at1") => `(tactic| first | with_reducible assumption | with_reducible exact upd_same | (with_reducible refine at_new (by assumption) ?_; wtm_at "at0") | (with_reducible refine at_same (by with_reducible assumption) ?_; wtm_at "at0") | (with_reducible apply Off.at; wtm_at "off1"))
local macro_rules | `(tactic| wtm_at "off2") => `(tactic| first | with_reducible assumption | (with_reducible apply Off.mk; wtm_at "pen"; assumption) | (with_reducible refine Off.new (by assumption) _ _ ?_; wtm_at "off1") | (with_reducible refine at_same (by with_reducible assumption) ?_; wtm_at "off1"))
local macro_rules | `(tactic| wtm_at "at2") => `(tactic| first | with_reducible assumption | with_reducible exact upd_same | (with_reducible refine at_new (by assumption) ?_; wtm_at "at1") | (with_reducible refine at_same (by with_reducible assumption) ?_; wtm_at "at1") | (with_reducible apply Off.at; wtm_at "off2"))
local macro_rules | `(tactic| wtm_at "off3") => `(tactic| first | with_reducible assumption | (with_reducible apply Off.mk; wtm_at "pen"; assumption) | (with_reducible refine Off.new (by assumption) _ _ ?_; wtm_at "off2") | (with_reducible refine at_same (by with_reducible assumption) ?_; wtm_at "off2"))
local macro_rules | `(tactic| wtm_at "at3") => `(tactic| first | with_reducible assumption | with_reducible exact upd_same | (with_reducible refine at_new (by assumption) ?_; wtm_at "at2") | (with_reducible refine at_same (by with_reducible assumption) ?_; wtm_at "at2") | (with_reducible apply Off.at; wtm_at "off3"))
local macro_rules | `(tactic| wtm_at "off4") => `(tactic| first | with_reducible assumption | (with_reducible apply Off.mk; wtm_at "pen"; assumption) | (with_reducible refine Off.new (by assumption) _ _ ?_; wtm_at "off3") | (with_reducible refine at_same (by with_reducible assumption) ?_; wtm_at "off3"))
local macro_rules | `(tactic| wtm_at "at4") => `(tactic| first | with_reducible assumption | with_reducible exact upd_same | (with_reducible refine at_new (by assumption) ?_; wtm_at "at3") | (with_reducible refine at_same (by with_reducible assumption) ?_; wtm_at "at3") | (with_reducible apply Off.at; wtm_at "off4"))
local macro_rules | `(tactic| wtm_at "off5") => `(tactic| first | with_reducible assumption | (with_reducible apply Off.mk; wtm_at "pen"; assumption) | (with_reducible refine Off.new (by assumption) _ _ ?_; wtm_at "off4") | (with_reducible refine at_same (by with_reducible assumption) ?_; wtm_at "off4"))
local macro_rules | `(tactic| wtm_at "at5") => `(tactic| first | with_reducible assumption | with_reducible exact upd_same | (with_reducible refine at_new (by assumption) ?_; wtm_at "at4") | (with_reducible refine at_same (by with_reducible assumption) ?_; wtm_at "at4") | (with_reducible apply Off.at; wtm_at "off5"))
local macro_rules | `(tactic| wtm_at "off6") => `(tactic| first | with_reducible assumption | (with_reducible apply Off.mk; wtm_at "pen"; assumption) | (with_reducible refine Off.new (by assumption) _ _ ?_; wtm_at "off5") | (with_reducible refine at_same (by with_reducible assumption) ?_; wtm_at "off5"))
local macro_rules | `(tactic| wtm_at "at6") => `(tactic| first | with_reducible assumption | with_reducible exact upd_same | (with_reducible refine at_new (by assumption) ?_; wtm_at "at5") | (with_reducible refine at_same (by with_reducible assumption) ?_; wtm_at "at5") | (with_reducible apply Off.at; wtm_at "off6"))
local macro_rules | `(tactic| wtm_at "off7") => `(tactic| first | with_reducible assumption | (with_reducible apply Off.mk; wtm_at "pen"; assumption) | (with_reducible refine Off.new (by assumption) _ _ ?_; wtm_at "off6") | (with_reducible refine at_same (by with_reducible assumption) ?_; wtm_at "off6"))
local macro_rules | `(tactic| wtm_at "at7") => `(tactic| first | with_reducible assumption | with_reducible exact upd_same | (with_reducible refine at_new (by assumption) ?_; wtm_at "at6") | (with_reducible refine at_same (by with_reducible assumption) ?_; wtm_at "at6") | (with_reducible apply Off.at; wtm_at "off7"))
local macro_rules | `(tactic| wtm_at "off8") => `(tactic| first | with_reducible assumption | (with_reducible apply Off.mk; wtm_at "pen"; assumption) | (with_reducible refine Off.new (by assumption) _ _ ?_; wtm_at "off7") | (with_reducible refine at_same (by with_reducible assumption) ?_; wtm_at "off7"))
local macro_rules | `(tactic| wtm_at "at8") => `(tactic| first | with_reducible assumption | with_reducible exact upd_same | (with_reducible refine at_new (by assumption) ?_; wtm_at "at7") | (with_reducible refine at_same (by with_reducible assumption) ?_; wtm_at "at7") | (with_reducible apply Off.at; wtm_at "off8"))
local macro_rules | `(tactic| wtm_at "off9") => `(tactic| first | with_reducible assumption | (with_reducible apply Off.mk; wtm_at "pen"; assumption) | (with_reducible refine Off.new (by assumption) _ _ ?_; wtm_at "off8") | (with_reducible refine at_same (by with_reducible assumption) ?_; wtm_at "off8"))
local macro_rules | `(tactic| wtm_at "at9") => `(tactic| first | with_reducible assumption | with_reducible exact upd_same | (with_reducible refine at_new (by assumption) ?_; wtm_at "at8") | (with_reducible refine at_same (by with_reducible assumption) ?_; wtm_at "at8") | (with_reducible apply Off.at; wtm_at "off9"))
local macro_rules | `(tactic| wtm_at "off10") => `(tactic| first | with_reducible assumption | (with_reducible apply Off.mk; wtm_at "pen"; assumption) | (with_reducible refine Off.new (by assumption) _ _ ?_; wtm_at "off9") | (with_reducible refine at_same (by with_reducible assumption) ?_; wtm_at "off9"))
local macro_rules | `(tactic| wtm_at "at10") => `(tactic| first | with_reducible assumption | with_reducible exact upd_same | (with_reducible refine at_new (by assumption) ?_; wtm_at "at9") | (with_reducible refine at_same (by with_reducible assumption) ?_; wtm_at "at9") | (with_reducible apply Off.at; wtm_at "off10"))
local macro_rules | `(tactic| wtm_at "off11") => `(tactic| first | with_reducible assumption | (with_reducible apply Off.mk; wtm_at "pen"; assumption) | (with_reducible refine Off.new (by assumption) _ _ ?_; wtm_at "off10") | (with_reducible refine at_same (by with_reducible assumption) ?_; wtm_at "off10"))
local macro_rules | `(tactic| wtm_at "at11") => `(tactic| first | with_reducible assumption | with_reducible exact upd_same | (with_reducible refine at_new (by assumption) ?_; wtm_at "at10") | (with_reducible refine at_same (by with_reducible assumption) ?_; wtm_at "at10") | (with_reducible apply Off.at; wtm_at "off11"))
local macro_rules | `(tactic| wtm_at "off12") => `(tactic| first | with_reducible assumption | (with_reducible apply Off.mk; wtm_at "pen"; assumption) | (with_reducible refine Off.new (by assumption) _ _ ?_; wtm_at "off11") | (with_reducible refine at_same (by with_reducible assumption) ?_; wtm_at "off11"))
local macro_rules | `(tactic| wtm_at "at12") => `(tactic| first | with_reducible assumption | with_reducible exact upd_same | (with_reducible refine at_new (by assumption) ?_; wtm_at "at11") | (with_reducible refine at_same (by with_reducible assumption) ?_; wtm_at "at11") | (with_reducible apply Off.at; wtm_at "off12"))
local macro_rules | `(tactic| wtm_at "off13") => `(tactic| first | with_reducible assumption | (with_reducible apply Off.mk; wtm_at "pen"; assumption) | (with_reducible refine Off.new (by assumption) _ _ ?_; wtm_at "off12") | (with_reducible refine at_same (by with_reducible assumption) ?_; wtm_at "off12"))
local macro_rules | `(tactic| wtm_at "at13") => `(tactic| first | with_reducible assumption | with_reducible exact upd_same | (with_reducible refine at_new (by assumption) ?_; wtm_at "at12") | (with_reducible refine at_same (by with_reducible assumption) ?_; wtm_at "at12") | (with_reducible apply Off.at; wtm_at "off13"))
local macro_rules | `(tactic| wtm_at "off14") => `(tactic| first | with_reducible assumption | (with_reducible apply Off.mk; wtm_at "pen"; assumption) | (with_reducible refine Off.new (by assumption) _ _ ?_; wtm_at "off13") | (with_reducible refine at_same (by with_reducible assumption) ?_; wtm_at "off13"))
local macro_rules | `(tactic| wtm_at "at14") => `(tactic| first | with_reducible assumption | with_reducible exact upd_same | (with_reducible refine at_new (by assumption) ?_; wtm_at "at13") | (with_reducible refine at_same (by with_reducible assumption) ?_; wtm_at "at13") | (with_reducible apply Off.at; wtm_at "off14"))
local macro_rules | `(tactic| wtm_at "off15") => `(tactic| first | with_reducible assumption | (with_reducible apply Off.mk; wtm_at "pen"; assumption) | (with_reducible refine Off.new (by assumption) _ _ ?_; wtm_at "off14") | (with_reducible refine at_same (by with_reducible assumption) ?_; wtm_at "off14"))
local macro_rules | `(tactic| wtm_at "at15") => `(tactic| first | with_reducible assumption | with_reducible exact upd_same | (with_reducible refine at_new (by assumption) ?_; wtm_at "at14") | (with_reducible refine at_same (by with_reducible assumption) ?_; wtm_at "at14") | (with_reducible apply Off.at; wtm_at "off15"))
local macro_rules | `(tactic| wtm_at "off16") => `(tactic| first | with_reducible assumption | (with_reducible apply Off.mk; wtm_at "pen"; assumption) | (with_reducible refine Off.new (by assumption) _ _ ?_; wtm_at "off15") | (with_reducible refine at_same (by with_reducible assumption) ?_; wtm_at "off15"))
local macro_rules | `(tactic| wtm_at "at16") => `(tactic| first | with_reducible assumption | with_reducible exact upd_same | (with_reducible refine at_new (by assumption) ?_; wtm_at "at15") | (with_reducible refine at_same (by with_reducible assumption) ?_; wtm_at "at15") | (with_reducible apply Off.at; wtm_at "off16"))
local macro_rules | `(tactic| wtm_at "off17") => `(tactic| first | with_reducible assumption | (with_reducible apply Off.mk; wtm_at "pen"; assumption) | (with_reducible refine Off.new (by assumption) _ _ ?_; wtm_at "off16") | (with_reducible refine at_same (by with_reducible assumption) ?_; wtm_at "off16"))
local macro_rules | `(tactic| wtm_at "at17") => `(tactic| first | with_reducible assumption | with_reducible exact upd_same | (with_reducible refine at_new (by assumption) ?_; wtm_at "at16") | (with_reducible refine at_same (by with_reducible assumption) ?_; wtm_at "at16") | (with_reducible apply Off.at; wtm_at "off17"))
local macro_rules | `(tactic| wtm_at "off18") => `(tactic| first | with_reducible assumption | (with_reducible apply Off.mk; wtm_at "pen"; assumption) | (with_reducible refine Off.new (by assumption) _ _ ?_; wtm_at "off17") | (with_reducible refine at_same (by with_reducible assumption) ?_; wtm_at "off17"))
local macro_rules | `(tactic| wtm_at "at18") => `(tactic| first | with_reducible assumption | with_reducible exact upd_same | (with_reducible refine at_new (by assumption) ?_; wtm_at "at17") | (with_reducible refine at_same (by with_reducible assumption) ?_; wtm_at "at17") | (with_reducible apply Off.at; wtm_at "off18"))
local macro_rules | `(tactic| wtm_at "off19") => `(tactic| first | with_reducible assumption | (with_reducible apply Off.mk; wtm_at "pen"; assumption) | (with_reducible refine Off.new (by assumption) _ _ ?_; wtm_at "off18") | (with_reducible refine at_same (by with_reducible assumption) ?_; wtm_at "off18"))
local macro_rules | `(tactic| wtm_at "at19") => `(tactic| first | with_reducible assumption | with_reducible exact upd_same | (with_reducible refine at_new (by assumption) ?_; wtm_at "at18") | (with_reducible refine at_same (by with_reducible assumption) ?_; wtm_at "at18") | (with_reducible apply Off.at; wtm_at "off19"))
local macro_rules | `(tactic| wtm_at "off20") => `(tactic| first | with_reducible assumption | (with_reducible apply Off.mk; wtm_at "pen"; assumption) | (with_reducible refine Off.new (by assumption) _ _ ?_; wtm_at "off19") | (with_reducible refine at_same (by with_reducible assumption) ?_; wtm_at "off19"))
local macro_rules | `(tactic| wtm_at "at20") => `(tactic| first | with_reducible assumption | with_reducible exact upd_same | (with_reducible refine at_new (by assumption) ?_; wtm_at "at19") | (with_reducible refine at_same (by with_reducible assumption) ?_; wtm_at "at19") | (with_reducible apply Off.at; wtm_at "off20"))
local macro_rules | `(tactic| wtm_at "off21") => `(tactic| first | with_reducible assumption | (with_reducible apply Off.mk; wtm_at "pen"; assumption) | (with_reducible refine Off.new (by assumption) _ _ ?_; wtm_at "off20") | (with_reducible refine at_same (by with_reducible assumption) ?_; wtm_at "off20"))
local macro_rules | `(tactic| wtm_at "at21") => `(tactic| first | with_reducible assumption | with_reducible exact upd_same | (with_reducible refine at_new (by assumption) ?_; wtm_at "at20") | (with_reducible refine at_same (by with_reducible assumption) ?_; wtm_at "at20") | (with_reducible apply Off.at; wtm_at "off21"))
local macro_rules | `(tactic| wtm_at "off22") => `(tactic| first | with_reducible assumption | (with_reducible apply Off.mk; wtm_at "pen"; assumption) | (with_reducible refine Off.new (by assumption) _ _ ?_; wtm_at "off21") | (with_reducible refine at_same (by with_reducible assumption) ?_; wtm_at "off21"))
local macro_rules | `(tactic| wtm_at "at22") => `(tactic| first | with_reducible assumption | with_reducible exact upd_same | (with_reducible refine at_new (by assumption) ?_; wtm_at "at21") | (with_reducible refine at_same (by with_reducible assumption) ?_; wtm_at "at21") | (with_reducible apply Off.at; wtm_at "off22"))
local macro_rules | `(tactic| wtm_at "off23") => `(tactic| first | with_reducible assumption | (with_reducible apply Off.mk; wtm_at "pen"; assumption) | (with_reducible refine Off.new (by assumption) _ _ ?_; wtm_at "off22") | (with_reducible refine at_same (by with_reducible assumption) ?_; wtm_at "off22"))
local macro_rules | `(tactic| wtm_at "at23") => `(tactic| first | with_reducible assumption | with_reducible exact upd_same | (with_reducible refine at_new (by assumption) ?_; wtm_at "at22") | (with_reducible refine at_same (by with_reducible assumption) ?_; wtm_at "at22") | (with_reducible apply Off.at; wtm_at "off23"))
local macro_rules | `(tactic| wtm_at "off24") => `(tactic| first | with_reducible assumption | (with_reducible apply Off.mk; wtm_at "pen"; assumption) | (with_reducible refine Off.new (by assumption) _ _ ?_; wtm_at "off23") | (with_reducible refine at_same (by with_reducible assumption) ?_; wtm_at "off23"))
local macro_rules | `(tactic| wtm_at "at24") => `(tactic| first | with_reducible assumption | with_reducible exact upd_same | (with_reducible refine at_new (by assumption) ?_; wtm_at "at23") | (with_reducible refine at_same (by with_reducible assumption) ?_; wtm_at "at23") | (with_reducible apply Off.at; wtm_at "off24"))
local macro_rules | `(tactic| wtm_at "off25") => `(tactic| first | with_reducible assumption | (with_reducible apply Off.mk; wtm_at "pen"; assumption) | (with_reducible refine Off.new (by assumption) _ _ ?_; wtm_at "off24") | (with_reducible refine at_same (by with_reducible assumption) ?_; wtm_at "off24"))
local macro_rules | `(tactic| wtm_at "at25") => `(tactic| first | with_reducible assumption | with_reducible exact upd_same | (with_reducible refine at_new (by assumption) ?_; wtm_at "at24") | (with_reducible refine at_same (by with_reducible assumption) ?_; wtm_at "at24") | (with_reducible apply Off.at; wtm_at "off25"))
local macro_rules | `(tactic| wtm_at "off26") => `(tactic| first | with_reducible assumption | (with_reducible apply Off.mk; wtm_at "pen"; assumption) | (with_reducible refine Off.new (by assumption) _ _ ?_; wtm_at "off25") | (with_reducible refine at_same (by with_reducible assumption) ?_; wtm_at "off25"))
local macro_rules | `(tactic| wtm_at "at26") => `(tactic| first | with_reducible assumption | with_reducible exact upd_same | (with_reducible refine at_new (by assumption) ?_; wtm_at "at25") | (with_reducible refine at_same (by with_reducible assumption) ?_; wtm_at "at25") | (with_reducible apply Off.at; wtm_at "off26"))
local macro_rules | `(tactic| wtm_at "off27") => `(tactic| first | with_reducible assumption | (with_reducible apply Off.mk; wtm_at "pen"; assumption) | (with_reducible refine Off.new (by assumption) _ _ ?_; wtm_at "off26") | (with_reducible refine at_same (by with_reducible assumption) ?_; wtm_at "off26"))
local macro_rules | `(tactic| wtm_at "at27") => `(tactic| first | with_reducible assumption | with_reducible exact upd_same | (with_reducible refine at_new (by assumption) ?_; wtm_at "at26") | (with_reducible refine at_same (by with_reducible assumption) ?_; wtm_at "at26") | (with_reducible apply Off.at; wtm_at "off27"))
local macro_rules | `(tactic| wtm_at "off28") => `(tactic| first | with_reducible assumption | (with_reducible apply Off.mk; wtm_at "pen"; assumption) | (with_reducible refine Off.new (by assumption) _ _ ?_; wtm_at "off27") | (with_reducible refine at_same (by with_reducible assumption) ?_; wtm_at "off27"))
local macro_rules | `(tactic| wtm_at "at28") => `(tactic| first | with_reducible assumption | with_reducible exact upd_same | (with_reducible refine at_new (by assumption) ?_; wtm_at "at27") | (with_reducible refine at_same (by with_reducible assumption) ?_; wtm_at "at27") | (with_reducible apply Off.at; wtm_at "off28"))
local macro_rules | `(tactic| wtm_at "off29") => `(tactic| first | with_reducible assumption | (with_reducible apply Off.mk; wtm_at "pen"; assumption) | (with_reducible refine Off.new (by assumption) _ _ ?_; wtm_at "off28") | (with_reducible refine at_same (by with_reducible assumption) ?_; wtm_at "off28"))
local macro_rules | `(tactic| wtm_at "at29") => `(tactic| first | with_reducible assumption | with_reducible exact upd_same | (with_reducible refine at_new (by assumption) ?_; wtm_at "at28") | (with_reducible refine at_same (by with_reducible assumption) ?_; wtm_at "at28") | (with_reducible apply Off.at; wtm_at "off29"))
local macro_rules | `(tactic| wtm_at "off30") => `(tactic| first | with_reducible assumption | (with_reducible apply Off.mk; wtm_at "pen"; assumption) | (with_reducible refine Off.new (by assumption) _ _ ?_; wtm_at "off29") | (with_reducible refine at_same (by with_reducible assumption) ?_; wtm_at "off29"))
local macro_rules | `(tactic| wtm_at "at30") => `(tactic| first | with_reducible assumption | with_reducible exact upd_same | (with_reducible refine at_new (by assumption) ?_; wtm_at "at29") | (with_reducible refine at_same (by with_reducible assumption) ?_; wtm_at "at29") | (with_reducible apply Off.at; wtm_at "off30"))
local macro_rules | `(tactic| wtm_at "off31") => `(tactic| first | with_reducible assumption | (with_reducible apply Off.mk; wtm_at "pen"; assumption) | (with_reducible refine Off.new (by assumption) _ _ ?_; wtm_at "off30") | (with_reducible refine at_same (by with_reducible assumption) ?_; wtm_at "off30"))
local macro_rules | `(tactic| wtm_at "at31") => `(tactic| first | with_reducible assumption | with_reducible exact upd_same | (with_reducible refine at_new (by assumption) ?_; wtm_at "at30") | (with_reducible refine at_same (by with_reducible assumption) ?_; wtm_at "at30") | (with_reducible apply Off.at; wtm_at "off31"))
local macro_rules | `(tactic| wtm_at "off32") => `(tactic| first | with_reducible assumption | (with_reducible apply Off.mk; wtm_at "pen"; assumption) | (with_reducible refine Off.new (by assumption) _ _ ?_; wtm_at "off31") | (with_reducible refine at_same (by with_reducible assumption) ?_; wtm_at "off31"))
local macro_rules | `(tactic| wtm_at "at32") => `(tactic| first | with_reducible assumption | with_reducible exact upd_same | (with_reducible refine at_new (by assumption) ?_; wtm_at "at31") | (with_reducible refine at_same (by with_reducible assumption) ?_; wtm_at "at31") | (with_reducible apply Off.at; wtm_at "off32"))
local macro_rules | `(tactic| wtm_at "off33") => `(tactic| first | with_reducible assumption | (with_reducible apply Off.mk; wtm_at "pen"; assumption) | (with_reducible refine Off.new (by assumption) _ _ ?_; wtm_at "off32") | (with_reducible refine at_same (by with_reducible assumption) ?_; wtm_at "off32"))
local macro_rules | `(tactic| wtm_at "at33") => `(tactic| first | with_reducible assumption | with_reducible exact upd_same | (with_reducible refine at_new (by assumption) ?_; wtm_at "at32") | (with_reducible refine at_same (by with_reducible assumption) ?_; wtm_at "at32") | (with_reducible apply Off.at; wtm_at "off33"))
local macro_rules | `(tactic| wtm_at "off34") => `(tactic| first | with_reducible assumption | (with_reducible apply Off.mk; wtm_at "pen"; assumption) | (with_reducible refine Off.new (by assumption) _ _ ?_; wtm_at "off33") | (with_reducible refine at_same (by with_reducible assumption) ?_; wtm_at "off33"))
local macro_rules | `(tactic| wtm_at "at34") => `(tactic| first | with_reducible assumption | with_reducible exact upd_same | (with_reducible refine at_new (by assumption) ?_; wtm_at "at33") | (with_reducible refine at_same (by with_reducible assumption) ?_; wtm_at "at33") | (with_reducible apply Off.at; wtm_at "off34"))
local macro_rules | `(tactic| wtm_at "off35") => `(tactic| first | with_reducible assumption | (with_reducible apply Off.mk; wtm_at "pen"; assumption) | (with_reducible refine Off.new (by assumption) _ _ ?_; wtm_at "off34") | (with_reducible refine at_same (by with_reducible assumption) ?_; wtm_at "off34"))
local macro_rules | `(tactic| wtm_at "at35") => `(tactic| first | with_reducible assumption | with_reducible exact upd_same | (with_reducible refine at_new (by assumption) ?_; wtm_at "at34") | (with_reducible refine at_same (by with_reducible assumption) ?_; wtm_at "at34") | (with_reducible apply Off.at; wtm_at "off35"))
local macro_rules | `(tactic| wtm_at "off36") => `(tactic| first | with_reducible assumption | (with_reducible apply Off.mk; wtm_at "pen"; assumption) | (with_reducible refine Off.new (by assumption) _ _ ?_; wtm_at "off35") | (with_reducible refine at_same (by with_reducible assumption) ?_; wtm_at "off35"))
local macro_rules | `(tactic| wtm_at "at36") => `(tactic| first | with_reducible assumption | with_reducible exact upd_same | (with_reducible refine at_new (by assumption) ?_; wtm_at "at35") | (with_reducible refine at_same (by with_reducible assumption) ?_; wtm_at "at35") | (with_reducible apply Off.at; wtm_at "off36"))
local macro_rules | `(tactic| wtm_at "off37") => `(tactic| first | with_reducible assumption | (with_reducible apply Off.mk; wtm_at "pen"; assumption) | (with_reducible refine Off.new (by assumption) _ _ ?_; wtm_at "off36") | (with_reducible refine at_same (by with_reducible assumption) ?_; wtm_at "off36"))
local macro_rules | `(tactic| wtm_at "at37") => `(tactic| first | with_reducible assumption | with_reducible exact upd_same | (with_reducible refine at_new (by assumption) ?_; wtm_at "at36") | (with_reducible refine at_same (by with_reducible assumption) ?_; wtm_at "at36") | (with_reducible apply Off.at; wtm_at "off37"))
local macro_rules | `(tactic| wtm_at "off38") => `(tactic| first | with_reducible assumption | (with_reducible apply Off.mk; wtm_at "pen"; assumption) | (with_reducible refine Off.new (by assumption) _ _ ?_; wtm_at "off37") | (with_reducible refine at_same (by with_reducible assumption) ?_; wtm_at "off37"))
local macro_rules | `(tactic| wtm_at "at38") => `(tactic| first | with_reducible assumption | with_reducible exact upd_same | (with_reducible refine at_new (by assumption) ?_; wtm_at "at37") | (with_reducible refine at_same (by with_reducible assumption) ?_; wtm_at "at37") | (with_reducible apply Off.at; wtm_at "off38"))
local macro_rules | `(tactic| wtm_at "off39") => `(tactic| first | with_reducible assumption | (with_reducible apply Off.mk; wtm_at "pen"; assumption) | (with_reducible refine Off.new (by assumption) _ _ ?_; wtm_at "off38") | (with_reducible refine at_same (by with_reducible assumption) ?_; wtm_at "off38"))
local macro_rules | `(tactic| wtm_at "at39") => `(tactic| first | with_reducible assumption | with_reducible exact upd_same | (with_reducible refine at_new (by assumption) ?_; wtm_at "at38") | (with_reducible refine at_same (by with_reducible assumption) ?_; wtm_at "at38") | (with_reducible apply Off.at; wtm_at "off39"))
local macro_rules | `(tactic| wtm_at "at") => `(tactic| wtm_at "at39")
local macro_rules | `(tactic| wtm_at "off") => `(tactic| wtm_at "off39")
local macro_rules | `(tactic| wtm_at "pen") => `(tactic| first
  | assumption | (refine Pen.new (by assumption) ?_; wtm_at "pen") | (refine Pen.same (by assumption) ?_; wtm_at "pen"))
local macro_rules | `(tactic| wtm_at "same") => `(tactic| first
  | exact fun _ _ h => h | assumption | exact same_new (by assumption) | (refine same_trans ?_ (same_new (by assumption)); wtm_at "same") | (refine same_trans ?_ (by assumption); wtm_at "same")
  | (refine same_trans ?_ (Off.new (by assumption)); wtm_at "same") | (refine same_trans ?_ (Off.same (by assumption)); wtm_at "same"))
local macro_rules | `(tactic| wtm_at "dps") => `(tactic| first
  | exact .nil | (apply DpAll.cons; wtm_at "dp"; wtm_at "dps") | exact dpAll_ints _)
local macro_rules | `(tactic| wtm_at "dp") => `(tactic| first
  | exact .non | exact .bl _ | exact .int _ | exact .str _ | (fail) | (apply Dp.lst; (apply SqL.of; wtm_at "at"); wtm_at "dps") | (apply Dp.tup; (apply SqT.of; wtm_at "at"); wtm_at "dps"))
local macro_rules | `(tactic| wtm_at "side") => `(tactic| first
  | exact ⟨by decide, by decide⟩ | exact ⟨by decide, by decide, by decide⟩ | exact .inl ⟨by decide, by decide⟩ | exact .inr ⟨by decide, by decide⟩ | (show ¬ _ = _; decide))
local macro_rules | `(tactic| wtm_at "sml") => `(tactic| first
  | exact sml_none (by decide) | exact sml_bool (by decide) | exact sml_int (by decide) (by omega) | (fail) | exact sml_list (n := 19) (k := 0) (by wtm_at "smls") (by decide) (by decide))
local macro_rules | `(tactic| wtm_at "smls") => `(tactic| first | exact smlAll_nil (m := 0) | (apply smlAll_cons; wtm_at "sml"; wtm_at "smls"))
local macro_rules | `(tactic| wtm_at "shw") => `(tactic| exact Sml.shw (n := 10000) (k := 50) (by wtm_at "sml") (by decide) (by decide))
local macro_rules | `(tactic| wtm_at "rd") => `(tactic| first
  | refine ⟨_, rfl, ?_⟩ | refine ⟨_, _, rfl, rfl, ?_⟩ | refine ifT rfl ?_ | refine ifF rfl ?_ | refine ⟨rfl, ?_⟩
  | refine ⟨_, _, by rfl, by wtm_at "dp", by wtm_at "shw", ?_⟩
  | refine ⟨_, _, _, _, _, rfl, by wtm_at "at", by wtm_at "cls", by wtm_at "na", by rfl, ?_⟩
  | refine ⟨_, _, rfl, .inr (SqT.of (by wtm_at "at")), ?_⟩ | refine ⟨_, _, rfl, .inl (SqL.of (by wtm_at "at")), ?_⟩
  | refine ⟨_, _, rfl, .inr (SqT.of (by wtm_at "at")), by rfl, by rfl, ?_⟩ | refine ⟨_, _, rfl, .inl (SqL.of (by wtm_at "at")), by rfl, by rfl, ?_⟩
  | refine ⟨_, _, _, _, rfl, rfl, SqT.of (by wtm_at "at"), by rfl, ?_⟩ | refine ⟨_, _, _, _, rfl, rfl, SqL.of (by wtm_at "at"), by rfl, ?_⟩
  | refine ⟨_, _, rfl, rfl, by wtm_at "side", ?_⟩
  | refine ⟨_, _, by wtm_at "dp", by wtm_at "dp", by rfl, by rfl, ?_⟩
  | refine ⟨_, _, [_, _], [_, _], rfl, rfl, sqI2 (by wtm_at "at"), sqI2 (by wtm_at "at"), ?_⟩
  | refine ⟨_, _, rfl, ?_⟩
  | refine ⟨Nat.le_of_ble_eq_true rfl, fun _ _ => ?_⟩
  | refine ifF (nd_refl _) ?_ | refine ifT (de_refl _) ?_)
local macro_rules | `(tactic| wtm_at "cls") => `(tactic| first | exact cls_Agent _)
local macro_rules | `(tactic| wtm_at "na") => `(tactic| first | exact na_Agent_name _ | exact na_Agent_steps _ | exact na_Agent_shape _)

theorem pen_cut (ns : List Int) : ∃ ms : List Int, cutV (ns.map V.int) none (some 63) = ms.map V.int ∧ ms.length ≤ 63 := by
  refine ⟨ns.take (HT.sIx ns.length ns.length (some 63)), ?_, ?_⟩
  · unfold cutV
    rw [List.length_map, HT.sIx_none, List.drop_zero, Nat.sub_zero, List.map_take]
  · rw [List.length_take]
    have : HT.sIx ns.length ns.length (some 63) = min 63 ns.length := HT.sIx_nat _ _ 63
    omega
def spPen (K : PySem.W.Frag) : Sp := fun vs H Q _ => ∃ (a : Addr) (ns : List Int), vs = [.ref a] ∧ SqL K H a (ns.map V.int) ∧ ∀ p c H', Same H H' → Pen H' p c 0 → Q (.ref p) H'
/-- a word or no text -/
def Wd (K : PySem.W.Frag) (H : Hp) (v : V) : Prop := (∃ x, v = .str x) ∨ NoStr K H v
theorem Wd.same {K : PySem.W.Frag} {H H' : Hp} {v : V} (s : Same H H') (h : Wd K H v) : Wd K H' v := h.imp id fun n => n.same s
def spThing (K : PySem.W.Frag) : Sp := fun vs H Q _ => ∃ p c m, vs = [.ref p] ∧ Pen H p c m ∧ m ≤ 99000 ∧ ∀ v H', Wd K H' v → Same (Off p H) (Off p H') → Pen H' p c (m + 1) → Q v H'
theorem ns_non {K : PySem.W.Frag} {H : Hp} : Wd K H .non := .inr ⟨_, .base .non, kit_ty (r := false) (by decide +kernel)⟩
theorem ns_bl {K : PySem.W.Frag} {H : Hp} (b : Bool) : Wd K H (.bl b) := .inr ⟨_, .base (.bl b), kit_ty (r := false) (by decide +kernel)⟩
theorem ns_int {K : PySem.W.Frag} {H : Hp} (i : Int) : Wd K H (.int i) := .inr ⟨_, .base (.int i), kit_ty (r := false) (by decide +kernel)⟩
theorem ns_str {K : PySem.W.Frag} {H : Hp} (x : Str) : Wd K H (.str x) := .inl ⟨x, rfl⟩
theorem ns_lst {K : PySem.W.Frag} {H : Hp} {a : Addr} {xs : List V} (e : H a = some (.lst xs)) : Wd K H (.ref a) := .inr ⟨_, .base (.lst e), kit_ty (r := false) (by decide +kernel)⟩
theorem ns_tup {K : PySem.W.Frag} {H : Hp} {a : Addr} {xs : List V} (e : H a = some (.tup xs)) : Wd K H (.ref a) := .inr ⟨_, .base (.tup e), kit_ty (r := false) (by decide +kernel)⟩
theorem ns_dk {K : PySem.W.Frag} {H : Hp} {a : Addr} {xs : List (Key × V)} (e : H a = some (.dK xs)) : Wd K H (.ref a) := .inr ⟨_, .base (.dK e), kit_ty (r := false) (by decide +kernel)⟩
section
variable {mg : PySem.Str → Option Value} {base : Heap} {w : World}
theorem ok__law_pen (M : Mod (hd05.heap_39 w.params) mg base) : CallG PP w (hd05.heap_39 w.params) mg base 1 (.ref 256) (pos (spPen (hd05.heap_39 w.params))) := by
  obtain ⟨fd, F⟩ := fn__law_pen w
  refine def_pos F sc__law_pen (fun vs H Q E h => ?_) (fun _ _ _ _ _ _ us hl => match us, hl with | [_], _ => rfl) (fun cdv A outer s H vs Q E hr hg h => ?_)
  · obtain ⟨a, ns, rfl, _⟩ := h; rfl
  have nd := sc__law_pen.nd
  obtain ⟨a, ns, rfl, ha, q⟩ := h
  refine ⟨_, (pss_one (ps_ret (pe_lst (pa_cons (pe_callTy call_list_of (by rfl) (mn_list M) (by decide +kernel) (pa_cons (pe_slice sl_list (pv 0) po_none (po_some pe_int)) pa_nil)) (pa_cons pe_int (pa_cons pe_int pa_nil)))))), ?_⟩
  repeat wtm_at "rd"
  refine ⟨a, _, rfl, ha, fun p hp => ⟨p, _, rfl, .inl (SqL.of upd_same), fun l hl => ⟨Nat.le_of_ble_eq_true rfl, fun z hz => ?_⟩⟩⟩
  obtain ⟨ms, em, lm⟩ := pen_cut ns
  refine q z l _ (by wtm_at "same") ⟨0, 0, ms, upd_same, ?_, lm, Int.le_refl _, Int.le_refl _⟩
  rw [← em]
  wtm_at "at"
theorem ok__law_thing (M : Mod (hd05.heap_39 w.params) mg base) : CallG PP w (hd05.heap_39 w.params) mg base 2 (.ref 270) (pos (spThing (hd05.heap_39 w.params))) := by
  obtain ⟨fd, F⟩ := fn__law_thing w
  refine def_pos F sc__law_thing (fun vs H Q E h => ?_) (fun _ _ _ _ _ _ us hl => match us, hl with | [_], _ => rfl) (fun cdv A outer s H vs Q E hr hg h => ?_)
  · obtain ⟨p, c, m, rfl, _⟩ := h; rfl
  have nd := sc__law_thing.nd
  obtain ⟨p, c, m, rfl, P, hm, q⟩ := h
  refine ⟨_, (pss_cons (ps_set (i := 1) nd rfl (.inl rfl) (pe_lst (pa_cons pe_non (pa_cons pe_bl (pa_cons pe_bl (pa_cons (pe_un un_neg pe_int) (pa_cons pe_int (pa_cons pe_int (pa_cons pe_int (pa_cons pe_int (pa_cons pe_int (pa_cons pe_int (pa_cons pe_int (pa_cons pe_int (pa_cons pe_int (pa_cons pe_int (pa_cons pe_int (pa_cons pe_int (pa_cons (pe_op op_pow pe_int pe_int) (pa_cons pe_str (pa_cons pe_str (pa_cons pe_str pa_nil))))))))))))))))))))))
      (pss_cons (ps_set (i := 1) nd rfl (.inl rfl) (pe_op op_cat (pv 1) (pe_lst (pa_cons pe_str (pa_cons pe_str (pa_cons pe_str (pa_cons pe_str (pa_cons pe_str (pa_cons pe_str (pa_cons pe_str (pa_cons pe_str (pa_cons (pe_tup pa_nil) (pa_cons (pe_lst pa_nil) (pa_cons pe_dnewK pa_nil))))))))))))))
      (pss_cons (ps_set (i := 1) nd rfl (.inl rfl) (pe_op op_cat (pv 1) (pe_lst (pa_cons (pe_tup (pa_cons pe_str pa_nil)) (pa_cons (pe_lst (pa_cons pe_int pa_nil)) (pa_cons (pe_disp (pps_cons pe_str pe_int pps_nil) rfl rfl (by simp) (by decide)) (pa_cons (pe_tup (pa_cons pe_int (pa_cons pe_int pa_nil))) pa_nil)))))))
      (pss_one (ps_ret (pe_ix ix_list (pv 1) (pe_cl (takes_of rfl rfl rfl rfl) (ok_drawP M) (hr.mono (by decide)) hg rfl (mg__law_draw M) (kp__law_draw w) (pa_cons (pv 0) (pa_cons (pe_callB call_len_seq (by rfl) (mn_len M) (by decide +kernel) (pa_cons (pv 1) pa_nil)) pa_nil))) (fun _ _ => rfl))))))), ?_⟩
  repeat wtm_at "rd"
  refine ⟨⟨by decide, by decide, by decide⟩, ?_⟩
  refine ⟨Nat.le_of_ble_eq_true rfl, fun z1 hz1 => ?_⟩
  wtm_at "rd"
  refine ⟨Nat.le_of_ble_eq_true rfl, fun t1 ht1 => ⟨Nat.le_of_ble_eq_true rfl, fun l1 hl1 => fun d1 hd1 => ?_⟩⟩
  refine ⟨Nat.le_of_ble_eq_true rfl, fun z2 hz2 => ?_⟩
  refine ⟨z1, z2, _, _, rfl, rfl, by wtm_at "at", upd_same, Nat.le_of_ble_eq_true rfl, fun z3 hz3 => ?_⟩
  wtm_at "rd"
  refine ⟨Nat.le_of_ble_eq_true rfl, fun t2 ht2 => ⟨Nat.le_of_ble_eq_true rfl, fun l2 hl2 => fun d2 hd2 => ?_⟩⟩
  refine ⟨upd_same, [(.inr "a", .int 0)], rfl, by decide, ?_⟩
  rw [upd_upd]
  refine ⟨Nat.le_of_ble_eq_true rfl, fun t3 ht3 => ?_⟩
  refine ⟨Nat.le_of_ble_eq_true rfl, fun z4 hz4 => ?_⟩
  refine ⟨z3, z4, _, _, rfl, rfl, by wtm_at "at", upd_same, Nat.le_of_ble_eq_true rfl, fun z5 hz5 => ?_⟩
  refine ⟨_, rfl, ?_⟩
  refine ⟨_, rfl, _, rfl, z5, _, rfl, .inl (SqL.of upd_same), ?_⟩
  refine ⟨rfl, p, c, m, _, rfl, ((((((((((((P.new hz1).new ht1).new hl1).new hd1).new hz2).new hz3).new ht2).new hl2).new hd2).new ht3).new hz4).new hz5), by omega, (show (1 : Int) ≤ ((35 : Nat) : Int) by decide), (show ((35 : Nat) : Int) ≤ 100000 by decide), fun d H' d0 dd s1 P2 => ?_⟩
  have f_t1 : H' t1 = some (.tup []) := Uk.Off.at (s1 _ _ (Uk.Off.of (by wtm_at "at") ((P.new hz1).ne ht1)))
  have f_l1 : H' l1 = some (.lst []) := Uk.Off.at (s1 _ _ (Uk.Off.of (by wtm_at "at") (((P.new hz1).new ht1).ne hl1)))
  have f_d1 : H' d1 = some (.dK []) := Uk.Off.at (s1 _ _ (Uk.Off.of (by wtm_at "at") ((((P.new hz1).new ht1).new hl1).ne hd1)))
  have f_t2 : H' t2 = some (.tup [.str "a"]) := Uk.Off.at (s1 _ _ (Uk.Off.of (by wtm_at "at") (((((((P.new hz1).new ht1).new hl1).new hd1).new hz2).new hz3).ne ht2)))
  have f_l2 : H' l2 = some (.lst [.int 0]) := Uk.Off.at (s1 _ _ (Uk.Off.of (by wtm_at "at") ((((((((P.new hz1).new ht1).new hl1).new hd1).new hz2).new hz3).new ht2).ne hl2)))
  have f_d2 : H' d2 = some (.dK (mergeK [] [(.inr "a", .int 0)])) := Uk.Off.at (s1 _ _ (Uk.Off.of (by wtm_at "at") (((((((((P.new hz1).new ht1).new hl1).new hd1).new hz2).new hz3).new ht2).new hl2).ne hd2)))
  have f_t3 : H' t3 = some (.tup [.int 0, .int 0]) := Uk.Off.at (s1 _ _ (Uk.Off.of (by wtm_at "at") ((((((((((P.new hz1).new ht1).new hl1).new hd1).new hz2).new hz3).new ht2).new hl2).new hd2).ne ht3)))
  have f_z5 := Uk.Off.at (s1 _ _ (Uk.Off.of upd_same ((((((((((((P.new hz1).new ht1).new hl1).new hd1).new hz2).new hz3).new ht2).new hl2).new hd2).new ht3).new hz4).ne hz5)))
  have all : ∀ v ∈ ([V.non, V.bl true, V.bl false, V.int (-1), V.int 0, V.int 1, V.int 3, V.int 4, V.int 5, V.int 8, V.int 9, V.int 16, V.int 17, V.int 1016, V.int 1023, V.int 1024, V.int ((10 : Int) ^ Int.toNat 60), V.str "", V.str "a", V.str "A"] ++ [V.str "ab cd", V.str "a\n", V.str "abcdefgh", V.str "abcdefghi", V.str "a1", V.str "read", V.str "clean", V.str "wait", V.ref t1, V.ref l1, V.ref d1] ++ [V.ref t2, V.ref l2, V.ref d2, V.ref t3]), Wd (hd05.heap_39 w.params) H' v := by
    intro v hv
    simp only [List.cons_append, List.nil_append, List.mem_cons, List.not_mem_nil, or_false] at hv
    rcases hv with rfl | rfl | rfl | rfl | rfl | rfl | rfl | rfl | rfl | rfl | rfl | rfl | rfl | rfl | rfl | rfl | rfl | rfl | rfl | rfl | rfl | rfl | rfl | rfl | rfl | rfl | rfl | rfl | rfl | rfl | rfl | rfl | rfl | rfl | rfl
    all_goals first | exact ns_non | exact ns_bl _ | exact ns_int _ | exact ns_str _ | exact ns_tup (by assumption) | exact ns_lst (by assumption) | exact ns_dk (by assumption)
  obtain ⟨v, hv, hmv⟩ := atI_mem d0 dd
  refine ⟨z5, _, d, v, rfl, rfl, SqL.of f_z5, hv, q v H' (all v hmv) (same_trans (Uk.Off.same (by wtm_at "same")) s1) P2⟩
end
end M05

namespace M05
open PySem PySem.Spec PyProof.Rows L2 StX Uk

local macro_rules | `(tactic| wtm_at "off0") => `(tactic| first | with_reducible assumption | (with_reducible apply Off.mk; wtm_at "pen"; assumption))
local macro_rules | `(tactic| wtm_at "at0") => `(tactic| first | with_reducible assumption | with_reducible exact upd_same | (with_reducible apply Off.at; wtm_at "off0"))
local macro_rules | `(tactic| wtm_at "off1") => `(tactic| first | with_reducible assumption | (with_reducible apply Off.mk; wtm_at "pen"; assumption) | (with_reducible refine Off.new (by assumption) _ _ ?_; wtm_at "off0") | (with_reducible refine at_same (by with_reducible assumption) ?_; wtm_at "off0"))
local macro_rules | `(tactic| wtm_at "at1") => `(tactic| first | with_reducible assumption | with_reducible exact upd_same | (with_reducible refine at_new (by assumption) ?_; wtm_at "at0") | (with_reducible refine at_same (by with_reducible assumption) ?_; wtm_at "at0") | (with_reducible apply Off.at; wtm_at "off1"))
local macro_rules | `(tactic| wtm_at "off2") => `(tactic| first | with_reducible assumption | (with_reducible apply Off.mk; wtm_at "pen"; assumption) | (with_reducible refine Off.new (by assumption) _ _ ?_; wtm_at "off1") | (with_reducible refine at_same (by with_reducible assumption) ?_; wtm_at "off1"))
local macro_rules | `(tactic| wtm_at "at2") => `(tactic| first | with_reducible assumption | with_reducible exact upd_same | (with_reducible refine at_new (by assumption) ?_; wtm_at "at1") | (with_reducible refine at_same (by with_reducible assumption) ?_; wtm_at "at1") | (with_reducible apply Off.at; wtm_at "off2"))
local macro_rules | `(tactic| wtm_at "off3") => `(tactic| first | with_reducible assumption | (with_reducible apply Off.mk; wtm_at "pen"; assumption) | (with_reducible refine Off.new (by assumption) _ _ ?_; wtm_at "off2") | (with_reducible refine at_same (by with_reducible assumption) ?_; wtm_at "off2"))
local macro_rules | `(tactic| wtm_at "at3") => `(tactic| first | with_reducible assumption | with_reducible exact upd_same | (with_reducible refine at_new (by assumption) ?_; wtm_at "at2") | (with_reducible refine at_same (by with_reducible assumption) ?_; wtm_at "at2") | (with_reducible apply Off.at; wtm_at "off3"))
local macro_rules | `(tactic| wtm_at "off4") => `(tactic| first | with_reducible assumption | (with_reducible apply Off.mk; wtm_at "pen"; assumption) | (with_reducible refine Off.new (by assumption) _ _ ?_; wtm_at "off3") | (with_reducible refine at_same (by with_reducible assumption) ?_; wtm_at "off3"))
local macro_rules | `(tactic| wtm_at "at4") => `(tactic| first | with_reducible assumption | with_reducible exact upd_same | (with_reducible refine at_new (by assumption) ?_; wtm_at "at3") | (with_reducible refine at_same (by with_reducible assumption) ?_; wtm_at "at3") | (with_reducible apply Off.at; wtm_at "off4"))
local macro_rules | `(tactic| wtm_at "off5") => `(tactic| first | with_reducible assumption | (with_reducible apply Off.mk; wtm_at "pen"; assumption) | (with_reducible refine Off.new (by assumption) _ _ ?_; wtm_at "off4") | (with_reducible refine at_same (by with_reducible assumption) ?_; wtm_at "off4"))
local macro_rules | `(tactic| wtm_at "at5") => `(tactic| first | with_reducible assumption | with_reducible exact upd_same | (with_reducible refine at_new (by assumption) ?_; wtm_at "at4") | (with_reducible refine at_same (by with_reducible assumption) ?_; wtm_at "at4") | (with_reducible apply Off.at; wtm_at "off5"))
local macro_rules | `(tactic| wtm_at "off6") => `(tactic| first | with_reducible assumption | (with_reducible apply Off.mk; wtm_at "pen"; assumption) | (with_reducible refine Off.new (by assumption) _ _ ?_; wtm_at "off5") | (with_reducible refine at_same (by with_reducible assumption) ?_; wtm_at "off5"))
local macro_rules | `(tactic| wtm_at "at6") => `(tactic| first | with_reducible assumption | with_reducible exact upd_same | (with_reducible refine at_new (by assumption) ?_; wtm_at "at5") | (with_reducible refine at_same (by with_reducible assumption) ?_; wtm_at "at5") | (with_reducible apply Off.at; wtm_at "off6"))
local macro_rules | `(tactic| wtm_at "off7") => `(tactic| first | with_reducible assumption | (with_reducible apply Off.mk; wtm_at "pen"; assumption) | (with_reducible refine Off.new (by assumption) _ _ ?_; wtm_at "off6") | (with_reducible refine at_same (by with_reducible assumption) ?_; wtm_at "off6"))
local macro_rules | `(tactic| wtm_at "at7") => `(tactic| first | with_reducible assumption | with_reducible exact upd_same | (with_reducible refine at_new (by assumption) ?_; wtm_at "at6") | (with_reducible refine at_same (by with_reducible assumption) ?_; wtm_at "at6") | (with_reducible apply Off.at; wtm_at "off7"))
local macro_rules | `(tactic| wtm_at "off8") => `(tactic| first | with_reducible assumption | (with_reducible apply Off.mk; wtm_at "pen"; assumption) | (with_reducible refine Off.new (by assumption) _ _ ?_; wtm_at "off7") | (with_reducible refine at_same (by with_reducible assumption) ?_; wtm_at "off7"))
local macro_rules | `(tactic| wtm_at "at8") => `(tactic| first | with_reducible assumption | with_reducible exact upd_same | (with_reducible refine at_new (by assumption) ?_; wtm_at "at7") | (with_reducible refine at_same (by with_reducible assumption) ?_; wtm_at "at7") | (with_reducible apply Off.at; wtm_at "off8"))
local macro_rules | `(tactic| wtm_at "off9") => `(tactic| first | with_reducible assumption | (with_reducible apply Off.mk; wtm_at "pen"; assumption) | (with_reducible refine Off.new (by assumption) _ _ ?_; wtm_at "off8") | (with_reducible refine at_same (by with_reducible assumption) ?_; wtm_at "off8"))
local macro_rules | `(tactic| wtm_at "at9") => `(tactic| first | with_reducible assumption | with_reducible exact upd_same | (with_reducible refine at_new (by assumption) ?_; wtm_at "at8") | (with_reducible refine at_same (by with_reducible assumption) ?_; wtm_at "at8") | (with_reducible apply Off.at; wtm_at "off9"))
local macro_rules | `(tactic| wtm_at "off10") => `(tactic| first | with_reducible assumption | (with_reducible apply Off.mk; wtm_at "pen"; assumption) | (with_reducible refine Off.new (by assumption) _ _ ?_; wtm_at "off9") | (with_reducible refine at_same (by with_reducible assumption) ?_; wtm_at "off9"))
local macro_rules | `(tactic| wtm_at "at10") => `(tactic| first | with_reducible assumption | with_reducible exact upd_same | (with_reducible refine at_new (by assumption) ?_; wtm_at "at9") | (with_reducible refine at_same (by with_reducible assumption) ?_; wtm_at "at9") | (with_reducible apply Off.at; wtm_at "off10"))
local macro_rules | `(tactic| wtm_at "off11") => `(tactic| first | with_reducible assumption | (with_reducible apply Off.mk; wtm_at "pen"; assumption) | (with_reducible refine Off.new (by assumption) _ _ ?_; wtm_at "off10") | (with_reducible refine at_same (by with_reducible assumption) ?_; wtm_at "off10"))
local macro_rules | `(tactic| wtm_at "at11") => `(tactic| first | with_reducible assumption | with_reducible exact upd_same | (with_reducible refine at_new (by assumption) ?_; wtm_at "at10") | (with_reducible refine at_same (by with_reducible assumption) ?_; wtm_at "at10") | (with_reducible apply Off.at; wtm_at "off11"))
local macro_rules | `(tactic| wtm_at "off12") => `(tactic| first | with_reducible assumption | (with_reducible apply Off.mk; wtm_at "pen"; assumption) | (with_reducible refine Off.new (by assumption) _ _ ?_; wtm_at "off11") | (with_reducible refine at_same (by with_reducible assumption) ?_; wtm_at "off11"))
local macro_rules | `(tactic| wtm_at "at12") => `(tactic| first | with_reducible assumption | with_reducible exact upd_same | (with_reducible refine at_new (by assumption) ?_; wtm_at "at11") | (with_reducible refine at_same (by with_reducible assumption) ?_; wtm_at "at11") | (with_reducible apply Off.at; wtm_at "off12"))
local macro_rules | `(tactic| wtm_at "off13") => `(tactic| first | with_reducible assumption | (with_reducible apply Off.mk; wtm_at "pen"; assumption) | (with_reducible refine Off.new (by assumption) _ _ ?_; wtm_at "off12") | (with_reducible refine at_same (by with_reducible assumption) ?_; wtm_at "off12"))
local macro_rules | `(tactic| wtm_at "at13") => `(tactic| first | with_reducible assumption | with_reducible exact upd_same | (with_reducible refine at_new (by assumption) ?_; wtm_at "at12") | (with_reducible refine at_same (by with_reducible assumption) ?_; wtm_at "at12") | (with_reducible apply Off.at; wtm_at "off13"))
local macro_rules | `(tactic| wtm_at "off14") => `(tactic| first | with_reducible assumption | (with_reducible apply Off.mk; wtm_at "pen"; assumption) | (with_reducible refine Off.new (by assumption) _ _ ?_; wtm_at "off13") | (with_reducible refine at_same (by with_reducible assumption) ?_; wtm_at "off13"))
local macro_rules | `(tactic| wtm_at "at14") => `(tactic| first | with_reducible assumption | with_reducible exact upd_same | (with_reducible refine at_new (by assumption) ?_; wtm_at "at13") | (with_reducible refine at_same (by with_reducible assumption) ?_; wtm_at "at13") | (with_reducible apply Off.at; wtm_at "off14"))
local macro_rules | `(tactic| wtm_at "off15") => `(tactic| first | with_reducible assumption | (with_reducible apply Off.mk; wtm_at "pen"; assumption) | (with_reducible refine Off.new (by assumption) _ _ ?_; wtm_at "off14") | (with_reducible refine at_same (by with_reducible assumption) ?_; wtm_at "off14"))
local macro_rules | `(tactic| wtm_at "at15") => `(tactic| first | with_reducible assumption | with_reducible exact upd_same | (with_reducible refine at_new (by assumption) ?_; wtm_at "at14") | (with_reducible refine at_same (by with_reducible assumption) ?_; wtm_at "at14") | (with_reducible apply Off.at; wtm_at "off15"))
local macro_rules | `(tactic| wtm_at "off16") => `(tactic| first | with_reducible assumption | (with_reducible apply Off.mk; wtm_at "pen"; assumption) | (with_reducible refine Off.new (by assumption) _ _ ?_; wtm_at "off15") | (with_reducible refine at_same (by with_reducible assumption) ?_; wtm_at "off15"))
local macro_rules | `(tactic| wtm_at "at16") => `(tactic| first | with_reducible assumption | with_reducible exact upd_same | (with_reducible refine at_new (by assumption) ?_; wtm_at "at15") | (with_reducible refine at_same (by with_reducible assumption) ?_; wtm_at "at15") | (with_reducible apply Off.at; wtm_at "off16"))
local macro_rules | `(tactic| wtm_at "off17") => `(tactic| first | with_reducible assumption | (with_reducible apply Off.mk; wtm_at "pen"; assumption) | (with_reducible refine Off.new (by assumption) _ _ ?_; wtm_at "off16") | (with_reducible refine at_same (by with_reducible assumption) ?_; wtm_at "off16"))
local macro_rules | `(tactic| wtm_at "at17") => `(tactic| first | with_reducible assumption | with_reducible exact upd_same | (with_reducible refine at_new (by assumption) ?_; wtm_at "at16") | (with_reducible refine at_same (by with_reducible assumption) ?_; wtm_at "at16") | (with_reducible apply Off.at; wtm_at "off17"))
local macro_rules | `(tactic| wtm_at "off18") => `(tactic| first | with_reducible assumption | (with_reducible apply Off.mk; wtm_at "pen"; assumption) | (with_reducible refine Off.new (by assumption) _ _ ?_; wtm_at "off17") | (with_reducible refine at_same (by with_reducible assumption) ?_; wtm_at "off17"))
local macro_rules | `(tactic| wtm_at "at18") => `(tactic| first | with_reducible assumption | with_reducible exact upd_same | (with_reducible refine at_new (by assumption) ?_; wtm_at "at17") | (with_reducible refine at_same (by with_reducible assumption) ?_; wtm_at "at17") | (with_reducible apply Off.at; wtm_at "off18"))
local macro_rules | `(tactic| wtm_at "off19") => `(tactic| first | with_reducible assumption | (with_reducible apply Off.mk; wtm_at "pen"; assumption) | (with_reducible refine Off.new (by assumption) _ _ ?_; wtm_at "off18") | (with_reducible refine at_same (by with_reducible assumption) ?_; wtm_at "off18"))
local macro_rules | `(tactic| wtm_at "at19") => `(tactic| first | with_reducible assumption | with_reducible exact upd_same | (with_reducible refine at_new (by assumption) ?_; wtm_at "at18") | (with_reducible refine at_same (by with_reducible assumption) ?_; wtm_at "at18") | (with_reducible apply Off.at; wtm_at "off19"))
local macro_rules | `(tactic| wtm_at "off20") => `(tactic| first | with_reducible assumption | (with_reducible apply Off.mk; wtm_at "pen"; assumption) | (with_reducible refine Off.new (by assumption) _ _ ?_; wtm_at "off19") | (with_reducible refine at_same (by with_reducible assumption) ?_; wtm_at "off19"))
local macro_rules | `(tactic| wtm_at "at20") => `(tactic| first | with_reducible assumption | with_reducible exact upd_same | (with_reducible refine at_new (by assumption) ?_; wtm_at "at19") | (with_reducible refine at_same (by with_reducible assumption) ?_; wtm_at "at19") | (with_reducible apply Off.at; wtm_at "off20"))
local macro_rules | `(tactic| wtm_at "off21") => `(tactic| first | with_reducible assumption | (with_reducible apply Off.mk; wtm_at "pen"; assumption) | (with_reducible refine Off.new (by assumption) _ _ ?_; wtm_at "off20") | (with_reducible refine at_same (by with_reducible assumption) ?_; wtm_at "off20"))
local macro_rules | `(tactic| wtm_at "at21") => `(tactic| first | with_reducible assumption | with_reducible exact upd_same | (with_reducible refine at_new (by assumption) ?_; wtm_at "at20") | (with_reducible refine at_same (by with_reducible assumption) ?_; wtm_at "at20") | (with_reducible apply Off.at; wtm_at "off21"))
local macro_rules | `(tactic| wtm_at "off22") => `(tactic| first | with_reducible assumption | (with_reducible apply Off.mk; wtm_at "pen"; assumption) | (with_reducible refine Off.new (by assumption) _ _ ?_; wtm_at "off21") | (with_reducible refine at_same (by with_reducible assumption) ?_; wtm_at "off21"))
local macro_rules | `(tactic| wtm_at "at22") => `(tactic| first | with_reducible assumption | with_reducible exact upd_same | (with_reducible refine at_new (by assumption) ?_; wtm_at "at21") | (with_reducible refine at_same (by with_reducible assumption) ?_; wtm_at "at21") | (with_reducible apply Off.at; wtm_at "off22"))
local macro_rules | `(tactic| wtm_at "off23") => `(tactic| first | with_reducible assumption | (with_reducible apply Off.mk; wtm_at "pen"; assumption) | (with_reducible refine Off.new (by assumption) _ _ ?_; wtm_at "off22") | (with_reducible refine at_same (by with_reducible assumption) ?_; wtm_at "off22"))
local macro_rules | `(tactic| wtm_at "at23") => `(tactic| first | with_reducible assumption | with_reducible exact upd_same | (with_reducible refine at_new (by assumption) ?_; wtm_at "at22") | (with_reducible refine at_same (by with_reducible assumption) ?_; wtm_at "at22") | (with_reducible apply Off.at; wtm_at "off23"))
local macro_rules | `(tactic| wtm_at "off24") => `(tactic| first | with_reducible assumption | (with_reducible apply Off.mk; wtm_at "pen"; assumption) | (with_reducible refine Off.new (by assumption) _ _ ?_; wtm_at "off23") | (with_reducible refine at_same (by with_reducible assumption) ?_; wtm_at "off23"))
local macro_rules | `(tactic| wtm_at "at24") => `(tactic| first | with_reducible assumption | with_reducible exact upd_same | (with_reducible refine at_new (by assumption) ?_; wtm_at "at23") | (with_reducible refine at_same (by with_reducible assumption) ?_; wtm_at "at23") | (with_reducible apply Off.at; wtm_at "off24"))
local macro_rules | `(tactic| wtm_at "off25") => `(tactic| first | with_reducible assumption | (with_reducible apply Off.mk; wtm_at "pen"; assumption) | (with_reducible refine Off.new (by assumption) _ _ ?_; wtm_at "off24") | (with_reducible refine at_same (by with_reducible assumption) ?_; wtm_at "off24"))
local macro_rules | `(tactic| wtm_at "at25") => `(tactic| first | with_reducible assumption | with_reducible exact upd_same | (with_reducible refine at_new (by assumption) ?_; wtm_at "at24") | (with_reducible refine at_same (by with_reducible assumption) ?_; wtm_at "at24") | (with_reducible apply Off.at; wtm_at "off25"))
local macro_rules | `(tactic| wtm_at "off26") => `(tactic| first | with_reducible assumption | (with_reducible apply Off.mk; wtm_at "pen"; assumption) | (with_reducible refine Off.new (by assumption) _ _ ?_; wtm_at "off25") | (with_reducible refine at_same (by with_reducible assumption) ?_; wtm_at "off25"))
local macro_rules | `(tactic| wtm_at "at26") => `(tactic| first | with_reducible assumption | with_reducible exact upd_same | (with_reducible refine at_new (by assumption) ?_; wtm_at "at25") | (with_reducible refine at_same (by with_reducible assumption) ?_; wtm_at "at25") | (with_reducible apply Off.at; wtm_at "off26"))
local macro_rules | `(tactic| wtm_at "off27") => `(tactic| first | with_reducible assumption | (with_reducible apply Off.mk; wtm_at "pen"; assumption) | (with_reducible refine Off.new (by assumption) _ _ ?_; wtm_at "off26") | (with_reducible refine at_same (by with_reducible assumption) ?_; wtm_at "off26"))
local macro_rules | `(tactic| wtm_at "at27") => `(tactic| first | with_reducible assumption | with_reducible exact upd_same | (with_reducible refine at_new (by assumption) ?_; wtm_at "at26") | (with_reducible refine at_same (by with_reducible assumption) ?_; wtm_at "at26") | (with_reducible apply Off.at; wtm_at "off27"))
local macro_rules | `(tactic| wtm_at "off28") => `(tactic| first | with_reducible assumption | (with_reducible apply Off.mk; wtm_at "pen"; assumption) | (with_reducible refine Off.new (by assumption) _ _ ?_; wtm_at "off27") | (with_reducible refine at_same (by with_reducible assumption) ?_; wtm_at "off27"))
local macro_rules | `(tactic| wtm_at "at28") => `(tactic| first | with_reducible assumption | with_reducible exact upd_same | (with_reducible refine at_new (by assumption) ?_; wtm_at "at27") | (with_reducible refine at_same (by with_reducible assumption) ?_; wtm_at "at27") | (with_reducible apply Off.at; wtm_at "off28"))
local macro_rules | `(tactic| wtm_at "off29") => `(tactic| first | with_reducible assumption | (with_reducible apply Off.mk; wtm_at "pen"; assumption) | (with_reducible refine Off.new (by assumption) _ _ ?_; wtm_at "off28") | (with_reducible refine at_same (by with_reducible assumption) ?_; wtm_at "off28"))
local macro_rules | `(tactic| wtm_at "at29") => `(tactic| first | with_reducible assumption | with_reducible exact upd_same | (with_reducible refine at_new (by assumption) ?_; wtm_at "at28") | (with_reducible refine at_same (by with_reducible assumption) ?_; wtm_at "at28") | (with_reducible apply Off.at; wtm_at "off29"))
local macro_rules | `(tactic| wtm_at "off30") => `(tactic| first | with_reducible assumption | (with_reducible apply Off.mk; wtm_at "pen"; assumption) | (with_reducible refine Off.new (by assumption) _ _ ?_; wtm_at "off29") | (with_reducible refine at_same (by with_reducible assumption) ?_; wtm_at "off29"))
local macro_rules | `(tactic| wtm_at "at30") => `(tactic| first | with_reducible assumption | with_reducible exact upd_same | (with_reducible refine at_new (by assumption) ?_; wtm_at "at29") | (with_reducible refine at_same (by with_reducible assumption) ?_; wtm_at "at29") | (with_reducible apply Off.at; wtm_at "off30"))
local macro_rules | `(tactic| wtm_at "off31") => `(tactic| first | with_reducible assumption | (with_reducible apply Off.mk; wtm_at "pen"; assumption) | (with_reducible refine Off.new (by assumption) _ _ ?_; wtm_at "off30") | (with_reducible refine at_same (by with_reducible assumption) ?_; wtm_at "off30"))
local macro_rules | `(tactic| wtm_at "at31") => `(tactic| first | with_reducible assumption | with_reducible exact upd_same | (with_reducible refine at_new (by assumption) ?_; wtm_at "at30") | (with_reducible refine at_same (by with_reducible assumption) ?_; wtm_at "at30") | (with_reducible apply Off.at; wtm_at "off31"))
local macro_rules | `(tactic| wtm_at "off32") => `(tactic| first | with_reducible assumption | (with_reducible apply Off.mk; wtm_at "pen"; assumption) | (with_reducible refine Off.new (by assumption) _ _ ?_; wtm_at "off31") | (with_reducible refine at_same (by with_reducible assumption) ?_; wtm_at "off31"))
local macro_rules | `(tactic| wtm_at "at32") => `(tactic| first | with_reducible assumption | with_reducible exact upd_same | (with_reducible refine at_new (by assumption) ?_; wtm_at "at31") | (with_reducible refine at_same (by with_reducible assumption) ?_; wtm_at "at31") | (with_reducible apply Off.at; wtm_at "off32"))
local macro_rules | `(tactic| wtm_at "off33") => `(tactic| first | with_reducible assumption | (with_reducible apply Off.mk; wtm_at "pen"; assumption) | (with_reducible refine Off.new (by assumption) _ _ ?_; wtm_at "off32") | (with_reducible refine at_same (by with_reducible assumption) ?_; wtm_at "off32"))
local macro_rules | `(tactic| wtm_at "at33") => `(tactic| first | with_reducible assumption | with_reducible exact upd_same | (with_reducible refine at_new (by assumption) ?_; wtm_at "at32") | (with_reducible refine at_same (by with_reducible assumption) ?_; wtm_at "at32") | (with_reducible apply Off.at; wtm_at "off33"))
local macro_rules | `(tactic| wtm_at "off34") => `(tactic| first | with_reducible assumption | (with_reducible apply Off.mk; wtm_at "pen"; assumption) | (with_reducible refine Off.new (by assumption) _ _ ?_; wtm_at "off33") | (with_reducible refine at_same (by with_reducible assumption) ?_; wtm_at "off33"))
local macro_rules | `(tactic| wtm_at "at34") => `(tactic| first | with_reducible assumption | with_reducible exact upd_same | (with_reducible refine at_new (by assumption) ?_; wtm_at "at33") | (with_reducible refine at_same (by with_reducible assumption) ?_; wtm_at "at33") | (with_reducible apply Off.at; wtm_at "off34"))
local macro_rules | `(tactic| wtm_at "off35") => `(tactic| first | with_reducible assumption | (with_reducible apply Off.mk; wtm_at "pen"; assumption) | (with_reducible refine Off.new (by assumption) _ _ ?_; wtm_at "off34") | (with_reducible refine at_same (by with_reducible assumption) ?_; wtm_at "off34"))
local macro_rules | `(tactic| wtm_at "at35") => `(tactic| first | with_reducible assumption | with_reducible exact upd_same | (with_reducible refine at_new (by assumption) ?_; wtm_at "at34") | (with_reducible refine at_same (by with_reducible assumption) ?_; wtm_at "at34") | (with_reducible apply Off.at; wtm_at "off35"))
local macro_rules | `(tactic| wtm_at "off36") => `(tactic| first | with_reducible assumption | (with_reducible apply Off.mk; wtm_at "pen"; assumption) | (with_reducible refine Off.new (by assumption) _ _ ?_; wtm_at "off35") | (with_reducible refine at_same (by with_reducible assumption) ?_; wtm_at "off35"))
local macro_rules | `(tactic| wtm_at "at36") => `(tactic| first | with_reducible assumption | with_reducible exact upd_same | (with_reducible refine at_new (by assumption) ?_; wtm_at "at35") | (with_reducible refine at_same (by with_reducible assumption) ?_; wtm_at "at35") | (with_reducible apply Off.at; wtm_at "off36"))
local macro_rules | `(tactic| wtm_at "off37") => `(tactic| first | with_reducible assumption | (with_reducible apply Off.mk; wtm_at "pen"; assumption) | (with_reducible refine Off.new (by assumption) _ _ ?_; wtm_at "off36") | (with_reducible refine at_same (by with_reducible assumption) ?_; wtm_at "off36"))
local macro_rules | `(tactic| wtm_at "at37") => `(tactic| first | with_reducible assumption | with_reducible exact upd_same | (with_reducible refine at_new (by assumption) ?_; wtm_at "at36") | (with_reducible refine at_same (by with_reducible assumption) ?_; wtm_at "at36") | (with_reducible apply Off.at; wtm_at "off37"))
local macro_rules | `(tactic| wtm_at "off38") => `(tactic| first | with_reducible assumption | (with_reducible apply Off.mk; wtm_at "pen"; assumption) | (with_reducible refine Off.new (by assumption) _ _ ?_; wtm_at "off37") | (with_reducible refine at_same (by with_reducible assumption) ?_; wtm_at "off37"))
local macro_rules | `(tactic| wtm_at "at38") => `(tactic| first | with_reducible assumption | with_reducible exact upd_same | (with_reducible refine at_new (by assumption) ?_; wtm_at "at37") | (with_reducible refine at_same (by with_reducible assumption) ?_; wtm_at "at37") | (with_reducible apply Off.at; wtm_at "off38"))
local macro_rules | `(tactic| wtm_at "off39") => `(tactic| first | with_reducible assumption | (with_reducible apply Off.mk; wtm_at "pen"; assumption) | (with_reducible refine Off.new (by assumption) _ _ ?_; wtm_at "off38") | (with_reducible refine at_same (by with_reducible assumption) ?_; wtm_at "off38"))
local macro_rules | `(tactic| wtm_at "at39") => `(tactic| first | with_reducible assumption | with_reducible exact upd_same | (with_reducible refine at_new (by assumption) ?_; wtm_at "at38") | (with_reducible refine at_same (by with_reducible assumption) ?_; wtm_at "at38") | (with_reducible apply Off.at; wtm_at "off39"))
local macro_rules | `(tactic| wtm_at "at") => `(tactic| wtm_at "at39")
local macro_rules | `(tactic| wtm_at "off") => `(tactic| wtm_at "off39")
local macro_rules | `(tactic| wtm_at "pen") => `(tactic| first
  | assumption | (refine Pen.new (by assumption) ?_; wtm_at "pen") | (refine Pen.same (by assumption) ?_; wtm_at "pen"))
local macro_rules | `(tactic| wtm_at "same") => `(tactic| first
  | exact fun _ _ h => h | assumption | exact same_new (by assumption) | (refine same_trans ?_ (same_new (by assumption)); wtm_at "same") | (refine same_trans ?_ (by assumption); wtm_at "same")
  | (refine same_trans ?_ (Off.new (by assumption)); wtm_at "same") | (refine same_trans ?_ (Off.same (by assumption)); wtm_at "same"))
local macro_rules | `(tactic| wtm_at "dps") => `(tactic| first
  | exact .nil | (apply DpAll.cons; wtm_at "dp"; wtm_at "dps") | exact dpAll_ints _)
local macro_rules | `(tactic| wtm_at "dp") => `(tactic| first
  | exact .non | exact .bl _ | exact .int _ | exact .str _ | (fail) | (apply Dp.lst; (apply SqL.of; wtm_at "at"); wtm_at "dps") | (apply Dp.tup; (apply SqT.of; wtm_at "at"); wtm_at "dps"))
local macro_rules | `(tactic| wtm_at "side") => `(tactic| first
  | exact ⟨by decide, by decide⟩ | exact ⟨by decide, by decide, by decide⟩ | exact .inl ⟨by decide, by decide⟩ | exact .inr ⟨by decide, by decide⟩ | (show ¬ _ = _; decide))
local macro_rules | `(tactic| wtm_at "sml") => `(tactic| first
  | exact sml_none (by decide) | exact sml_bool (by decide) | exact sml_int (by decide) (by omega) | (fail) | exact sml_list (n := 19) (k := 0) (by wtm_at "smls") (by decide) (by decide))
local macro_rules | `(tactic| wtm_at "smls") => `(tactic| first | exact smlAll_nil (m := 0) | (apply smlAll_cons; wtm_at "sml"; wtm_at "smls"))
local macro_rules | `(tactic| wtm_at "shw") => `(tactic| exact Sml.shw (n := 10000) (k := 50) (by wtm_at "sml") (by decide) (by decide))
local macro_rules | `(tactic| wtm_at "rd") => `(tactic| first
  | refine ⟨_, rfl, ?_⟩ | refine ⟨_, _, rfl, rfl, ?_⟩ | refine ifT rfl ?_ | refine ifF rfl ?_ | refine ⟨rfl, ?_⟩
  | refine ⟨_, _, by rfl, by wtm_at "dp", by wtm_at "shw", ?_⟩
  | refine ⟨_, _, _, _, _, rfl, by wtm_at "at", by wtm_at "cls", by wtm_at "na", by rfl, ?_⟩
  | refine ⟨_, _, rfl, .inr (SqT.of (by wtm_at "at")), ?_⟩ | refine ⟨_, _, rfl, .inl (SqL.of (by wtm_at "at")), ?_⟩
  | refine ⟨_, _, rfl, .inr (SqT.of (by wtm_at "at")), by rfl, by rfl, ?_⟩ | refine ⟨_, _, rfl, .inl (SqL.of (by wtm_at "at")), by rfl, by rfl, ?_⟩
  | refine ⟨_, _, _, _, rfl, rfl, SqT.of (by wtm_at "at"), by rfl, ?_⟩ | refine ⟨_, _, _, _, rfl, rfl, SqL.of (by wtm_at "at"), by rfl, ?_⟩
  | refine ⟨_, _, rfl, rfl, by wtm_at "side", ?_⟩
  | refine ⟨_, _, by wtm_at "dp", by wtm_at "dp", by rfl, by rfl, ?_⟩
  | refine ⟨_, _, [_, _], [_, _], rfl, rfl, sqI2 (by wtm_at "at"), sqI2 (by wtm_at "at"), ?_⟩
  | refine ⟨_, _, rfl, ?_⟩
  | refine ⟨Nat.le_of_ble_eq_true rfl, fun _ _ => ?_⟩
  | refine ifF (nd_refl _) ?_ | refine ifT (de_refl _) ?_)
local macro_rules | `(tactic| wtm_at "cls") => `(tactic| first | exact cls_Agent _)
local macro_rules | `(tactic| wtm_at "na") => `(tactic| first | exact na_Agent_name _ | exact na_Agent_steps _ | exact na_Agent_shape _)

def spWordD (K : PySem.W.Frag) : Sp := fun vs H Q _ => ∃ p c m, vs = [.ref p] ∧ Pen H p c m ∧ m ≤ 98000 ∧ ∀ v H', Wd K H' v → Same (Uk.Off p H) (Uk.Off p H') → Pen H' p c (m + 2) → Q v H'
def spRight (K : PySem.W.Frag) : Sp := fun vs H Q _ => ∃ (a C dx : Addr) (fs : List (Str × V)) (k : Int) (v : V), vs = [.ref a, .int k, v] ∧ H a = some (.ins C dx fs) ∧ isAg C ∧ fs.lookup ("may" : Str) = none ∧ ((k = 0 ∧ C = 169) ∨ (0 < k ∧ C ≠ 169)) ∧ Wd K H v ∧ ∀ H', Same H H' → Q (.bl true) H'
theorem words_eq {C : Addr} {x : Str} (h : isAg C) (n : C ≠ 169) : decide (x ∈ mayWs C) = decide (x ∈ (["read", "write", "post", "wait", "clean", "drop", "flush", "get", "put"] : List Str)) := by
  have e : mayWs C = wordsT := if_neg n
  rw [e]
  apply decide_eq_decide.mpr
  simp only [wordsT, wordsA, List.cons_append, List.nil_append, List.mem_cons, List.not_mem_nil, or_false]
  constructor <;> (intro h; rcases h with rfl | rfl | rfl | rfl | rfl | rfl | rfl | rfl | rfl <;> simp)
section
variable {mg : PySem.Str → Option Value} {base : Heap} {w : World}
theorem ok__law_word (M : Mod (hd05.heap_39 w.params) mg base) : CallG PP w (hd05.heap_39 w.params) mg base 3 (.ref 277) (pos (spWordD (hd05.heap_39 w.params))) := by
  obtain ⟨fd, F⟩ := fn__law_word w
  refine def_pos F sc__law_word (fun vs H Q E h => ?_) (fun _ _ _ _ _ _ us hl => match us, hl with | [_], _ => rfl) (fun cdv A outer s H vs Q E hr hg h => ?_)
  · obtain ⟨p, c, m, rfl, _⟩ := h; rfl
  have nd := sc__law_word.nd
  obtain ⟨p, c, m, rfl, P, hm, q⟩ := h
  refine ⟨_, (pss_cons (ps_set (i := 1) nd rfl (.inl rfl) (pe_lst (pa_cons pe_str (pa_cons pe_str (pa_cons pe_str (pa_cons pe_str (pa_cons pe_str (pa_cons pe_str (pa_cons pe_str (pa_cons pe_str (pa_cons pe_str (pa_cons pe_str (pa_cons pe_str (pa_cons pe_str pa_nil))))))))))))))
      (pss_cons (ps_set (i := 1) nd rfl (.inl rfl) (pe_op op_cat (pv 1) (pe_lst (pa_cons pe_str (pa_cons pe_str pa_nil)))))
      (pss_cons (ps_set (i := 2) nd rfl (.inl rfl) (pe_cl (takes_of rfl rfl rfl rfl) (ok_drawP M) (hr.mono (by decide)) hg rfl (mg__law_draw M) (kp__law_draw w) (pa_cons (pv 0) (pa_cons pe_int pa_nil))))
      (pss_cons (ps_if (pt_cmpR op_lt (pv 2) (pe_callB call_len_seq (by rfl) (mn_len M) (by decide +kernel) (pa_cons (pv 1) pa_nil)) (nomark _)) (pss_one (ps_ret (pe_ix ix_list (pv 1) (pv 2) (fun _ _ => rfl)))) pss_nil)
      (pss_one (ps_ret (pe_cl (takes_of rfl rfl rfl rfl) (ok__law_thing M) (hr.mono (by decide)) hg rfl (mg__law_thing M) (kp__law_thing w) (pa_cons (pv 0) pa_nil)))))))), ?_⟩
  refine ⟨Nat.le_of_ble_eq_true rfl, fun z1 hz1 => ?_⟩
  wtm_at "rd"
  refine ⟨Nat.le_of_ble_eq_true rfl, fun z2 hz2 => ?_⟩
  refine ⟨z1, z2, _, _, rfl, rfl, by wtm_at "at", upd_same, Nat.le_of_ble_eq_true rfl, fun z3 hz3 => ?_⟩
  wtm_at "rd"
  refine ⟨rfl, p, c, m, _, rfl, (((P.new hz1).new hz2).new hz3), by omega, by decide, by decide, fun d H1 d0 dd s1 P1 => ?_⟩
  have f3 := Uk.Off.at (s1 _ _ (Uk.Off.of upd_same (((P.new hz1).new hz2).ne hz3)))
  have sm : Same (Uk.Off p H) (Uk.Off p H1) := same_trans (Uk.Off.same (by wtm_at "same")) s1
  wtm_at "rd"
  refine ⟨_, rfl, z3, _, rfl, .inl (SqL.of f3), ?_⟩
  refine ⟨_, _, rfl, rfl, _, rfl, ?_⟩
  refine ite_b (fun e => ?_) (fun e => ?_)
  · have e' := of_decide_eq_true e
    obtain ⟨v, hv, hmv⟩ := atI_mem d0 e'
    refine ⟨_, rfl, _, rfl, z3, _, d, v, rfl, rfl, SqL.of f3, hv, q v H1 ?_ sm (P1.mono (by omega))⟩
    simp only [List.cons_append, List.nil_append, List.mem_cons, List.not_mem_nil, or_false] at hmv
    rcases hmv with rfl | rfl | rfl | rfl | rfl | rfl | rfl | rfl | rfl | rfl | rfl | rfl | rfl | rfl <;> exact ns_str _
  · wtm_at "rd"
    exact ⟨rfl, p, c, m + 1, rfl, P1, by omega, fun v H2 wd s2 P2 => q v H2 wd (same_trans sm s2) (P2.mono (by omega))⟩
theorem ok__law_right (M : Mod (hd05.heap_39 w.params) mg base) : CallG PP w (hd05.heap_39 w.params) mg base 7 (.ref 284) (pos (spRight (hd05.heap_39 w.params))) := by
  obtain ⟨fd, F⟩ := fn__law_right w
  refine def_pos F sc__law_right (fun vs H Q E h => ?_) (fun _ _ _ _ _ _ us hl => match us, hl with | [_, _, _], _ => rfl) (fun cdv A outer s H vs Q E hr hg h => ?_)
  · obtain ⟨a, C, dx, fs, k, v, rfl, _⟩ := h; rfl
  have nd := sc__law_right.nd
  obtain ⟨a, C, dx, fs, k, v, rfl, ha, hC, hf, hk, wd, q⟩ := h
  refine ⟨_, (pss_cons (ps_set (i := 3) nd rfl (.inl rfl) (pe_lst (pa_cons pe_str (pa_cons pe_str (pa_cons pe_str (pa_cons pe_str pa_nil))))))
      (pss_cons (ps_if (pt_cmpR op_gt (pv 1) pe_int (nomark _)) (pss_one (ps_set (i := 3) nd rfl (.inl rfl) (pe_op op_cat (pv 3) (pe_lst (pa_cons pe_str (pa_cons pe_str (pa_cons pe_str (pa_cons pe_str (pa_cons pe_str pa_nil))))))))) pss_nil)
      (pss_cons (ps_set (i := 4) nd rfl (.inl rfl) (pe_and (pe_callB call_isi (by rfl) (mn_isinstance M) (by decide +kernel) (pa_cons (pv 2) (pa_cons (pe_bltn (v := .ty "str") (by rfl) (mn_str M) (by decide +kernel) rfl) pa_nil))) (pe_one (pe_cmpR op_in_seq (pv 2) (pv 3) (by rfl)))))
      (pss_cons (ps_set (i := 5) nd rfl (.inl rfl) (pe_meV (takes_of rfl rfl rfl rfl) (pv 0) (hm := fun C h => may_cls w C h) (may_ok M) (hr.mono (by decide)) hg (pa_cons (pv 2) pa_nil)))
      (pss_one (ps_ret (pe_and (pe_callB call_isi (by rfl) (mn_isinstance M) (by decide +kernel) (pa_cons (pv 5) (pa_cons (pe_bltn (v := .ty "bool") (by rfl) (mn_bool M) (by decide +kernel) rfl) pa_nil))) (pe_one (pe_cmpR op_eq (pv 5) (pv 4) (nomark _)))))))))), ?_⟩
  refine ⟨Nat.le_of_ble_eq_true rfl, fun z1 hz1 => ?_⟩
  wtm_at "rd"
  refine ⟨_, _, rfl, rfl, _, rfl, ?_⟩
  rcases hk with ⟨rfl, rfl⟩ | ⟨k0, hn⟩
  · refine ifF rfl ?_
    rcases wd with ⟨x, rfl⟩ | ns
    · refine ⟨_, rfl, _, _, _, _, _, rfl, .ty "str", .base (.str x), kit_ty (r := true) (by decide +kernel), _, rfl, ifT rfl ?_⟩
      wtm_at "rd"
      refine ⟨_, rfl, z1, _, rfl, .inl (SqL.of upd_same), rfl, by rfl, ?_⟩
      wtm_at "rd"
      refine ⟨a, 169, dx, fs, rfl, hC, by wtm_at "at", hf, ?_⟩
      wtm_at "rd"
      refine ⟨rfl, a, 169, dx, fs, .str x, rfl, by wtm_at "at", rfl, .inl ⟨x, rfl, fun H4 s4 => ?_⟩⟩
      refine ⟨_, rfl, _, _, _, _, _, rfl, .ty "bool", .base (.bl _), kit_ty (r := true) (by decide +kernel), _, rfl, ifT rfl ?_⟩
      refine ⟨_, rfl, _, rfl, rfl, ?_⟩
      have e : decide (V.bl (decide (x ∈ mayWs 169)) = V.bl (inV (.str x) [V.str "read", V.str "write", V.str "post", V.str "wait"])) = true := by
        rw [show inV (.str x) [V.str "read", V.str "write", V.str "post", V.str "wait"] = decide (x ∈ (["read", "write", "post", "wait"] : List Str)) from inV_strs x (["read", "write", "post", "wait"] : List Str), show mayWs 169 = (["read", "write", "post", "wait"] : List Str) from rfl]
        exact de_refl _
      rw [show (if false = true then !inV (V.str x) [V.str "read", V.str "write", V.str "post", V.str "wait"] else inV (V.str x) [V.str "read", V.str "write", V.str "post", V.str "wait"]) = inV (V.str x) [V.str "read", V.str "write", V.str "post", V.str "wait"] from rfl, e]
      exact q _ (by wtm_at "same")
    · obtain ⟨t, ty, e⟩ := ns
      refine ⟨_, rfl, _, _, _, _, _, rfl, .ty "str", Uk.TyX.same (by wtm_at "same") ty, e, _, rfl, ifF rfl ?_⟩
      wtm_at "rd"
      refine ⟨a, 169, dx, fs, rfl, hC, by wtm_at "at", hf, ?_⟩
      wtm_at "rd"
      refine ⟨rfl, a, 169, dx, fs, v, rfl, by wtm_at "at", rfl, .inr ⟨⟨t, Uk.TyX.same (by wtm_at "same") ty, e⟩, fun H4 s4 => ?_⟩⟩
      refine ⟨_, rfl, _, _, _, _, _, rfl, .ty "bool", .base (.bl _), kit_ty (r := true) (by decide +kernel), _, rfl, ifT rfl ?_⟩
      refine ⟨_, rfl, _, rfl, rfl, ?_⟩
      rw [de_refl]
      exact q _ (by wtm_at "same")
  · refine ifT (decide_eq_true k0) ?_
    wtm_at "rd"
    refine ⟨Nat.le_of_ble_eq_true rfl, fun z2 hz2 => ?_⟩
    refine ⟨z1, z2, _, _, rfl, rfl, by wtm_at "at", upd_same, Nat.le_of_ble_eq_true rfl, fun z3 hz3 => ?_⟩
    rcases wd with ⟨x, rfl⟩ | ns
    · refine ⟨_, rfl, _, _, _, _, _, rfl, .ty "str", .base (.str x), kit_ty (r := true) (by decide +kernel), _, rfl, ifT rfl ?_⟩
      wtm_at "rd"
      refine ⟨_, rfl, z3, _, rfl, .inl (SqL.of upd_same), rfl, by rfl, ?_⟩
      wtm_at "rd"
      refine ⟨a, C, dx, fs, rfl, hC, by wtm_at "at", hf, ?_⟩
      wtm_at "rd"
      refine ⟨rfl, a, C, dx, fs, .str x, rfl, by wtm_at "at", rfl, .inl ⟨x, rfl, fun H4 s4 => ?_⟩⟩
      refine ⟨_, rfl, _, _, _, _, _, rfl, .ty "bool", .base (.bl _), kit_ty (r := true) (by decide +kernel), _, rfl, ifT rfl ?_⟩
      refine ⟨_, rfl, _, rfl, rfl, ?_⟩
      have e : decide (V.bl (decide (x ∈ mayWs C)) = V.bl (inV (.str x) ([V.str "read", V.str "write", V.str "post", V.str "wait"] ++ [V.str "clean", V.str "drop", V.str "flush", V.str "get", V.str "put"]))) = true := by
        rw [show inV (.str x) ([V.str "read", V.str "write", V.str "post", V.str "wait"] ++ [V.str "clean", V.str "drop", V.str "flush", V.str "get", V.str "put"]) = decide (x ∈ (["read", "write", "post", "wait", "clean", "drop", "flush", "get", "put"] : List Str)) from inV_strs x (["read", "write", "post", "wait", "clean", "drop", "flush", "get", "put"] : List Str), words_eq hC hn]
        exact de_refl _
      rw [show (if false = true then !inV (V.str x) ([V.str "read", V.str "write", V.str "post", V.str "wait"] ++ [V.str "clean", V.str "drop", V.str "flush", V.str "get", V.str "put"]) else inV (V.str x) ([V.str "read", V.str "write", V.str "post", V.str "wait"] ++ [V.str "clean", V.str "drop", V.str "flush", V.str "get", V.str "put"])) = inV (V.str x) ([V.str "read", V.str "write", V.str "post", V.str "wait"] ++ [V.str "clean", V.str "drop", V.str "flush", V.str "get", V.str "put"]) from rfl, e]
      exact q _ (by wtm_at "same")
    · obtain ⟨t, ty, e⟩ := ns
      refine ⟨_, rfl, _, _, _, _, _, rfl, .ty "str", Uk.TyX.same (by wtm_at "same") ty, e, _, rfl, ifF rfl ?_⟩
      wtm_at "rd"
      refine ⟨a, C, dx, fs, rfl, hC, by wtm_at "at", hf, ?_⟩
      wtm_at "rd"
      refine ⟨rfl, a, C, dx, fs, v, rfl, by wtm_at "at", rfl, .inr ⟨⟨t, Uk.TyX.same (by wtm_at "same") ty, e⟩, fun H4 s4 => ?_⟩⟩
      refine ⟨_, rfl, _, _, _, _, _, rfl, .ty "bool", .base (.bl _), kit_ty (r := true) (by decide +kernel), _, rfl, ifT rfl ?_⟩
      refine ⟨_, rfl, _, rfl, rfl, ?_⟩
      rw [de_refl]
      exact q _ (by wtm_at "same")
end
end M05

namespace M05
open PySem PySem.Spec PyProof.Rows L2 StX Uk

local macro_rules | `(tactic| wtm_at "off0") => `(tactic| first | with_reducible assumption | (with_reducible apply Off.mk; wtm_at "pen"; assumption))
local macro_rules | `(tactic| wtm_at "at0") => `(tactic| first | with_reducible assumption | with_reducible exact upd_same | (with_reducible apply Off.at; wtm_at "off0"))
local macro_rules | `(tactic| wtm_at "off1") => `(tactic| first | with_reducible assumption | (with_reducible apply Off.mk; wtm_at "pen"; assumption) | (with_reducible refine Off.new (by assumption) _ _ ?_; wtm_at "off0") | (with_reducible refine at_same (by with_reducible assumption) ?_; wtm_at "off0"))
local macro_rules | `(tactic| wtm_at "at1") => `(tactic| first | with_reducible assumption | with_reducible exact upd_same | (with_reducible refine at_new (by assumption) ?_; wtm_at "at0") | (with_reducible refine at_same (by with_reducible assumption) ?_; wtm_at "at0") | (with_reducible apply Off.at; wtm_at "off1"))
local macro_rules | `(tactic| wtm_at "off2") => `(tactic| first | with_reducible assumption | (with_reducible apply Off.mk; wtm_at "pen"; assumption) | (with_reducible refine Off.new (by assumption) _ _ ?_; wtm_at "off1") | (with_reducible refine at_same (by with_reducible assumption) ?_; wtm_at "off1"))
local macro_rules | `(tactic| wtm_at "at2") => `(tactic| first | with_reducible assumption | with_reducible exact upd_same | (with_reducible refine at_new (by assumption) ?_; wtm_at "at1") | (with_reducible refine at_same (by with_reducible assumption) ?_; wtm_at "at1") | (with_reducible apply Off.at; wtm_at "off2"))
local macro_rules | `(tactic| wtm_at "off3") => `(tactic| first | with_reducible assumption | (with_reducible apply Off.mk; wtm_at "pen"; assumption) | (with_reducible refine Off.new (by assumption) _ _ ?_; wtm_at "off2") | (with_reducible refine at_same (by with_reducible assumption) ?_; wtm_at "off2"))
local macro_rules | `(tactic| wtm_at "at3") => `(tactic| first | with_reducible assumption | with_reducible exact upd_same | (with_reducible refine at_new (by assumption) ?_; wtm_at "at2") | (with_reducible refine at_same (by with_reducible assumption) ?_; wtm_at "at2") | (with_reducible apply Off.at; wtm_at "off3"))
local macro_rules | `(tactic| wtm_at "off4") => `(tactic| first | with_reducible assumption | (with_reducible apply Off.mk; wtm_at "pen"; assumption) | (with_reducible refine Off.new (by assumption) _ _ ?_; wtm_at "off3") | (with_reducible refine at_same (by with_reducible assumption) ?_; wtm_at "off3"))
local macro_rules | `(tactic| wtm_at "at4") => `(tactic| first | with_reducible assumption | with_reducible exact upd_same | (with_reducible refine at_new (by assumption) ?_; wtm_at "at3") | (with_reducible refine at_same (by with_reducible assumption) ?_; wtm_at "at3") | (with_reducible apply Off.at; wtm_at "off4"))
local macro_rules | `(tactic| wtm_at "off5") => `(tactic| first | with_reducible assumption | (with_reducible apply Off.mk; wtm_at "pen"; assumption) | (with_reducible refine Off.new (by assumption) _ _ ?_; wtm_at "off4") | (with_reducible refine at_same (by with_reducible assumption) ?_; wtm_at "off4"))
local macro_rules | `(tactic| wtm_at "at5") => `(tactic| first | with_reducible assumption | with_reducible exact upd_same | (with_reducible refine at_new (by assumption) ?_; wtm_at "at4") | (with_reducible refine at_same (by with_reducible assumption) ?_; wtm_at "at4") | (with_reducible apply Off.at; wtm_at "off5"))
local macro_rules | `(tactic| wtm_at "off6") => `(tactic| first | with_reducible assumption | (with_reducible apply Off.mk; wtm_at "pen"; assumption) | (with_reducible refine Off.new (by assumption) _ _ ?_; wtm_at "off5") | (with_reducible refine at_same (by with_reducible assumption) ?_; wtm_at "off5"))
local macro_rules | `(tactic| wtm_at "at6") => `(tactic| first | with_reducible assumption | with_reducible exact upd_same | (with_reducible refine at_new (by assumption) ?_; wtm_at "at5") | (with_reducible refine at_same (by with_reducible assumption) ?_; wtm_at "at5") | (with_reducible apply Off.at; wtm_at "off6"))
local macro_rules | `(tactic| wtm_at "off7") => `(tactic| first | with_reducible assumption | (with_reducible apply Off.mk; wtm_at "pen"; assumption) | (with_reducible refine Off.new (by assumption) _ _ ?_; wtm_at "off6") | (with_reducible refine at_same (by with_reducible assumption) ?_; wtm_at "off6"))
local macro_rules | `(tactic| wtm_at "at7") => `(tactic| first | with_reducible assumption | with_reducible exact upd_same | (with_reducible refine at_new (by assumption) ?_; wtm_at "at6") | (with_reducible refine at_same (by with_reducible assumption) ?_; wtm_at "at6") | (with_reducible apply Off.at; wtm_at "off7"))
local macro_rules | `(tactic| wtm_at "off8") => `(tactic| first | with_reducible assumption | (with_reducible apply Off.mk; wtm_at "pen"; assumption) | (with_reducible refine Off.new (by assumption) _ _ ?_; wtm_at "off7") | (with_reducible refine at_same (by with_reducible assumption) ?_; wtm_at "off7"))
local macro_rules | `(tactic| wtm_at "at8") => `(tactic| first | with_reducible assumption | with_reducible exact upd_same | (with_reducible refine at_new (by assumption) ?_; wtm_at "at7") | (with_reducible refine at_same (by with_reducible assumption) ?_; wtm_at "at7") | (with_reducible apply Off.at; wtm_at "off8"))
local macro_rules | `(tactic| wtm_at "off9") => `(tactic| first | with_reducible assumption | (with_reducible apply Off.mk; wtm_at "pen"; assumption) | (with_reducible refine Off.new (by assumption) _ _ ?_; wtm_at "off8") | (with_reducible refine at_same (by with_reducible assumption) ?_; wtm_at "off8"))
local macro_rules | `(tactic| wtm_at "at9") => `(tactic| first | with_reducible assumption | with_reducible exact upd_same | (with_reducible refine at_new (by assumption) ?_; wtm_at "at8") | (with_reducible refine at_same (by with_reducible assumption) ?_; wtm_at "at8") | (with_reducible apply Off.at; wtm_at "off9"))
local macro_rules | `(tactic| wtm_at "off10") => `(tactic| first | with_reducible assumption | (with_reducible apply Off.mk; wtm_at "pen"; assumption) | (with_reducible refine Off.new (by assumption) _ _ ?_; wtm_at "off9") | (with_reducible refine at_same (by with_reducible assumption) ?_; wtm_at "off9"))
local macro_rules | `(tactic| wtm_at "at10") => `(tactic| first | with_reducible assumption | with_reducible exact upd_same | (with_reducible refine at_new (by assumption) ?_; wtm_at "at9") | (with_reducible refine at_same (by with_reducible assumption) ?_; wtm_at "at9") | (with_reducible apply Off.at; wtm_at "off10"))
local macro_rules | `(tactic| wtm_at "off11") => `(tactic| first | with_reducible assumption | (with_reducible apply Off.mk; wtm_at "pen"; assumption) | (with_reducible refine Off.new (by assumption) _ _ ?_; wtm_at "off10") | (with_reducible refine at_same (by with_reducible assumption) ?_; wtm_at "off10"))
local macro_rules | `(tactic| wtm_at "at11") => `(tactic| first | with_reducible assumption | with_reducible exact upd_same | (with_reducible refine at_new (by assumption) ?_; wtm_at "at10") | (with_reducible refine at_same (by with_reducible assumption) ?_; wtm_at "at10") | (with_reducible apply Off.at; wtm_at "off11"))
local macro_rules | `(tactic| wtm_at "off12") => `(tactic| first | with_reducible assumption | (with_reducible apply Off.mk; wtm_at "pen"; assumption) | (with_reducible refine Off.new (by assumption) _ _ ?_; wtm_at "off11") | (with_reducible refine at_same (by with_reducible assumption) ?_; wtm_at "off11"))
local macro_rules | `(tactic| wtm_at "at12") => `(tactic| first | with_reducible assumption | with_reducible exact upd_same | (with_reducible refine at_new (by assumption) ?_; wtm_at "at11") | (with_reducible refine at_same (by with_reducible assumption) ?_; wtm_at "at11") | (with_reducible apply Off.at; wtm_at "off12"))
local macro_rules | `(tactic| wtm_at "off13") => `(tactic| first | with_reducible assumption | (with_reducible apply Off.mk; wtm_at "pen"; assumption) | (with_reducible refine Off.new (by assumption) _ _ ?_; wtm_at "off12") | (with_reducible refine at_same (by with_reducible assumption) ?_; wtm_at "off12"))
local macro_rules | `(tactic| wtm_at "at13") => `(tactic| first | with_reducible assumption | with_reducible exact upd_same | (with_reducible refine at_new (by assumption) ?_; wtm_at "at12") | (with_reducible refine at_same (by with_reducible assumption) ?_; wtm_at "at12") | (with_reducible apply Off.at; wtm_at "off13"))
local macro_rules | `(tactic| wtm_at "off14") => `(tactic| first | with_reducible assumption | (with_reducible apply Off.mk; wtm_at "pen"; assumption) | (with_reducible refine Off.new (by assumption) _ _ ?_; wtm_at "off13") | (with_reducible refine at_same (by with_reducible assumption) ?_; wtm_at "off13"))
local macro_rules | `(tactic| wtm_at "at14") => `(tactic| first | with_reducible assumption | with_reducible exact upd_same | (with_reducible refine at_new (by assumption) ?_; wtm_at "at13") | (with_reducible refine at_same (by with_reducible assumption) ?_; wtm_at "at13") | (with_reducible apply Off.at; wtm_at "off14"))
local macro_rules | `(tactic| wtm_at "off15") => `(tactic| first | with_reducible assumption | (with_reducible apply Off.mk; wtm_at "pen"; assumption) | (with_reducible refine Off.new (by assumption) _ _ ?_; wtm_at "off14") | (with_reducible refine at_same (by with_reducible assumption) ?_; wtm_at "off14"))
local macro_rules | `(tactic| wtm_at "at15") => `(tactic| first | with_reducible assumption | with_reducible exact upd_same | (with_reducible refine at_new (by assumption) ?_; wtm_at "at14") | (with_reducible refine at_same (by with_reducible assumption) ?_; wtm_at "at14") | (with_reducible apply Off.at; wtm_at "off15"))
local macro_rules | `(tactic| wtm_at "off16") => `(tactic| first | with_reducible assumption | (with_reducible apply Off.mk; wtm_at "pen"; assumption) | (with_reducible refine Off.new (by assumption) _ _ ?_; wtm_at "off15") | (with_reducible refine at_same (by with_reducible assumption) ?_; wtm_at "off15"))
local macro_rules | `(tactic| wtm_at "at16") => `(tactic| first | with_reducible assumption | with_reducible exact upd_same | (with_reducible refine at_new (by assumption) ?_; wtm_at "at15") | (with_reducible refine at_same (by with_reducible assumption) ?_; wtm_at "at15") | (with_reducible apply Off.at; wtm_at "off16"))
local macro_rules | `(tactic| wtm_at "off17") => `(tactic| first | with_reducible assumption | (with_reducible apply Off.mk; wtm_at "pen"; assumption) | (with_reducible refine Off.new (by assumption) _ _ ?_; wtm_at "off16") | (with_reducible refine at_same (by with_reducible assumption) ?_; wtm_at "off16"))
local macro_rules | `(tactic| wtm_at "at17") => `(tactic| first | with_reducible assumption | with_reducible exact upd_same | (with_reducible refine at_new (by assumption) ?_; wtm_at "at16") | (with_reducible refine at_same (by with_reducible assumption) ?_; wtm_at "at16") | (with_reducible apply Off.at; wtm_at "off17"))
local macro_rules | `(tactic| wtm_at "off18") => `(tactic| first | with_reducible assumption | (with_reducible apply Off.mk; wtm_at "pen"; assumption) | (with_reducible refine Off.new (by assumption) _ _ ?_; wtm_at "off17") | (with_reducible refine at_same (by with_reducible assumption) ?_; wtm_at "off17"))
local macro_rules | `(tactic| wtm_at "at18") => `(tactic| first | with_reducible assumption | with_reducible exact upd_same | (with_reducible refine at_new (by assumption) ?_; wtm_at "at17") | (with_reducible refine at_same (by with_reducible assumption) ?_; wtm_at "at17") | (with_reducible apply Off.at; wtm_at "off18"))
local macro_rules | `(tactic| wtm_at "off19") => `(tactic| first | with_reducible assumption | (with_reducible apply Off.mk; wtm_at "pen"; assumption) | (with_reducible refine Off.new (by assumption) _ _ ?_; wtm_at "off18") | (with_reducible refine at_same (by with_reducible assumption) ?_; wtm_at "off18"))
local macro_rules | `(tactic| wtm_at "at19") => `(tactic| first | with_reducible assumption | with_reducible exact upd_same | (with_reducible refine at_new (by assumption) ?_; wtm_at "at18") | (with_reducible refine at_same (by with_reducible assumption) ?_; wtm_at "at18") | (with_reducible apply Off.at; wtm_at "off19"))
local macro_rules | `(tactic| wtm_at "off20") => `(tactic| first | with_reducible assumption | (with_reducible apply Off.mk; wtm_at "pen"; assumption) | (with_reducible refine Off.new (by assumption) _ _ ?_; wtm_at "off19") | (with_reducible refine at_same (by with_reducible assumption) ?_; wtm_at "off19"))
local macro_rules | `(tactic| wtm_at "at20") => `(tactic| first | with_reducible assumption | with_reducible exact upd_same | (with_reducible refine at_new (by assumption) ?_; wtm_at "at19") | (with_reducible refine at_same (by with_reducible assumption) ?_; wtm_at "at19") | (with_reducible apply Off.at; wtm_at "off20"))
local macro_rules | `(tactic| wtm_at "off21") => `(tactic| first | with_reducible assumption | (with_reducible apply Off.mk; wtm_at "pen"; assumption) | (with_reducible refine Off.new (by assumption) _ _ ?_; wtm_at "off20") | (with_reducible refine at_same (by with_reducible assumption) ?_; wtm_at "off20"))
local macro_rules | `(tactic| wtm_at "at21") => `(tactic| first | with_reducible assumption | with_reducible exact upd_same | (with_reducible refine at_new (by assumption) ?_; wtm_at "at20") | (with_reducible refine at_same (by with_reducible assumption) ?_; wtm_at "at20") | (with_reducible apply Off.at; wtm_at "off21"))
local macro_rules | `(tactic| wtm_at "off22") => `(tactic| first | with_reducible assumption | (with_reducible apply Off.mk; wtm_at "pen"; assumption) | (with_reducible refine Off.new (by assumption) _ _ ?_; wtm_at "off21") | (with_reducible refine at_same (by with_reducible assumption) ?_; wtm_at "off21"))
local macro_rules | `(tactic| wtm_at "at22") => `(tactic| first | with_reducible assumption | with_reducible exact upd_same | (with_reducible refine at_new (by assumption) ?_; wtm_at "at21") | (with_reducible refine at_same (by with_reducible assumption) ?_; wtm_at "at21") | (with_reducible apply Off.at; wtm_at "off22"))
local macro_rules | `(tactic| wtm_at "off23") => `(tactic| first | with_reducible assumption | (with_reducible apply Off.mk; wtm_at "pen"; assumption) | (with_reducible refine Off.new (by assumption) _ _ ?_; wtm_at "off22") | (with_reducible refine at_same (by with_reducible assumption) ?_; wtm_at "off22"))
local macro_rules | `(tactic| wtm_at "at23") => `(tactic| first | with_reducible assumption | with_reducible exact upd_same | (with_reducible refine at_new (by assumption) ?_; wtm_at "at22") | (with_reducible refine at_same (by with_reducible assumption) ?_; wtm_at "at22") | (with_reducible apply Off.at; wtm_at "off23"))
local macro_rules | `(tactic| wtm_at "off24") => `(tactic| first | with_reducible assumption | (with_reducible apply Off.mk; wtm_at "pen"; assumption) | (with_reducible refine Off.new (by assumption) _ _ ?_; wtm_at "off23") | (with_reducible refine at_same (by with_reducible assumption) ?_; wtm_at "off23"))
local macro_rules | `(tactic| wtm_at "at24") => `(tactic| first | with_reducible assumption | with_reducible exact upd_same | (with_reducible refine at_new (by assumption) ?_; wtm_at "at23") | (with_reducible refine at_same (by with_reducible assumption) ?_; wtm_at "at23") | (with_reducible apply Off.at; wtm_at "off24"))
local macro_rules | `(tactic| wtm_at "off25") => `(tactic| first | with_reducible assumption | (with_reducible apply Off.mk; wtm_at "pen"; assumption) | (with_reducible refine Off.new (by assumption) _ _ ?_; wtm_at "off24") | (with_reducible refine at_same (by with_reducible assumption) ?_; wtm_at "off24"))
local macro_rules | `(tactic| wtm_at "at25") => `(tactic| first | with_reducible assumption | with_reducible exact upd_same | (with_reducible refine at_new (by assumption) ?_; wtm_at "at24") | (with_reducible refine at_same (by with_reducible assumption) ?_; wtm_at "at24") | (with_reducible apply Off.at; wtm_at "off25"))
local macro_rules | `(tactic| wtm_at "off26") => `(tactic| first | with_reducible assumption | (with_reducible apply Off.mk; wtm_at "pen"; assumption) | (with_reducible refine Off.new (by assumption) _ _ ?_; wtm_at "off25") | (with_reducible refine at_same (by with_reducible assumption) ?_; wtm_at "off25"))
local macro_rules | `(tactic| wtm_at "at26") => `(tactic| first | with_reducible assumption | with_reducible exact upd_same | (with_reducible refine at_new (by assumption) ?_; wtm_at "at25") | (with_reducible refine at_same (by with_reducible assumption) ?_; wtm_at "at25") | (with_reducible apply Off.at; wtm_at "off26"))
local macro_rules | `(tactic| wtm_at "off27") => `(tactic| first | with_reducible assumption | (with_reducible apply Off.mk; wtm_at "pen"; assumption) | (with_reducible refine Off.new (by assumption) _ _ ?_; wtm_at "off26") | (with_reducible refine at_same (by with_reducible assumption) ?_; wtm_at "off26"))
local macro_rules | `(tactic| wtm_at "at27") => `(tactic| first | with_reducible assumption | with_reducible exact upd_same | (with_reducible refine at_new (by assumption) ?_; wtm_at "at26") | (with_reducible refine at_same (by with_reducible assumption) ?_; wtm_at "at26") | (with_reducible apply Off.at; wtm_at "off27"))
local macro_rules | `(tactic| wtm_at "off28") => `(tactic| first | with_reducible assumption | (with_reducible apply Off.mk; wtm_at "pen"; assumption) | (with_reducible refine Off.new (by assumption) _ _ ?_; wtm_at "off27") | (with_reducible refine at_same (by with_reducible assumption) ?_; wtm_at "off27"))
local macro_rules | `(tactic| wtm_at "at28") => `(tactic| first | with_reducible assumption | with_reducible exact upd_same | (with_reducible refine at_new (by assumption) ?_; wtm_at "at27") | (with_reducible refine at_same (by with_reducible assumption) ?_; wtm_at "at27") | (with_reducible apply Off.at; wtm_at "off28"))
local macro_rules | `(tactic| wtm_at "off29") => `(tactic| first | with_reducible assumption | (with_reducible apply Off.mk; wtm_at "pen"; assumption) | (with_reducible refine Off.new (by assumption) _ _ ?_; wtm_at "off28") | (with_reducible refine at_same (by with_reducible assumption) ?_; wtm_at "off28"))
local macro_rules | `(tactic| wtm_at "at29") => `(tactic| first | with_reducible assumption | with_reducible exact upd_same | (with_reducible refine at_new (by assumption) ?_; wtm_at "at28") | (with_reducible refine at_same (by with_reducible assumption) ?_; wtm_at "at28") | (with_reducible apply Off.at; wtm_at "off29"))
local macro_rules | `(tactic| wtm_at "off30") => `(tactic| first | with_reducible assumption | (with_reducible apply Off.mk; wtm_at "pen"; assumption) | (with_reducible refine Off.new (by assumption) _ _ ?_; wtm_at "off29") | (with_reducible refine at_same (by with_reducible assumption) ?_; wtm_at "off29"))
local macro_rules | `(tactic| wtm_at "at30") => `(tactic| first | with_reducible assumption | with_reducible exact upd_same | (with_reducible refine at_new (by assumption) ?_; wtm_at "at29") | (with_reducible refine at_same (by with_reducible assumption) ?_; wtm_at "at29") | (with_reducible apply Off.at; wtm_at "off30"))
local macro_rules | `(tactic| wtm_at "off31") => `(tactic| first | with_reducible assumption | (with_reducible apply Off.mk; wtm_at "pen"; assumption) | (with_reducible refine Off.new (by assumption) _ _ ?_; wtm_at "off30") | (with_reducible refine at_same (by with_reducible assumption) ?_; wtm_at "off30"))
local macro_rules | `(tactic| wtm_at "at31") => `(tactic| first | with_reducible assumption | with_reducible exact upd_same | (with_reducible refine at_new (by assumption) ?_; wtm_at "at30") | (with_reducible refine at_same (by with_reducible assumption) ?_; wtm_at "at30") | (with_reducible apply Off.at; wtm_at "off31"))
local macro_rules | `(tactic| wtm_at "off32") => `(tactic| first | with_reducible assumption | (with_reducible apply Off.mk; wtm_at "pen"; assumption) | (with_reducible refine Off.new (by assumption) _ _ ?_; wtm_at "off31") | (with_reducible refine at_same (by with_reducible assumption) ?_; wtm_at "off31"))
local macro_rules | `(tactic| wtm_at "at32") => `(tactic| first | with_reducible assumption | with_reducible exact upd_same | (with_reducible refine at_new (by assumption) ?_; wtm_at "at31") | (with_reducible refine at_same (by with_reducible assumption) ?_; wtm_at "at31") | (with_reducible apply Off.at; wtm_at "off32"))
local macro_rules | `(tactic| wtm_at "off33") => `(tactic| first | with_reducible assumption | (with_reducible apply Off.mk; wtm_at "pen"; assumption) | (with_reducible refine Off.new (by assumption) _ _ ?_; wtm_at "off32") | (with_reducible refine at_same (by with_reducible assumption) ?_; wtm_at "off32"))
local macro_rules | `(tactic| wtm_at "at33") => `(tactic| first | with_reducible assumption | with_reducible exact upd_same | (with_reducible refine at_new (by assumption) ?_; wtm_at "at32") | (with_reducible refine at_same (by with_reducible assumption) ?_; wtm_at "at32") | (with_reducible apply Off.at; wtm_at "off33"))
local macro_rules | `(tactic| wtm_at "off34") => `(tactic| first | with_reducible assumption | (with_reducible apply Off.mk; wtm_at "pen"; assumption) | (with_reducible refine Off.new (by assumption) _ _ ?_; wtm_at "off33") | (with_reducible refine at_same (by with_reducible assumption) ?_; wtm_at "off33"))
local macro_rules | `(tactic| wtm_at "at34") => `(tactic| first | with_reducible assumption | with_reducible exact upd_same | (with_reducible refine at_new (by assumption) ?_; wtm_at "at33") | (with_reducible refine at_same (by with_reducible assumption) ?_; wtm_at "at33") | (with_reducible apply Off.at; wtm_at "off34"))
local macro_rules | `(tactic| wtm_at "off35") => `(tactic| first | with_reducible assumption | (with_reducible apply Off.mk; wtm_at "pen"; assumption) | (with_reducible refine Off.new (by assumption) _ _ ?_; wtm_at "off34") | (with_reducible refine at_same (by with_reducible assumption) ?_; wtm_at "off34"))
local macro_rules | `(tactic| wtm_at "at35") => `(tactic| first | with_reducible assumption | with_reducible exact upd_same | (with_reducible refine at_new (by assumption) ?_; wtm_at "at34") | (with_reducible refine at_same (by with_reducible assumption) ?_; wtm_at "at34") | (with_reducible apply Off.at; wtm_at "off35"))
local macro_rules | `(tactic| wtm_at "off36") => `(tactic| first | with_reducible assumption | (with_reducible apply Off.mk; wtm_at "pen"; assumption) | (with_reducible refine Off.new (by assumption) _ _ ?_; wtm_at "off35") | (with_reducible refine at_same (by with_reducible assumption) ?_; wtm_at "off35"))
local macro_rules | `(tactic| wtm_at "at36") => `(tactic| first | with_reducible assumption | with_reducible exact upd_same | (with_reducible refine at_new (by assumption) ?_; wtm_at "at35") | (with_reducible refine at_same (by with_reducible assumption) ?_; wtm_at "at35") | (with_reducible apply Off.at; wtm_at "off36"))
local macro_rules | `(tactic| wtm_at "off37") => `(tactic| first | with_reducible assumption | (with_reducible apply Off.mk; wtm_at "pen"; assumption) | (with_reducible refine Off.new (by assumption) _ _ ?_; wtm_at "off36") | (with_reducible refine at_same (by with_reducible assumption) ?_; wtm_at "off36"))
local macro_rules | `(tactic| wtm_at "at37") => `(tactic| first | with_reducible assumption | with_reducible exact upd_same | (with_reducible refine at_new (by assumption) ?_; wtm_at "at36") | (with_reducible refine at_same (by with_reducible assumption) ?_; wtm_at "at36") | (with_reducible apply Off.at; wtm_at "off37"))
local macro_rules | `(tactic| wtm_at "off38") => `(tactic| first | with_reducible assumption | (with_reducible apply Off.mk; wtm_at "pen"; assumption) | (with_reducible refine Off.new (by assumption) _ _ ?_; wtm_at "off37") | (with_reducible refine at_same (by with_reducible assumption) ?_; wtm_at "off37"))
local macro_rules | `(tactic| wtm_at "at38") => `(tactic| first | with_reducible assumption | with_reducible exact upd_same | (with_reducible refine at_new (by assumption) ?_; wtm_at "at37") | (with_reducible refine at_same (by with_reducible assumption) ?_; wtm_at "at37") | (with_reducible apply Off.at; wtm_at "off38"))
local macro_rules | `(tactic| wtm_at "off39") => `(tactic| first | with_reducible assumption | (with_reducible apply Off.mk; wtm_at "pen"; assumption) | (with_reducible refine Off.new (by assumption) _ _ ?_; wtm_at "off38") | (with_reducible refine at_same (by with_reducible assumption) ?_; wtm_at "off38"))
local macro_rules | `(tactic| wtm_at "at39") => `(tactic| first | with_reducible assumption | with_reducible exact upd_same | (with_reducible refine at_new (by assumption) ?_; wtm_at "at38") | (with_reducible refine at_same (by with_reducible assumption) ?_; wtm_at "at38") | (with_reducible apply Off.at; wtm_at "off39"))
local macro_rules | `(tactic| wtm_at "at") => `(tactic| wtm_at "at39")
local macro_rules | `(tactic| wtm_at "off") => `(tactic| wtm_at "off39")
local macro_rules | `(tactic| wtm_at "pen") => `(tactic| first
  | assumption | (refine Pen.new (by assumption) ?_; wtm_at "pen") | (refine Pen.same (by assumption) ?_; wtm_at "pen"))
local macro_rules | `(tactic| wtm_at "same") => `(tactic| first
  | exact fun _ _ h => h | assumption | exact same_new (by assumption) | (refine same_trans ?_ (same_new (by assumption)); wtm_at "same") | (refine same_trans ?_ (by assumption); wtm_at "same")
  | (refine same_trans ?_ (Off.new (by assumption)); wtm_at "same") | (refine same_trans ?_ (Off.same (by assumption)); wtm_at "same"))
local macro_rules | `(tactic| wtm_at "dps") => `(tactic| first
  | exact .nil | (apply DpAll.cons; wtm_at "dp"; wtm_at "dps") | exact dpAll_ints _)
local macro_rules | `(tactic| wtm_at "dp") => `(tactic| first
  | exact .non | exact .bl _ | exact .int _ | exact .str _ | (fail) | (apply Dp.lst; (apply SqL.of; wtm_at "at"); wtm_at "dps") | (apply Dp.tup; (apply SqT.of; wtm_at "at"); wtm_at "dps"))
local macro_rules | `(tactic| wtm_at "side") => `(tactic| first
  | exact ⟨by decide, by decide⟩ | exact ⟨by decide, by decide, by decide⟩ | exact .inl ⟨by decide, by decide⟩ | exact .inr ⟨by decide, by decide⟩ | (show ¬ _ = _; decide))
local macro_rules | `(tactic| wtm_at "sml") => `(tactic| first
  | exact sml_none (by decide) | exact sml_bool (by decide) | exact sml_int (by decide) (by omega) | (fail) | exact sml_list (n := 19) (k := 0) (by wtm_at "smls") (by decide) (by decide))
local macro_rules | `(tactic| wtm_at "smls") => `(tactic| first | exact smlAll_nil (m := 0) | (apply smlAll_cons; wtm_at "sml"; wtm_at "smls"))
local macro_rules | `(tactic| wtm_at "shw") => `(tactic| exact Sml.shw (n := 10000) (k := 50) (by wtm_at "sml") (by decide) (by decide))
local macro_rules | `(tactic| wtm_at "rd") => `(tactic| first
  | refine ⟨_, rfl, ?_⟩ | refine ⟨_, _, rfl, rfl, ?_⟩ | refine ifT rfl ?_ | refine ifF rfl ?_ | refine ⟨rfl, ?_⟩
  | refine ⟨_, _, by rfl, by wtm_at "dp", by wtm_at "shw", ?_⟩
  | refine ⟨_, _, _, _, _, rfl, by wtm_at "at", by wtm_at "cls", by wtm_at "na", by rfl, ?_⟩
  | refine ⟨_, _, rfl, .inr (SqT.of (by wtm_at "at")), ?_⟩ | refine ⟨_, _, rfl, .inl (SqL.of (by wtm_at "at")), ?_⟩
  | refine ⟨_, _, rfl, .inr (SqT.of (by wtm_at "at")), by rfl, by rfl, ?_⟩ | refine ⟨_, _, rfl, .inl (SqL.of (by wtm_at "at")), by rfl, by rfl, ?_⟩
  | refine ⟨_, _, _, _, rfl, rfl, SqT.of (by wtm_at "at"), by rfl, ?_⟩ | refine ⟨_, _, _, _, rfl, rfl, SqL.of (by wtm_at "at"), by rfl, ?_⟩
  | refine ⟨_, _, rfl, rfl, by wtm_at "side", ?_⟩
  | refine ⟨_, _, by wtm_at "dp", by wtm_at "dp", by first | rfl | decide +kernel, by first | rfl | decide +kernel, ?_⟩
  | refine ⟨_, _, [_, _], [_, _], rfl, rfl, sqI2 (by wtm_at "at"), sqI2 (by wtm_at "at"), ?_⟩
  | refine ⟨_, _, rfl, ?_⟩
  | refine ⟨Nat.le_of_ble_eq_true rfl, fun _ _ => ?_⟩
  | refine ifF (by decide +kernel) ?_ | refine ifF (nd_refl _) ?_ | refine ifT (de_refl _) ?_)
local macro_rules | `(tactic| wtm_at "cls") => `(tactic| first | exact cls_Agent _)
local macro_rules | `(tactic| wtm_at "na") => `(tactic| first | exact na_Agent_name _ | exact na_Agent_steps _ | exact na_Agent_shape _)

def spFamily (K : PySem.W.Frag) : Sp := fun vs H Q _ => ∃ p c m, vs = [.ref p] ∧ Pen H p c m ∧ m ≤ 90000 ∧ ∀ H', Same (Uk.Off p H) (Uk.Off p H') → Pen H' p c (m + 20) → Q (.bl true) H'
theorem pen_ne_ins {H : Hp} {p c a C dx : Addr} {m : Int} {fs : List (Str × V)} (P : Pen H p c m) (e : H a = some (.ins C dx fs)) : a ≠ p := fun z => by
  obtain ⟨b, l, ns, h, _⟩ := P
  rw [z, h] at e
  cases e
/-- a new agent of one step -/
theorem mkAgent {C r : Addr} {nm wd sg : Str} {H : Hp} {Q : VK} {E : XK} (hC : isAg C) (hr : H r = some (.tup [.str wd, .str sg])) (hw : wd ∈ (["post", "wait"] : List Str)) (hsg : nameOk sg = true) (lsg : sg.length ≤ 8) (hn : nameOk nm = true) (ln : nm.length ≤ 8)
    (h : ∀ x dx t q H', Same H H' → H' x = some (agentO C dx t q nm) → Q (.ref x) H') :
    spMk C (fun vs H Q E => ∃ ws rest, vs = ws ++ rest ∧ ws.length = 2 ∧ rest.length ≤ sizeLine ∧ ∀ p, H p = none → spInit (ws ++ [.ref p]) (upd H p (.tup rest)) Q E) [.str nm, .ref r] H Q E := fun x dx hx hd ne => by
  refine ⟨[.ref x, .str nm], [.ref r], rfl, rfl, Nat.le_of_ble_eq_true rfl, fun t ht => ?_⟩
  have rx : r ≠ x := fun z => by rw [z, hx] at hr; cases hr
  have rd : r ≠ dx := fun z => by rw [z, hd] at hr; cases hr
  have hr2 : upd (upd H dx (.own x)) x (.ins C dx []) r = some (.tup [.str wd, .str sg]) := by rw [upd_ne rx, upd_ne rd]; exact hr
  refine ⟨x, C, dx, nm, t, [.ref r], rfl, hC, at_new ht upd_same, hn, ln, upd_same, Nat.le_refl _, Nat.le_of_ble_eq_true rfl, fun v hv => ?_, fun H' q ch => ⟨rfl, h x dx t q H' (fun a u e => ?_) ch.at_⟩⟩
  · rw [List.mem_singleton.mp hv]
    exact ⟨r, wd, sg, rfl, at_new ht hr2, hw, hsg, lsg⟩
  · have h1 : a ≠ x := fun z => by rw [z, hx] at e; cases e
    have h2 : a ≠ dx := fun z => by rw [z, hd] at e; cases e
    exact ch.ne a u h1 (at_new ht (by rw [upd_ne h1, upd_ne h2]; exact e))
section
variable {mg : PySem.Str → Option Value} {base : Heap} {w : World}
theorem ok__law_family (M : Mod (hd05.heap_39 w.params) mg base) : CallG PP w (hd05.heap_39 w.params) mg base 10 (.ref 291) (pos (spFamily (hd05.heap_39 w.params))) := by
  obtain ⟨fd, F⟩ := fn__law_family w
  refine def_pos F sc__law_family (fun vs H Q E h => ?_) (fun _ _ _ _ _ _ us hl => match us, hl with | [_], _ => rfl) (fun cdv A outer s H vs Q E hr hg h => ?_)
  · obtain ⟨p, c, m, rfl, _⟩ := h; rfl
  have nd := sc__law_family.nd
  obtain ⟨p, c, m, rfl, P, hm, q⟩ := h
  refine ⟨_, (pss_cons (ps_set (i := 1) nd rfl (.inl rfl) (pe_slice sl_str pe_str po_none (po_some (pe_op op_add pe_int (pe_cl (takes_of rfl rfl rfl rfl) (ok_drawP M) (hr.mono (by decide)) hg rfl (mg__law_draw M) (kp__law_draw w) (pa_cons (pv 0) (pa_cons pe_int pa_nil)))))))
      (pss_cons (ps_set (i := 2) nd rfl (.inl rfl) (pe_mkG (takes_of rfl rfl rfl rfl) (mk_Agent w) (ok_Agent___init__ M) (hr.mono (by decide)) hg rfl (mg_Agent M) (pa_cons (pv 1) (pa_cons (pe_tup (pa_cons pe_str (pa_cons pe_str pa_nil))) pa_nil))))
      (pss_cons (ps_set (i := 3) nd rfl (.inl rfl) (pe_mkG (takes_of rfl rfl rfl rfl) (mk_Through w) (ok_Agent___init__ M) (hr.mono (by decide)) hg rfl (mg_Through M) (pa_cons (pv 1) (pa_cons (pe_tup (pa_cons pe_str (pa_cons pe_str pa_nil))) pa_nil))))
      (pss_cons (ps_set (i := 4) nd rfl (.inl rfl) (pe_mkG (takes_of rfl rfl rfl rfl) (mk_Back w) (ok_Agent___init__ M) (hr.mono (by decide)) hg rfl (mg_Back M) (pa_cons (pv 1) (pa_cons (pe_tup (pa_cons pe_str (pa_cons pe_str pa_nil))) pa_nil))))
      (pss_cons (ps_if (pt_cmpR (op_neD (hu_big hr)) (pe_lst (pa_cons (pe_con (pv 2) rfl) (pa_cons (pe_con (pv 3) rfl) (pa_cons (pe_con (pv 4) rfl) pa_nil)))) (pe_lst (pa_cons pe_str (pa_cons pe_str (pa_cons pe_str pa_nil)))) (nomark _)) (pss_one (ps_ret pe_bl)) pss_nil)
      (pss_cons (ps_if (pt_cmpR (op_neD (hu_big hr)) (pe_lst (pa_cons (ClX.pe_cval (pe_glob (v := .ref 169) rfl (mg_Agent M) rfl)) (pa_cons (ClX.pe_cval (pe_glob (v := .ref 209) rfl (mg_Through M) rfl)) (pa_cons (ClX.pe_cval (pe_glob (v := .ref 247) rfl (mg_Back M) rfl)) pa_nil)))) (pe_lst (pa_cons pe_str (pa_cons pe_str (pa_cons pe_str pa_nil)))) (nomark _)) (pss_one (ps_ret pe_bl)) pss_nil)
      (pss_cons (ps_if (pt_cmpR (op_neD (hu_big hr)) (pe_lst (pa_cons (ClX.pe_cval (pe_glob (v := .ref 169) rfl (mg_Agent M) rfl)) (pa_cons (ClX.pe_cval (pe_glob (v := .ref 209) rfl (mg_Through M) rfl)) (pa_cons (ClX.pe_cval (pe_glob (v := .ref 247) rfl (mg_Back M) rfl)) (pa_cons (pe_con (pv 2) rfl) (pa_cons (pe_con (pv 4) rfl) pa_nil)))))) (pe_lst (pa_cons pe_bl (pa_cons pe_bl (pa_cons pe_bl (pa_cons pe_bl (pa_cons pe_bl pa_nil)))))) (nomark _)) (pss_one (ps_ret pe_bl)) pss_nil)
      (pss_cons (ps_if (PW.pt (pw_or (pt_val (pe_callB call_isi (by rfl) (mn_isinstance M) (by decide +kernel) (pa_cons (pv 2) (pa_cons (pe_glob (v := .ref 209) rfl (mg_Through M) rfl) pa_nil)))) (pw_or (pt_val (pe_callB call_isi (by rfl) (mn_isinstance M) (by decide +kernel) (pa_cons (pv 3) (pa_cons (pe_glob (v := .ref 247) rfl (mg_Back M) rfl) pa_nil)))) (pw_or1 (pt_not (pt_val (pe_callB call_isi (by rfl) (mn_isinstance M) (by decide +kernel) (pa_cons (pv 4) (pa_cons (pe_glob (v := .ref 209) rfl (mg_Through M) rfl) pa_nil))))))))) (pss_one (ps_ret pe_bl)) pss_nil)
      (pss_cons (ps_if (PW.pt (pw_or (pt_not (pt_val (pe_callB call_isi (by rfl) (mn_isinstance M) (by decide +kernel) (pa_cons (pv 4) (pa_cons (pe_glob (v := .ref 169) rfl (mg_Agent M) rfl) pa_nil))))) (pw_or1 (pt_not (pt_val (pe_callB call_isi (by rfl) (mn_isinstance M) (by decide +kernel) (pa_cons (pv 3) (pa_cons (pe_glob (v := .ref 169) rfl (mg_Agent M) rfl) pa_nil)))))))) (pss_one (ps_ret pe_bl)) pss_nil)
      (pss_cons (ps_for (passes_of rfl) rfl (pi_range1 (by rfl) (mn_range M) (pa_cons pe_int pa_nil)) (pg_name (i := 5) nd rfl (.inl rfl)) (pss_cons (ps_set (i := 6) nd rfl (.inl rfl) (pe_cl (takes_of rfl rfl rfl rfl) (ok__law_word M) (hr.mono (by decide)) hg rfl (mg__law_word M) (kp__law_word w) (pa_cons (pv 0) pa_nil)))
      (pss_one (ps_if (PW.pt (pw_or (pt_not (pt_val (pe_cl (takes_of rfl rfl rfl rfl) (ok__law_right M) (hr.mono (by decide)) hg rfl (mg__law_right M) (kp__law_right w) (pa_cons (pv 2) (pa_cons pe_int (pa_cons (pv 6) pa_nil)))))) (pw_or (pt_not (pt_val (pe_cl (takes_of rfl rfl rfl rfl) (ok__law_right M) (hr.mono (by decide)) hg rfl (mg__law_right M) (kp__law_right w) (pa_cons (pv 3) (pa_cons pe_int (pa_cons (pv 6) pa_nil)))))) (pw_or1 (pt_not (pt_val (pe_cl (takes_of rfl rfl rfl rfl) (ok__law_right M) (hr.mono (by decide)) hg rfl (mg__law_right M) (kp__law_right w) (pa_cons (pv 4) (pa_cons pe_int (pa_cons (pv 6) pa_nil)))))))))) (pss_one (ps_ret pe_bl)) pss_nil))))
      (pss_one (ps_ret pe_bl)))))))))))), ?_⟩
  repeat wtm_at "rd"
  refine ⟨p, c, m, 3, rfl, P, by omega, by decide, by decide, fun d H1 d0 d3 s1 P1 => ?_⟩
  repeat wtm_at "rd"
  obtain ⟨nm, enm, hnm, hln⟩ : ∃ nm : Str, cutS "dma" none (some (1 + d)) = nm ∧ nameOk nm = true ∧ nm.length ≤ 8 := by
    rcases (by omega : d = 0 ∨ d = 1 ∨ d = 2) with rfl | rfl | rfl <;> exact ⟨_, rfl, by decide +kernel, by decide +kernel⟩
  rw [enm]
  refine ⟨by decide, ?_⟩
  wtm_at "rd"
  refine ⟨Nat.le_of_ble_eq_true rfl, fun r1 hr1 => ?_⟩
  refine ⟨rfl, mkAgent (.inl rfl) upd_same (by simp) (by decide +kernel) (by decide) hnm hln fun a1 x1 t1 q1 H2 s2 e1 => ?_⟩
  wtm_at "rd"
  refine ⟨Nat.le_of_ble_eq_true rfl, fun r2 hr2 => ?_⟩
  refine ⟨rfl, mkAgent (.inr (.inl rfl)) upd_same (by simp) (by decide +kernel) (by decide) hnm hln fun a2 x2 t2 q2 H3 s3 e2 => ?_⟩
  wtm_at "rd"
  refine ⟨Nat.le_of_ble_eq_true rfl, fun r3 hr3 => ?_⟩
  refine ⟨rfl, mkAgent (.inr (.inr rfl)) upd_same (by simp) (by decide +kernel) (by decide) hnm hln fun a3 x3 t3 q3 H4 s4 e3 => ?_⟩
  wtm_at "rd"
  refine ⟨a1, 169, x1, _, _, _, rfl, by wtm_at "at", cls_Agent w, con_Agent_KIND w, rfl, ?_⟩
  wtm_at "rd"
  refine ⟨a2, 209, x2, _, _, _, rfl, by wtm_at "at", cls_Through w, con_Through_KIND w, rfl, ?_⟩
  wtm_at "rd"
  refine ⟨a3, 247, x3, _, _, _, rfl, by wtm_at "at", cls_Back w, con_Back_KIND w, rfl, ?_⟩
  repeat wtm_at "rd"
  refine ⟨169, _, _, _, rfl, crd_Agent w, cva_Agent_KIND w, ?_⟩
  refine ⟨209, _, _, _, rfl, crd_Through w, cva_Through_KIND w, ?_⟩
  refine ⟨247, _, _, _, rfl, crd_Back w, cva_Back_KIND w, ?_⟩
  repeat wtm_at "rd"
  refine ⟨169, _, _, _, rfl, crd_Agent w, cva_Agent_CACHED w, ?_⟩
  refine ⟨209, _, _, _, rfl, crd_Through w, cva_Through_CACHED w, ?_⟩
  refine ⟨247, _, _, _, rfl, crd_Back w, cva_Back_CACHED w, ?_⟩
  wtm_at "rd"
  refine ⟨a1, 169, x1, _, _, _, rfl, by wtm_at "at", cls_Agent w, con_Agent_CACHED w, rfl, ?_⟩
  wtm_at "rd"
  refine ⟨a3, 247, x3, _, _, _, rfl, by wtm_at "at", cls_Back w, con_Back_CACHED w, rfl, ?_⟩
  repeat wtm_at "rd"
  refine ⟨_, _, _, _, _, rfl, .own 209, (tyc_Agent w).ty (by wtm_at "at"), kt_169_209 w, ?_⟩
  repeat wtm_at "rd"
  refine ⟨_, _, _, _, _, rfl, .own 247, (tyc_Through w).ty (by wtm_at "at"), kt_209_247 w, ?_⟩
  repeat wtm_at "rd"
  refine ⟨_, _, _, _, _, rfl, .own 209, (tyc_Back w).ty (by wtm_at "at"), kt_247_209 w, ?_⟩
  repeat wtm_at "rd"
  refine ⟨_, _, _, _, _, rfl, .own 169, (tyc_Back w).ty (by wtm_at "at"), kt_247_169 w, ?_⟩
  repeat wtm_at "rd"
  refine ⟨_, _, _, _, _, rfl, .own 169, (tyc_Through w).ty (by wtm_at "at"), kt_209_169 w, ?_⟩
  repeat wtm_at "rd"
  refine ⟨by decide, by decide, ?_⟩
  have PA := (P1.new (o := .tup [.str "post", .str "s"]) hr1).same s2
  have PB := (PA.new (o := .tup [.str "post", .str "s"]) hr2).same s3
  have PC := (PB.new (o := .tup [.str "post", .str "s"]) hr3).same s4
  have n1 := pen_ne_ins PA e1
  have n2 := pen_ne_ins PB e2
  have n3 := pen_ne_ins PC e3
  refine for_range (lo := 0) (n := 9) (fun i σ H' => (∃ o5 o6, σ = [some (.ref p), some (.str nm), some (.ref a1), some (.ref a2), some (.ref a3), o5, o6]) ∧ Same (Uk.Off p H) (Uk.Off p H') ∧ Uk.Off p H' a1 = some (agentO 169 x1 t1 q1 nm) ∧ Uk.Off p H' a2 = some (agentO 209 x2 t2 q2 nm) ∧ Uk.Off p H' a3 = some (agentO 247 x3 t3 q3 nm) ∧ Pen H' p c (m + 1 + 2 * i))
    ⟨⟨_, _, rfl⟩, same_trans s1 (Uk.Off.same (by wtm_at "same")), Uk.Off.of (by wtm_at "at") n1, Uk.Off.of (by wtm_at "at") n2, Uk.Off.of (by wtm_at "at") n3, (show Pen _ p c (m + 1 + 2 * (0 : Nat)) from (by wtm_at "pen" : Pen _ p c (m + 1)).mono (by omega))⟩ (fun i σ H' hi h => ?_) (fun σ H' h => ?_)
  · obtain ⟨⟨o5, o6, rfl⟩, sm, f1, f2, f3, PL⟩ := h
    wtm_at "rd"
    refine ⟨rfl, p, c, m + 1 + 2 * i, rfl, PL, by omega, fun v H5 wd s5 P5 => ?_⟩
    have g1 := s5 _ _ f1
    have g2 := s5 _ _ f2
    have g3 := s5 _ _ f3
    repeat wtm_at "rd"
    refine ⟨a1, 169, x1, _, 0, v, rfl, Uk.Off.at g1, .inl rfl, rfl, .inl ⟨rfl, rfl⟩, wd, fun H6 s6 => ?_⟩
    repeat wtm_at "rd"
    refine ⟨a2, 209, x2, _, 1, v, rfl, s6 _ _ (Uk.Off.at g2), .inr (.inl rfl), rfl, .inr ⟨by decide, by decide⟩, wd.same s6, fun H7 s7 => ?_⟩
    repeat wtm_at "rd"
    refine ⟨a3, 247, x3, _, 2, v, rfl, s7 _ _ (s6 _ _ (Uk.Off.at g3)), .inr (.inr rfl), rfl, .inr ⟨by decide, by decide⟩, (wd.same s6).same s7, fun H8 s8 => ?_⟩
    repeat wtm_at "rd"
    have s9 : Same H5 H8 := same_trans s6 (same_trans s7 s8)
    exact ⟨⟨_, _, rfl⟩, same_trans sm (same_trans s5 (Uk.Off.same s9)), Uk.Off.same s9 _ _ g1, Uk.Off.same s9 _ _ g2, Uk.Off.same s9 _ _ g3, (P5.same s9).mono (by omega)⟩
  · obtain ⟨⟨o5, o6, rfl⟩, sm, f1, f2, f3, PL⟩ := h
    exact q _ sm (PL.mono (by omega))
end
end M05

namespace M05
open PySem PySem.Spec PyProof.Rows L2 StX Uk

local macro_rules | `(tactic| wtm_at "off0") => `(tactic| first | with_reducible assumption | (with_reducible apply Off.mk; wtm_at "pen"; assumption))
local macro_rules | `(tactic| wtm_at "at0") => `(tactic| first | with_reducible assumption | with_reducible exact upd_same | (with_reducible apply Off.at; wtm_at "off0"))
local macro_rules | `(tactic| wtm_at "off1") => `(tactic| first | with_reducible assumption | (with_reducible apply Off.mk; wtm_at "pen"; assumption) | (with_reducible refine Off.new (by assumption) _ _ ?_; wtm_at "off0") | (with_reducible refine at_same (by with_reducible assumption) ?_; wtm_at "off0"))
local macro_rules | `(tactic| wtm_at "at1") => `(tactic| first | with_reducible assumption | with_reducible exact upd_same | (with_reducible refine at_new (by assumption) ?_; wtm_at "at0") | (with_reducible refine at_same (by with_reducible assumption) ?_; wtm_at "at0") | (with_reducible apply Off.at; wtm_at "off1"))
local macro_rules | `(tactic| wtm_at "off2") => `(tactic| first | with_reducible assumption | (with_reducible apply Off.mk; wtm_at "pen"; assumption) | (with_reducible refine Off.new (by assumption) _ _ ?_; wtm_at "off1") | (with_reducible refine at_same (by with_reducible assumption) ?_; wtm_at "off1"))
local macro_rules | `(tactic| wtm_at "at2") => `(tactic| first | with_reducible assumption | with_reducible exact upd_same | (with_reducible refine at_new (by assumption) ?_; wtm_at "at1") | (with_reducible refine at_same (by with_reducible assumption) ?_; wtm_at "at1") | (with_reducible apply Off.at; wtm_at "off2"))
local macro_rules | `(tactic| wtm_at "off3") => `(tactic| first | with_reducible assumption | (with_reducible apply Off.mk; wtm_at "pen"; assumption) | (with_reducible refine Off.new (by assumption) _ _ ?_; wtm_at "off2") | (with_reducible refine at_same (by with_reducible assumption) ?_; wtm_at "off2"))
local macro_rules | `(tactic| wtm_at "at3") => `(tactic| first | with_reducible assumption | with_reducible exact upd_same | (with_reducible refine at_new (by assumption) ?_; wtm_at "at2") | (with_reducible refine at_same (by with_reducible assumption) ?_; wtm_at "at2") | (with_reducible apply Off.at; wtm_at "off3"))
local macro_rules | `(tactic| wtm_at "off4") => `(tactic| first | with_reducible assumption | (with_reducible apply Off.mk; wtm_at "pen"; assumption) | (with_reducible refine Off.new (by assumption) _ _ ?_; wtm_at "off3") | (with_reducible refine at_same (by with_reducible assumption) ?_; wtm_at "off3"))
local macro_rules | `(tactic| wtm_at "at4") => `(tactic| first | with_reducible assumption | with_reducible exact upd_same | (with_reducible refine at_new (by assumption) ?_; wtm_at "at3") | (with_reducible refine at_same (by with_reducible assumption) ?_; wtm_at "at3") | (with_reducible apply Off.at; wtm_at "off4"))
local macro_rules | `(tactic| wtm_at "off5") => `(tactic| first | with_reducible assumption | (with_reducible apply Off.mk; wtm_at "pen"; assumption) | (with_reducible refine Off.new (by assumption) _ _ ?_; wtm_at "off4") | (with_reducible refine at_same (by with_reducible assumption) ?_; wtm_at "off4"))
local macro_rules | `(tactic| wtm_at "at5") => `(tactic| first | with_reducible assumption | with_reducible exact upd_same | (with_reducible refine at_new (by assumption) ?_; wtm_at "at4") | (with_reducible refine at_same (by with_reducible assumption) ?_; wtm_at "at4") | (with_reducible apply Off.at; wtm_at "off5"))
local macro_rules | `(tactic| wtm_at "off6") => `(tactic| first | with_reducible assumption | (with_reducible apply Off.mk; wtm_at "pen"; assumption) | (with_reducible refine Off.new (by assumption) _ _ ?_; wtm_at "off5") | (with_reducible refine at_same (by with_reducible assumption) ?_; wtm_at "off5"))
local macro_rules | `(tactic| wtm_at "at6") => `(tactic| first | with_reducible assumption | with_reducible exact upd_same | (with_reducible refine at_new (by assumption) ?_; wtm_at "at5") | (with_reducible refine at_same (by with_reducible assumption) ?_; wtm_at "at5") | (with_reducible apply Off.at; wtm_at "off6"))
local macro_rules | `(tactic| wtm_at "off7") => `(tactic| first | with_reducible assumption | (with_reducible apply Off.mk; wtm_at "pen"; assumption) | (with_reducible refine Off.new (by assumption) _ _ ?_; wtm_at "off6") | (with_reducible refine at_same (by with_reducible assumption) ?_; wtm_at "off6"))
local macro_rules | `(tactic| wtm_at "at7") => `(tactic| first | with_reducible assumption | with_reducible exact upd_same | (with_reducible refine at_new (by assumption) ?_; wtm_at "at6") | (with_reducible refine at_same (by with_reducible assumption) ?_; wtm_at "at6") | (with_reducible apply Off.at; wtm_at "off7"))
local macro_rules | `(tactic| wtm_at "off8") => `(tactic| first | with_reducible assumption | (with_reducible apply Off.mk; wtm_at "pen"; assumption) | (with_reducible refine Off.new (by assumption) _ _ ?_; wtm_at "off7") | (with_reducible refine at_same (by with_reducible assumption) ?_; wtm_at "off7"))
local macro_rules | `(tactic| wtm_at "at8") => `(tactic| first | with_reducible assumption | with_reducible exact upd_same | (with_reducible refine at_new (by assumption) ?_; wtm_at "at7") | (with_reducible refine at_same (by with_reducible assumption) ?_; wtm_at "at7") | (with_reducible apply Off.at; wtm_at "off8"))
local macro_rules | `(tactic| wtm_at "off9") => `(tactic| first | with_reducible assumption | (with_reducible apply Off.mk; wtm_at "pen"; assumption) | (with_reducible refine Off.new (by assumption) _ _ ?_; wtm_at "off8") | (with_reducible refine at_same (by with_reducible assumption) ?_; wtm_at "off8"))
local macro_rules | `(tactic| wtm_at "at9") => `(tactic| first | with_reducible assumption | with_reducible exact upd_same | (with_reducible refine at_new (by assumption) ?_; wtm_at "at8") | (with_reducible refine at_same (by with_reducible assumption) ?_; wtm_at "at8") | (with_reducible apply Off.at; wtm_at "off9"))
local macro_rules | `(tactic| wtm_at "off10") => `(tactic| first | with_reducible assumption | (with_reducible apply Off.mk; wtm_at "pen"; assumption) | (with_reducible refine Off.new (by assumption) _ _ ?_; wtm_at "off9") | (with_reducible refine at_same (by with_reducible assumption) ?_; wtm_at "off9"))
local macro_rules | `(tactic| wtm_at "at10") => `(tactic| first | with_reducible assumption | with_reducible exact upd_same | (with_reducible refine at_new (by assumption) ?_; wtm_at "at9") | (with_reducible refine at_same (by with_reducible assumption) ?_; wtm_at "at9") | (with_reducible apply Off.at; wtm_at "off10"))
local macro_rules | `(tactic| wtm_at "off11") => `(tactic| first | with_reducible assumption | (with_reducible apply Off.mk; wtm_at "pen"; assumption) | (with_reducible refine Off.new (by assumption) _ _ ?_; wtm_at "off10") | (with_reducible refine at_same (by with_reducible assumption) ?_; wtm_at "off10"))
local macro_rules | `(tactic| wtm_at "at11") => `(tactic| first | with_reducible assumption | with_reducible exact upd_same | (with_reducible refine at_new (by assumption) ?_; wtm_at "at10") | (with_reducible refine at_same (by with_reducible assumption) ?_; wtm_at "at10") | (with_reducible apply Off.at; wtm_at "off11"))
local macro_rules | `(tactic| wtm_at "off12") => `(tactic| first | with_reducible assumption | (with_reducible apply Off.mk; wtm_at "pen"; assumption) | (with_reducible refine Off.new (by assumption) _ _ ?_; wtm_at "off11") | (with_reducible refine at_same (by with_reducible assumption) ?_; wtm_at "off11"))
local macro_rules | `(tactic| wtm_at "at12") => `(tactic| first | with_reducible assumption | with_reducible exact upd_same | (with_reducible refine at_new (by assumption) ?_; wtm_at "at11") | (with_reducible refine at_same (by with_reducible assumption) ?_; wtm_at "at11") | (with_reducible apply Off.at; wtm_at "off12"))
local macro_rules | `(tactic| wtm_at "off13") => `(tactic| first | with_reducible assumption | (with_reducible apply Off.mk; wtm_at "pen"; assumption) | (with_reducible refine Off.new (by assumption) _ _ ?_; wtm_at "off12") | (with_reducible refine at_same (by with_reducible assumption) ?_; wtm_at "off12"))
local macro_rules | `(tactic| wtm_at "at13") => `(tactic| first | with_reducible assumption | with_reducible exact upd_same | (with_reducible refine at_new (by assumption) ?_; wtm_at "at12") | (with_reducible refine at_same (by with_reducible assumption) ?_; wtm_at "at12") | (with_reducible apply Off.at; wtm_at "off13"))
local macro_rules | `(tactic| wtm_at "off14") => `(tactic| first | with_reducible assumption | (with_reducible apply Off.mk; wtm_at "pen"; assumption) | (with_reducible refine Off.new (by assumption) _ _ ?_; wtm_at "off13") | (with_reducible refine at_same (by with_reducible assumption) ?_; wtm_at "off13"))
local macro_rules | `(tactic| wtm_at "at14") => `(tactic| first | with_reducible assumption | with_reducible exact upd_same | (with_reducible refine at_new (by assumption) ?_; wtm_at "at13") | (with_reducible refine at_same (by with_reducible assumption) ?_; wtm_at "at13") | (with_reducible apply Off.at; wtm_at "off14"))
local macro_rules | `(tactic| wtm_at "off15") => `(tactic| first | with_reducible assumption | (with_reducible apply Off.mk; wtm_at "pen"; assumption) | (with_reducible refine Off.new (by assumption) _ _ ?_; wtm_at "off14") | (with_reducible refine at_same (by with_reducible assumption) ?_; wtm_at "off14"))
local macro_rules | `(tactic| wtm_at "at15") => `(tactic| first | with_reducible assumption | with_reducible exact upd_same | (with_reducible refine at_new (by assumption) ?_; wtm_at "at14") | (with_reducible refine at_same (by with_reducible assumption) ?_; wtm_at "at14") | (with_reducible apply Off.at; wtm_at "off15"))
local macro_rules | `(tactic| wtm_at "off16") => `(tactic| first | with_reducible assumption | (with_reducible apply Off.mk; wtm_at "pen"; assumption) | (with_reducible refine Off.new (by assumption) _ _ ?_; wtm_at "off15") | (with_reducible refine at_same (by with_reducible assumption) ?_; wtm_at "off15"))
local macro_rules | `(tactic| wtm_at "at16") => `(tactic| first | with_reducible assumption | with_reducible exact upd_same | (with_reducible refine at_new (by assumption) ?_; wtm_at "at15") | (with_reducible refine at_same (by with_reducible assumption) ?_; wtm_at "at15") | (with_reducible apply Off.at; wtm_at "off16"))
local macro_rules | `(tactic| wtm_at "off17") => `(tactic| first | with_reducible assumption | (with_reducible apply Off.mk; wtm_at "pen"; assumption) | (with_reducible refine Off.new (by assumption) _ _ ?_; wtm_at "off16") | (with_reducible refine at_same (by with_reducible assumption) ?_; wtm_at "off16"))
local macro_rules | `(tactic| wtm_at "at17") => `(tactic| first | with_reducible assumption | with_reducible exact upd_same | (with_reducible refine at_new (by assumption) ?_; wtm_at "at16") | (with_reducible refine at_same (by with_reducible assumption) ?_; wtm_at "at16") | (with_reducible apply Off.at; wtm_at "off17"))
local macro_rules | `(tactic| wtm_at "off18") => `(tactic| first | with_reducible assumption | (with_reducible apply Off.mk; wtm_at "pen"; assumption) | (with_reducible refine Off.new (by assumption) _ _ ?_; wtm_at "off17") | (with_reducible refine at_same (by with_reducible assumption) ?_; wtm_at "off17"))
local macro_rules | `(tactic| wtm_at "at18") => `(tactic| first | with_reducible assumption | with_reducible exact upd_same | (with_reducible refine at_new (by assumption) ?_; wtm_at "at17") | (with_reducible refine at_same (by with_reducible assumption) ?_; wtm_at "at17") | (with_reducible apply Off.at; wtm_at "off18"))
local macro_rules | `(tactic| wtm_at "off19") => `(tactic| first | with_reducible assumption | (with_reducible apply Off.mk; wtm_at "pen"; assumption) | (with_reducible refine Off.new (by assumption) _ _ ?_; wtm_at "off18") | (with_reducible refine at_same (by with_reducible assumption) ?_; wtm_at "off18"))
local macro_rules | `(tactic| wtm_at "at19") => `(tactic| first | with_reducible assumption | with_reducible exact upd_same | (with_reducible refine at_new (by assumption) ?_; wtm_at "at18") | (with_reducible refine at_same (by with_reducible assumption) ?_; wtm_at "at18") | (with_reducible apply Off.at; wtm_at "off19"))
local macro_rules | `(tactic| wtm_at "off20") => `(tactic| first | with_reducible assumption | (with_reducible apply Off.mk; wtm_at "pen"; assumption) | (with_reducible refine Off.new (by assumption) _ _ ?_; wtm_at "off19") | (with_reducible refine at_same (by with_reducible assumption) ?_; wtm_at "off19"))
local macro_rules | `(tactic| wtm_at "at20") => `(tactic| first | with_reducible assumption | with_reducible exact upd_same | (with_reducible refine at_new (by assumption) ?_; wtm_at "at19") | (with_reducible refine at_same (by with_reducible assumption) ?_; wtm_at "at19") | (with_reducible apply Off.at; wtm_at "off20"))
local macro_rules | `(tactic| wtm_at "off21") => `(tactic| first | with_reducible assumption | (with_reducible apply Off.mk; wtm_at "pen"; assumption) | (with_reducible refine Off.new (by assumption) _ _ ?_; wtm_at "off20") | (with_reducible refine at_same (by with_reducible assumption) ?_; wtm_at "off20"))
local macro_rules | `(tactic| wtm_at "at21") => `(tactic| first | with_reducible assumption | with_reducible exact upd_same | (with_reducible refine at_new (by assumption) ?_; wtm_at "at20") | (with_reducible refine at_same (by with_reducible assumption) ?_; wtm_at "at20") | (with_reducible apply Off.at; wtm_at "off21"))
local macro_rules | `(tactic| wtm_at "off22") => `(tactic| first | with_reducible assumption | (with_reducible apply Off.mk; wtm_at "pen"; assumption) | (with_reducible refine Off.new (by assumption) _ _ ?_; wtm_at "off21") | (with_reducible refine at_same (by with_reducible assumption) ?_; wtm_at "off21"))
local macro_rules | `(tactic| wtm_at "at22") => `(tactic| first | with_reducible assumption | with_reducible exact upd_same | (with_reducible refine at_new (by assumption) ?_; wtm_at "at21") | (with_reducible refine at_same (by with_reducible assumption) ?_; wtm_at "at21") | (with_reducible apply Off.at; wtm_at "off22"))
local macro_rules | `(tactic| wtm_at "off23") => `(tactic| first | with_reducible assumption | (with_reducible apply Off.mk; wtm_at "pen"; assumption) | (with_reducible refine Off.new (by assumption) _ _ ?_; wtm_at "off22") | (with_reducible refine at_same (by with_reducible assumption) ?_; wtm_at "off22"))
local macro_rules | `(tactic| wtm_at "at23") => `(tactic| first | with_reducible assumption | with_reducible exact upd_same | (with_reducible refine at_new (by assumption) ?_; wtm_at "at22") | (with_reducible refine at_same (by with_reducible assumption) ?_; wtm_at "at22") | (with_reducible apply Off.at; wtm_at "off23"))
local macro_rules | `(tactic| wtm_at "off24") => `(tactic| first | with_reducible assumption | (with_reducible apply Off.mk; wtm_at "pen"; assumption) | (with_reducible refine Off.new (by assumption) _ _ ?_; wtm_at "off23") | (with_reducible refine at_same (by with_reducible assumption) ?_; wtm_at "off23"))
local macro_rules | `(tactic| wtm_at "at24") => `(tactic| first | with_reducible assumption | with_reducible exact upd_same | (with_reducible refine at_new (by assumption) ?_; wtm_at "at23") | (with_reducible refine at_same (by with_reducible assumption) ?_; wtm_at "at23") | (with_reducible apply Off.at; wtm_at "off24"))
local macro_rules | `(tactic| wtm_at "off25") => `(tactic| first | with_reducible assumption | (with_reducible apply Off.mk; wtm_at "pen"; assumption) | (with_reducible refine Off.new (by assumption) _ _ ?_; wtm_at "off24") | (with_reducible refine at_same (by with_reducible assumption) ?_; wtm_at "off24"))
local macro_rules | `(tactic| wtm_at "at25") => `(tactic| first | with_reducible assumption | with_reducible exact upd_same | (with_reducible refine at_new (by assumption) ?_; wtm_at "at24") | (with_reducible refine at_same (by with_reducible assumption) ?_; wtm_at "at24") | (with_reducible apply Off.at; wtm_at "off25"))
local macro_rules | `(tactic| wtm_at "off26") => `(tactic| first | with_reducible assumption | (with_reducible apply Off.mk; wtm_at "pen"; assumption) | (with_reducible refine Off.new (by assumption) _ _ ?_; wtm_at "off25") | (with_reducible refine at_same (by with_reducible assumption) ?_; wtm_at "off25"))
local macro_rules | `(tactic| wtm_at "at26") => `(tactic| first | with_reducible assumption | with_reducible exact upd_same | (with_reducible refine at_new (by assumption) ?_; wtm_at "at25") | (with_reducible refine at_same (by with_reducible assumption) ?_; wtm_at "at25") | (with_reducible apply Off.at; wtm_at "off26"))
local macro_rules | `(tactic| wtm_at "off27") => `(tactic| first | with_reducible assumption | (with_reducible apply Off.mk; wtm_at "pen"; assumption) | (with_reducible refine Off.new (by assumption) _ _ ?_; wtm_at "off26") | (with_reducible refine at_same (by with_reducible assumption) ?_; wtm_at "off26"))
local macro_rules | `(tactic| wtm_at "at27") => `(tactic| first | with_reducible assumption | with_reducible exact upd_same | (with_reducible refine at_new (by assumption) ?_; wtm_at "at26") | (with_reducible refine at_same (by with_reducible assumption) ?_; wtm_at "at26") | (with_reducible apply Off.at; wtm_at "off27"))
local macro_rules | `(tactic| wtm_at "off28") => `(tactic| first | with_reducible assumption | (with_reducible apply Off.mk; wtm_at "pen"; assumption) | (with_reducible refine Off.new (by assumption) _ _ ?_; wtm_at "off27") | (with_reducible refine at_same (by with_reducible assumption) ?_; wtm_at "off27"))
local macro_rules | `(tactic| wtm_at "at28") => `(tactic| first | with_reducible assumption | with_reducible exact upd_same | (with_reducible refine at_new (by assumption) ?_; wtm_at "at27") | (with_reducible refine at_same (by with_reducible assumption) ?_; wtm_at "at27") | (with_reducible apply Off.at; wtm_at "off28"))
local macro_rules | `(tactic| wtm_at "off29") => `(tactic| first | with_reducible assumption | (with_reducible apply Off.mk; wtm_at "pen"; assumption) | (with_reducible refine Off.new (by assumption) _ _ ?_; wtm_at "off28") | (with_reducible refine at_same (by with_reducible assumption) ?_; wtm_at "off28"))
local macro_rules | `(tactic| wtm_at "at29") => `(tactic| first | with_reducible assumption | with_reducible exact upd_same | (with_reducible refine at_new (by assumption) ?_; wtm_at "at28") | (with_reducible refine at_same (by with_reducible assumption) ?_; wtm_at "at28") | (with_reducible apply Off.at; wtm_at "off29"))
local macro_rules | `(tactic| wtm_at "off30") => `(tactic| first | with_reducible assumption | (with_reducible apply Off.mk; wtm_at "pen"; assumption) | (with_reducible refine Off.new (by assumption) _ _ ?_; wtm_at "off29") | (with_reducible refine at_same (by with_reducible assumption) ?_; wtm_at "off29"))
local macro_rules | `(tactic| wtm_at "at30") => `(tactic| first | with_reducible assumption | with_reducible exact upd_same | (with_reducible refine at_new (by assumption) ?_; wtm_at "at29") | (with_reducible refine at_same (by with_reducible assumption) ?_; wtm_at "at29") | (with_reducible apply Off.at; wtm_at "off30"))
local macro_rules | `(tactic| wtm_at "off31") => `(tactic| first | with_reducible assumption | (with_reducible apply Off.mk; wtm_at "pen"; assumption) | (with_reducible refine Off.new (by assumption) _ _ ?_; wtm_at "off30") | (with_reducible refine at_same (by with_reducible assumption) ?_; wtm_at "off30"))
local macro_rules | `(tactic| wtm_at "at31") => `(tactic| first | with_reducible assumption | with_reducible exact upd_same | (with_reducible refine at_new (by assumption) ?_; wtm_at "at30") | (with_reducible refine at_same (by with_reducible assumption) ?_; wtm_at "at30") | (with_reducible apply Off.at; wtm_at "off31"))
local macro_rules | `(tactic| wtm_at "off32") => `(tactic| first | with_reducible assumption | (with_reducible apply Off.mk; wtm_at "pen"; assumption) | (with_reducible refine Off.new (by assumption) _ _ ?_; wtm_at "off31") | (with_reducible refine at_same (by with_reducible assumption) ?_; wtm_at "off31"))
local macro_rules | `(tactic| wtm_at "at32") => `(tactic| first | with_reducible assumption | with_reducible exact upd_same | (with_reducible refine at_new (by assumption) ?_; wtm_at "at31") | (with_reducible refine at_same (by with_reducible assumption) ?_; wtm_at "at31") | (with_reducible apply Off.at; wtm_at "off32"))
local macro_rules | `(tactic| wtm_at "off33") => `(tactic| first | with_reducible assumption | (with_reducible apply Off.mk; wtm_at "pen"; assumption) | (with_reducible refine Off.new (by assumption) _ _ ?_; wtm_at "off32") | (with_reducible refine at_same (by with_reducible assumption) ?_; wtm_at "off32"))
local macro_rules | `(tactic| wtm_at "at33") => `(tactic| first | with_reducible assumption | with_reducible exact upd_same | (with_reducible refine at_new (by assumption) ?_; wtm_at "at32") | (with_reducible refine at_same (by with_reducible assumption) ?_; wtm_at "at32") | (with_reducible apply Off.at; wtm_at "off33"))
local macro_rules | `(tactic| wtm_at "off34") => `(tactic| first | with_reducible assumption | (with_reducible apply Off.mk; wtm_at "pen"; assumption) | (with_reducible refine Off.new (by assumption) _ _ ?_; wtm_at "off33") | (with_reducible refine at_same (by with_reducible assumption) ?_; wtm_at "off33"))
local macro_rules | `(tactic| wtm_at "at34") => `(tactic| first | with_reducible assumption | with_reducible exact upd_same | (with_reducible refine at_new (by assumption) ?_; wtm_at "at33") | (with_reducible refine at_same (by with_reducible assumption) ?_; wtm_at "at33") | (with_reducible apply Off.at; wtm_at "off34"))
local macro_rules | `(tactic| wtm_at "off35") => `(tactic| first | with_reducible assumption | (with_reducible apply Off.mk; wtm_at "pen"; assumption) | (with_reducible refine Off.new (by assumption) _ _ ?_; wtm_at "off34") | (with_reducible refine at_same (by with_reducible assumption) ?_; wtm_at "off34"))
local macro_rules | `(tactic| wtm_at "at35") => `(tactic| first | with_reducible assumption | with_reducible exact upd_same | (with_reducible refine at_new (by assumption) ?_; wtm_at "at34") | (with_reducible refine at_same (by with_reducible assumption) ?_; wtm_at "at34") | (with_reducible apply Off.at; wtm_at "off35"))
local macro_rules | `(tactic| wtm_at "off36") => `(tactic| first | with_reducible assumption | (with_reducible apply Off.mk; wtm_at "pen"; assumption) | (with_reducible refine Off.new (by assumption) _ _ ?_; wtm_at "off35") | (with_reducible refine at_same (by with_reducible assumption) ?_; wtm_at "off35"))
local macro_rules | `(tactic| wtm_at "at36") => `(tactic| first | with_reducible assumption | with_reducible exact upd_same | (with_reducible refine at_new (by assumption) ?_; wtm_at "at35") | (with_reducible refine at_same (by with_reducible assumption) ?_; wtm_at "at35") | (with_reducible apply Off.at; wtm_at "off36"))
local macro_rules | `(tactic| wtm_at "off37") => `(tactic| first | with_reducible assumption | (with_reducible apply Off.mk; wtm_at "pen"; assumption) | (with_reducible refine Off.new (by assumption) _ _ ?_; wtm_at "off36") | (with_reducible refine at_same (by with_reducible assumption) ?_; wtm_at "off36"))
local macro_rules | `(tactic| wtm_at "at37") => `(tactic| first | with_reducible assumption | with_reducible exact upd_same | (with_reducible refine at_new (by assumption) ?_; wtm_at "at36") | (with_reducible refine at_same (by with_reducible assumption) ?_; wtm_at "at36") | (with_reducible apply Off.at; wtm_at "off37"))
local macro_rules | `(tactic| wtm_at "off38") => `(tactic| first | with_reducible assumption | (with_reducible apply Off.mk; wtm_at "pen"; assumption) | (with_reducible refine Off.new (by assumption) _ _ ?_; wtm_at "off37") | (with_reducible refine at_same (by with_reducible assumption) ?_; wtm_at "off37"))
local macro_rules | `(tactic| wtm_at "at38") => `(tactic| first | with_reducible assumption | with_reducible exact upd_same | (with_reducible refine at_new (by assumption) ?_; wtm_at "at37") | (with_reducible refine at_same (by with_reducible assumption) ?_; wtm_at "at37") | (with_reducible apply Off.at; wtm_at "off38"))
local macro_rules | `(tactic| wtm_at "off39") => `(tactic| first | with_reducible assumption | (with_reducible apply Off.mk; wtm_at "pen"; assumption) | (with_reducible refine Off.new (by assumption) _ _ ?_; wtm_at "off38") | (with_reducible refine at_same (by with_reducible assumption) ?_; wtm_at "off38"))
local macro_rules | `(tactic| wtm_at "at39") => `(tactic| first | with_reducible assumption | with_reducible exact upd_same | (with_reducible refine at_new (by assumption) ?_; wtm_at "at38") | (with_reducible refine at_same (by with_reducible assumption) ?_; wtm_at "at38") | (with_reducible apply Off.at; wtm_at "off39"))
local macro_rules | `(tactic| wtm_at "at") => `(tactic| wtm_at "at39")
local macro_rules | `(tactic| wtm_at "off") => `(tactic| wtm_at "off39")
local macro_rules | `(tactic| wtm_at "pen") => `(tactic| first
  | assumption | (refine Pen.new (by assumption) ?_; wtm_at "pen") | (refine Pen.same (by assumption) ?_; wtm_at "pen"))
local macro_rules | `(tactic| wtm_at "same") => `(tactic| first
  | exact fun _ _ h => h | assumption | exact same_new (by assumption) | (refine same_trans ?_ (same_new (by assumption)); wtm_at "same") | (refine same_trans ?_ (by assumption); wtm_at "same")
  | (refine same_trans ?_ (Off.new (by assumption)); wtm_at "same") | (refine same_trans ?_ (Off.same (by assumption)); wtm_at "same"))
local macro_rules | `(tactic| wtm_at "dps") => `(tactic| first
  | exact .nil | (apply DpAll.cons; wtm_at "dp"; wtm_at "dps") | exact dpAll_ints _)
local macro_rules | `(tactic| wtm_at "dp") => `(tactic| first
  | exact .non | exact .bl _ | exact .int _ | exact .str _ | (fail) | (apply Dp.lst; (apply SqL.of; wtm_at "at"); wtm_at "dps") | (apply Dp.tup; (apply SqT.of; wtm_at "at"); wtm_at "dps"))
local macro_rules | `(tactic| wtm_at "side") => `(tactic| first
  | exact ⟨by decide, by decide⟩ | exact ⟨by decide, by decide, by decide⟩ | exact .inl ⟨by decide, by decide⟩ | exact .inr ⟨by decide, by decide⟩ | (show ¬ _ = _; decide))
local macro_rules | `(tactic| wtm_at "sml") => `(tactic| first
  | exact sml_none (by decide) | exact sml_bool (by decide) | exact sml_int (by decide) (by omega) | (fail) | exact sml_list (n := 19) (k := 0) (by wtm_at "smls") (by decide) (by decide))
local macro_rules | `(tactic| wtm_at "smls") => `(tactic| first | exact smlAll_nil (m := 0) | (apply smlAll_cons; wtm_at "sml"; wtm_at "smls"))
local macro_rules | `(tactic| wtm_at "shw") => `(tactic| exact Sml.shw (n := 10000) (k := 50) (by wtm_at "sml") (by decide) (by decide))
local macro_rules | `(tactic| wtm_at "rd") => `(tactic| first
  | refine ⟨_, rfl, ?_⟩ | refine ⟨_, _, rfl, rfl, ?_⟩ | refine ifT rfl ?_ | refine ifF rfl ?_ | refine ⟨rfl, ?_⟩
  | refine ⟨_, _, by rfl, by wtm_at "dp", by wtm_at "shw", ?_⟩
  | refine ⟨_, _, _, _, _, rfl, by wtm_at "at", by wtm_at "cls", by wtm_at "na", by rfl, ?_⟩
  | refine ⟨_, _, rfl, .inr (SqT.of (by wtm_at "at")), ?_⟩ | refine ⟨_, _, rfl, .inl (SqL.of (by wtm_at "at")), ?_⟩
  | refine ⟨_, _, rfl, .inr (SqT.of (by wtm_at "at")), by rfl, by rfl, ?_⟩ | refine ⟨_, _, rfl, .inl (SqL.of (by wtm_at "at")), by rfl, by rfl, ?_⟩
  | refine ⟨_, _, _, _, rfl, rfl, SqT.of (by wtm_at "at"), by rfl, ?_⟩ | refine ⟨_, _, _, _, rfl, rfl, SqL.of (by wtm_at "at"), by rfl, ?_⟩
  | refine ⟨_, _, rfl, rfl, by wtm_at "side", ?_⟩
  | refine ⟨_, _, by wtm_at "dp", by wtm_at "dp", by first | rfl | decide +kernel, by first | rfl | decide +kernel, ?_⟩
  | refine ⟨_, _, [_, _], [_, _], rfl, rfl, sqI2 (by wtm_at "at"), sqI2 (by wtm_at "at"), ?_⟩
  | refine ⟨_, _, rfl, ?_⟩
  | refine ⟨Nat.le_of_ble_eq_true rfl, fun _ _ => ?_⟩
  | refine ifF (by decide +kernel) ?_ | refine ifF (nd_refl _) ?_ | refine ifT (de_refl _) ?_)
local macro_rules | `(tactic| wtm_at "cls") => `(tactic| first | exact cls_Agent _)
local macro_rules | `(tactic| wtm_at "na") => `(tactic| first | exact na_Agent_name _ | exact na_Agent_steps _ | exact na_Agent_shape _)

def spLaw (K : PySem.W.Frag) : Sp := fun vs H Q _ => ∃ (a : Addr) (ns : List Int), vs = [.ref a] ∧ SqL K H a (ns.map V.int) ∧ ∀ H', Q (.bl true) H'
section
variable {mg : PySem.Str → Option Value} {base : Heap} {w : World}
theorem ok_law (M : Mod (hd05.heap_39 w.params) mg base) : CallG PP w (hd05.heap_39 w.params) mg base 12 (.ref 296) (pos (spLaw (hd05.heap_39 w.params))) := by
  obtain ⟨fd, F⟩ := fn_law w
  refine def_pos F sc_law (fun vs H Q E h => ?_) (fun _ _ _ _ _ _ us hl => match us, hl with | [_], _ => rfl) (fun cdv A outer s H vs Q E hr hg h => ?_)
  · obtain ⟨a, ns, rfl, _⟩ := h; rfl
  have nd := sc_law.nd
  obtain ⟨a, ns, rfl, ha, q⟩ := h
  refine ⟨_, (pss_cons (ps_set (i := 1) nd rfl (.inr rfl) (pe_cl (takes_of rfl rfl rfl rfl) (ok__law_pen M) (hr.mono (by decide)) hg rfl (mg__law_pen M) (kp__law_pen w) (pa_cons (pv 0) pa_nil)))
      (pss_one (ps_ret (pe_callB (cr_all rfl) (by rfl) (mn_all M) (by decide +kernel) (pa_cons (pe_lc (own := [("k", 2)]) (g := gName 2) (by rfl) nd (pi_range1 (by rfl) (mn_range M) (pa_cons pe_int pa_nil)) (blkOk_by (own := [("k", 2)]) (N := ["script", "pen", "k"]) (sc := defScope s_law) (by decide +kernel)) (fun _ _ _ _ _ => pg_name (i := 2) nd rfl (Or.inl rfl)) (fun _ _ _ _ _ => pts_nil) (fun _ _ _ _ _ => (pe_cl takes_no (ok__law_family M) (hr.mono (by decide)) hg rfl (mg__law_family M) (kp__law_family w) (pa_cons (pv 1) pa_nil)))) pa_nil))))), ?_⟩
  wtm_at "rd"
  refine ⟨rfl, a, ns, rfl, ha, fun p c H1 s1 P1 => ?_⟩
  refine ⟨4, rfl, by decide, by decide, fun D hD => ?_⟩
  have Dp : D ≠ p := P1.ne hD
  have Dc : D ≠ c := P1.ne2 hD
  refine lc_range (lo := 0) (n := 4) (fun i H' => H' D = some (.lst ((List.replicate i true).map V.bl)) ∧ Pen H' p c (20 * i)) ⟨upd_same, (P1.new hD).mono (by decide)⟩ (fun i H' hi h => ?_) (fun H' h => ?_)
  · obtain ⟨e1, P2⟩ := h
    refine ⟨rfl, ?_⟩
    wtm_at "rd"
    refine ⟨rfl, p, c, 20 * i, rfl, P2, by omega, fun H4 s4 P4 => ?_⟩
    have e3 := Uk.Off.at (s4 _ _ (Uk.Off.of e1 Dp))
    refine ⟨_, e3, ?_, ?_, (P4.upd Dp Dc).mono (by omega)⟩
    · rw [List.length_map, List.length_replicate]
      exact Nat.lt_of_lt_of_le hi (by decide)
    · rw [upd_same, List.replicate_succ', List.map_append]
      rfl
  · obtain ⟨e1, P2⟩ := h
    exact ⟨D, _, rfl, SqL.of e1, q _⟩
end
theorem done : PySem.Challenge.rw_unkeptlines_k05_words_allowed.Holds := by
  refine hd05 ?_
  refine walkG (K := hd05.heap_39) (sp := fun w => spLaw (hd05.heap_39 w.params)) (k := 12) (by rfl) (by decide) (by rfl) ?_ (fun w h Y => PySem.W.kIn_of Y) (fun w mg fa h KX hns hm base M => ?_) fun w H a ns hl hs => ⟨a, ns, rfl, hs, fun _ => rfl⟩
  · exact ⟨by decide, by decide, by decide⟩
  · have e : fa = 296 := by
      have h1 : some (Value.ref fa) = some (.ref 296) := hm.symm.trans (mg_law M)
      cases h1
      rfl
    subst e
    exact ok_law M
end M05

theorem PySem.Challenge.cw_unkeptlines_k05_words_allowed_holds : PySem.Challenge.rw_unkeptlines_k05_words_allowed.Holds := by
  exact M05.done
