import PyProof.Rows.All
import Wide.All
import OpenK.AllK
import Wide.FinOn
import PySem.Challenge.RW_unkeptlines_k04_agents_refused
import KE.KStar
import HandS.ForMost
import HandS.ForExc
import HandS.Star
import HandS.IsInst
import HandS.ClsMeth
import PyProof.Conv_bool
import PyProof.MeetsIn
import PyProof.Rows.Range3
import HandS.Ends
import KE.KSuper
import KE.GoesEnum
import KE.GoesMore
import HandS.Iter
import HandS.Walk
import HandS.ExcInit
import HandS.ExcIs
import HandS.ExcField
import KE.KExcSuper
import KE.KExcIs
import KE.KEqNest
import HandS.CallLocal
import OpenK.KOps
import HandS.RevTup
import HandS.Rev
import PyProof.ListNew
import PyProof.StrOps2
import PyProof.NeData
import PyProof.EqKinds
import HandS.Text
import HandS.TupLe
set_option Elab.async false
set_option linter.all false
set_option maxRecDepth 100000
set_option maxHeartbeats 0
section
open PySem PySem.W PyProof.Rows
open_top hd04 for PySem.Challenge.rw_unkeptlines_k04_agents_refused

end

/-! UkA: promises of whatever is called (defs, classes), with the stack's guards told; calls by them -/
namespace Uk
open PySem PySem.Spec PyProof.Rows L2 StX

abbrev SpK := List V → List (Str × V) → Hp → VK → XK → Prop
abbrev KVs (zs : List (Str × V)) (ks : List (Str × Value)) : Prop := Paired (fun (p : Str × V) (q : Str × Value) => p.1 = q.1 ∧ RelV p.2 q.2) zs ks

/-- a promise of what stands at fv, however it is called -/
def CallG (P : Program) (w : World) (K : PySem.W.Frag) (mg : Str → Option Value) (base : Heap) (k : Nat) (fv : Value) (sp : SpK) : Prop :=
  ∀ (A : Around) (outer : List Env) (s : Shared) (H : Hp) (us : List Value) (kws : List (Str × Value)) (vs : List V) (zs : List (Str × V)) (Q : VK) (E : XK),
    Room k A → A.guards = some [] → Env0 P w K mg base A outer s H → Vals vs us → KVs zs kws → sp vs zs H Q E →
    codeAny (model P w) A (.call fv ⟨us, kws⟩) (CR (L2.CX P w) outer P w H s Q E) s
/-- positional arguments alone -/
def pos (sp : Sp) : SpK := fun vs zs H Q E => zs = [] ∧ sp vs H Q E

section
variable {P : Program} {w : World} {K : PySem.W.Frag} {mg : Str → Option Value} {base : Heap} {j k : Nat} {fv : Value} {sp sp' : SpK}
theorem CallG.mono (F : CallG P w K mg base j fv sp) (h : j ≤ k) : CallG P w K mg base k fv sp := fun A o s H us kws vs zs Q E hr => F A o s H us kws vs zs Q E (hr.mono h)
theorem CallG.imp (F : CallG P w K mg base k fv sp) (h : ∀ vs zs H Q E, sp' vs zs H Q E → sp vs zs H Q E) : CallG P w K mg base k fv sp' :=
  fun A o s H us kws vs zs Q E hr hg e0 r rk q => F A o s H us kws vs zs Q E hr hg e0 r rk (h _ _ _ _ _ q)
end

section
variable {P : Program} {w : World} {K : PySem.W.Frag} {mg : Str → Option Value} {base : Heap} {k : Nat}
/-- a def without defaults, by its body -/
theorem def_pos {x qual : Str} {st : Stmt} {f : Addr} {fd : FuncData} {N ps : List Str} {sp : Sp} (F : Fun K x qual st f fd) (S : FnScope N ps (defScope st)) (len : ∀ vs H Q E, sp vs H Q E → vs.length = ps.length)
    (hb : ∀ (kV doc pm : Value) (an : Option Addr) (cdv ct : Value) (us : List Value), us.length = ps.length → bindArgs (PySem.W.fnOf x qual (defArgs st) (defBody st) (defScope st) .none kV doc pm an cdv ct) ⟨us, []⟩ = pure (ps.zip us))
    (hbody : ∀ (cdv : Value) (A : Around) (outer : List Env) (s : Shared) (H : Hp) (vs : List V) (Q : VK) (E : XK), Room k (A.deeper (envOfC qual (defScope st) s.heap.objs.size f cdv)) → A.guards = some [] → sp vs H Q E →
      ∃ t, PSs (cxOf (L2.CX P w) P w K mg base N qual (defScope st) f cdv A outer s H E) (defBody st) t ∧ t { nx := fun _ H' => Q .non H', rt := Q } (start N vs) H) : CallG P w K mg base (k + 1) (.ref f) (pos sp) := by
  obtain ⟨oc, od, kV, doc, pm, an, cdv, ct, osl, rfl, lk, hcd⟩ := F.ex
  rintro A outer s H us kws vs zs Q E hr hg e0 r rk ⟨rfl, hsp⟩
  cases rk
  refine run_bnd lk hcd S hr e0 (G := fun xs H2 => xs = vs ∧ H2 = H) (fun A' Ex Q' h => ?_) fun s2 H2 xs ⟨ex, eH⟩ hr' => ?_
  · have hl : us.length = ps.length := by rw [← r.length]; exact len _ _ _ _ hsp
    rw [hb kV doc pm an cdv ct us hl]
    exact wpAny_pure (h s H vs us e0 Un.refl rfl (fun _ _ z => z) r (len _ _ _ _ hsp) ⟨rfl, rfl⟩)
  · subst ex eH
    exact hbody cdv A outer s2 _ _ Q E hr' hg hsp
/-- a def with a star behind its parameters -/
theorem def_star {x qual : Str} {st : Stmt} {f : Addr} {fd : FuncData} {N ps : List Str} {pv : Str} {sp : Sp} (F : Fun K x qual st f fd) (S : FnScope N (ps ++ [pv]) (defScope st))
    (hb : ∀ (kV doc pm : Value) (an : Option Addr) (cdv ct : Value) (us rest : List Value), us.length = ps.length → bindArgs (PySem.W.fnOf x qual (defArgs st) (defBody st) (defScope st) .none kV doc pm an cdv ct) ⟨us ++ rest, []⟩ = (newTuple rest >>= fun t => pure (ps.zip us ++ [(pv, t)])))
    (hbody : ∀ (cdv : Value) (A : Around) (outer : List Env) (s : Shared) (H : Hp) (vs : List V) (Q : VK) (E : XK), Room k (A.deeper (envOfC qual (defScope st) s.heap.objs.size f cdv)) → A.guards = some [] → sp vs H Q E →
      ∃ t, PSs (cxOf (L2.CX P w) P w K mg base N qual (defScope st) f cdv A outer s H E) (defBody st) t ∧ t { nx := fun _ H' => Q .non H', rt := Q } (start N vs) H) :
    CallG P w K mg base (k + 1) (.ref f) (pos fun vs H Q E => ∃ ws rest, vs = ws ++ rest ∧ ws.length = ps.length ∧ rest.length ≤ sizeLine ∧ ∀ p, H p = none → sp (ws ++ [.ref p]) (upd H p (.tup rest)) Q E) := by
  obtain ⟨oc, od, kV, doc, pm, an, cdv, ct, osl, rfl, lk, hcd⟩ := F.ex
  rintro A outer s H us kws vs zs Q E hr hg e0 r rk ⟨rfl, ws, rest, rfl, hl, hz, hq⟩
  cases rk
  obtain ⟨u1, u2, rfl, r1, r2⟩ := vals_split r
  have hn : H s.heap.objs.size = none := e0.hok.fresh (Nat.le_refl _)
  have hl1 : u1.length = ps.length := by rw [← r1.length]; exact hl
  have hl2 : u2.length ≤ sizeLine := by rw [← r2.length]; exact hz
  refine run_bnd lk hcd S hr e0 (G := fun xs H2 => ∃ p, H p = none ∧ xs = ws ++ [V.ref p] ∧ H2 = upd H p (.tup rest)) (fun A' Ex Q' h => ?_) fun s2 H2 xs ⟨p, hp, ex, eH⟩ hr' => ?_
  · rw [hb kV doc pm an cdv ct u1 u2 hl1]
    refine wpAny_bind (wpAny_newTuple (wpAny_pure ?_) hl2)
    have new : ObjOk P w (upd H s.heap.objs.size (.tup rest)) (s.heap.push ({ cls := .type "tuple", data := .seq u2.toArray } : Obj)) s.heap.objs.size (.tup rest) :=
      ⟨hz, u2, r2, ⟨_, Heap.get?_push_size _ rfl, rfl, _, rfl⟩⟩
    have un := un_laid (fs := frs outer) (s := s) (o := ({ cls := .type "tuple", data := .seq u2.toArray } : Obj)) (u := .tup rest) hn
    have z := h _ _ (ws ++ [V.ref s.heap.objs.size]) (u1 ++ [Value.ref s.heap.objs.size]) (env0_laid e0 new) un rfl
      (fun e s' => cxUp outer s H _ _ E e s' un (fun b o q => Heap.get?_push_of_some _ q) rfl) (r1.append (.cons rfl .nil)) (by rw [List.length_append, List.length_append, hl] <;> rfl) ⟨_, hn, rfl, rfl⟩
    rw [List.zip_append hl1.symm] at z
    exact z
  · subst ex eH
    exact hbody cdv A outer s2 _ _ Q E hr' hg (hq p hp)
end

section
variable {X : Cx} {W : WX} {k : Nat} {fv : Value} {sp : SpK} {pins : List (Addr × Obj)} {σ : L2.St} {H : Hp} {s : Shared} {Q : VK}
/-- the callee runs, from a body -/
theorem run_call {us : List Value} {kws : List (Str × Value)} {vs : List V} {zs : List (Str × V)} (tk : Takes X W) (F : CallG X.prog X.w X.K X.mg X.base k fv sp) (hr : Room k X.A) (hg : X.A.guards = some []) (I : Inv X pins σ H s) (r : Vals vs us) (rk : KVs zs kws)
    (h : sp vs zs H Q (WE W σ)) : wpAny (model X.prog X.w) X.A (call fv us kws) (EP X pins σ Q) X.xe s := by
  refine wpAny_call (codeAny_mono (F X.A X.stack s H us kws vs zs Q _ hr hg I.env0 r rk h) fun r s' hq => ?_)
  cases r with
  | error e => exact passAt tk σ pins H s e s' I hq
  | ok fl =>
    cases fl with
    | ret u => exact I.after hq
    | next => exact False.elim hq
    | brk => exact False.elim hq
    | cont => exact False.elim hq
def tCl (W : WX) (sp : SpK) (t : TA) : TE := fun σ H Q => t σ H fun vs H1 => sp vs [] H1 Q (WE W σ)
variable {x : Str} {p qs : Pos} {e : Expr} {es : List Expr} {t : TA}
/-- x(e, ..) -/
theorem pe_cl (tk : Takes X W) (F : CallG X.prog X.w X.K X.mg X.base k fv sp) (hr : Room k X.A) (hg : X.A.guards = some []) (hx : Gl X x) (hm : X.mg x = some fv) (hk : PySem.W.keepIn X.K fv = true) (ha : PA X (e :: es) t)
    (hdb : (x == ("__debug__" : Str)) = false := by decide) (he : starEach (e :: es) X.env = (false, eval e X.env) :: starEach es X.env := by rfl) (hpl : (backTo qs (starEach es X.env)).any (·.1) = false := by rfl) :
    PE X (.Call (.Name x p) (e :: es) [] qs) (tCl W sp t) := by
  refine ⟨fun pins s σ H Q I h => ?_⟩
  refine wpAny_Call_Name_kw (ld_glob I hx hm ?_ hdb)
  refine PySem.W.callWith_K (h₀ := X.base) I.ok.mod.kin hk (thn (ha.run qs pins s σ H _ I h) fun us s1 ⟨vs, H1, I1, r, q⟩ => ⟨I1.kIn, ?_⟩) he hpl
  exact run_call tk F hr hg I1 r .nil q
theorem pe_cl0 (tk : Takes X W) (F : CallG X.prog X.w X.K X.mg X.base k fv sp) (hr : Room k X.A) (hg : X.A.guards = some []) (hx : Gl X x) (hm : X.mg x = some fv) (hk : PySem.W.keepIn X.K fv = true)
    (hdb : (x == ("__debug__" : Str)) = false := by decide) : PE X (.Call (.Name x p) [] [] qs) (tCl W sp tNil) := by
  refine ⟨fun pins s σ H Q I h => ?_⟩
  refine wpAny_Call_Name_kw (ld_glob I hx hm ?_ hdb)
  exact PySem.W.callWith_K0 I.kIn hk (run_call (us := []) tk F hr hg I .nil .nil h)
end
end Uk

/-! UkB: from the layer into the walk: a def's promise shown by the walker -/
namespace Uk
open PySem PySem.Spec PyProof.Rows L2 StX

/-- the surroundings as the walk wants them -/
abbrev wideA (outer : List Env) : Around := { handled := none, depth := 395, frames := some outer, guards := some [], units := 6500 }
theorem below_wide {A : Around} {outer : List Env} {k : Nat} (hr : Room k A) (hk : 200 ≤ k) (hg : A.guards = some []) (hf : A.frames = some outer) {Γ : PySem.Ctx} (h : Γ.Below A) : Γ.Below (wideA outer) := by
  obtain ⟨h1, h2, h3, h4, h5⟩ := h
  have d := hr.dp
  have u := hr.un
  have e1 : recursionLimit = 1000 := rfl
  have e2 : cLine = 9900 := rfl
  rw [e1] at d
  rw [e2] at u
  refine ⟨h1.trans hr.hd, ?_, fun l hl => ?_, fun g hl => ?_, ?_⟩
  · show _ ≤ 395
    omega
  · cases hl
    exact h3 _ hf
  · cases hl
    exact h4 _ hg
  · show _ ≤ 6500
    omega
theorem code_wide {M : Model} {A : Around} {outer : List Env} {k : Nat} (hr : Room k A) (hk : 200 ≤ k) (hg : A.guards = some []) (hf : A.frames = some outer) {c : Code} {R : Result → Shared → Prop} {s : Shared} (h : codeAny M (wideA outer) c R s) : codeAny M A c R s :=
  fun Γ p hc hb => h Γ p hc (below_wide hr hk hg hf hb)

section
variable {P : Program} {w : World} {K : PySem.W.Frag} {mg : Str → Option Value} {base : Heap} {A : Around} {outer : List Env} {s : Shared} {H : Hp} {Q : VK} {E : XK} {k : Nat}
theorem Env0.kIn (e0 : Env0 P w K mg base A outer s H) : K.In s.heap := e0.mod.kin.keeps fun b o e => (e0.bs b o e).1
theorem Env0.keep (e0 : Env0 P w K mg base A outer s H) : ∀ b o, base.get? b = some o → s.heap.get? b = some o := fun b o e => (e0.bs b o e).1
/-- back from the walk: all that stood stands -/
theorem leave_same {v : V} {u : Value} {h' : Heap} {tk : Nat} {g : Array GenState} {d : Drawn} {os : OsState} (e0 : Env0 P w K mg base A outer s H) (kp : ∀ b o, s.heap.get? b = some o → h'.get? b = some o) (rv : RelV v u) (q : Q v H)
    (hg : AllBare g := by first | assumption | exact Env0.bare (by assumption)) (ho : os = s.os := by rfl) :
    CR (L2.CX P w) outer P w H s Q E (.ok (.ret u)) ⟨h', g, d, tk, os⟩ := ⟨v, H, ho, hg, Un.kept kp, e0.hok.kept kp, rv, q⟩
/-- a def entered, for the walk -/
theorem enter_W {p : Program} {loose : List Str} {mean : ExcName → Option Value} {mb : Str → Option Value} {R : Result → Shared → Prop} {name qual : Str} {params : Arguments} {body : List Stmt} {scope : Scope} {dV kV doc pm cdv ct oc : Value} {an od : Option Addr} {osl : Array (Option Value)}
    {f : Addr} {args : Args} {binds : List (Str × Value)} (hr : Room k A) (hk : 200 ≤ k) (hg : A.guards = some []) (e0 : Env0 P w K mg base A outer s H) (T : Top p loose mean mg mb base)
    (ho : K.lookup f = some ⟨oc, od, .func (PySem.W.fnOf name qual params body scope dV kV doc pm an cdv ct), osl⟩) (hcd : PySem.W.codeIn K cdv qual = true)
    (hbind : BindsTo s (PySem.W.fnOf name qual params body scope dV kV doc pm an cdv ct) args binds) (hloc : ∀ y ∈ binds, scope.names.lookup y.1 = some .local)
    (h : ∀ L' h₁, Fr s.heap L' h₁ (fun y => binds.reverse.lookup y) → News s.heap L' h₁ [] → Below (wideA outer) base outer s.heap → K.In s.heap → Top p loose mean mg mb s.heap →
      wpAny (model P w) ((wideA outer).deeper (envOf qual scope L' f cdv)) (execs body (envOf qual scope L' f cdv))
        (fun fl s' => R (.ok (.ret (match fl with | .ret v => v | _ => .none))) s')
        (fun e s' => wpAny (model P w) ((wideA outer).deeper (envOf qual scope L' f cdv)) (leaving (envOf qual scope L' f cdv) e) (fun _ s'' => R (.error e) s'') (fun e' s'' => R (.error e') s'') s')
        { s with heap := h₁, toks := s.toks + binds.length })
    (hco : scope.isCoroutine = false) (hgen : scope.isGenerator = false) (hkd : scope.kind = .function) (hcell : ∀ x ∈ scope.names, x.2 ≠ .cell) :
    codeAny (model P w) A (.call (.ref f) args) R s := by
  have KX := Env0.kIn e0
  refine code_wide hr hk hg e0.frames ?_
  refine codeAny_call_def (fd := PySem.W.fnOf name qual params body scope dV kV doc pm an cdv ct) (body := body) (binds := binds) (by show 395 < recursionLimit; decide) (KX _ _ ho) rfl (T.nolimit.keeps (Env0.keep e0))
    (PySem.W.codeRec_of KX hcd) rfl hbind hcell hloc (fun h₁ hns hk₁ => ?_) hco hgen hkd
  exact h s.heap.objs.size h₁ ⟨hns, hk₁, Nat.le_refl _⟩ (fun _ hp => nomatch hp) ⟨rfl, Env0.keep e0, e0.funs⟩ KX (T.keeps (Env0.keep e0))
end
end Uk

/-! UkC: != of an instance whose class has its own == and no != -/
namespace Uk
open PySem PySem.W PySem.Spec PySem.Calls PyProof.Rows

section
variable {prog : Program} {w : World} {A : Around} {E : Value → Shared → Prop} {s : Shared} {K : Frag} {x C L f : Addr} {h₀ : Heap} {m : PySem.Str → Option Value} {ox : Obj} {od : Option Obj} {b tb : Value}
/-- a built-in of object's, bound to the instance -/
theorem ifBound_bi {M : Model} {name : PySem.Str} {id T : String} {args : List Value} {Q : Option Value → Shared → Prop} (X : K.In s.heap) (I : InstAt s.heap x ox C od) (hs : findIn K (.ref C) name = some (some (.builtin id))) (S : Slot T name id)
    (h : wpAny M A (call (.builtin id) (.ref x :: args)) (fun v => Q (some v)) E s) : wpAny M A (callSpecialIfBound? (.ref x) name args) Q E s := by
  simp only [callSpecialIfBound?, bindSpecialIfBound?]
  refine wpAny_holding (wpAny_bind (wpAny_bind (wpAny_bind (I.type.here ((looks_findIn X hs).here ?_)))))
  simp only [S.bind]
  refine wpAny_bind (wpAny_askSetting (wpAny_ite ?_))
  have fin : wpAny M A (call (.builtin id) ([.ref x] ++ args) >>= fun v => pure (some v)) Q E s := wpAny_bind (wpAny_mono h (fun v s' h' => wpAny_pure h') fun _ _ h' => h')
  split
  · exact wpAny_bind (wpAny_pure (wpAny_pure fin))
  · exact wpAny_tryCatch (wpAny_bind (wpAny_pure (wpAny_pure fin)))

theorem objNe_K {Q : Fin → Shared → Prop} (hu : A.units < cLine) (X : K.In s.heap) (I : InstAt s.heap x ox C od) (hs : findIn K (.ref C) "__eq__" = some (some (.ref f))) (hf : isFn K (.ref f) = true)
    (h : wpAny (model prog w) A (call (.ref f) [.ref x, b]) (fun v s' => ∃ c, v = .bool c ∧ Q (.done (.ret (.bool (!c)))) s') E s) :
    wpAny (model prog w) A (Builtin.«object.__ne__» ⟨[.ref x, b], []⟩) Q E s := by
  obtain ⟨hp, g, d, t, os⟩ := s
  unfold Builtin.«object.__ne__»
  repeat (first
    | with_reducible refine wpAny_cRoomFor hu ?_
    | (refine wpAny_bind (m := callSpecialIfBound? (.ref x) (PySem.Str.ofString "__eq__") [b])
        (ifBound_K X I hs hf (wpAny_mono h (fun r s' hr => by
          obtain ⟨c, rfl, hq⟩ := hr
          repeat (first | exact hq | exact wpAny_pure hq | exact wpAny_truthy_bool hq | (refine wpAny_bind (m := truthy (.bool _)) (wpAny_truthy_bool ?_)) | wp_step)) fun _ _ e => e)))
    | wp_step)

theorem ne_K {Q : Value → Shared → Prop} (hu : A.units + 1 < cLine) (F : Fr h₀ L s.heap m) (X₀ : K.In h₀) (I : InstAt s.heap x ox C od) (hb : Looks (model prog w) s.heap (typeOf b) tb) (hn : notFirst K C tb = true)
    (hne : findIn K (.ref C) "__ne__" = some (some (.builtin "object.__ne__"))) (hs : findIn K (.ref C) "__eq__" = some (some (.ref f))) (hf : isFn K (.ref f) = true) (ho : mroIn K C (.type "object") = some true)
    (h : wpAny (model prog w) A.in1 (call (.ref f) [.ref x, b]) (fun v s' => ∃ c, v = .bool c ∧ Q (.bool (!c)) s') E s) : wpAny (model prog w) A (richCompare .NotEq (.ref x) b) Q E s := by
  have X := X₀.keeps F.keep
  have sub : Looks (model prog w) s.heap (isInstance (.ref x) (.type "object")) true := I.type.andThen (looks_mroIn X ho)
  have one : wpAny (model prog w) A (tryCompare (.ref x) "__ne__" b) (fun r s' => ∃ v, r = some v ∧ Q v s') E s := by
    unfold tryCompare
    refine wpAny_bind (ifBound_bi X I hne PySem.F.cmp_object.ne (wpAny_call (codeAny_call_builtin PySem.F.cmp_object.ne.plain PySem.F.cmpEntry_ne (check_slot PySem.F.cmpKind_ne PySem.F.cmpSplit_ne sub (PySem.F.cmpArgs_ne _ _) ?_))))
    refine objNe_K (A := A.in1) (by show A.units + 1 < cLine; exact hu) X I hs hf (wpAny_mono h (fun v s' hv => ?_) fun _ _ e => e)
    obtain ⟨c, rfl, hq⟩ := hv
    exact ⟨c, rfl, wpAny_pure ⟨_, rfl, hq⟩⟩
  unfold richCompare
  simp only [oneThing_ref]
  refine wpAny_holding (wpAny_bind (wpAny_cRoomFor (Nat.lt_of_succ_lt hu) ?_))
  rw [cmpInfo_NotEq]
  dsimp only
  refine wpAny_bind (I.type.here (wpAny_bind (hb.here ?_)))
  split
  · rename_i q
    have e : subIn K tb (.ref C) = some false := by
      rcases Bool.or_eq_true_iff.mp hn with e | e
      · rw [beq_iff_eq.mp e] at q; simp at q
      · exact beq_iff_eq.mp e
    refine wpAny_bind ((looks_subIn X e).here ?_)
    simp only [Bool.false_eq_true, if_false]
    refine wpAny_bind (wpAny_mono one (fun r s' z => ?_) fun _ _ e => e)
    obtain ⟨v, rfl, hq⟩ := z
    exact wpAny_pure hq
  · refine wpAny_bind (wpAny_pure ?_)
    simp only [Bool.false_eq_true, if_false]
    refine wpAny_bind (wpAny_mono one (fun r s' z => ?_) fun _ _ e => e)
    obtain ⟨v, rfl, hq⟩ := z
    exact wpAny_pure hq
def BoolNot (Q : Value → Shared → Prop) (v : Value) (s' : Shared) : Prop := match v with
  | .bool c => Q (.bool (!c)) s'
  | _ => False
theorem ne_K' {Q : Value → Shared → Prop} (hu : A.units + 1 < cLine) (F : Fr h₀ L s.heap m) (X₀ : K.In h₀) (I : InstAt s.heap x ox C od) (hb : Looks (model prog w) s.heap (typeOf b) tb) (hn : notFirst K C tb = true)
    (hne : findIn K (.ref C) "__ne__" = some (some (.builtin "object.__ne__"))) (hs : findIn K (.ref C) "__eq__" = some (some (.ref f))) (hf : isFn K (.ref f) = true) (ho : mroIn K C (.type "object") = some true)
    (h : wpAny (model prog w) A.in1 (call (.ref f) [.ref x, b]) (BoolNot Q) E s) : wpAny (model prog w) A (compareOp .NotEq (.ref x) b) Q E s :=
  ne_K hu F X₀ I hb hn hne hs hf ho (wpAny_mono h (fun v s' hv => by
    cases v <;> first | exact False.elim hv | exact ⟨_, rfl, hv⟩) fun _ _ e => e)
end
end Uk

/-! UkD: operators that a class of the program defines -/
namespace Uk
open PySem PySem.Spec PyProof.Rows L2 StX

/-- nothing is raised -/
abbrev NoE : XK := fun _ _ _ => False
section
variable {X : Cx} {W : WX} {k : Nat} {fv : Value} {sp : SpK} {pins : List (Addr × Obj)} {σ : L2.St} {H : Hp} {s : Shared} {Q : VK}
theorem cx_no {P : Program} {w : World} {outer : List Env} {u : Value} {s' : Shared} (h : L2.CX P w outer H s NoE u s') : False := by
  obtain ⟨a, B, H', cls, d, ea, fl, hok, ub, na, os, ag, he⟩ := h
  exact he
/-- the callee runs in the body's surroundings, or in ones like them, and raises nothing -/
theorem run_callN {A' : Around} {E₁ : Value → Shared → Prop} {us : List Value} {vs : List V} (F : CallG X.prog X.w X.K X.mg X.base k fv sp) (hr : Room k A') (hg : A'.guards = some []) (hf : A'.frames = X.A.frames) (I : Inv X pins σ H s) (r : Vals vs us)
    (h : sp vs [] H Q NoE) : wpAny (model X.prog X.w) A' (call fv us) (EP X pins σ Q) E₁ s := by
  have e := I.env0
  have e0 : Env0 X.prog X.w X.K X.mg X.base A' X.stack s H := ⟨hf.trans e.frames, e.mod, e.bs, e.bsz, e.funs, e.frf, e.hok, e.bare⟩
  refine wpAny_call (codeAny_mono (F A' X.stack s H us [] vs [] Q NoE hr hg e0 r .nil h) fun r s' hq => ?_)
  cases r with
  | error e => exact (cx_no hq).elim
  | ok fl =>
    cases fl with
    | ret u => exact I.after hq
    | next => exact False.elim hq
    | brk => exact False.elim hq
    | cont => exact False.elim hq
theorem rel_ne {v : V} {u : Value} (r : RelV v u) : u ≠ .notImplemented := by
  intro e
  subst e
  cases v <;> first | (cases r; done) | (obtain ⟨_, e⟩ := r; cases e)
/-- a method of the class by its special name -/
structure Own (K : PySem.W.Frag) (C : Addr) (m : PySem.Str) (f : Addr) : Prop where
  at_ : PySem.W.findIn K (.ref C) m = some (some (.ref f))
  fn : PySem.W.isFn K (.ref f) = true
theorem ins_at {P : Program} {w : World} {h : Heap} {a C dx : Addr} {fs : List (Str × V)} (hok : HOk P w H h) (e : H a = some (.ins C dx fs)) : ∃ od, PySem.W.InstAt h a (PySem.W.instObj C dx) C (some od) := by
  obtain ⟨mA, O, _⟩ := ins_get hok e
  obtain ⟨od, J, _⟩ := O.look
  exact ⟨od, J⟩
theorem looks_ty {x : V} {u t : Value} (I : Inv X pins σ H s) (rx : RelV x u) (ty : TyX X.K H x t) {M : Model} : PySem.W.Looks M s.heap (typeOf u) t := by
  obtain ⟨P, Z, p, _⟩ := kit_of I rx ty
  exact Z.ty M s.heap I.kIn p
/-- one own, the other any -/
def rOw (K : PySem.W.Frag) (D : Addr → Prop) (sp : SpK) (g : V → V) : R2 := fun x y H Q => ∃ (a C dx : Addr) (fs : List (Str × V)) (t : Value), x = .ref a ∧ D C ∧ H a = some (.ins C dx fs) ∧ TyX K H y t ∧ PySem.W.notFirst K C t = true ∧ sp [x, y] [] H (fun v H' => Q (g v) H') NoE
theorem op_eqO {D : Addr → Prop} {f : Addr} (F : CallG X.prog X.w X.K X.mg X.base k (.ref f) sp) (hr : Room k X.A) (hg : X.A.guards = some []) (hD : ∀ C, D C → Own X.K C "__eq__" f) : OpR X (compareOp .Eq) (rOw X.K D sp id) := by
  intro pins s σ H x y u v Q I rx ry h
  obtain ⟨a, C, dx, fs, t, rfl, d, e, ty, nf, q⟩ := h
  obtain rfl : u = Value.ref a := rx
  obtain ⟨od, J⟩ := ins_at I.hok e
  obtain ⟨m, fr⟩ := I.fr
  refine PySem.W.cmp_ofEq (PySem.W.cmp_K hr.units0 fr I.ok.mod.kin J (looks_ty I ry ty) nf (hD C d).at_ (hD C d).fn (wpAny_mono (run_callN F hr hg rfl I (vs := [.ref a, y]) (us := [.ref a, v]) (.cons rfl (.cons ry .nil)) q) (fun z s' hz => ?_) fun _ _ y => y))
  obtain ⟨v', H', I', rv, q'⟩ := hz
  have hn := rel_ne rv
  cases z <;> first | exact absurd rfl hn | exact ⟨v', H', I', rv, q'⟩
theorem op_ltO {D : Addr → Prop} {f : Addr} (F : CallG X.prog X.w X.K X.mg X.base k (.ref f) sp) (hr : Room k X.A) (hg : X.A.guards = some []) (hD : ∀ C, D C → Own X.K C "__lt__" f) : OpR X (compareOp .Lt) (rOw X.K D sp id) := by
  intro pins s σ H x y u v Q I rx ry h
  obtain ⟨a, C, dx, fs, t, rfl, d, e, ty, nf, q⟩ := h
  obtain rfl : u = Value.ref a := rx
  obtain ⟨od, J⟩ := ins_at I.hok e
  obtain ⟨m, fr⟩ := I.fr
  refine PySem.W.cmp_ofLt (PySem.W.cmp_K hr.units0 fr I.ok.mod.kin J (looks_ty I ry ty) nf (hD C d).at_ (hD C d).fn (wpAny_mono (run_callN F hr hg rfl I (vs := [.ref a, y]) (us := [.ref a, v]) (.cons rfl (.cons ry .nil)) q) (fun z s' hz => ?_) fun _ _ y => y))
  obtain ⟨v', H', I', rv, q'⟩ := hz
  have hn := rel_ne rv
  cases z <;> first | exact absurd rfl hn | exact ⟨v', H', I', rv, q'⟩
def notV : V → V
  | .bl b => .bl (!b)
  | v => v
/-- != by an own == -/
def rNeOw (K : PySem.W.Frag) (D : Addr → Prop) (sp : SpK) : R2 := fun x y H Q => ∃ (a C dx : Addr) (fs : List (Str × V)) (t : Value), x = .ref a ∧ D C ∧ H a = some (.ins C dx fs) ∧ TyX K H y t ∧ PySem.W.notFirst K C t = true ∧ sp [x, y] [] H (fun v H' => ∃ b, v = .bl b ∧ Q (.bl (!b)) H') NoE
structure OwnNe (K : PySem.W.Frag) (C : Addr) (f : Addr) : Prop where
  eq : Own K C "__eq__" f
  ne : PySem.W.findIn K (.ref C) "__ne__" = some (some (.builtin "object.__ne__"))
  ob : PySem.W.mroIn K C (.type "object") = some true
theorem op_neO {D : Addr → Prop} {f : Addr} (F : CallG X.prog X.w X.K X.mg X.base k (.ref f) sp) (hr : Room (k + 1) X.A) (hg : X.A.guards = some []) (hD : ∀ C, D C → OwnNe X.K C f) : OpR X (compareOp .NotEq) (rNeOw X.K D sp) := by
  intro pins s σ H x y u v Q I rx ry h
  obtain ⟨a, C, dx, fs, t, rfl, d, e, ty, nf, q⟩ := h
  obtain rfl : u = Value.ref a := rx
  obtain ⟨od, J⟩ := ins_at I.hok e
  obtain ⟨m, fr⟩ := I.fr
  refine ne_K' (by have := hr.units; omega) fr I.ok.mod.kin J (looks_ty I ry ty) nf (hD C d).ne (hD C d).eq.at_ (hD C d).eq.fn (hD C d).ob (wpAny_mono (run_callN F hr.in1 hg rfl I (vs := [.ref a, y]) (us := [.ref a, v]) (.cons rfl (.cons ry .nil)) q) (fun z s' hz => ?_) fun _ _ y => y)
  obtain ⟨v', H', I', rv, b, rfl, q'⟩ := hz
  obtain rfl : z = Value.bool b := rv
  exact ⟨.bl (!b), H', I', rfl, q'⟩
/-- a + b, both of one class -/
def rBinO (D : Addr → Prop) (sp : SpK) : R2 := fun x y H Q => ∃ (a b C dx dy : Addr) (fs gs : List (Str × V)), x = .ref a ∧ y = .ref b ∧ D C ∧ H a = some (.ins C dx fs) ∧ H b = some (.ins C dy gs) ∧ sp [x, y] [] H Q NoE
structure OwnBin (K : PySem.W.Frag) (C : Addr) (m : PySem.Str) (f : Addr) : Prop where
  at_ : PySem.W.findIn K (.ref C) m = some (some (.ref f))
  fn : PySem.W.isFn K (.ref f) = true
  first : PySem.W.selfFirst K C = true
theorem op_binO {op : Operator} {D : Addr → Prop} {f : Addr} (F : CallG X.prog X.w X.K X.mg X.base k (.ref f) sp) (hr : Room k X.A) (hg : X.A.guards = some []) (hD : ∀ C, D C → OwnBin X.K C (PySem.dunder op.info.2) f) : OpR X (binaryOp op) (rBinO D sp) := by
  intro pins s σ H x y u v Q I rx ry h
  obtain ⟨a, b, C, dx, dy, fs, gs, rfl, rfl, d, e1, e2, q⟩ := h
  obtain rfl : u = Value.ref a := rx
  obtain rfl : v = Value.ref b := ry
  obtain ⟨od, J⟩ := ins_at I.hok e1
  obtain ⟨od2, J2⟩ := ins_at I.hok e2
  obtain ⟨m, fr⟩ := I.fr
  refine PySem.W.binop_K fr I.ok.mod.kin J J2.type (hD C d).first (hD C d).at_ (hD C d).fn (wpAny_mono (run_callN F hr hg rfl I (vs := [.ref a, .ref b]) (us := [.ref a, .ref b]) (.cons rfl (.cons rfl .nil)) q) (fun z s' hz => ?_) fun _ _ y => y)
  obtain ⟨v', H', I', rv, q'⟩ := hz
  have hn := rel_ne rv
  cases z <;> first | exact absurd rfl hn | exact ⟨v', H', I', rv, q'⟩
/-- an instance's truth by its own __bool__ -/
def rTruO (D : Addr → Prop) (sp : SpK) : V → Hp → (Bool → Hp → Prop) → Prop := fun x H Q => ∃ (a C dx : Addr) (fs : List (Str × V)), x = .ref a ∧ D C ∧ H a = some (.ins C dx fs) ∧ sp [x] [] H (fun v H' => ∃ b, v = .bl b ∧ Q b H') NoE
theorem tru_O {D : Addr → Prop} {f : Addr} (F : CallG X.prog X.w X.K X.mg X.base k (.ref f) sp) (hr : Room k X.A) (hg : X.A.guards = some []) (hD : ∀ C, D C → Own X.K C "__bool__" f) : TruR X (rTruO D sp) := by
  intro pins s σ H x u Q I rx h
  obtain ⟨a, C, dx, fs, rfl, d, e, q⟩ := h
  obtain rfl : u = Value.ref a := rx
  obtain ⟨od, J⟩ := ins_at I.hok e
  obtain ⟨m, fr⟩ := I.fr
  refine PySem.W.truthy_K fr I.ok.mod.kin J (hD C d).at_ (hD C d).fn (wpAny_mono (run_callN F hr hg rfl I (vs := [.ref a]) (us := [.ref a]) (.cons rfl .nil) q) (fun z s' hz => ?_) fun _ _ y => y)
  obtain ⟨v', H', I', rv, b, rfl, q'⟩ := hz
  obtain rfl : z = Value.bool b := rv
  exact ⟨H', I', q'⟩
end
end Uk

/-! UkE: repr of data -/
namespace Uk
open PySem PySem.Spec PyProof.Rows L2 StX

section
variable {K : PySem.W.Frag} {H H' : Hp}
mutual
theorem dp_noDict : ∀ {d : PyData} {v : V}, Dp K H v d → d.hasDict = false
  | .none, _, _ => rfl
  | .bool _, _, _ => rfl
  | .int _, _, _ => rfl
  | .str _, _, _ => rfl
  | .list ds, _, h => by
    cases h with
    | lst _ r => exact dpAll_noDict r
  | .tuple ds, _, h => by
    cases h with
    | tup _ r => exact dpAll_noDict r
  | .dict _, _, h => nomatch h
theorem dpAll_noDict : ∀ {ds : List PyData} {vs : List V}, DpAll K H vs ds → PyData.hasDictAll ds = false
  | [], _, _ => rfl
  | d :: ds, _, h => by
    cases h with
    | cons a r =>
      show (PyData.hasDict d || PyData.hasDictAll ds) = false
      rw [dp_noDict a, dpAll_noDict r] <;> rfl
end
theorem sq_mono {a : Addr} {xs : List V} (e : Same H H') (h : SqL K H a xs) : SqL K H' a xs := e.seq h
theorem st_mono {a : Addr} {xs : List V} (e : Same H H') (h : SqT K H a xs) : SqT K H' a xs := by
  rcases h with (h | ⟨o, h⟩) | h
  · exact .inl (.inl (e _ _ h))
  · exact .inl (.inr ⟨o, e _ _ h⟩)
  · exact .inr h
mutual
theorem dp_mono (e : Same H H') : ∀ {d : PyData} {v : V}, Dp K H v d → Dp K H' v d
  | .none, _, h => by cases h; exact .non
  | .bool b, _, h => by cases h; exact .bl b
  | .int i, _, h => by cases h; exact .int i
  | .str x, _, h => by cases h; exact .str x
  | .list ds, _, h => by
    cases h with
    | lst a r => exact .lst (sq_mono e a) (dpAll_mono e r)
  | .tuple ds, _, h => by
    cases h with
    | tup a r => exact .tup (st_mono e a) (dpAll_mono e r)
  | .dict _, _, h => nomatch h
theorem dpAll_mono (e : Same H H') : ∀ {ds : List PyData} {vs : List V}, DpAll K H vs ds → DpAll K H' vs ds
  | [], _, h => by cases h; exact .nil
  | d :: ds, _, h => by
    cases h with
    | cons a r => exact .cons (dp_mono e a) (dpAll_mono e r)
end
end

/-- what may be shown -/
structure Shw (d : PyData) : Prop where
  sh : d.showable = true
  sz : d.shown.length ≤ sizeLine
  dp : d.depth ≤ 60
def rRepr (K : PySem.W.Frag) : List V → Hp → VK → Prop := fun xs H Q => ∃ v d, xs = [v] ∧ Dp K H v d ∧ Shw d ∧ Q (.str d.shown) H
section
variable {X : Cx}
theorem call_repr (hg : X.A.guards = some []) (hu : X.A.units + 64 < cLine) : CallR X (.builtin "repr") (rRepr X.K) := by
  intro pins s σ H xs us Q I r h
  obtain ⟨v, d, rfl, hd, ⟨h1, h2, h3⟩, q⟩ := h
  obtain ⟨u, rfl, rv⟩ := vals1 r
  cases hd with
  | non => cases (show u = Value.none from rv); exact PySem.P.repr_of_none ⟨.str _, H, I.tok _, ⟨_, rfl⟩, q⟩
  | bl b =>
    cases (show u = Value.bool b from rv)
    refine PySem.P.repr_of_bool ⟨.str _, H, I.tok _, ⟨_, rfl⟩, ?_⟩
    cases b <;> exact q
  | int i =>
    obtain ⟨t, rfl⟩ := (show ∃ t, u = Value.int i t from rv)
    exact PySem.P.repr_of_int (of_decide_eq_true h1) ⟨.str _, H, I.tok _, ⟨_, rfl⟩, q⟩
  | str x =>
    obtain ⟨t, rfl⟩ := (show ∃ t, u = Value.str x t from rv)
    exact PySem.P.repr_of_str ⟨.str _, H, I.tok _, ⟨_, rfl⟩, q⟩ h2
  | @lst a xs ds hl hr =>
    have hd := Dp.lst hl hr
    obtain ⟨as, rd⟩ := Dp.reads I _ _ u hd rv
    obtain rfl : u = Value.ref a := rv
    refine repr_of_reads' (h₀ := s.heap) rd h1 (fun z => by rw [dp_noDict hd] at z; cases z) hg (by omega) (fun _ _ e => e) (fun h' t tk kp => ?_) h2
    exact ⟨.str _, H, I.kept kp, ⟨_, rfl⟩, q⟩
  | @tup a xs ds hl hr =>
    have hd := Dp.tup hl hr
    obtain ⟨as, rd⟩ := Dp.reads I _ _ u hd rv
    obtain rfl : u = Value.ref a := rv
    refine repr_of_reads' (h₀ := s.heap) rd h1 (fun z => by rw [dp_noDict hd] at z; cases z) hg (by omega) (fun _ _ e => e) (fun h' t tk kp => ?_) h2
    exact ⟨.str _, H, I.kept kp, ⟨_, rfl⟩, q⟩
end
end Uk

/-! UkF: small words for readings; the pen -/
namespace Uk
open PySem PySem.Spec PyProof.Rows L2 StX

theorem hu_big {A : Around} {k : Nat} (hr : Room k A) : A.units + 64 < cLine := hr.units
/-- one object was changed (or made), all else that was told stands -/
structure Chg (p : Addr) (o : HO) (H H' : Hp) : Prop where
  at_ : H' p = some o
  ne : ∀ a u, a ≠ p → H a = some u → H' a = some u
theorem Chg.upd {p : Addr} {o : HO} {H : Hp} : Chg p o H (upd H p o) := ⟨upd_same, fun a u n e => by rw [upd_ne n]; exact e⟩
theorem Chg.same {p : Addr} {o : HO} {H H1 H2 : Hp} (e : Same H H1) (c : Chg p o H1 H2) : Chg p o H H2 := ⟨c.at_, fun a u n h => c.ne a u n (e a u h)⟩
theorem Chg.trans {p : Addr} {o u : HO} {H H1 H2 : Hp} (a : Chg p o H H1) (b : Chg p u H1 H2) : Chg p u H H2 := ⟨b.at_, fun x y n e => b.ne x y n (a.ne x y n e)⟩
theorem Chg.then {p : Addr} {o : HO} {H H1 H2 : Hp} (a : Chg p o H H1) (b : Same H1 H2) : Chg p o H H2 := ⟨b _ _ a.at_, fun x y n e => b _ _ (a.ne x y n e)⟩
theorem same_new {H : Hp} {p : Addr} {o : HO} (h : H p = none) : Same H (upd H p o) := fun b x e => by rw [upd_ne (ne_of_none e h)]; exact e
/-- an item of a list at a written place -/
theorem atI_lit {α : Type} {xs : List α} {i : Int} {v : α} (h0 : 0 ≤ i) (h : xs[i.toNat]? = some v) : atI xs i = some v := by
  have := atI_nat h
  rwa [Int.toNat_of_nonneg h0] at this
theorem ixN_lit {n : Nat} {i : Int} (h0 : 0 ≤ i) (h1 : i < n) : ixN n i = some i.toNat := by unfold ixN; rw [if_pos h0, if_pos h1]
theorem atI_mem {α : Type} {xs : List α} {i : Int} (h0 : 0 ≤ i) (h1 : i < xs.length) : ∃ v, atI xs i = some v ∧ v ∈ xs := by
  have hl : i.toNat < xs.length := by omega
  exact ⟨xs[i.toNat], atI_lit h0 (List.getElem?_eq_getElem hl), List.getElem_mem hl⟩
theorem ite_b {b : Bool} {A B : Prop} (h1 : b = true → A) (h2 : b = false → B) : if b = true then A else B := by
  cases b with
  | true => exact iteT (h1 rfl)
  | false => exact iteF (h2 rfl)

/-- the pen at p: its cells at c, how many were begun, what is left -/
abbrev penO (c : Addr) (b l : Int) : HO := .lst [.ref c, .int b, .int l]
/-- the promise of what draws -/
def spDraw : Sp := fun vs H Q _ => ∃ (p c : Addr) (b l many : Int) (ns : List Int), vs = [.ref p, .int many] ∧ H p = some (penO c b l) ∧ H c = some (.lst (ns.map .int)) ∧ ns.length ≤ 63 ∧ 0 ≤ b ∧ b ≤ 100000 ∧ 1 ≤ many ∧ many ≤ 100000 ∧
  ∀ (d b' l' : Int) (H' : Hp), 0 ≤ d → d < many → b ≤ b' → b' ≤ b + 1 → Chg p (penO c b' l') H H' → Q (.int d) H'
theorem fmod_range {i j : Int} (h : 0 < j) : 0 ≤ i.fmod j ∧ i.fmod j < j := by
  rw [Int.fmod_eq_emod_of_nonneg _ (Int.le_of_lt h)]
  exact ⟨Int.emod_nonneg _ (Int.ne_of_gt h), Int.emod_lt_of_pos _ h⟩
theorem fmod_ex {C : Int} (h : 0 < C) (i : Int) : ∃ m, i.fmod C = m ∧ 0 ≤ m ∧ m < C := ⟨_, rfl, (fmod_range h).1, (fmod_range h).2⟩
theorem lay_ints : ∀ ns : List Int, PyData.canLayAll0 (ns.map PyData.int) = true
  | [] => rfl
  | n :: r => by
    show (PyData.canLay0 (.int n) && PyData.canLayAll0 (r.map PyData.int)) = true
    rw [lay_ints r]
    rfl
theorem dep_ints : ∀ ns : List Int, PyData.depthAll (ns.map PyData.int) = 0
  | [] => rfl
  | n :: r => by
    show max (PyData.depth (.int n)) (PyData.depthAll (r.map PyData.int)) = 0
    rw [dep_ints r]
    rfl
theorem shaped_ints (ns : List Int) : SeqAt.shaped (.list (ns.map PyData.int)) = true := by
  unfold SeqAt.shaped
  rw [show PyData.canLay0 (.list (ns.map PyData.int)) = true from lay_ints ns, show PyData.depth (.list (ns.map PyData.int)) = 1 by show PyData.depthAll (ns.map PyData.int) + 1 = 1; rw [dep_ints]]
  rfl
theorem dpAll_ints {K : PySem.W.Frag} {H : Hp} : ∀ ns : List Int, DpAll K H (ns.map V.int) (ns.map PyData.int)
  | [] => .nil
  | n :: r => .cons (.int n) (dpAll_ints r)
end Uk

/-! UkG: making instances, static methods and own methods by the promises of UkA -/
namespace Uk
open PySem PySem.Spec PyProof.Rows L2 StX
theorem under_guards {A : Around} {C : Addr} {us : List Value} {kw : List (Str × Value)} (h : A.guards = some []) : (A.under (.builtin "type.__call__" ⟨.ref C :: us, kw⟩)).guards = some [] := by
  first | exact h | (simpa [Around.under, Code.envs, Code.isFrame, pushEnvs] using h)
section
variable {X : Cx} {W : WX} {k : Nat} {C f : Addr} {sp : Sp} {pins : List (Addr × Obj)} {σ : L2.St} {H : Hp} {s : Shared} {Q : VK}
/-- what the making of an instance asks of its __init__ -/
def spMk (C : Addr) (sp : Sp) : Sp := fun vs H Q E => ∀ x dx, H x = none → H dx = none → dx ≠ x → sp (.ref x :: vs) (upd (upd H dx (.own x)) x (.ins C dx [])) (fun v H2 => v = .non ∧ Q (.ref x) H2) E
theorem run_makeG {us : List Value} {vs : List V} (tk : Takes X W) (M : Mk X.K C f) (F : CallG X.prog X.w X.K X.mg X.base k (.ref f) (pos sp)) (hr : Room (k + 1) X.A) (hg : X.A.guards = some []) (I : Inv X pins σ H s) (r : Vals vs us)
    (h : spMk C sp vs H Q (WE W σ)) : wpAny (model X.prog X.w) X.A (call (.ref C) us) (EP X pins σ Q) X.xe s := by
  have hq := h (s.heap.objs.size + 1) s.heap.objs.size (I.hok.fresh (Nat.le_succ _)) (I.hok.fresh (Nat.le_refl _)) (Nat.ne_of_lt (Nat.lt_succ_self _))
  have I2 := Inv.made (C := C) I
  have r2 : Vals (V.ref (s.heap.objs.size + 1) :: vs) (Value.ref (s.heap.objs.size + 1) :: us) := .cons rfl r
  refine wpAny_call (make_map (f := f) I.kIn M.makes M.init (beq_iff_eq.mp M.fn) (codeAny_mono (F _ X.stack _ _ (Value.ref (s.heap.objs.size + 1) :: us) [] _ [] _ _ (hr.make C us []) (under_guards hg) (I2.env0.make C us []) r2 .nil ⟨rfl, hq⟩) fun r s' hq' => ?_))
  cases r with
  | error e => exact passAt tk σ pins _ _ e s' I2 hq'
  | ok fl =>
    cases fl with
    | ret u =>
      obtain ⟨v, H', I3, rv, ev, q3⟩ := I2.after hq'
      subst ev
      exact ⟨rv, ⟨V.ref (s.heap.objs.size + 1), H', I3, rfl, q3⟩⟩
    | next => exact False.elim hq'
    | brk => exact False.elim hq'
    | cont => exact False.elim hq'
variable {x : Str} {p qs : Pos} {e : Expr} {es : List Expr} {t : TA}
/-- C(e, ..) -/
theorem pe_mkG (tk : Takes X W) (M : Mk X.K C f) (F : CallG X.prog X.w X.K X.mg X.base k (.ref f) (pos sp)) (hr : Room (k + 1) X.A) (hg : X.A.guards = some []) (hx : Gl X x) (hm : X.mg x = some (.ref C)) (ha : PA X (e :: es) t)
    (hdb : (x == ("__debug__" : Str)) = false := by decide) (he : starEach (e :: es) X.env = (false, eval e X.env) :: starEach es X.env := by rfl) (hpl : (backTo qs (starEach es X.env)).any (·.1) = false := by rfl) :
    PE X (.Call (.Name x p) (e :: es) [] qs) (tCl W (pos (spMk C sp)) t) := by
  refine ⟨fun pins s σ H Q I h => ?_⟩
  refine wpAny_Call_Name_kw (ld_glob I hx hm ?_ hdb)
  refine PySem.W.callWith_K (h₀ := X.base) I.ok.mod.kin M.kp (thn (ha.run qs pins s σ H _ I h) fun us s1 ⟨vs, H1, I1, r, q⟩ => ⟨I1.kIn, ?_⟩) he hpl
  exact run_makeG tk M F hr hg I1 r q.2
theorem pe_mkG0 (tk : Takes X W) (M : Mk X.K C f) (F : CallG X.prog X.w X.K X.mg X.base k (.ref f) (pos sp)) (hr : Room (k + 1) X.A) (hg : X.A.guards = some []) (hx : Gl X x) (hm : X.mg x = some (.ref C))
    (hdb : (x == ("__debug__" : Str)) = false := by decide) : PE X (.Call (.Name x p) [] [] qs) (tCl W (pos (spMk C sp)) tNil) := by
  refine ⟨fun pins s σ H Q I h => ?_⟩
  refine wpAny_Call_Name_kw (ld_glob I hx hm ?_ hdb)
  exact PySem.W.callWith_K0 I.kIn M.kp (run_makeG (us := []) tk M F hr hg I .nil h.2)
end

/-- C.m is a staticmethod: its record at p, its def at g -/
structure SMet (K : PySem.W.Frag) (C : Addr) (mc : Value) (m : Str) (p g : Addr) : Prop where
  rd : PySem.W.readsIn K C mc = true
  ga : PySem.W.specialIn K (.ref C) "__getattribute__" = some (some (.builtin "type.__getattribute__"))
  at_ : PySem.W.findCls K (.ref C) mc m = some (.get (.builtin "staticmethod.__get__") (.ref p) .none (.ref C))
  rc : ∃ rest, PySem.W.recIn K p "staticmethod" = some (.ref g :: rest)
  kp : PySem.W.keepIn K (.ref g) = true
section
variable {X : Cx} {W : WX} {k : Nat} {C f p g : Addr} {mc : Value} {sp : SpK} {m x : Str} {o e : Expr} {es : List Expr} {qs apos : Pos} {ta : TE} {t : TA} {pl : Sem Bool} {pins : List (Addr × Obj)} {σ : L2.St} {H : Hp} {s : Shared} {A : Around} {E : Value → Shared → Prop}
theorem getmethsm_ok {pl : Sem Bool} {Q : Value × List Value → Shared → Prop} (I : Inv X pins σ H s) (k : SMet X.K C mc m p g)
    (h : ∀ s', Inv X pins σ H s' → Q (.ref g, []) s') : wpAny (model X.prog X.w) A (getMethod (.ref C) m pl) Q E s := by
  obtain ⟨rest, hp⟩ := k.rc
  refine PySem.W.method_cls I.kIn k.ga (PySem.W.cls_bind I.kIn k.rd k.at_ ?_)
  exact wpAny_call (PySem.W.sm_get (s := { s with toks := s.toks + 1 }) I.kIn hp (PySem.W.handed_on rfl (h _ (I.tok _))))
/-- C.m(e, ..), m a staticmethod -/
def tSm (W : WX) (C : Addr) (sp : SpK) (ta : TE) (t : TA) : TE := fun σ H Q => ta σ H fun x H1 => x = .ref C ∧ t σ H1 fun vs H2 => sp vs [] H2 Q (WE W σ)
theorem pe_sm (tk : Takes X W) (he : PE X o ta) (c : SMet X.K C mc m p g) (F : CallG X.prog X.w X.K X.mg X.base k (.ref g) sp) (hr : Room k X.A) (hg : X.A.guards = some []) (ha : PA X (e :: es) t)
    (hst : starEach (e :: es) X.env = (false, eval e X.env) :: starEach es X.env := by rfl) (hpl : (backTo qs (starEach es X.env)).any (·.1) = false := by rfl)
    (ht : eval (.Call (.Attribute o m apos) (e :: es) [] qs) X.env = (do
      let ov ← eval o X.env
      standAt apos.atName
      let (f, first) ← holding [ov] (getMethod ov m pl)
      callWith qs f first (backTo qs (starEach (e :: es) X.env)) (backToKw qs (keywordEach [] X.env))) := by rfl) :
    PE X (.Call (.Attribute o m apos) (e :: es) [] qs) (tSm W C sp ta t) := by
  refine ⟨fun pins s σ H Q I h => ?_⟩
  refine PySem.W.methodCall_KW (pl := pl) (thn (he.run pins s σ H _ I h) fun u s1 ⟨x, H1, I1, rx, ex, q⟩ => ?_) ht
  subst ex
  obtain rfl : u = Value.ref C := rx
  refine getmethsm_ok I1 c fun s2 I2 => ?_
  refine PySem.W.callWith_K (h₀ := X.base) I2.ok.mod.kin c.kp (thn (ha.run qs pins s2 σ H1 _ I2 q) fun us s3 ⟨vs, H2, I3, r, q2⟩ => ⟨I3.kIn, ?_⟩) hst hpl
  exact run_call tk F hr hg I3 r .nil q2
theorem pe_sm0 (tk : Takes X W) (he : PE X o ta) (c : SMet X.K C mc m p g) (F : CallG X.prog X.w X.K X.mg X.base k (.ref g) sp) (hr : Room k X.A) (hg : X.A.guards = some [])
    (ht : eval (.Call (.Attribute o m apos) [] [] qs) X.env = (do
      let ov ← eval o X.env
      standAt apos.atName
      let (f, first) ← holding [ov] (getMethod ov m pl)
      callWith qs f first (backTo qs (starEach [] X.env)) (backToKw qs (keywordEach [] X.env))) := by rfl) :
    PE X (.Call (.Attribute o m apos) [] [] qs) (tSm W C sp ta tNil) := by
  refine ⟨fun pins s σ H Q I h => ?_⟩
  refine PySem.W.methodCall_KW (pl := pl) (thn (he.run pins s σ H _ I h) fun u s1 ⟨x, H1, I1, rx, ex, q⟩ => ?_) ht
  subst ex
  obtain rfl : u = Value.ref C := rx
  refine getmethsm_ok I1 c fun s2 I2 => ?_
  exact PySem.W.callWith_K0 I2.kIn c.kp (run_call (us := []) tk F hr hg I2 .nil .nil q)
/-- o.m(e, ..), m a method of o's class -/
def tMeG (W : WX) (C : Addr) (m : Str) (sp : SpK) (ta : TE) (t : TA) : TE := fun σ H Q => ta σ H fun x H1 => ∃ a dx fs, x = .ref a ∧ H1 a = some (.ins C dx fs) ∧ fs.lookup m = none ∧ t σ H1 fun vs H2 => sp (.ref a :: vs) [] H2 Q (WE W σ)
theorem pe_meG (tk : Takes X W) (he : PE X o ta) (c : Cls X.K C) (hm : Meth X.K C m f) (F : CallG X.prog X.w X.K X.mg X.base k (.ref f) sp) (hr : Room k X.A) (hg : X.A.guards = some []) (ha : PA X (e :: es) t)
    (hst : starEach (e :: es) X.env = (false, eval e X.env) :: starEach es X.env := by rfl) (hpl : (backTo qs (starEach es X.env)).any (·.1) = false := by rfl)
    (ht : eval (.Call (.Attribute o m apos) (e :: es) [] qs) X.env = (do
      let ov ← eval o X.env
      standAt apos.atName
      let (f, first) ← holding [ov] (getMethod ov m pl)
      callWith qs f first (backTo qs (starEach (e :: es) X.env)) (backToKw qs (keywordEach [] X.env))) := by rfl) :
    PE X (.Call (.Attribute o m apos) (e :: es) [] qs) (tMeG W C m sp ta t) := by
  refine ⟨fun pins s σ H Q I h => ?_⟩
  refine PySem.W.methodCall_KW (pl := pl) (thn (he.run pins s σ H _ I h) fun u s1 ⟨x, H1, I1, rx, a, dx, fs, ex, ea, l, q⟩ => ?_) ht
  subst ex
  obtain rfl : u = Value.ref a := rx
  refine getmeth_ok I1 ea c hm l ?_
  refine PySem.W.callWith_K (h₀ := X.base) (first := [.ref a]) I1.ok.mod.kin hm.kp (thn (ha.run qs pins s1 σ H1 _ I1 q) fun us s2 ⟨vs, H2, I2, r, q2⟩ => ⟨I2.kIn, ?_⟩) hst hpl
  exact run_call (us := .ref a :: us) (vs := .ref a :: vs) tk F hr hg I2 (.cons rfl r) .nil q2
theorem pe_meG0 (tk : Takes X W) (he : PE X o ta) (c : Cls X.K C) (hm : Meth X.K C m f) (F : CallG X.prog X.w X.K X.mg X.base k (.ref f) sp) (hr : Room k X.A) (hg : X.A.guards = some [])
    (ht : eval (.Call (.Attribute o m apos) [] [] qs) X.env = (do
      let ov ← eval o X.env
      standAt apos.atName
      let (f, first) ← holding [ov] (getMethod ov m pl)
      callWith qs f first (backTo qs (starEach [] X.env)) (backToKw qs (keywordEach [] X.env))) := by rfl) :
    PE X (.Call (.Attribute o m apos) [] [] qs) (tMeG W C m sp ta tNil) := by
  refine ⟨fun pins s σ H Q I h => ?_⟩
  refine PySem.W.methodCall_KW (pl := pl) (thn (he.run pins s σ H _ I h) fun u s1 ⟨x, H1, I1, rx, a, dx, fs, ex, ea, l, q⟩ => ?_) ht
  subst ex
  obtain rfl : u = Value.ref a := rx
  refine getmeth_ok I1 ea c hm l ?_
  exact PySem.W.callWith_K0 (first := [.ref a]) I1.kIn hm.kp (run_call (us := [.ref a]) (vs := [.ref a]) tk F hr hg I1 (.cons rfl .nil) .nil q)
end
theorem ifT {b : Bool} {A B : Prop} (e : b = true) (h : A) : if b = true then A else B := by rw [if_pos e]; exact h
theorem ifF {b : Bool} {A B : Prop} (e : b = false) (h : B) : if b = true then A else B := by rw [if_neg (by rw [e]; exact Bool.false_ne_true)]; exact h
theorem at_new {H : Hp} {p a : Addr} {o u : HO} (hp : H p = none) (h : H a = some u) : upd H p o a = some u := by rw [upd_ne (ne_of_none h hp)]; exact h
theorem at_same {H H' : Hp} {a : Addr} {u : HO} (s : Same H H') (h : H a = some u) : H' a = some u := s _ _ h
theorem same_trans {H H1 H2 : Hp} (a : Same H H1) (b : Same H1 H2) : Same H H2 := fun x y e => b x y (a x y e)
theorem takes_no {X : Cx} : Takes X (fun _ _ _ _ => False) := fun _ _ ⟨_, _, _, _, _, _, _, _, _, _, _, _, _, _, _, _, w⟩ => w.elim
theorem nd_refl (x : V) : (!decide (x = x)) = false := by simp
theorem de_refl (x : V) : decide (x = x) = true := by simp
theorem sqI2 {K : PySem.W.Frag} {H : Hp} {a : Addr} {i j : Int} (h : H a = some (.tup [.int i, .int j])) : SqT K H a ([i, j].map V.int) := SqT.of h
theorem sqI3 {K : PySem.W.Frag} {H : Hp} {a : Addr} {i j k : Int} (h : H a = some (.tup [.int i, .int j, .int k])) : SqT K H a ([i, j, k].map V.int) := SqT.of h
/-- what is never reached -/
def tDead : TE := fun _ _ _ => False
theorem pe_dead {X : Cx} {e : Expr} : PE X e tDead := ⟨fun _ _ _ _ _ _ h => h.elim⟩
def sDead : TS := fun _ _ _ => False
theorem ps_dead {X : Cx} {st : Stmt} : PS X st sDead := ⟨fun _ _ _ _ _ _ h => h.elim⟩
/-- what of a class isinstance looks at -/
structure TyC (K : PySem.W.Frag) (C : Addr) : Prop where
  cl : Cls K C
  ha : PySem.W.findIn K (.ref C) "__class__" = some (some (.builtin "object.__class__"))
  hn : PySem.W.specialIn K (.builtin "object.__class__") "__get__" = some (some (.builtin "getset_descriptor.__get__"))
  htk : PySem.W.takesIn K (.builtin "object.__class__") = some true
  hm : PySem.W.mroIn K C (.type "object") = some true
theorem TyC.ty {K : PySem.W.Frag} {C : Addr} (c : TyC K C) {H : Hp} {a dx : Addr} {fs : List (Str × V)} (e : H a = some (.ins C dx fs)) : TyX K H (.ref a) (.ref C) := .base (.ins e c.cl c.ha c.hn c.htk c.hm)
end Uk

/-! UkH: the pen, and the heap without it -/
namespace Uk
open PySem PySem.Spec PyProof.Rows L2 StX

/-- the heap without the object at p -/
def Off (p : Addr) (H : Hp) : Hp := fun a => if a = p then none else H a
section
variable {H H' H1 H2 : Hp} {p a z : Addr} {o u v : HO} {m n : Int}
theorem Off.at (h : Off p H a = some u) : H a = some u := by
  unfold Off at h
  by_cases e : a = p
  · rw [if_pos e] at h; cases h
  · rw [if_neg e] at h; exact h
theorem Off.ne (h : Off p H a = some u) : a ≠ p := fun e => by
  unfold Off at h
  rw [if_pos e] at h
  cases h
theorem Off.of (h : H a = some u) (n : a ≠ p) : Off p H a = some u := by
  unfold Off
  rw [if_neg n]
  exact h
theorem Off.same (s : Same H H') : Same (Off p H) (Off p H') := fun a u e => Off.of (s _ _ (Off.at e)) (Off.ne e)
theorem Off.new (hz : H z = none) : Same (Off p H) (Off p (upd H z o)) := Off.same (same_new hz)
/-- the pen at p, its cells at c, with at most m of them begun -/
def Pen (H : Hp) (p c : Addr) (m : Int) : Prop := ∃ (b l : Int) (ns : List Int), H p = some (penO c b l) ∧ H c = some (.lst (ns.map .int)) ∧ ns.length ≤ 63 ∧ 0 ≤ b ∧ b ≤ m
section
variable {c : Addr}
theorem Pen.same (s : Same H H') (P : Pen H p c m) : Pen H' p c m := by
  obtain ⟨b, l, ns, h1, h2, h3⟩ := P
  exact ⟨b, l, ns, s _ _ h1, s _ _ h2, h3⟩
theorem Pen.new (hz : H z = none) (P : Pen H p c m) : Pen (upd H z o) p c m := P.same (same_new hz)
theorem Pen.mono (P : Pen H p c m) (h : m ≤ n) : Pen H p c n := by
  obtain ⟨b, l, ns, h1, h2, h3, h4, h5⟩ := P
  exact ⟨b, l, ns, h1, h2, h3, h4, Int.le_trans h5 h⟩
theorem Pen.ne (P : Pen H p c m) (hz : H z = none) : z ≠ p := fun e => by
  obtain ⟨b, l, ns, h1, _⟩ := P
  rw [← e, hz] at h1
  cases h1
theorem Pen.ne2 (P : Pen H p c m) (hz : H z = none) : z ≠ c := fun e => by
  obtain ⟨b, l, ns, _, h1, _⟩ := P
  rw [← e, hz] at h1
  cases h1
/-- another object is changed -/
theorem Pen.upd (n1 : z ≠ p) (n2 : z ≠ c) (P : Pen H p c m) : Pen (upd H z o) p c m := by
  obtain ⟨b, l, ns, h1, h2, h3⟩ := P
  exact ⟨b, l, ns, by rw [upd_ne n1.symm]; exact h1, by rw [upd_ne n2.symm]; exact h2, h3⟩
/-- a new object, told without the pen -/
theorem Off.mk (P : Pen H p c m) (hz : H z = none) : Off p (upd H z o) z = some o := Off.of upd_same (P.ne hz)
end
/-- what draws, told by the pen -/
def spDrawP : Sp := fun vs H Q _ => ∃ (p c : Addr) (m many : Int), vs = [.ref p, .int many] ∧ Pen H p c m ∧ m ≤ 99999 ∧ 1 ≤ many ∧ many ≤ 100000 ∧
  ∀ (d : Int) (H' : Hp), 0 ≤ d → d < many → Same (Off p H) (Off p H') → Pen H' p c (m + 1) → Q (.int d) H'
theorem draw_P {vs : List V} {Q : VK} {E : XK} (h : spDrawP vs H Q E) : spDraw vs H Q E := by
  obtain ⟨p, c, m, many, rfl, ⟨b, l, ns, h1, h2, h3, h4, h5⟩, h6, h7, h8, q⟩ := h
  have pc : c ≠ p := fun e => by
    rw [e, h1] at h2
    match ns, h2 with
    | [], hc => cases hc
    | n :: r, hc => cases hc
  refine ⟨p, c, b, l, many, ns, rfl, h1, h2, h3, h4, by omega, h7, h8, fun d b' l' H' d0 d1 e1 e2 ch => ?_⟩
  exact q d H' d0 d1 (fun a u e => Off.of (ch.ne _ _ (Off.ne e) (Off.at e)) (Off.ne e)) ⟨b', l', ns, ch.at_, ch.ne _ _ pc h2, h3, by omega, by omega⟩
theorem Same.rfl {H : Hp} : Same H H := fun _ _ h => h
end
end Uk

/-! UkI: how long shown data is -/
namespace Uk
open PySem PySem.Spec PyProof.Rows L2 StX

theorem ofString_len (s : String) : (Str.ofString s).length = s.length := by
  rw [Str.ofString_eq_toList]
  show (List.toArray _).size = _
  rw [List.size_toArray, List.length_map, String.length_toList]
theorem int_len {i : Int} (h : i.natAbs < 10 ^ 18) : (Str.ofString (toString i)).length ≤ 19 := by
  rw [ofString_len]
  cases i with
  | ofNat n =>
    show (Nat.repr n).length ≤ 19
    have := (Nat.length_repr_le_iff (n := n) (k := 18) (by decide)).mpr (by simpa using h)
    omega
  | negSucc n =>
    show ("-" ++ Nat.repr (n + 1)).length ≤ 19
    rw [String.length_append]
    have := (Nat.length_repr_le_iff (n := n + 1) (k := 18) (by decide)).mpr (by simpa using h)
    have e : ("-" : String).length = 1 := by decide
    omega
/-- may be shown in at most n signs, at most k deep -/
structure Sml (n k : Nat) (d : PyData) : Prop where
  sh : d.showable = true
  sz : d.shown.length ≤ n
  dp : d.depth ≤ k
structure SmlAll (n k m : Nat) (ds : List PyData) : Prop where
  sh : PyData.showableAll ds = true
  sz : ∀ t ∈ PyData.shownAll ds, t.length ≤ n
  ln : ds.length ≤ m
  dp : PyData.depthAll ds ≤ k
theorem Sml.shw {n k : Nat} {d : PyData} (h : Sml n k d) (hn : n ≤ sizeLine) (hk : k ≤ 60) : Shw d := ⟨h.sh, Nat.le_trans h.sz hn, Nat.le_trans h.dp hk⟩
theorem sml_none {n k : Nat} (h : 4 ≤ n) : Sml n k .none := ⟨rfl, h, Nat.zero_le _⟩
theorem sml_bool {n k : Nat} {b : Bool} (h : 5 ≤ n) : Sml n k (.bool b) := ⟨rfl, Nat.le_trans (by cases b <;> decide) h, Nat.zero_le _⟩
theorem sml_int {n k : Nat} {i : Int} (h : 19 ≤ n) (hi : i.natAbs < 10 ^ 18) : Sml n k (.int i) := by
  refine ⟨?_, Nat.le_trans (int_len hi) h, Nat.zero_le _⟩
  show decide (i.natAbs.log2 < 1920) = true
  rw [decide_eq_true_eq]
  have h1 : i.natAbs < 2 ^ 1920 := Nat.lt_of_lt_of_le hi (by decide +kernel)
  by_cases e : i.natAbs = 0
  · rw [e]; decide
  · exact (Nat.log2_lt e).mpr h1
theorem smlAll_nil {n k m : Nat} : SmlAll n k m [] := ⟨rfl, (fun _ h => nomatch h), Nat.zero_le _, Nat.zero_le _⟩
theorem smlAll_cons {n k m : Nat} {d : PyData} {ds : List PyData} (h : Sml n k d) (r : SmlAll n k m ds) : SmlAll n k (m + 1) (d :: ds) := by
  refine ⟨?_, fun t ht => ?_, Nat.succ_le_succ r.ln, ?_⟩
  · show (PyData.showable d && PyData.showableAll ds) = true
    rw [h.sh, r.sh] <;> rfl
  · rcases List.mem_cons.mp ht with e | e
    · rw [e]; exact h.sz
    · exact r.sz t e
  · show max (PyData.depth d) (PyData.depthAll ds) ≤ k
    exact Nat.max_le.mpr ⟨h.dp, r.dp⟩
theorem str_len_append (a b : Str) : (a ++ b).length = a.length + b.length := PySem.Str.length_append a b
theorem textFrom_le {n : Nat} : ∀ (ts : List Str) (k : Nat) (acc : Str), (∀ t ∈ ts, t.length ≤ n) → (textFrom k acc ts).length ≤ acc.length + (n + 2) * ts.length
  | [], k, acc, _ => by
    show acc.length ≤ acc.length + _
    exact Nat.le_add_right _ _
  | t :: r, k, acc, h => by
    have h1 := textFrom_le r (k + 1) (acc ++ (if k > 0 then ", " else "" : String) ++ t) (fun u hu => h u (List.mem_cons_of_mem _ hu))
    have h2 := h t List.mem_cons_self
    show (textFrom (k + 1) (acc ++ (if k > 0 then ", " else "" : String) ++ t) r).length ≤ _
    refine Nat.le_trans h1 ?_
    rw [str_len_append, str_len_append, List.length_cons, Nat.mul_succ]
    have h3 : (Str.ofString (if k > 0 then ", " else "")).length ≤ 2 := by split <;> decide
    omega
theorem sml_list {n k m N K : Nat} {ds : List PyData} (h : SmlAll n k m ds) (hN : 2 + (n + 2) * m ≤ N) (hK : k + 1 ≤ K) : Sml N K (.list ds) := by
  have hl : ∀ ds : List PyData, (PyData.shownAll ds).length = ds.length := by
    intro ds
    induction ds with
    | nil => rfl
    | cons d r ih =>
      show (PyData.shown d :: PyData.shownAll r).length = _
      rw [List.length_cons, ih, List.length_cons]
  refine ⟨h.sh, ?_, ?_⟩
  · show (textFrom 0 "[" (PyData.shownAll ds) ++ ("]" : Str)).length ≤ N
    have h1 := textFrom_le (n := n) (PyData.shownAll ds) 0 "[" h.sz
    rw [str_len_append]
    have e1 : ("[" : Str).length = 1 := by decide
    have e2 : ("]" : Str).length = 1 := by decide
    rw [hl] at h1
    have h2 : (n + 2) * ds.length ≤ (n + 2) * m := Nat.mul_le_mul_left _ h.ln
    omega
  · show PyData.depthAll ds + 1 ≤ K
    exact Nat.le_trans (Nat.succ_le_succ h.dp) hK
end Uk

/-! UkJ: bool(x) of an instance with an own __bool__; more -/
namespace Uk
open PySem PySem.Spec PyProof.Rows L2 StX
section
variable {prog : Program} {w : World} {A : Around} {E : Value → Shared → Prop} {s : Shared}
theorem bool_in (x : Value) : MeetsIn prog w (Builtin.«bool.__new__» ⟨[.type "bool", x], []⟩) (fun A R s => ∀ tk, wpAny (model prog w) A.in1 (truthy x) (fun b s' => R (.ok (.ret (.bool b))) s') (fun e s' => R (.error e) s') { s with toks := tk }) :=
  .of_wp fun A R s hs => by
    obtain ⟨hp, g, d, tk, os⟩ := s
    have f1 := F.conv_sub_bool
    repeat (any_goals (first | assumption | (with_reducible refine wpAny_mono (hs _) (fun b s2 h2 => ?_) (fun _ _ h2 => h2)) | wp_step))
    all_goals first | exact ⟨_, rfl, by assumption⟩ | skip
    all_goals trace_state
theorem call_bool_in {x : Value} {Q : Value → Shared → Prop} (h : ∀ tk, wpAny (model prog w) A.in1.in1 (truthy x) (fun b s' => Q (.bool b) s') E { s with toks := tk }) : wpAny (model prog w) A (call (.type "bool") [x]) Q E s :=
  callType_newIn F.called_bool F.newNe_bool (F.typeCall_bool_1 x) (F.newCall_bool_1 x) (fun obj => F.args_object_init_2 obj x) F.entry_bool_new (bool_in x)
    (fun tk => wpAny_mono (h tk) (fun b s' q => ⟨rfl, q⟩) fun _ _ q => q)
end
/-- bool(x), x an instance with an own __bool__ -/
theorem call_boolO {X : Cx} {k : Nat} {sp : SpK} {D : Addr → Prop} {f : Addr} (F : CallG X.prog X.w X.K X.mg X.base k (.ref f) sp) (hr : Room (k + 2) X.A) (hg : X.A.guards = some []) (hD : ∀ C, D C → Own X.K C "__bool__" f) :
    CallR X (.type "bool") (fun xs H Q => ∃ x, xs = [x] ∧ rTruO D sp x H fun b H' => Q (.bl b) H') := by
  intro pins s σ H xs us Q I r h
  obtain ⟨x, rfl, a, C, dx, fs, rfl, d, e, q⟩ := h
  obtain ⟨u, rfl, r1⟩ := vals1 r
  obtain rfl : u = Value.ref a := r1
  refine call_bool_in fun tk => ?_
  have I := I.tok tk
  obtain ⟨od, J⟩ := ins_at I.hok e
  obtain ⟨m, fr⟩ := I.fr
  refine PySem.W.truthy_K fr I.ok.mod.kin J (hD C d).at_ (hD C d).fn (wpAny_mono (run_callN F hr.in1.in1 hg rfl I (vs := [.ref a]) (us := [.ref a]) (.cons rfl .nil) q) (fun z s' hz => ?_) fun _ _ y => y)
  obtain ⟨v', H', I', rv, b, rfl, q'⟩ := hz
  obtain rfl : z = Value.bool b := rv
  exact ⟨.bl b, H', I', rfl, q'⟩
end Uk

/-! UkK: the end: from the head's walk to the promise of the law's def -/
namespace Uk
open PySem PySem.Spec PyProof.Rows L2 StX
section
variable {P : Program} {w : World} {K : PySem.W.Frag} {mg mb : Str → Option Value} {k : Nat} {fa a : Addr} {sp : Sp} {s₁ : Shared} {vs : List Value} {ns : List Int}
/-- a heap that tells of one frozen object, or of none -/
structure OneFrz (P : Program) (w : World) (K : PySem.W.Frag) (h : Heap) (a : Addr) (H : Hp) : Prop where
  hok : HOk P w H h
  one : ∀ b, H b = none ∨ (b = a ∧ ∃ o ys, H b = some (.frz o (.lst ys)))
  free : H a ≠ none → K.lookup a = none
theorem endG (KX : K.In s₁.heap) (hns : s₁.heap.Ns mainGlobals mg) (hb : s₁.heap.Ns builtinsNs mb) (hbb : ∀ x : Str, x ≠ "__name__" → mb x = bootBuiltins x) (hlim : s₁.heap.NoLimit) (hgen : s₁.gens = #[])
    (isList : ∃ its, s₁.heap.get? a = some { cls := .type "list", data := .seq its }) (hr : Room k callerA) (F : ∀ base : Heap, Mod K mg base → CallG P w K mg base k (.ref fa) (pos sp)) {H : Hp} (T : OneFrz P w K s₁.heap a H)
    (law : sp [.ref a] H (fun v _ => v = .bl true) NoE) :
    codeAny (model P w) callerA (.call (.ref fa) ⟨[.ref a], []⟩) (fun r s' => r = .ok (.ret (.bool true)) ∧ OldK s₁.heap s'.heap ∧ s'.os = s₁.os ∧ AllBare s'.gens) s₁ := by
  obtain ⟨its, hlist⟩ := isList
  have clear : ∀ {b : Addr} {o : Obj}, s₁.heap.get? b = some o → (b = a → K.lookup a = none → False) → (hidT s₁.heap H).get? b = some o := fun {b o} e no => hidT_get e (by
    rcases T.one b with z | ⟨eb, ob, ys, z⟩
    · exact z
    · refine (no eb (T.free fun q => ?_)).elim
      rw [← eb, z] at q
      cases q)
  have names : ∀ {b : Addr} {m : Str → Option Value}, s₁.heap.Ns b m → (hidT s₁.heap H).Ns b m := fun {b m} ⟨o, es, ep, e, d, r⟩ => by
    refine ⟨o, es, ep, clear e (fun eb _ => ?_), d, r⟩
    rw [eb, hlist] at e
    cases e
    cases d
  have kIn : K.In (hidT s₁.heap H) := fun b o e => clear (KX b o e) fun eb kn => by
    rw [eb, kn] at e
    cases e
  have M : Mod K mg (hidT s₁.heap H) := ⟨kIn, names hns, ⟨mb, names hb, hbb⟩, hlim.elim fun mc z => ⟨mc, names z.1, z.2⟩⟩
  have env : Env0 P w K mg (hidT s₁.heap H) callerA [] s₁ H := ⟨rfl, M, fun _ _ => of_hidT, Nat.le_of_eq (hidT_size _ _), trivial, (fun b z => nomatch (show b ∈ ([] : List Addr) from z)), T.hok, .of_eq hgen⟩
  refine codeAny_mono (F _ M callerA [] s₁ H [.ref a] [] [.ref a] [] (fun v _ => v = .bl true) NoE hr rfl env (.cons rfl .nil) .nil ⟨rfl, law⟩) fun r s' got => ?_
  rcases r with e | fl
  · exact (cx_no got).elim
  · cases fl
    case ret u =>
      obtain ⟨v, H', os, bare, un, hok', rv, hv⟩ := got
      cases (show v = .bl true from hv)
      cases (show u = Value.bool true from rv)
      refine ⟨rfl, .of_keep fun b o e => ?_, os, bare⟩
      obtain z | ⟨_, ob, ys, z⟩ := T.one b
      · exact un.keep b o e z (fun i => nomatch (show b ∈ ([] : List Addr) from i)) (fun i => nomatch i)
      · have same := (T.hok b _ z).1
        rw [e] at same
        cases same
        exact (hok' b _ (un.frzs b _ _ z)).1
    all_goals exact got.elim
/-- the law's call, by the promise of its def -/
theorem lawG (KX : K.In s₁.heap) (hns : s₁.heap.Ns mainGlobals mg) (hb : s₁.heap.Ns builtinsNs mb) (hbb : ∀ x : Str, x ≠ "__name__" → mb x = bootBuiltins x) (hlim : s₁.heap.NoLimit) (hgen : s₁.gens = #[])
    (ha : s₁.heap.get? a = some { cls := .type "list", data := .seq vs.toArray }) (hi : IntsAre vs ns) (hl : ns.length ≤ sizeLine) (hr : Room k callerA) (F : ∀ base : Heap, Mod K mg base → CallG P w K mg base k (.ref fa) (pos sp))
    (law : ∀ H : Hp, SqL K H a (ns.map V.int) → sp [.ref a] H (fun v _ => v = .bl true) NoE) :
    codeAny (model P w) callerA (.call (.ref fa) ⟨[.ref a], []⟩) (fun r s' => r = .ok (.ret (.bool true)) ∧ OldK s₁.heap s'.heap ∧ s'.os = s₁.os ∧ AllBare s'.gens) s₁ := by
  have many := hi.length
  have rel := vals_ints hi
  by_cases hk : K.lookup a = none
  · let H : Hp := fun b => if b = a then some (.frz { cls := .type "list", data := .seq vs.toArray } (.lst (ns.map V.int))) else none
    have Ha : H a = some (.frz { cls := .type "list", data := .seq vs.toArray } (.lst (ns.map V.int))) := if_pos rfl
    have Hn : ∀ b, b ≠ a → H b = none := fun b nb => if_neg nb
    refine endG KX hns hb hbb hlim hgen ⟨_, ha⟩ hr F (H := H) ⟨fun b u z => ?_, fun b => ?_, fun _ => hk⟩ (law H (.inl (.inr ⟨_, Ha⟩)))
    · by_cases eb : b = a
      · subst eb
        rw [Ha] at z
        cases z
        exact ⟨ha, by rw [List.length_map]; exact hl, vs, _, rel, ha⟩
      · rw [Hn b eb] at z
        cases z
    · by_cases eb : b = a
      · subst eb
        exact .inr ⟨rfl, _, _, Ha⟩
      · exact .inl (Hn b eb)
  · obtain ⟨o, ho⟩ := Option.ne_none_iff_exists'.mp hk
    have e := KX a o ho
    rw [ha] at e
    cases e
    refine endG KX hns hb hbb hlim hgen ⟨_, ha⟩ hr F (H := fun _ => none) ⟨(fun b u z => nomatch z), (fun b => Or.inl rfl), fun z => absurd rfl z⟩ (law _ (.inr ⟨_, vs.toArray, _, ho, rfl, rfl, rfl, ?_, by simpa using rel⟩))
    rw [List.size_toArray, many]
    exact hl
end
/-- the goal that the head leaves, from the law's promise -/
theorem walkG {l : PySem.W.OpenLaw} {n k : Nat} {q : Program} {loose : List Str} {XP : (Str → Option Value) → Heap → Prop} {YP : World → Heap → Prop} {d : DefRec} {K : Params → PySem.W.Frag} {sp : World → Sp}
    (hn : l.most = some n) (hn2 : n ≤ sizeLine) (hdf : d.params.defaults = []) (hr : Room k callerA) (hY : ∀ (w : World) (h : Heap), YP w h → (K w.params).In h)
    (F : ∀ (w : World) (mg : Str → Option Value) (fa : Addr) (h : Heap), (K w.params).In h → h.Ns mainGlobals mg → mg d.name = some (.ref fa) → ∀ base : Heap, Mod (K w.params) mg base → CallG l.prog w (K w.params) mg base k (.ref fa) (pos (sp w)))
    (law : ∀ (w : World) (H : Hp) (a : Addr) (ns : List Int), ns.length ≤ n → SqL (K w.params) H a (ns.map V.int) → sp w [.ref a] H (fun v _ => v = .bl true) NoE) :
    PySem.W.WalkO q loose XP YP l.row.toRowW d [] (fun f vs => PySem.call f vs) := by
  refine Att.attach_call hn hdf fun w s₀ s₁ mg mb fa o pm cd doc a vs ns G Y ho hd hcd hmg hobj hints hlen hgen => ?_
  have KX := hY w _ Y
  exact lawG KX G.T.g G.T.b G.T.builtins G.T.nolimit hgen hobj hints (Nat.le_trans hlen hn2) hr (F w mg fa _ KX G.T.g hmg) fun H hS => law w H a ns hlen hS
/-- not e as a value, by a rule of its truth -/
theorem pe_notR {X : Cx} {a : Expr} {ta : TE} {pos : Pos} {r : V → Hp → (Bool → Hp → Prop) → Prop} (ha : PE X a ta) (ru : TruR X r) : PE X (.UnaryOp .Not a pos) (fun σ H Q => ta σ H fun x H1 => r x H1 fun b H2 => Q (.bl (!b)) H2) :=
  ⟨fun pins s σ H Q I h => UnaryOp_ (thn (ha.run pins s σ H _ I h) fun v s1 ⟨x, H1, I1, r1, q1⟩ => not_of (thn (ru pins s1 σ H1 x v (fun b H2 => Q (.bl (!b)) H2) I1 r1 q1) fun c s2 ⟨H2, I2, q2⟩ => ⟨.bl (!c), H2, I2, rfl, q2⟩))⟩
end Uk

/-! UkL: defs that say super() -/
namespace Uk
open PySem PySem.Spec PyProof.Rows L2 StX

/-- the frame of a def that closes over __class__ -/
abbrev envS (qual : Str) (scope : Scope) (L f : Addr) (cd : Value) (cc : Addr) : Env := PySem.W.ksEnv qual scope L f cd cc
def cxS (P : Program) (w : World) (K : PySem.W.Frag) (mg : Str → Option Value) (base : Heap) (N : List Str) (qual : Str) (scope : Scope) (f : Addr) (cd : Value) (cc : Addr) (A : Around) (outer : List Env) (s : Shared) (H : Hp) (E : XK) : Cx :=
  { prog := P, w := w, K := K, mg := mg, base := base, A := A.deeper (envS qual scope s.heap.objs.size f cd cc), N := N, s_0 := s, H_0 := H, env := envS qual scope s.heap.objs.size f cd cc, outer := outer,
    stack := envS qual scope s.heap.objs.size f cd cc :: outer, ex := [], fn := fun _ => false, calm := true, pn := [],
    xe := fun e s' => wpAny (model P w) (A.deeper (envS qual scope s.heap.objs.size f cd cc)) (leaving (envS qual scope s.heap.objs.size f cd cc) e) (fun _ s'' => L2.CX P w outer H s E e s'') (fun e' s'' => L2.CX P w outer H s E e' s'') s' }
structure ScopeS (N P : List Str) (sc : Scope) : Prop where
  kind : sc.kind = .function
  co : sc.isCoroutine = false
  gen : sc.isGenerator = false
  nd : N.Nodup
  pre : N.take P.length = P
  par : ∀ x ∈ P, sc.names.lookup x = some .local
  nocell : ∀ y ∈ sc.names, y.2 ≠ .cell
  free : ∀ y ∈ sc.names, y.2 = .free → y.1 = ("__class__" : Str)
/-- a def of the text that closes over __class__, whose cell at cc holds the class at D -/
structure FunS (K : PySem.W.Frag) (x qual : Str) (st : Stmt) (f cc cda D : Addr) : Prop where
  ex : ∃ (oc : Value) (od : Option Addr) (kV doc pm : Value) (an : Option Addr) (ct : Value) (osl : Array (Option Value)),
    K.lookup f = some ⟨oc, od, .func (PySem.W.ksFn x qual (defArgs st) (defBody st) (defScope st) .none kV doc pm an (.ref cda) ct cc), osl⟩ ∧ PySem.W.codeIn K (.ref cda) qual = true
  cell : ∃ (cl : Value) (cld : Option Addr) (csl : Array (Option Value)), K.lookup cc = some ⟨cl, cld, .cell (some (.ref D)), csl⟩
  kp : PySem.W.keepIn K (.ref f) = true
theorem rev_get : ∀ {ps : List Str} {us : List Value} {i : Nat} {y : Str} {u : Value}, ps.Nodup → ps[i]? = some y → us[i]? = some u → (ps.zip us).reverse.lookup y = some u
  | [], _, _, _, _, _, h, _ => by simp at h
  | _ :: _, [], _, _, _, _, _, h => by simp at h
  | p :: ps, v :: us, 0, y, u, nd, h1, h2 => by
    simp at h1 h2
    subst h1 h2
    show ((p, v) :: ps.zip us).reverse.lookup p = some v
    rw [List.reverse_cons, List.lookup_append]
    have hn : (ps.zip us).reverse.lookup p = none := by
      rw [List.lookup_eq_none_iff]
      intro q hq
      have hm := (List.of_mem_zip (List.mem_reverse.mp hq)).1
      have : p ≠ q.1 := fun e => (List.nodup_cons.mp nd).1 (e ▸ hm)
      simpa using this
    rw [hn]
    simp [List.lookup]
  | p :: ps, v :: us, i + 1, y, u, nd, h1, h2 => by
    have ih := rev_get (List.nodup_cons.mp nd).2 (by simpa using h1) (by simpa using h2)
    show ((p, v) :: ps.zip us).reverse.lookup y = some u
    rw [List.reverse_cons, List.lookup_append, ih]
    rfl
section
variable {P : Program} {w : World} {K : PySem.W.Frag} {mg : Str → Option Value} {base : Heap} {N ps : List Str} {qual x : Str} {scope : Scope} {st : Stmt} {f cc cda D : Addr} {cd : Value} {A : Around} {outer : List Env} {s : Shared} {H : Hp} {E : XK} {us : List Value} {vs : List V} {k n : Nat} {h1 : Heap} {sp : Sp}
theorem inv_S (S : ScopeS N ps scope) (hd : A.handled = none) (e0 : Env0 P w K mg base A outer s H) (hl : vs.length = ps.length) (r : Vals vs us) (hc : ∃ (cl : Value) (cld : Option Addr) (csl : Array (Option Value)), K.lookup cc = some ⟨cl, cld, .cell (some (.ref D)), csl⟩)
    (hn : h1.Ns s.heap.objs.size (fun x => (ps.zip us).reverse.lookup x)) (hk : ∀ b o, s.heap.get? b = some o → h1.get? b = some o) :
    Inv (cxS P w K mg base N qual scope f cd cc A outer s H E) [] (L2.start N vs) H { s with heap := h1, toks := s.toks + n } := by
  obtain ⟨cl, cld, csl, hcell⟩ := hc
  have bcc := e0.mod.kin _ _ hcell
  have hcc : s.heap.get? cc = some ⟨cl, cld, .cell (some (.ref D)), csl⟩ := (e0.bs _ _ bcc).1
  have ccn : cc ≠ s.heap.objs.size := Nat.ne_of_lt (Heap.lt_size hcc)
  have hpl : ps.length ≤ N.length := by have := congrArg List.length S.pre; rw [List.length_take] at this; omega
  have one : ∀ {y : Str} {c : Addr}, ([(("__class__" : Str), cc)] : List (Str × Addr)).lookup y = some c → y = "__class__" ∧ c = cc := fun {y c} h => by
    unfold List.lookup at h
    split at h
    · rename_i e
      exact ⟨beq_iff_eq.mp e, (Option.some.inj h).symm⟩
    · cases h
  have noA : ∀ b : Addr, b ∉ (cxS P w K mg base N qual scope f cd cc A outer s H E).ex := fun b z => nomatch (show b ∈ ([] : List Addr) from z)
  refine ⟨⟨e0.mod, S.kind, rfl, rfl, Nat.le_refl _, fun y z c h1 h2 => (one h1).1.trans (one h2).1.symm, fun y hy => ?_, (fun y c h _ => nomatch (show false = true from h)), fun _ => hd, Around.frames_deeper e0.frames, .inr ⟨rfl, rfl⟩, fun b z => absurd z (noA b), e0.bs, e0.bsz, fun b _ _ => noA b, fun b z => absurd z (noA b), e0.funs, e0.frf⟩,
    rfl, e0.bare, Un.kept hk, ⟨_, hn, fun i y v h1 h2 h3 => ?_⟩, fun y c h => ?_, e0.hok.fresh (Nat.le_refl _), fun y c h => ?_, fun p hp => absurd (show p ∈ ([] : List (Addr × Obj)) from hp) (by simp), e0.hok.kept hk, ?_⟩
  · have hy : scope.names.lookup y = some .cell ∨ scope.names.lookup y = some .free := hy
    rcases hy with hy | hy
    · exact absurd rfl (S.nocell _ (PySem.mem_of_lookup hy))
    · have e := S.free _ (PySem.mem_of_lookup hy) rfl
      dsimp only at e
      subst e
      exact ⟨cc, rfl⟩
  · have hi : i < vs.length := by
      unfold L2.start at h2
      by_cases hi : i < vs.length
      · exact hi
      · rw [List.getElem?_append_right (by simpa using hi), List.getElem?_replicate] at h2
        split at h2 <;> cases h2
    have ha : vs[i]? = some v := by
      unfold L2.start at h2
      rw [List.getElem?_append_left (by simpa using hi), List.getElem?_map] at h2
      cases e : vs[i]? with
      | none => rw [e] at h2; cases h2
      | some a => rw [e] at h2; cases h2; rfl
    obtain ⟨u, hu, rv⟩ := r.get ha
    have hp : ps[i]? = some y := by
      rw [← S.pre, List.getElem?_take_of_lt (by omega)]; exact h1
    have ndP : ps.Nodup := by rw [← S.pre]; exact S.nd.sublist (List.take_sublist _ _)
    exact ⟨u, rv, .inl ⟨S.par y (List.mem_of_getElem? hp), rev_get ndP hp hu⟩⟩
  · rw [(one h).2]
    exact ⟨some (.ref D), _, hk _ _ hcc, rfl⟩
  · rw [(one h).2]
    exact (e0.bs _ _ bcc).2
  · unfold L2.start
    show _ = N.length
    rw [List.length_append, List.length_map, List.length_replicate]
    omega
end

/-- code that runs within the known body c -/
structure PEt (X : Cx) (c : Code) (e : Expr) (t : TE) : Prop where
  run : ∀ (pins : List (Addr × Obj)) (s : Shared) (σ : L2.St) (H : Hp) (Q : VK), Inv X pins σ H s → t σ H Q → _root_.PySem.wpAt (model X.prog X.w) X.A c (eval e X.env) (EP X pins σ Q) X.xe s
structure PSst (X : Cx) (c : Code) (b : List Stmt) (t : TS) : Prop where
  run : ∀ (pins : List (Addr × Obj)) (s : Shared) (σ : L2.St) (H : Hp) (D : Ends), Inv X pins σ H s → t D σ H → _root_.PySem.wpAt (model X.prog X.w) X.A c (execs b X.env) (SP X pins D) X.xe s
section
variable {X : Cx} {c : Code} {e : Expr} {st : Stmt} {b : List Stmt} {t : TE} {u v : TS} {pos : Pos}
theorem pet_of (h : PE X e t) : PEt X c e t := ⟨fun pins s σ H Q I q => wpAt_of_wpAny (h.run pins s σ H Q I q)⟩
theorem psst_of (h : PSs X b u) : PSst X c b u := ⟨fun pins s σ H D I q => wpAt_of_wpAny (h.run pins s σ H D I q)⟩
/-- e; rest, where e says super() -/
theorem psst_expr (h : PEt X c e t) (r : PSst X c b v) (hi : interactive X.env = false := by rfl) (hs : swapsWith e none pos.line X.env = pure false := by rfl) : PSst X c (.Expr e pos :: b) (fun D σ H => t σ H fun _ H1 => v D σ H1) :=
  ⟨fun pins s σ H D I q => ks_wpAt_execs_cons (ks_wpAt_Expr_any (ks_wpAt_mono (h.run pins s σ H _ I q) (fun _ s' ⟨_, H1, I1, _, q1⟩ => r.run pins s' σ H1 D I1 q1) fun _ _ z => z) hi hs)⟩
/-- return e, where e says super() -/
theorem psst_ret (h : PEt X c e t) : PSst X c (.Return (some e) pos :: b) (fun D σ H => t σ H D.rt) :=
  ⟨fun pins s σ H D I q => ks_wpAt_execs_cons (ks_wpAt_Return_some (ks_wpAt_mono (h.run pins s σ H _ I q) (fun _ s' ⟨v, H1, I1, r1, q1⟩ => ⟨v, σ, H1, I1, r1, q1⟩) fun _ _ z => z))⟩
/-- a or b, a says super() and answers a bool -/
theorem pet_or {a : Expr} {rest : List Expr} {ta tb : TE} (ha : PEt X c a ta) (hb : PE X (.BoolOp .Or (e :: rest) pos) tb) : PEt X c (.BoolOp .Or (a :: e :: rest) pos) (tOrV ta tb) := by
  refine ⟨fun pins s σ H Q I q => ?_⟩
  show _root_.PySem.wpAt _ _ _ (do
    let v ← eval a X.env
    standAt pos
    let c ← holding [v] (truthy v)
    match BoolOp.Or, c with
    | .And, false | .Or, true => pure v
    | _, _ => boolOp pos .Or (eval e X.env :: evalEach rest X.env)) _ _ _
  refine _root_.PySem.wpAt_bind (ks_wpAt_mono (ha.run pins s σ H _ I q) (fun v s1 ⟨x, H1, I1, r1, k, ex, q1⟩ => ?_) fun _ _ z => z)
  subst ex
  obtain rfl : v = Value.bool k := r1
  refine _root_.PySem.wpAt_of_wpAny (wpAny_bind (wpAny_standAt (wpAny_bind (wpAny_holding (wpAny_truthy_bool ?_)))))
  cases k with
  | true => exact wpAny_pure ⟨.bl true, H1, I1, rfl, q1⟩
  | false => exact hb.run pins s1 σ H1 Q I1 q1
end
/-- a def that says super(), by its body -/
theorem def_S {P : Program} {w : World} {K : PySem.W.Frag} {mg : Str → Option Value} {base : Heap} {N ps : List Str} {qual x : Str} {st : Stmt} {f cc cda D : Addr} {k : Nat} {sp : Sp} (F : FunS K x qual st f cc cda D) (S : ScopeS N ps (defScope st))
    (len : ∀ vs H Q E, sp vs H Q E → vs.length = ps.length)
    (hb : ∀ (kV doc pm : Value) (an : Option Addr) (ct : Value) (us : List Value), us.length = ps.length → bindArgs (PySem.W.ksFn x qual (defArgs st) (defBody st) (defScope st) .none kV doc pm an (.ref cda) ct cc) ⟨us, []⟩ = pure (ps.zip us))
    (hbody : ∀ (A : Around) (outer : List Env) (s : Shared) (H : Hp) (vs : List V) (Q : VK) (E : XK), Room k (A.deeper (envS qual (defScope st) s.heap.objs.size f (.ref cda) cc)) → A.guards = some [] → sp vs H Q E →
      ∃ t, PSst (cxS P w K mg base N qual (defScope st) f (.ref cda) cc A outer s H E) (.func (defBody st) (envS qual (defScope st) s.heap.objs.size f (.ref cda) cc)) (defBody st) t ∧ t { nx := fun _ H' => Q .non H', rt := Q } (L2.start N vs) H) :
    CallG P w K mg base (k + 1) (.ref f) (pos sp) := by
  obtain ⟨oc, od, kV, doc, pm, an, ct, osl, lk, hcd⟩ := F.ex
  rintro A outer s H us kws vs zs Q E hr hg e0 r rk ⟨rfl, hsp⟩
  cases rk
  have hl := len _ _ _ _ hsp
  have hu : us.length = ps.length := by rw [← r.length]; exact hl
  have KX : K.In s.heap := Env0.kIn e0
  have lim : s.heap.NoLimit := e0.mod.nolimit.keeps fun b o e => (e0.bs b o e).1
  refine ks_codeAny_call_defAt (fd := PySem.W.ksFn x qual (defArgs st) (defBody st) (defScope st) .none kV doc pm an (.ref cda) ct cc) (body := defBody st) (binds := ps.zip us) hr.depth (KX _ _ lk) rfl lim (PySem.W.codeRec_of KX hcd) rfl (BindsTo.of_eq (hb kV doc pm an ct us hu))
    S.nocell (fun y hy => S.par y.1 (List.of_mem_zip hy).1) (fun h1 hns hk => ?_) S.co S.gen S.kind
  obtain ⟨t, ht, hq⟩ := hbody A outer s H vs Q E (hr.deeper _) hg hsp
  have I := inv_S (P := P) (w := w) (mg := mg) (N := N) (qual := qual) (f := f) (cd := .ref cda) (outer := outer) (E := E) (n := (ps.zip us).length) S hr.hd e0 hl r F.cell hns hk
  refine ks_wpAt_mono (ht.run [] _ _ _ _ I hq) (fun fl s' hs => ?_) fun e s' hs => hs
  have fin : ∀ {σ' : L2.St} {H' : Hp} {v : V} {u : Value}, Inv (cxS P w K mg base N qual (defScope st) f (.ref cda) cc A outer s H E) [] σ' H' s' → RelV v u → Q v H' → CE outer P w H s Q u s' :=
    fun {σ' H' v u} J rv q => ⟨v, H', J.os, J.bare, J.base, J.hok, rv, q⟩
  cases fl with
  | ret u =>
    obtain ⟨v, σ', H', J, rv, q⟩ := hs
    exact fin J rv q
  | next =>
    obtain ⟨σ', H', J, q⟩ := hs
    exact fin (v := V.non) (u := Value.none) J rfl q
  | brk =>
    obtain ⟨_, _, _, q⟩ := hs
    exact q.elim
  | cont =>
    obtain ⟨_, _, _, q⟩ := hs
    exact q.elim

/-- what the text must hold where the def at f says super() -/
structure SupF (P : Program) (K : PySem.W.Frag) (cda D : Addr) : Prop where
  code : ∃ (ccl : Value) (cdd : Option Addr) (vs : Array Value) (ccs : Array (Option Value)) (file : Str) (tf : Tok), K.lookup cda = some ⟨ccl, cdd, .fields vs, ccs⟩ ∧ vs[2]? = some (.str file tf) ∧ ((P.main.file : Str) == file) = true
  cls : ∃ cd, PySem.W.clsIn K D = some cd
  sup : PySem.W.nsIn K mainGlobals "super" = some none
  top : (P.main.scope.names.lookup ("super" : Str)).isSome = false
  opq : PySem.W.nsIn K cStatics "thirdparty.any" = some none
/-- behind the class at D, C's next m is the def at g -/
structure SupC (K : PySem.W.Frag) (C D : Addr) (m : Str) (g : Addr) : Prop where
  own : ∃ cd, PySem.W.clsIn K C = some cd
  sub : PySem.W.mroIn K C (.ref D) = some true
  nx : PySem.W.ks_superIn K C D m = some (some (.ref g))
  ty : PySem.W.typeIn K (.ref g) = some (.type "function")
  fi : PySem.W.fnIn K g = true
def tSup (W : WX) (K : PySem.W.Frag) (D : Addr) (m : Str) (g : Addr) (sp : SpK) (t : TA) : TE := fun σ H Q => ∃ (a C dx : Addr) (fs : List (Str × V)), σ[0]? = some (some (.ref a)) ∧ H a = some (.ins C dx fs) ∧ SupC K C D m g ∧ t σ H fun vs H2 => sp (.ref a :: vs) [] H2 Q (WE W σ)
section
variable {X : Cx} {W : WX} {k : Nat} {g q a : Addr} {sp : SpK} {pins : List (Addr × Obj)} {σ : L2.St} {H : Hp} {s : Shared} {Q : VK}
theorem run_callM {us : List Value} {vs : List V} (tk : Takes X W) (F : CallG X.prog X.w X.K X.mg X.base k (.ref g) sp) (hr : Room k X.A) (hg : X.A.guards = some []) (I : Inv X ((q, PySem.W.methodObj (.ref g) (.ref a)) :: pins) σ H s) (r : Vals vs us)
    (h : sp (.ref a :: vs) [] H Q (WE W σ)) : wpAny (model X.prog X.w) X.A (call (.ref q) us) (EP X pins σ Q) X.xe s := by
  have z : wpAny (model X.prog X.w) X.A (call (.ref q) us) (EP X ((q, PySem.W.methodObj (.ref g) (.ref a)) :: pins) σ Q) X.xe s := by
    refine wpAny_call (PySem.W.method_call (ClX.pin_at I) (codeAny_mono (F X.A X.stack s H (.ref a :: us) [] (.ref a :: vs) [] Q _ hr hg I.env0 (.cons rfl r) .nil h) fun r s' hq => ?_))
    cases r with
    | error e => exact passAt tk σ _ H s e s' I hq
    | ok fl =>
      cases fl with
      | ret u => exact I.after hq
      | next => exact False.elim hq
      | brk => exact False.elim hq
      | cont => exact False.elim hq
  exact thn z fun _ _ y => ClX.unpinE y
end
section
variable {P : Program} {w : World} {K : PySem.W.Frag} {mg : Str → Option Value} {base : Heap} {N ps : List Str} {qual x m : Str} {st : Stmt} {f cc cda D g : Addr} {A : Around} {outer : List Env} {s0 : Shared} {H0 : Hp} {E : XK} {W : WX} {k : Nat} {sp : SpK} {e : Expr} {es : List Expr} {t : TA} {p0 p1 apos pos : Pos} {ar : Arg} {body : List Stmt}
theorem pet_super {pl : Sem Bool} (tk : Takes (cxS P w K mg base N qual (defScope st) f (.ref cda) cc A outer s0 H0 E) W) (F : FunS K x qual st f cc cda D) (S : ScopeS N ps (defScope st)) (U : SupF P K cda D) (G : CallG P w K mg base k (.ref g) sp)
    (hr : Room k (A.deeper (envS qual (defScope st) s0.heap.objs.size f (.ref cda) cc))) (hg : A.guards = some []) (hp : ((defArgs st).posonlyargs ++ (defArgs st).args).head? = some ar) (hN : N[0]? = some ar.arg)
    (hks : (defScope st).names.lookup ("super" : Str) = some .globalImplicit) (hkc : (defScope st).names.lookup ("__class__" : Str) = some .free) (hka : (defScope st).names.lookup ar.arg = some .local) (hat : (m == ("__class__" : Str)) = false)
    (ha : PA (cxS P w K mg base N qual (defScope st) f (.ref cda) cc A outer s0 H0 E) (e :: es) t)
    (ht : eval (.Call (.Attribute (.Call (.Name "super" p0) [] [] p1) m apos) (e :: es) [] pos) (envS qual (defScope st) s0.heap.objs.size f (.ref cda) cc) = (do
      let ov ← attributeBase (.Call (.Name "super" p0) [] [] p1) m (envS qual (defScope st) s0.heap.objs.size f (.ref cda) cc) (eval (.Call (.Name "super" p0) [] [] p1) (envS qual (defScope st) s0.heap.objs.size f (.ref cda) cc))
      standAt apos.atName
      let (f', first) ← holding [ov] (getMethod ov m pl)
      callWith pos f' first (backTo pos (starEach (e :: es) (envS qual (defScope st) s0.heap.objs.size f (.ref cda) cc))) []) := by rfl)
    (hst : starEach (e :: es) (envS qual (defScope st) s0.heap.objs.size f (.ref cda) cc) = (false, eval e (envS qual (defScope st) s0.heap.objs.size f (.ref cda) cc)) :: starEach es (envS qual (defScope st) s0.heap.objs.size f (.ref cda) cc) := by rfl)
    (hpl : (backTo pos (starEach es (envS qual (defScope st) s0.heap.objs.size f (.ref cda) cc))).any (·.1) = false := by rfl) :
    PEt (cxS P w K mg base N qual (defScope st) f (.ref cda) cc A outer s0 H0 E) (.func body (envS qual (defScope st) s0.heap.objs.size f (.ref cda) cc)) (.Call (.Attribute (.Call (.Name "super" p0) [] [] p1) m apos) (e :: es) [] pos) (tSup W K D m g sp t) := by
  refine ⟨fun pins s σ H Q I ⟨a, C, dx, fs, hσ, ea, U2, q⟩ => ?_⟩
  obtain ⟨oc, od, kV, doc, pm, an, ct, osl, lk, hcd⟩ := F.ex
  obtain ⟨cl, cld, csl, hcell⟩ := F.cell
  obtain ⟨ccl, cdd, vsc, ccs, file, tf, lkc, hv2, hfile⟩ := U.code
  obtain ⟨cdD, hcD⟩ := U.cls
  obtain ⟨cdC, hcC⟩ := U2.own
  have KX : K.In s.heap := I.kIn
  obtain ⟨oD, hD1, hD2⟩ : ∃ oD, s.heap.get? D = some oD ∧ oD.data = .cls cdD := by
    unfold PySem.W.clsIn at hcD
    split at hcD
    · rename_i c d cd' sl ho
      cases hcD
      exact ⟨_, KX _ _ ho, rfl⟩
    · cases hcD
  obtain ⟨odx, J⟩ := ins_at I.hok ea
  obtain ⟨mb, nb, hbb⟩ := I.ok.mod.blt
  obtain ⟨ml, hnl, hloc⟩ := I.loc
  obtain ⟨u, ru, hlk⟩ := hloc 0 ar.arg _ hN hσ (.inl hka)
  obtain rfl : u = Value.ref a := ru
  have hself : ml ar.arg = some (.ref a) := by
    rcases hlk with ⟨_, h⟩ | ⟨h, _⟩
    · exact h
    · have h' : (defScope st).names.lookup ar.arg = some .cell ∨ (defScope st).names.lookup ar.arg = some .free := h
      rw [hka] at h'
      rcases h' with h' | h' <;> cases h'
  obtain ⟨hh, gg, dd, tt, os⟩ := s
  refine ks_wpAt_MethodCall (pl := pl) ?_ ht
  refine ks_wpAt_super_base (env := envS qual (defScope st) s0.heap.objs.size f (.ref cda) cc) hks hkc hat rfl (KX _ _ lk) rfl hp rfl (KX _ _ lkc) rfl hv2 hfile U.top ?_
  refine PySem.W.ks_loadName_global S.kind hks (PySem.Calls.loadGlobal_builtin (env := envS qual (defScope st) s0.heap.objs.size f (.ref cda) cc) (I.ok.mod.glob.keeps I.bk) (PySem.W.mg_none_of I.ok.mod.kin I.ok.mod.glob U.sup) (nb.keeps I.bk) ((hbb _ (by decide +kernel)).trans (show bootBuiltins ("super" : Str) = some (.type "super") by decide +kernel)) ⟨rfl, ?_⟩)
  refine wpAny_loadName_free S.kind hkc rfl ⟨_, KX _ _ hcell, rfl⟩ ?_
  refine wpAny_loadName_local S.kind hka hnl hself ?_
  refine ks_wpAny_isType_cls hD1 hD2 ⟨rfl, ?_⟩
  refine ks_wpAny_call_super hD1 hD2 J.at_ J.cls (fun c ec => ?_) (PySem.W.looks_mroIn KX U2.sub) (fun h' eso kso => ?_)
  · have := J.no
    unfold PySem.W.notCls at this
    rw [ec] at this
    exact Bool.noConfusion this
  have I1 := ClX.pin_new (t' := tt) I kso (Nat.le_refl _) eso (fun v z => nomatch z)
  have KX1 : K.In h' := I1.kIn
  obtain ⟨og, hog, hogc⟩ : ∃ og, h'.get? g = some og ∧ og.cls = .type "function" := by
    have ht' : (K.lookup g).map (·.cls) = some (.type "function") := U2.ty
    cases z : K.lookup g with
    | none => rw [z] at ht'; cases ht'
    | some og => rw [z] at ht'; exact ⟨og, KX1 _ _ z, Option.some.inj ht'⟩
  have hnx := U2.nx
  unfold PySem.W.ks_superIn at hnx
  rw [hcC] at hnx
  refine ks_wpAny_getMethod_super (ClX.pin_at I1) (PySem.W.looks_opaque KX1 U.opq) (l₀ := cdC.mro) ((PySem.W.looks_clsIn KX1 hcC).andThen .now) rfl KX1 hnx hog hogc (PySem.W.ks_ne KX J hcC) hat ?_
  have I2 := ClX.met_new (g := g) (C := a) I1
  have I3 : Inv (cxS P w K mg base N qual (defScope st) f (.ref cda) cc A outer s0 H0 E) ((h'.objs.size, PySem.W.methodObj (.ref g) (.ref a)) :: pins) σ H { (⟨h', gg, dd, tt, os⟩ : Shared) with heap := h'.push (PySem.W.methodObj (.ref g) (.ref a)), toks := tt + 1 } :=
    I2.pins_of fun p hp' => I2.pin p (List.mem_append_right _ (by
      rcases List.mem_cons.mp (show p ∈ _ :: pins from hp') with z | z
      · rw [z]; exact List.mem_cons_self
      · exact List.mem_cons_of_mem _ (List.mem_cons_of_mem _ z)))
  exact ClX.callwith_cm I3 (ClX.base_none I1 (Nat.le_refl _)) U2.fi (thn (ha.run pos _ _ σ H _ I3 q) fun us s3 ⟨vs, H2, I4, rv, q2⟩ => ⟨⟨ClX.pin_at I4, I4.kIn⟩, run_callM tk G hr hg I4 rv q2⟩) hst hpl
end
end Uk

/-! UkM: small words of the text's own constants -/
namespace Uk
open PySem PySem.Spec PyProof.Rows L2 StX
section
variable {K : PySem.W.Frag} {H : Hp} {a : Addr} {xs : List V} {us : List Value} {n : Nat} {dd : Option Addr} {sl : Array (Option Value)}
/-- a tuple of the text's own -/
theorem sqT_k (h : K.lookup a = some ⟨.type "tuple", dd, .seq us.toArray n, sl⟩) (r : Vals xs us) (hz : us.length ≤ 1000) : SqT K H a xs :=
  .inr ⟨_, us.toArray, n, h, rfl, rfl, by rw [List.size_toArray, sizeLine_eq]; omega, by simpa using r⟩
end
end Uk
namespace Uk
open PySem PySem.Spec PyProof.Rows L2 StX
theorem TyX.same {K : PySem.W.Frag} {H H' : Hp} {v : V} {t : Value} (s : Same H H') (h : TyX K H v t) : TyX K H' v t := by
  cases h with
  | base b =>
    cases b with
    | non => exact .base .non
    | bl y => exact .base (.bl y)
    | int i => exact .base (.int i)
    | str y => exact .base (.str y)
    | flt y => exact .base (.flt y)
    | lst e => exact .base (.lst (s _ _ e))
    | frz e => exact .base (.frz (s _ _ e))
    | tup e => exact .base (.tup (s _ _ e))
    | dK e => exact .base (.dK (s _ _ e))
    | dT e => exact .base (.dT (s _ _ e))
    | ins e cl ha hn htk hm => exact .base (.ins (s _ _ e) cl ha hn htk hm)
  | byt b => exact .byt b
  | set e => exact .set (s _ _ e)
  | kList e c => exact .kList e c
  | kTuple e c => exact .kTuple e c
  | kDict e c => exact .kDict e c
  | fTuple e => exact .fTuple (s _ _ e)
  | fDict e => exact .fDict (s _ _ e)
theorem inV_strs (x : Str) (ws : List Str) : inV (.str x) (ws.map V.str) = decide (x ∈ ws) := by
  induction ws with
  | nil => rfl
  | cons y r ih =>
    show ((y == x) || inV (.str x) (r.map V.str)) = _
    rw [ih]
    by_cases e : y = x
    · subst e
      simp
    · have e2 : ¬ x = y := fun z => e z.symm
      simp [e, e2]
/-- o.m(e, ..), m by o's class -/
def tMeV (W : WX) (dom : Addr → Prop) (m : Str) (sp : Addr → SpK) (ta : TE) (t : TA) : TE := fun σ H Q => ta σ H fun x H1 => ∃ a C dx fs, x = .ref a ∧ dom C ∧ H1 a = some (.ins C dx fs) ∧ fs.lookup m = none ∧ t σ H1 fun vs H2 => sp C (.ref a :: vs) [] H2 Q (WE W σ)
theorem pe_meV {X : Cx} {W : WX} {k : Nat} {dom : Addr → Prop} {f : Addr → Addr} {sp : Addr → SpK} {m : Str} {o e : Expr} {es : List Expr} {qs apos : Pos} {ta : TE} {t : TA} {pl : Sem Bool} (tk : Takes X W) (he : PE X o ta) (hm : ∀ C, dom C → Cls X.K C ∧ Meth X.K C m (f C))
    (F : ∀ C, dom C → CallG X.prog X.w X.K X.mg X.base k (.ref (f C)) (sp C)) (hr : Room k X.A) (hg : X.A.guards = some []) (ha : PA X (e :: es) t)
    (hst : starEach (e :: es) X.env = (false, eval e X.env) :: starEach es X.env := by rfl) (hpl : (backTo qs (starEach es X.env)).any (·.1) = false := by rfl)
    (ht : eval (.Call (.Attribute o m apos) (e :: es) [] qs) X.env = (do
      let ov ← eval o X.env
      standAt apos.atName
      let (f, first) ← holding [ov] (getMethod ov m pl)
      callWith qs f first (backTo qs (starEach (e :: es) X.env)) (backToKw qs (keywordEach [] X.env))) := by rfl) :
    PE X (.Call (.Attribute o m apos) (e :: es) [] qs) (tMeV W dom m sp ta t) := by
  refine ⟨fun pins s σ H Q I h => ?_⟩
  refine PySem.W.methodCall_KW (pl := pl) (thn (he.run pins s σ H _ I h) fun u s1 ⟨x, H1, I1, rx, a, C, dx, fs, ex, d, ea, l, q⟩ => ?_) ht
  subst ex
  obtain rfl : u = Value.ref a := rx
  refine getmeth_ok I1 ea (hm C d).1 (hm C d).2 l ?_
  refine PySem.W.callWith_K (h₀ := X.base) (first := [.ref a]) I1.ok.mod.kin (hm C d).2.kp (thn (ha.run qs pins s1 σ H1 _ I1 q) fun us s2 ⟨vs, H2, I2, r, q2⟩ => ⟨I2.kIn, ?_⟩) hst hpl
  exact run_call (us := .ref a :: us) (vs := .ref a :: vs) tk (F C d) hr hg I2 (.cons rfl r) .nil q2
theorem same_disp {H : Hp} {p : Addr} {o u : HO} (h : H p = none) : Same H (upd (upd H p o) p u) := by rw [upd_upd]; exact same_new h
end Uk

/-! UkN: enumerate(a tuple) -/
namespace Uk
open PySem PySem.Spec PyProof.Rows L2 StX
abbrev tupItr (t : Addr) : Obj := { cls := .type "tuple_iterator", data := .fields #[.ref t, .int 0 0] }
abbrev enumOf (it : Addr) : Obj := { cls := .type "enumerate", data := .fields #[.none, .bool false, .ref it, rawInt 0, .none, .none] }
theorem enumT_new (t : Addr) (items : Array Value) : Meets (Builtin.«enumerate.__new__» ⟨[.type "enumerate", .ref t], []⟩) (fun _ R s => s.heap.IsTuple t items ∧ R (.ok (.ret (.ref (s.heap.push (tupItr t)).objs.size))) { s with heap := (s.heap.push (tupItr t)).push (enumOf s.heap.objs.size) }) :=
  .of_wp fun prog w A R s ⟨hT, h⟩ => by
    obtain ⟨⟨cl, dd, dt, sl⟩, hl, hc, n, hd⟩ := id hT
    simp only at hc hd
    subst hc hd
    obtain ⟨hh, gg, dr, tt, os⟩ := s
    have sub := sub_enumerate
    wp_walk using AutoSeq1.wpAny_loadPart' hl
    refine wpAny_stack_any fun st => wpAny_pure ?_
    split
    · rename_i c _ _ _ _ _
      cases (c == Value.type "enumerate") <;> (wp_walk using AutoSeq1.wpAny_loadPart' hl, wpAny_pyIter_tuple hT; exact ⟨_, rfl, h⟩)
    · wp_walk using AutoSeq1.wpAny_loadPart' hl, wpAny_pyIter_tuple hT
      exact ⟨_, rfl, h⟩
section
variable {prog : Program} {w : World} {A : Around} {E : Value → Shared → Prop} {s : Shared}
theorem call_enumT {t : Addr} {items : Array Value} {Q : Value → Shared → Prop} (hT : s.heap.IsTuple t items)
    (h : ∀ h', IsEnum h' (s.heap.objs.size + 1) s.heap.objs.size 0 .none → h'.IsTupleIter s.heap.objs.size t 0 → (∀ b o, s.heap.get? b = some o → h'.get? b = some o) → Q (.ref (s.heap.objs.size + 1)) { s with heap := h' }) :
    wpAny (model prog w) A (call (.type "enumerate") [.ref t]) Q E s := by
  refine callType_new F.called_enumerate (by decide) (F.typeCall_enumerate_1 _) (F.newCall_enumerate_1 _) (fun obj => F.args_object_init_2 obj _) F.entry_enumerate_new (enumT_new t items) ⟨hT, ?_⟩
  have sz : (s.heap.push (tupItr t)).objs.size = s.heap.objs.size + 1 := Heap.size_push ..
  show _ ∧ _
  rw [sz]
  have en : IsEnum ((s.heap.push (tupItr t)).push (enumOf s.heap.objs.size)) (s.heap.objs.size + 1) s.heap.objs.size 0 .none := by
    have := Heap.get?_push_size (s.heap.push (tupItr t)) (o := enumOf s.heap.objs.size) rfl
    rwa [sz] at this
  exact ⟨⟨_, en, rfl⟩, h _ en ⟨_, Heap.get?_push_of_some _ (Heap.get?_push_size _ rfl), rfl, rfl⟩ fun b o x => Heap.get?_push_of_some _ (Heap.get?_push_of_some _ x)⟩
end
/-- the tuple at a, each item in a new pair -/
def ItEt (K : PySem.W.Frag) (a : Addr) : It :=
  ⟨fun i H => ∃ (xs : List V) (x : V), SqT K H a xs ∧ xs[i]? = some x, fun i H v H' => ∃ T x, v = .ref T ∧ H T = none ∧ H' = upd H T (.tup [.int (i : Nat), x]) ∧ ∀ xs, SqT K H a xs → xs[i]? = some x, fun i H => ∃ xs : List V, SqT K H a xs ∧ xs.length = i⟩
theorem turn_enumT {P : Program} {w : World} {K : PySem.W.Frag} {elts : List Expr} {kk : Nat} {tpos : Pos} (a e it : Addr) :
    Turn P w K (.Tuple elts kk tpos) (ItEt K a) [e, it] e (fun i h => (∃ old, IsEnum h e it ((i : Nat) : Int) old) ∧ h.IsTupleIter it a i ∧ e ≠ it ∧ a ≠ it ∧ a ≠ e) where
  mem := by simp
  obj := fun i h st b hb => by
    obtain ⟨⟨old, he⟩, ⟨o, ho, hc, hd⟩, _⟩ := st
    rcases (by simpa using hb : b = e ∨ b = it) with z | z
    · rw [z]; exact ⟨_, he, fun v q => nomatch q⟩
    · rw [z]; exact ⟨o, ho, fun v q => by rw [hd] at q; cases q⟩
  keep := fun i h h' ⟨⟨old, he⟩, hi, hne⟩ k => ⟨⟨old, k e (by simp) _ he⟩, hi.at fun o q => k it (by simp) o q, hne⟩
  item := by
    intro X hP hw hK hc i pins s σ H E I hf st hg
    subst hP hw hK
    obtain ⟨⟨old, he⟩, hit, hne, hai, hae⟩ := st
    obtain ⟨xs, x, hq, hx⟩ := hg
    obtain ⟨its, rv, p, hz⟩ := I.tuple hq
    have hT : s.heap.IsTuple a its.toArray := p
    obtain ⟨u, hu, ru⟩ := rv.get hx
    have hel : e < s.heap.objs.size := Heap.lt_size he
    have hil : it < s.heap.objs.size := by obtain ⟨_, q, _⟩ := hit; exact Heap.lt_size q
    have hlt : i < its.toArray.size := by
      have := (List.getElem?_eq_some_iff.mp hu).1
      simpa using this
    refine wpAny_pyNext_enum_itemC (Draws.tuple (by exact I.ok.hd hc) it a hai its.toArray) he ⟨hit, hT⟩ hlt hne (by simp [hne, Ne.symm hae]) fun x' h' tk hx' ho hst hTn hsz hk => ?_
    have ex : x' = u := by
      have h1 : its[i]? = some x' := by simpa using hx'
      rw [hu] at h1
      exact (Option.some.inj h1).symm
    subst ex
    refine ⟨_, rfl, wpAny_letOwnedTupleGo_enum (s := { s with heap := h', toks := tk + 1 }) ho fun h'' he' sb => ?_⟩
    have hT2 : h''.get? s.heap.objs.size = some { cls := .type "tuple", data := .seq #[.int i tk, x'] } := (sb.2 _ (Nat.ne_of_gt hel)).trans hTn
    have new : ObjOk X.prog X.w (upd H s.heap.objs.size (.tup [.int (i : Nat), x])) h'' s.heap.objs.size (.tup [.int (i : Nat), x]) :=
      ⟨by show 2 ≤ sizeLine; decide, [.int i tk, x'], .cons ⟨_, rfl⟩ (.cons ru .nil), ⟨_, hT2, rfl, _, rfl⟩⟩
    have I1 : Inv X pins σ (upd H s.heap.objs.size (.tup [.int (i : Nat), x])) { s with heap := h'', toks := tk + 1 } :=
      I.turnedNew (ch := [e, it]) (fun b ob hb q => (sb.2 b (fun z => hb (by simp [z]))).trans (hk b ob (fun z => hb (by simp [z])) (fun z => hb (by simp [z])) q)) hf (Nat.le_refl _) new
    refine ⟨.ref s.heap.objs.size, _, I1, rfl, ⟨_, x, rfl, I.hok.fresh (Nat.le_refl _), rfl, fun ys hy => by rw [I.tuple_inj hy hq]; exact hx⟩, ⟨⟨x', ?_⟩, hst.1.at fun o q => (sb.2 it (Ne.symm hne)).trans q, hne, hai, hae⟩, fun b hb => ?_⟩
    · have e1 : ((i + 1 : Nat) : Int) = (i : Int) + 1 := by omega
      rw [e1]; exact he'
    · have hb' : b < s.heap.objs.size := by
        rcases (by simpa using hb : b = e ∨ b = it) with z | z
        · rw [z]; exact hel
        · rw [z]; exact hil
      rw [upd_ne (Nat.ne_of_lt hb')]
      exact (hf b hb).1
  done := by
    intro X hP hw hK hc i pins s σ H E I hf st hg
    subst hP hw hK
    obtain ⟨⟨old, he⟩, hit, hne, hai, hae⟩ := st
    obtain ⟨xs, hq, hx⟩ := hg
    obtain ⟨its, rv, p, hz⟩ := I.tuple hq
    obtain ⟨f0, f1, f2, f3, f4, f5⟩ := hf it (by simp)
    have hT : s.heap.IsTuple a its.toArray := p
    have hl : its.toArray.size = i := by rw [List.size_toArray, ← rv.length]; exact hx
    subst hl
    exact wpAny_pyNext_enum_endD (Draws.tuple (by exact I.ok.hd hc) it a hai its.toArray) he ⟨hit, hT⟩ fun h' eb => ⟨rfl, I.turned (t' := s.toks) (fun b o hb q => eb b o hb q) f0 f1 f3 f4 f5⟩
  self := fun A i s Q E ⟨⟨_, he⟩, _⟩ h => wpAny_pyIter_enum he h
def iEnumT (K : PySem.W.Frag) (ta : TA) : TI := fun σ H R => ta σ H fun vs H1 => ∃ a xs, vs = [.ref a] ∧ SqT K H1 a xs ∧ R (ItEt K a) H1
theorem pi_enumT {X : Cx} {e : Expr} {ta : TA} {p pos tpos : Pos} {elts : List Expr} {kk : Nat} (hg : Gl X "enumerate") (hm : X.mg "enumerate" = none) (ha : PA X [e] ta) (hs : starEach [e] X.env = [(false, eval e X.env)] := by rfl) :
    PI X (.Tuple elts kk tpos) (.Call (.Name "enumerate" p) [e] [] pos) (iEnumT X.K ta) := by
  refine ⟨fun pins s σ H R I h => ?_⟩
  refine Call_ (ld_blt I hg hm boot_enumerate (PyProof.Rows.callWith_type1 (thn (ha.run pos pins s σ H _ I h) fun us s1 ⟨vs, H1, I1, r1, q1⟩ => ?_) hs rfl))
  obtain ⟨a, xs, rfl, hq, q⟩ := q1
  obtain rfl := Vals.ref1 r1
  obtain ⟨its, rv, p', hz⟩ := I1.tuple hq
  have hT : s1.heap.IsTuple a its.toArray := p'
  have al : a < s1.heap.objs.size := by obtain ⟨o, ho, _⟩ := id hT; exact Heap.lt_size ho
  refine call_enumT hT fun h' he hit hk => wpAny_pyIter_enum he ?_
  have I2 : Inv X pins σ H1 { s1 with heap := h' } := I1.kept (t' := s1.toks) hk
  refine ⟨s1.heap.objs.size + 1, [s1.heap.objs.size + 1, s1.heap.objs.size], _, _, H1, rfl, I2, turn_enumT a (s1.heap.objs.size + 1) s1.heap.objs.size, ⟨⟨.none, he⟩, hit, Nat.succ_ne_self _, Nat.ne_of_lt al, Nat.ne_of_lt (Nat.lt_succ_of_lt al)⟩, fun b hb => ?_, q⟩
  have hle : s1.heap.objs.size ≤ b := by
    rcases (by simpa using hb : b = s1.heap.objs.size + 1 ∨ b = s1.heap.objs.size) with z | z
    · exact z ▸ Nat.le_succ _
    · exact z ▸ Nat.le_refl _
  exact I1.fpOk hle (I1.hok.fresh hle)
theorem walk_enumT {K : PySem.W.Frag} {a : Addr} {xs : List V} : Walk (ItEt K a) xs.length (fun H => SqT K H a xs) (YPair (fun i => some (.int (i : Nat))) (fun i => xs[i]?)) := by
  refine ⟨fun i _ hi q => ⟨xs, xs[i], q, by simp [hi]⟩, fun _ q => ⟨xs, q, rfl⟩, fun i H v H' _ q y => ?_⟩
  obtain ⟨T, x, h1, h2, h3, h4⟩ := y
  exact ⟨T, .int (i : Nat), x, h1, h2, h3, rfl, h4 xs q⟩
end Uk

/-! UkP: own exceptions: super().__init__, made as values, raised, caught and kept, their attributes, isinstance -/
namespace Uk
open PySem PySem.Spec PyProof.Rows L2 StX

/-- an exception of the class cls at a, whether raised or not; its dict at d -/
abbrev exv (a : Addr) (cls : Value) (d : Option Addr) : HO := .ext fun h => ∃ (oe : Obj) (vs : Array Value), h.get? a = some oe ∧ Zc cls d oe ∧ oe.data = .fields vs
theorem exv_ok {P : Program} {w : World} {H : Hp} {h : Heap} {a : Addr} {cls : Value} {d : Option Addr} {oe : Obj} {vs : Array Value} (e : h.get? a = some oe) (z : Zc cls d oe) (dd : oe.data = .fields vs) : ObjOk P w H h a (exv a cls d) :=
  ⟨⟨oe, vs, e, z, dd⟩, ⟨oe, e⟩, fun _ _ ⟨o, v, q, r⟩ k => ⟨o, v, k o q, r⟩⟩
theorem exv_at {P : Program} {w : World} {H : Hp} {h : Heap} {a : Addr} {cls : Value} {d : Option Addr} (hok : HOk P w H h) (he : H a = some (exv a cls d)) : ∃ (oe : Obj) (vs : Array Value), h.get? a = some oe ∧ Zc cls d oe ∧ oe.data = .fields vs := by
  have x : ObjOk P w H h a (exv a cls d) := hok a _ he
  exact x.1

/-- what the text must say of the class at C where the def of D says super().__init__ -/
structure SupE (K : PySem.W.Frag) (C D : Addr) : Prop where
  T : OexC K C
  own : ∃ cd, PySem.W.clsIn K C = some cd
  sub : PySem.W.mroIn K C (.ref D) = some true
  nx : PySem.W.ks_superIn K C D "__init__" = some (some (.builtin "ValueError.__init__"))
  hB : PySem.W.subIn K (.ref C) (.type "ValueError") = some true

section
variable {X : Cx} {pins : List (Addr × Obj)} {σ : L2.St} {H : Hp} {s : Shared} {a C u : Addr} {us : List Value} {Q : Value → Shared → Prop} {E : Value → Shared → Prop} {A : Around}
theorem upd_id {H : Hp} {a : Addr} {o : HO} (e : H a = some o) : upd H a o = H := by
  funext b
  by_cases hb : b = a
  · rw [hb, upd_same, e]
  · rw [upd_ne hb]
/-- the bound wrapper of ValueError.__init__ is called -/
theorem call_mw (T : OexC X.K C) (I : Inv X pins σ H s) (e : H a = some (exo a C none)) (hu : s.heap.get? u = some (PySem.W.kxs_mw "ValueError.__init__" a)) (hl : us.length ≤ sizeLine) (h : ∀ s', Inv X pins σ H s' → Q .none s') :
    wpAny (model X.prog X.w) A (call (.ref u) us) Q E s := by
  obtain ⟨nm, q, N, bs, bm, sn, sub, ab, col, dd, k0, k1, k2, k3, k5, hC, hbm⟩ := T.cls
  obtain ⟨t1, ho⟩ := exo_at I.hok e
  have hC' := I.kIn _ _ hC
  have fin : ∀ (h' : Heap) (t2 : Addr), (∀ b o, b ≠ a → s.heap.get? b = some o → h'.get? b = some o) → h'.get? a = some ({ cls := .ref C, dict := none, data := .fields #[.ref t2, .none, .none, .none, .bool false, .none] } : Obj) → Q .none { s with heap := h' } := fun h' t2 k hx => by
    have J := I.write (t' := s.toks) (x := a) (e := a) (o := exo a C none) (by rw [e]; exact True.intro) (.inl rfl) k ⟨_, hx⟩ (exo_ok hx)
    rw [upd_id e] at J
    exact h _ J
  obtain ⟨hp, g, d, t, os⟩ := s
  refine wpAny_call (codeAny_of_tree ?_)
  show wpAny _ A.in1 (callAny (.ref u) ⟨us, []⟩) _ _ _
  simp only [callAny]
  refine wpAny_bind (wpAny_load hu ?_)
  simp only [PySem.W.kxs_mw, show (Value.type "method-wrapper" == Value.type "method" || Value.type "method-wrapper" == Value.type "builtin_function_or_method" || Value.type "method-wrapper" == Value.type "method-wrapper") = true by decide, if_true]
  refine PySem.W.KFB.if_so (by decide) ?_
  refine wpAny_bind (PySem.W.check_bound_init PySem.F.excBase_ValueError.toExcCallFacts hC' ho rfl ?_)
  refine wpAny_bind (wpAny_pure (wpAny_pure ?_))
  refine ⟨PySem.plainId_quiet PySem.F.excBase_ValueError.init.plain _, codeAny_builtin PySem.F.excBase_ValueError.initEntry ?_⟩
  exact PySem.W.exc_init_tree (cls := .ref C) (t0 := t1) (dv := none) (c2 := .none) (c3 := .none) (b4 := .bool false) ho hl (fun h' k e' _ => fin h' _ k e')
end
/-- super().__init__(e, ..) in an own exception's __init__ -/
def tSupE (K : PySem.W.Frag) (D : Addr) (t : TA) : TE := fun σ H Q => ∃ (a C : Addr), σ[0]? = some (some (.ref a)) ∧ H a = some (exo a C none) ∧ SupE K C D ∧ t σ H fun vs H2 => vs.length ≤ 1000 ∧ H2 a = some (exo a C none) ∧ Q .non H2
section
variable {P : Program} {w : World} {K : PySem.W.Frag} {mg : Str → Option Value} {base : Heap} {N ps : List Str} {qual x : Str} {st : Stmt} {f cc cda D : Addr} {A : Around} {outer : List Env} {s0 : Shared} {H0 : Hp} {E : XK} {e : Expr} {es : List Expr} {t : TA} {p0 p1 apos pos : Pos} {ar : Arg} {body : List Stmt}
theorem pet_superE {pl : Sem Bool} (F : FunS K x qual st f cc cda D) (S : ScopeS N ps (defScope st)) (U : SupF P K cda D)
    (hp : ((defArgs st).posonlyargs ++ (defArgs st).args).head? = some ar) (hN : N[0]? = some ar.arg)
    (hks : (defScope st).names.lookup ("super" : Str) = some .globalImplicit) (hkc : (defScope st).names.lookup ("__class__" : Str) = some .free) (hka : (defScope st).names.lookup ar.arg = some .local)
    (ha : PA (cxS P w K mg base N qual (defScope st) f (.ref cda) cc A outer s0 H0 E) (e :: es) t)
    (ht : eval (.Call (.Attribute (.Call (.Name "super" p0) [] [] p1) "__init__" apos) (e :: es) [] pos) (envS qual (defScope st) s0.heap.objs.size f (.ref cda) cc) = (do
      let ov ← attributeBase (.Call (.Name "super" p0) [] [] p1) "__init__" (envS qual (defScope st) s0.heap.objs.size f (.ref cda) cc) (eval (.Call (.Name "super" p0) [] [] p1) (envS qual (defScope st) s0.heap.objs.size f (.ref cda) cc))
      standAt apos.atName
      let (f', first) ← holding [ov] (getMethod ov "__init__" pl)
      callWith pos f' first (backTo pos (starEach (e :: es) (envS qual (defScope st) s0.heap.objs.size f (.ref cda) cc))) []) := by rfl)
    (hst : starEach (e :: es) (envS qual (defScope st) s0.heap.objs.size f (.ref cda) cc) = (false, eval e (envS qual (defScope st) s0.heap.objs.size f (.ref cda) cc)) :: starEach es (envS qual (defScope st) s0.heap.objs.size f (.ref cda) cc) := by rfl)
    (hpl : (backTo pos (starEach es (envS qual (defScope st) s0.heap.objs.size f (.ref cda) cc))).any (·.1) = false := by rfl) :
    PEt (cxS P w K mg base N qual (defScope st) f (.ref cda) cc A outer s0 H0 E) (.func body (envS qual (defScope st) s0.heap.objs.size f (.ref cda) cc)) (.Call (.Attribute (.Call (.Name "super" p0) [] [] p1) "__init__" apos) (e :: es) [] pos) (tSupE K D t) := by
  refine ⟨fun pins s σ H Q I ⟨a, C, hσ, ea, U2, q⟩ => ?_⟩
  obtain ⟨oc, od, kV, doc, pm, an, ct, osl, lk, hcd⟩ := F.ex
  obtain ⟨cl, cld, csl, hcell⟩ := F.cell
  obtain ⟨ccl, cdd, vsc, ccs, file, tf, lkc, hv2, hfile⟩ := U.code
  obtain ⟨cdD, hcD⟩ := U.cls
  obtain ⟨cdC, hcC⟩ := U2.own
  have KX : K.In s.heap := I.kIn
  obtain ⟨oD, hD1, hD2⟩ : ∃ oD, s.heap.get? D = some oD ∧ oD.data = .cls cdD := by
    unfold PySem.W.clsIn at hcD
    split at hcD
    · rename_i c d cd' sl ho
      cases hcD
      exact ⟨_, KX _ _ ho, rfl⟩
    · cases hcD
  obtain ⟨t1, ho1⟩ := exo_at I.hok ea
  have J : PySem.W.InstAt s.heap a ({ cls := .ref C, dict := none, data := .fields #[.ref t1, .none, .none, .none, .bool false, .none] } : Obj) C none := ⟨ho1, rfl, rfl, trivial⟩
  obtain ⟨mb, nb, hbb⟩ := I.ok.mod.blt
  obtain ⟨ml, hnl, hloc⟩ := I.loc
  obtain ⟨u, ru, hlk⟩ := hloc 0 ar.arg _ hN hσ (.inl hka)
  obtain rfl : u = Value.ref a := ru
  have hself : ml ar.arg = some (.ref a) := by
    rcases hlk with ⟨_, h⟩ | ⟨h, _⟩
    · exact h
    · have h' : (defScope st).names.lookup ar.arg = some .cell ∨ (defScope st).names.lookup ar.arg = some .free := h
      rw [hka] at h'
      rcases h' with h' | h' <;> cases h'
  have hat : (("__init__" : Str) == ("__class__" : Str)) = false := by decide
  obtain ⟨hh, gg, dd, tt, os⟩ := s
  refine ks_wpAt_MethodCall (pl := pl) ?_ ht
  refine ks_wpAt_super_base (env := envS qual (defScope st) s0.heap.objs.size f (.ref cda) cc) hks hkc hat rfl (KX _ _ lk) rfl hp rfl (KX _ _ lkc) rfl hv2 hfile U.top ?_
  refine PySem.W.ks_loadName_global S.kind hks (PySem.Calls.loadGlobal_builtin (env := envS qual (defScope st) s0.heap.objs.size f (.ref cda) cc) (I.ok.mod.glob.keeps I.bk) (PySem.W.mg_none_of I.ok.mod.kin I.ok.mod.glob U.sup) (nb.keeps I.bk) ((hbb _ (by decide +kernel)).trans (show bootBuiltins ("super" : Str) = some (.type "super") by decide +kernel)) ⟨rfl, ?_⟩)
  refine wpAny_loadName_free S.kind hkc rfl ⟨_, KX _ _ hcell, rfl⟩ ?_
  refine wpAny_loadName_local S.kind hka hnl hself ?_
  refine ks_wpAny_isType_cls hD1 hD2 ⟨rfl, ?_⟩
  refine ks_wpAny_call_super hD1 hD2 J.at_ J.cls (fun c ec => ?_) (PySem.W.looks_mroIn KX U2.sub) (fun h' eso kso => ?_)
  · cases ec
  have I1 := ClX.pin_new (t' := tt) I kso (Nat.le_refl _) eso (fun v z => nomatch z)
  have KX1 : K.In h' := I1.kIn
  have J1 : PySem.W.InstAt h' a ({ cls := .ref C, dict := none, data := .fields #[.ref t1, .none, .none, .none, .bool false, .none] } : Obj) C none := ⟨kso _ _ ho1, rfl, rfl, trivial⟩
  have hnx := U2.nx
  unfold PySem.W.ks_superIn at hnx
  rw [hcC] at hnx
  have hI : PySem.W.Looks (model P w) h' (isInstance (.ref a) (.type "ValueError")) true := J1.type.andThen (PySem.W.looks_subIn KX1 U2.hB)
  refine PySem.W.kxs_getMethod PySem.W.kxs_ValueError (ClX.pin_at I1) (PySem.W.looks_opaque KX1 U.opq) (l₀ := cdC.mro) ((PySem.W.looks_clsIn KX1 hcC).andThen .now) rfl KX1 hnx hI (PySem.W.ks_ne KX J hcC) hat ?_
  have eu : (h'.push (PySem.W.kxs_mw "ValueError.__init__" a)).get? h'.objs.size = some (PySem.W.kxs_mw "ValueError.__init__" a) := Heap.get?_push_size _ rfl
  have I2 := ClX.pin_new (t' := tt + 1) I1 (fun b o z => Heap.get?_push_of_some (h := h') (PySem.W.kxs_mw "ValueError.__init__" a) z) (Nat.le_refl _) eu (fun v z => nomatch z)
  show wpAny _ _ (callWith pos (.ref h'.objs.size) [] (backTo pos (starEach (e :: es) (envS qual (defScope st) s0.heap.objs.size f (.ref cda) cc))) []) _ _ _
  rw [hst]
  refine PySem.W.kxs_callWith (i := "ValueError.__init__") (x := a) (by show (false || (backTo pos (starEach es _)).any (·.1)) = false; rw [hpl] <;> rfl) (Calls.evalArgs_plain ?_)
  have hst2 : starEach (e :: es) (cxS P w K mg base N qual (defScope st) f (.ref cda) cc A outer s0 H0 E).env = (false, eval e (envS qual (defScope st) s0.heap.objs.size f (.ref cda) cc)) :: starEach es (envS qual (defScope st) s0.heap.objs.size f (.ref cda) cc) := hst
  have z : wpAny (model P w) _ (spliced (backTo pos (starEach (e :: es) (cxS P w K mg base N qual (defScope st) f (.ref cda) cc A outer s0 H0 E).env))) _ _ _ := ha.run pos _ _ σ H _ I2 q
  rw [hst2] at z
  refine thn z fun us s3 ⟨vs, H2, I4, rv, hl, ea2, q2⟩ => ⟨ClX.pin_at I4, ?_⟩
  have hlen : us.length ≤ sizeLine := by
    rw [← Paired.length rv, sizeLine_eq]
    omega
  exact call_mw U2.T I4 ea2 (ClX.pin_at I4) hlen fun s5 I5 => ⟨.non, H2, ClX.unpin (ClX.unpin I5), rfl, q2⟩
end
end Uk

/-! UkQ: own exceptions: made as values, raised; attributes; isinstance; caught and kept -/
namespace Uk
open PySem PySem.Spec PyProof.Rows L2 StX

/-- an exception that is being made, its dict at dx -/
def exmk (H : Hp) (a C dx : Addr) (fs : List (Str × V)) : Hp := upd (upd H dx (exd dx fs)) a (exo a C (some dx))
theorem exmk_put {H : Hp} {a C dx : Addr} {fs gs : List (Str × V)} (h : dx ≠ a) : upd (exmk H a C dx fs) dx (exd dx gs) = exmk H a C dx gs := by
  funext b
  unfold exmk
  by_cases hb : b = dx
  · subst hb
    rw [upd_same, upd_ne h, upd_same]
  · rw [upd_ne hb]
    by_cases ha : b = a
    · subst ha
      rw [upd_same, upd_same]
    · rw [upd_ne ha, upd_ne ha, upd_ne hb, upd_ne hb]
theorem exmk_a {H : Hp} {a C dx : Addr} {fs : List (Str × V)} : exmk H a C dx fs a = some (exo a C (some dx)) := upd_same
theorem exmk_d {H : Hp} {a C dx : Addr} {fs : List (Str × V)} (h : dx ≠ a) : exmk H a C dx fs dx = some (exd dx fs) := (upd_ne h).trans upd_same
/-- an own exception's __init__ keeps its arguments under these names -/
def spInit (C : Addr) (ns : List Str) : Sp := fun vs H Q _ => ∃ a ws, vs = .ref a :: ws ∧ ws.length = ns.length ∧ H a = some (exo a C none) ∧ ∀ dx, H dx = none → dx ≠ a → Q .non (exmk H a C dx (ns.zip ws).reverse)
/-- one without arguments -/
def spInit0 (C : Addr) : Sp := fun vs H Q _ => ∃ a, vs = [.ref a] ∧ H a = some (exo a C none) ∧ Q .non H

/-- what the text must say of an exception class, whose __init__ is the def at f -/
structure MkE (K : PySem.W.Frag) (C f : Addr) : Prop where
  T : OexC K C
  init : PySem.W.findIn K (.ref C) "__init__" = some (some (.ref f))
  fn : PySem.W.typeIn K (.ref f) = some (.type "function")
  x : ExcC K C
/-- the exception is made: known by its dict, the names' values within -/
abbrev exF (H : Hp) (a C d : Addr) (fs : List (Str × V)) : Hp := upd (upd H d (.xd fs)) a (exv a (.ref C) (some d))

section
variable {X : Cx} {W : WX} {k : Nat} {C f : Addr} {ns : List Str} {sp : Sp} {pins : List (Addr × Obj)} {σ : L2.St} {H : Hp} {s : Shared} {Q : VK}
theorem run_makeE {us : List Value} {vs : List V} {R : Addr → V → Hp → Prop} {Z : Value → Shared → Prop} (tk : Takes X W) (M : MkE X.K C f) (F : CallG X.prog X.w X.K X.mg X.base k (.ref f) (pos sp)) (hr : Room (k + 1) X.A) (hg : X.A.guards = some []) (I : Inv X pins σ H s) (r : Vals vs us) (hl : vs.length ≤ 1000)
    (h : ∀ a, H a = none → sp (.ref a :: vs) (upd H a (exo a C none)) (R a) (WE W σ))
    (fin : ∀ (a : Addr) (s' : Shared) (H2 : Hp) (hp hp2 : Heap), s.heap = hp → s.heap.objs.size ≤ a → (∀ b o, hp.get? b = some o → hp2.get? b = some o) → Un (frs X.stack) [] (upd H a (exo a C none)) H2 hp2 s'.heap → HOk X.prog X.w H2 s'.heap → s'.os = s.os → AllBare s'.gens →
      Inv X pins σ H2 s' → R a .non H2 → Z (.ref a) s') (hv : ∀ a v H2, R a v H2 → v = .non) :
    wpAny (model X.prog X.w) X.A (call (.ref C) us) Z X.xe s := by
  obtain ⟨nm, q, N, bs, bm, sn, sub, ab, col, dd, k0, k1, k2, k3, k5, hC, hbm⟩ := M.T.cls
  obtain ⟨hp, g, dr, tk', os⟩ := s
  have hsz : hp.objs.size ≤ hp.objs.size + 1 := Nat.le_succ _
  have hn : H (hp.objs.size + 1) = none := I.hok.fresh hsz
  have hq := h (hp.objs.size + 1) hn
  have kk : ∀ b o, hp.get? b = some o → ((hp.push (PySem.W.kdv_tup us)).push (PySem.HandSPX.excO C hp.objs.size)).get? b = some o := fun b o e => Heap.get?_push_of_some _ (Heap.get?_push_of_some _ e)
  have hget : ((hp.push (PySem.W.kdv_tup us)).push (PySem.HandSPX.excO C hp.objs.size)).get? (hp.objs.size + 1) = some (PySem.HandSPX.excO C hp.objs.size) := by heap_get
  have I2 : Inv X pins σ (upd H (hp.objs.size + 1) (exo (hp.objs.size + 1) C none)) ⟨(hp.push (PySem.W.kdv_tup us)).push (PySem.HandSPX.excO C hp.objs.size), g, dr, tk', os⟩ :=
    I.laid (t' := tk') (a := hp.objs.size + 1) (o := exo (hp.objs.size + 1) C none) (h' := (hp.push (PySem.W.kdv_tup us)).push (PySem.HandSPX.excO C hp.objs.size)) kk hsz (exo_ok hget)
  have r2 : Vals (V.ref (hp.objs.size + 1) :: vs) (Value.ref (hp.objs.size + 1) :: us) := .cons rfl r
  have hus : us.length ≤ sizeLine := by
    rw [← Paired.length r, sizeLine_eq]
    omega
  refine wpAny_call (PySem.HandSPX.call_own PySem.F.excBase_ValueError (fun Y => PySem.HandSPX.refsVE_contains Y bm hbm) (I.kIn _ _ hC) (PySem.W.looks_findIn I.kIn M.init) (fun self => PySem.W.bind_fn I.kIn self M.fn) hus
    (codeAny_mono (F _ X.stack _ _ (Value.ref (hp.objs.size + 1) :: us) [] _ [] _ _ (hr.make C us []) (under_guards hg) (I2.env0.make C us []) r2 .nil ⟨rfl, hq⟩) fun r s' hq' => ?_))
  cases r with
  | error er => exact passAt tk σ pins _ _ er s' I2 hq'
  | ok fl =>
    cases fl with
    | ret u =>
      have I3 := I2.after hq'
      obtain ⟨v, H2, os2, bare2, un2, hok2, rv, ev⟩ := hq'
      obtain rfl := hv _ _ _ ev
      refine ⟨rv, ?_⟩
      have J : Inv X pins σ H2 s' := by
        obtain ⟨hp', g', dr', tk2, os'⟩ := s'
        have e2 : os' = os := os2
        subst e2
        exact I2.call (ch := []) un2 hok2 bare2 (fun b z => absurd z (by simp))
      exact fin (hp.objs.size + 1) s' H2 hp _ rfl hsz kk un2 hok2 os2 bare2 J ev
    | next => exact False.elim hq'
    | brk => exact False.elim hq'
    | cont => exact False.elim hq'

/-- an exception being made becomes one that is known as a value -/
theorem exc_known {s' : Shared} {H : Hp} {a d : Addr} {fs : List (Str × V)} (J : Inv X pins σ (exmk (upd H a (exo a C none)) a C d fs) s') (hd : H d = none) (hda : d ≠ a) : Inv X pins σ (exF H a C d fs) s' := by
  have ea := exmk_a (H := upd H a (exo a C none)) (a := a) (C := C) (dx := d) (fs := fs)
  have ed := exmk_d (H := upd H a (exo a C none)) (a := a) (C := C) (dx := d) (fs := fs) hda
  obtain ⟨mA, hns, rel⟩ := exd_at J.hok ed
  obtain ⟨t1, ho⟩ := exo_at J.hok ea
  have hD : ∃ u, s'.heap.get? d = some u := by
    obtain ⟨o, _, _, e', _⟩ := hns
    exact ⟨o, e'⟩
  obtain ⟨hp', g', dr', tk2, os'⟩ := s'
  have J1 := J.write (t' := tk2) (h' := hp') (x := d) (e := d) (o := .xd fs) (by rw [ed]; exact True.intro) (.inl rfl) (fun b u _ z => z) hD ⟨mA, hns, rel⟩
  have ea1 : upd (exmk (upd H a (exo a C none)) a C d fs) d (.xd fs) a = some (exo a C (some d)) := by rw [upd_ne (Ne.symm hda)]; exact ea
  have J2 := J1.write (t' := tk2) (h' := hp') (x := a) (e := a) (o := exv a (.ref C) (some d)) (by rw [ea1]; exact True.intro) (.inl rfl) (fun b u _ z => z) ⟨_, ho⟩ (exv_ok ho ⟨rfl, rfl⟩ rfl)
  have e : upd (upd (exmk (upd H a (exo a C none)) a C d fs) d (.xd fs)) a (exv a (.ref C) (some d)) = exF H a C d fs := by
    funext b
    unfold exmk
    show _ = upd (upd H d (.xd fs)) a (exv a (.ref C) (some d)) b
    by_cases h1 : b = a
    · subst h1
      rw [upd_same, upd_same]
    · rw [upd_ne h1, upd_ne h1]
      by_cases h2 : b = d
      · subst h2
        rw [upd_same, upd_same]
      · rw [upd_ne h2, upd_ne h2, upd_ne h1, upd_ne h2, upd_ne h1]
  rw [e] at J2
  exact J2
variable {x : Str} {p qs : Pos} {e : Expr} {es : List Expr} {t : TA}
/-- C(e, ..), kept as a value -/
def tMkX (C : Addr) (ns : List Str) (t : TA) : TE := fun σ H Q => t σ H fun vs H1 => vs.length = ns.length ∧ ∀ d a, H1 d = none → upd H1 d (.xd (ns.zip vs).reverse) a = none → Q (.ref a) (exF H1 a C d (ns.zip vs).reverse)
theorem pe_mkX (tk : Takes X W) (M : MkE X.K C f) (F : CallG X.prog X.w X.K X.mg X.base k (.ref f) (pos (spInit C ns))) (hr : Room (k + 1) X.A) (hg : X.A.guards = some []) (kC : PySem.W.keepIn X.K (.ref C) = true) (hx : Gl X x) (hm : X.mg x = some (.ref C)) (ha : PA X (e :: es) t) (hl : ns.length ≤ 1000)
    (hdb : (x == ("__debug__" : Str)) = false := by decide) (he : starEach (e :: es) X.env = (false, eval e X.env) :: starEach es X.env := by rfl) (hpl : (backTo qs (starEach es X.env)).any (·.1) = false := by rfl) :
    PE X (.Call (.Name x p) (e :: es) [] qs) (tMkX C ns t) := by
  refine ⟨fun pins s σ H Q I h => ?_⟩
  refine wpAny_Call_Name_kw (ld_glob I hx hm ?_ hdb)
  refine PySem.W.callWith_K (h₀ := X.base) I.ok.mod.kin kC (thn (ha.run qs pins s σ H _ I h) fun us s1 ⟨vs, H1, I1, r, hv, q⟩ => ⟨I1.kIn, ?_⟩) he hpl
  refine run_makeE (R := fun a v H2 => v = .non ∧ ∃ d, H2 = exmk (upd H1 a (exo a C none)) a C d (ns.zip vs).reverse ∧ H1 d = none ∧ d ≠ a ∧ Q (.ref a) (exF H1 a C d (ns.zip vs).reverse)) tk M F hr hg I1 r (by omega) (fun a ea => ?_) (fun a s' H2 hp hp2 eh hsz kk un hok eos hb J ev => ?_) fun a v H2 z => z.1
  · refine ⟨a, vs, rfl, hv, upd_same, fun dx hdx hne => ?_⟩
    rw [upd_ne hne] at hdx
    exact ⟨rfl, dx, rfl, hdx, hne, q dx a hdx (by rw [upd_ne (Ne.symm hne)]; exact ea)⟩
  · obtain ⟨_, d, e2, ed, hne, q'⟩ := ev
    subst e2
    exact ⟨.ref a, _, exc_known J ed hne, rfl, q'⟩
/-- C(e, ..), to be raised -/
def tRz (C : Addr) (ns : List Str) (t : TA) : L2.St → Hp → XK → Prop := fun σ H Q => t σ H fun vs H1 => vs.length = ns.length ∧ ∀ d, H1 d = none → Q (.ref C) (some d) (upd H1 d (.xd (ns.zip vs).reverse))
theorem pmk_E (M : MkE X.K C f) (tk : Takes X W) (F : CallG X.prog X.w X.K X.mg X.base k (.ref f) (pos (spInit C ns))) (hr : Room (k + 1) X.A) (hg : X.A.guards = some []) (kC : PySem.W.keepIn X.K (.ref C) = true) (hx : Gl X x) (hm : X.mg x = some (.ref C)) (ha : PA X (e :: es) t) (hl : ns.length ≤ 1000)
    (hdb : (x == ("__debug__" : Str)) = false := by decide) (he : starEach (e :: es) X.env = (false, eval e X.env) :: starEach es X.env := by rfl) (hpl : (backTo qs (starEach es X.env)).any (·.1) = false := by rfl) :
    PMk X (.Call (.Name x p) (e :: es) [] qs) (tRz C ns t) := by
  intro pins s σ H Q I h
  refine wpAny_Call_Name_kw (ld_glob I hx hm ?_ hdb)
  refine PySem.W.callWith_K (h₀ := X.base) I.ok.mod.kin kC (thn (ha.run qs pins s σ H _ I h) fun us s1 ⟨vs, H1, I1, r, hv, q⟩ => ⟨I1.kIn, ?_⟩) he hpl
  refine run_makeE (R := fun a v H2 => v = .non ∧ ∃ d, H2 = exmk (upd H1 a (exo a C none)) a C d (ns.zip vs).reverse ∧ H1 d = none ∧ d ≠ a ∧ Q (.ref C) (some d) (upd H1 d (.xd (ns.zip vs).reverse))) tk M F hr hg I1 r (by omega) (fun a ea => ?_) (fun a s' H2 hp hp2 eh hsz kk un hok eos hb J ev => ?_) fun a v H2 z => z.1
  · refine ⟨a, vs, rfl, hv, upd_same, fun dx hdx hne => ?_⟩
    rw [upd_ne hne] at hdx
    exact ⟨rfl, dx, rfl, hdx, hne, q dx hdx⟩
  · obtain ⟨_, d, e2, ed, hne, q'⟩ := ev
    subst e2
    obtain ⟨hp1, g1, dr1, tk1, os1⟩ := s1
    obtain ⟨hp3, g3, dr3, tk3, os3⟩ := s'
    have eu : upd (del (exmk (upd H1 a (exo a C none)) a C d (ns.zip vs).reverse) a) d (.xd (ns.zip vs).reverse) = upd H1 d (.xd (ns.zip vs).reverse) := by
      funext b
      by_cases h2 : b = d
      · subst h2
        rw [upd_same, upd_same]
      · rw [upd_ne h2, upd_ne h2]
        by_cases h1 : b = a
        · subst h1
          rw [del_same]
          exact (I1.hok.fresh (by subst eh; exact hsz)).symm
        · rw [del_ne h1]
          unfold exmk
          rw [upd_ne h1, upd_ne h2, upd_ne h1]
    have z := mk_end (Q := Q) (d2 := dr3) (t2 := tk3) (raises_own M.T.exC M.T.tyC) I1 (by subst eh; exact hsz) (by subst eh; exact kk) un hok eos hb exmk_a (exmk_d hne) ed (by rw [eu]; exact q')
    exact z
end

/-! ### attributes, isinstance -/
section
variable {X : Cx}
/-- e.n, e an own exception -/
def tXfld (K : PySem.W.Frag) (n : Str) (te : TE) : TE := fun σ H Q => te σ H fun x H1 => ∃ (a C d : Addr) (fs : List (Str × V)) (v : V), x = .ref a ∧ H1 a = some (exv a (.ref C) (some d)) ∧ H1 d = some (.xd fs) ∧ XfC K C ∧ PySem.W.findIn K (.ref C) n = some none ∧ fs.lookup n = some v ∧ Q v H1
theorem pe_xfld {e : Expr} {te : TE} {pos : Pos} {n : Str} (he : PE X e te) (hb : attributeBase e n X.env (eval e X.env) = eval e X.env := by rfl) : PE X (.Attribute e n pos) (tXfld X.K n te) := by
  refine ⟨fun pins s σ H Q I h => ?_⟩
  refine attr_of hb (thn (he.run pins s σ H _ I h) fun u s1 hh => ?_)
  obtain ⟨x, H1, I1, rx, a, C, dd, fs, v, ex, ha, ed, T, hno, l, q⟩ := hh
  subst ex
  obtain rfl : u = Value.ref a := rx
  obtain ⟨oe, vs, hoe, hz, hd⟩ := exv_at I1.hok ha
  have hx : ObjOk X.prog X.w H1 s1.heap dd (.xd fs) := I1.hok dd _ ed
  obtain ⟨mA, hns, hr⟩ := hx
  obtain ⟨od, ho, hl⟩ := lookIn_ns hns
  obtain ⟨u, hu, ru⟩ := RelO.some_of (v := v) (o := mA n) (by rw [← l]; exact hr n)
  have J : PySem.W.InstAt s1.heap a oe C (some od) := ⟨hoe, hz.1, by unfold PySem.W.notCls; rw [hd] <;> rfl, by rw [hz.2]; exact ho⟩
  exact HandSPX.exc_get I1.kIn J T.ga T.gg T.exC (PySem.W.findObj_own T.hdC hno rfl (by rw [hl, hu])) (handed_of ru) ⟨v, H1, I1.tok _, ru, q⟩
/-- isinstance(e, c), e an own exception -/
def rIsX (K : PySem.W.Frag) : List V → Hp → VK → Prop := fun xs H Q => ∃ (a C : Addr) (d : Option Addr) (c : V) (cv : Value) (b : Bool), xs = [.ref a, c] ∧ H a = some (exv a (.ref C) d) ∧ (∀ dd, d = some dd → ∃ fs, H dd = some (.xd fs)) ∧ ExcC K C ∧ (∀ u, RelV c u → u = cv) ∧ PySem.W.kitOne K (.ref C) cv = some b ∧ Q (.bl b) H
theorem inst_x {pins : List (Addr × Obj)} {σ : L2.St} {H : Hp} {s : Shared} {a C : Addr} {d : Option Addr} (I : Inv X pins σ H s) (ha : H a = some (exv a (.ref C) d)) (hd : ∀ dd, d = some dd → ∃ fs, H dd = some (.xd fs)) : ∃ ox od, PySem.W.InstAt s.heap a ox C od := by
  obtain ⟨oe, vs, hoe, hz, hdt⟩ := exv_at I.hok ha
  cases d with
  | none => exact ⟨oe, none, hoe, hz.1, by unfold PySem.W.notCls; rw [hdt] <;> rfl, by rw [hz.2]; trivial⟩
  | some dd =>
    obtain ⟨fs, ed⟩ := hd dd rfl
    have hx : ObjOk X.prog X.w H s.heap dd (.xd fs) := I.hok dd _ ed
    obtain ⟨mA, hns, hr⟩ := hx
    obtain ⟨od, ho, hl⟩ := lookIn_ns hns
    exact ⟨oe, some od, hoe, hz.1, by unfold PySem.W.notCls; rw [hdt] <;> rfl, by rw [hz.2]; exact ho⟩
theorem call_isX : CallR X (.builtin "isinstance") (rIsX X.K) := by
  intro pins s σ H xs us Q I r h
  obtain ⟨a, C, d, c, cv, b, rfl, ha, hd, T, hcv, e, q⟩ := h
  obtain ⟨ox, od, J⟩ := inst_x I ha hd
  cases r with
  | cons rx rr =>
    cases rr with
    | cons rt rr =>
      cases rr
      cases rx
      have ec := hcv _ rt
      subst ec
      obtain ⟨cd, hc, _⟩ := PySem.W.any_some T.hd
      exact PySem.W.kia_one (PySem.W.kitx_exc (by rw [hc]; rfl) T.hg T.hk T.hs T.ha T.hn T.ht T.hm) I.kIn J e (fun z => nomatch z) fun tk => ⟨.bl b, H, I.kept (t' := tk) fun _ _ z => z, rfl, q⟩
/-- isinstance(e, (c, ..)) -/
def rIsXt (K : PySem.W.Frag) : List V → Hp → VK → Prop := fun xs H Q => ∃ (a C p : Addr) (d : Option Addr) (cs : List Addr) (b : Bool), xs = [.ref a, .ref p] ∧ H a = some (exv a (.ref C) d) ∧ (∀ dd, d = some dd → ∃ fs, H dd = some (.xd fs)) ∧ ExcC K C ∧ H p = some (.tup (cs.map V.ref)) ∧ PySem.W.kitAny K (.ref C) (cs.map Value.ref) = some b ∧ Q (.bl b) H
theorem vals_refs : ∀ {cs : List Addr} {us : List Value}, Vals (cs.map V.ref) us → us = cs.map Value.ref
  | [], _, h => by cases h; rfl
  | c :: cs, _, h => by
    cases h with
    | cons a r =>
      cases a
      rw [vals_refs r] <;> rfl
theorem call_isXt : CallR X (.builtin "isinstance") (rIsXt X.K) := by
  intro pins s σ H xs us Q I r h
  obtain ⟨a, C, p, d, cs, b, rfl, ha, hd, T, hp, e, q⟩ := h
  obtain ⟨ox, od, J⟩ := inst_x I ha hd
  have ht : ObjOk X.prog X.w H s.heap p (.tup (cs.map V.ref)) := I.hok p _ hp
  obtain ⟨_, its, hv, ⟨o, ho, hcl, n, hdt⟩⟩ := ht
  obtain rfl := vals_refs hv
  cases r with
  | cons rx rr =>
    cases rr with
    | cons rt rr =>
      cases rr
      cases rx
      cases rt
      obtain ⟨cd, hc, _⟩ := PySem.W.any_some T.hd
      obtain ⟨oc, od', odt, osl⟩ := o
      dsimp only at hcl hdt
      subst hcl hdt
      exact PySem.W.kia_tup (PySem.W.kitx_exc (by rw [hc]; rfl) T.hg T.hk T.hs T.ha T.hn T.ht T.hm) I.kIn J ho e (fun z => nomatch z) fun tk => ⟨.bl b, H, I.kept (t' := tk) fun _ _ z => z, rfl, q⟩
end
end Uk

/-! UkR: try: body / except x as n: suite, where the exception may be kept -/
namespace Uk
open PySem PySem.Spec PyProof.Rows L2 StX
section
variable {X : Cx} {pins : List (Addr × Obj)} {σ : L2.St} {H : Hp} {s : Shared} {a : Addr} {cls : Value} {d : Option Addr} {oe : Obj} {vs : Array Value}
/-- an object of the air is known from now on -/
theorem adopt (I : Inv X pins σ H s) (na : H a = none) (h0 : X.s_0.heap.get? a = none) (hoe : s.heap.get? a = some oe) (hz : Zc cls d oe) (hd : oe.data = .fields vs) (np : ∀ p ∈ X.pn ++ pins, p.1 ≠ a) (nl : a ≠ X.env.locals)
    (nc : ∀ y c, X.env.cells.lookup y = some c → c ≠ a) : Inv X pins σ (upd H a (exv a cls d)) s := by
  refine ⟨I.ok, I.os, I.bare, ⟨I.base.keep, I.base.slot, fun b o e n hx => ?_, I.base.there, fun b xs e => ?_, fun b o u e => ?_, fun b ps e => ?_⟩, I.loc, I.cell, ?_, fun y c e => ?_, fun p hp => ?_, fun b u e => ?_, I.len⟩
  · have nb : b ≠ a := fun z => by rw [z, h0] at e; cases e
    rw [upd_ne nb]
    exact I.base.free b o e n hx
  · have q := I.base.tups b xs e
    rw [upd_ne (ne_of_none q na)]
    exact q
  · have q := I.base.frzs b o u e
    rw [upd_ne (ne_of_none q na)]
    exact q
  · obtain ⟨m, q⟩ := I.base.tbls b ps e
    exact ⟨m, by rw [upd_ne (ne_of_none q na)]; exact q⟩
  · rw [upd_ne (Ne.symm nl)]
    exact I.free
  · rw [upd_ne (nc y c e)]
    exact I.freeC y c e
  · obtain ⟨e, n, ne, nf, dd⟩ := I.pin p hp
    exact ⟨e, by rw [upd_ne (np p hp)]; exact n, ne, nf, dd⟩
  · by_cases hb : b = a
    · subst hb
      rw [upd_same] at e
      cases e
      exact exv_ok hoe hz hd
    · rw [upd_ne hb] at e
      exact (I.hok b u e).stay (fun c v _ q => q) (fun c q => by rw [upd_ne (ne_of_none q na)]; exact q) fun c xs q => by rw [upd_ne (ne_of_none q na)]; exact q
end
/-- what the clause 'except x as n' wishes of an exception of the body, which may be kept: slot i is n's -/
def wKeep (K : PySem.W.Frag) (c : Value) (i : Nat) (ts : Addr → Value → Option Addr → TS) (Wout : WX) (D : Ends) : WX := fun cls d σ H =>
  ∃ b, PySem.W.exmOne K cls c = some b ∧ (b = true → ∀ a, H a = none → ts a cls d
    { nx := fun σ' H' => D.nx (σ'.set i none) (upd H' a (exv a cls d)), rt := fun v H' => D.rt v (upd H' a (exv a cls d)), bk := fun σ' H' => D.bk (σ'.set i none) (upd H' a (exv a cls d)), ct := fun σ' H' => D.ct (σ'.set i none) (upd H' a (exv a cls d)) }
    (σ.set i (some (.ref a))) H) ∧ (b = false → Wout cls d σ H)
section
variable {X : Cx} {x n : Str} {c : Value} {i : Nat} {body suite : List Stmt} {b₀ : Stmt} {np pos pos' : Pos} {tb : WX → List (Addr × Obj) → (Value → Shared → Prop) → TS} {ts : Addr → Value → Option Addr → TS} {Wout : WX}
theorem ps_try_keep (hs : X.stack = X.env :: X.outer) (hf : X.env.frame = some X.env.locals) (hex : X.ex = []) (hN : X.N.Nodup) (hi : X.N[i]? = some n) (hln : X.env.kindOf n = some .local) (hc : Names X x c) (tk : Takes X Wout)
    (hb : ∀ (W : WX) (pn : List (Addr × Obj)) (xe : Value → Shared → Prop), Takes (X.tr pn xe) W → PassesOwn (model X.prog X.w) X.A X.env xe → PSs (X.tr pn xe) body (tb W pn xe))
    (hsu : ∀ (a : Addr) (oe : Obj) (cls : Value) (d : Option Addr) (pn : List (Addr × Obj)), Zc cls d oe → (∃ vs, oe.data = .fields vs) → PSs (X.suite a ((a, oe) :: pn)) (b₀ :: suite) (ts a cls d)) :
    PS X (.Try body [.ExceptHandler (some (.Name x np)) (some n) (b₀ :: suite) pos'] [] [] pos) (fun D σ H => ∀ pn xe, tb (wKeep X.K c i ts Wout D) pn xe D σ H) := by
  refine ⟨fun pins s σ H D I h => ?_⟩
  have ok := I.ok
  have hfr : X.A.frames = some (X.env :: X.outer) := by rw [ok.frames, hs]
  have hloc : Loc X.env.scope n := .inl hln
  refine wpAny_Try_except ?_
  refine wpAny_mono ((hb (wKeep X.K c i ts Wout D) (X.pn ++ pins) (fun e s₁ => wpAny (model X.prog X.w) X.A (noteFrame e X.env) (fun _ s₂ => wpAny (model X.prog X.w) X.A (setFlight e none) (fun _ s₃ =>
    wpAny (model X.prog X.w) X.A (handleBy e X.env [.ExceptHandler (some (.Name x np)) (some n) (b₀ :: suite) pos']) (SP X pins D) X.xe s₃) X.xe s₂) X.xe s₁) (fun u s' xx => ?_) PassesOwn.looking).run [] s σ H D (I.toTry _) (h _ _)) (fun f s1 hsp => ?_) (fun e s1 he => he)
  · obtain ⟨a, B, sI, pins', σ', H', cls, d, rfl, J', nb, up, sky, na, os, ag, b, hb1, hyes, hno⟩ := xx
    have J : Inv X pins σ' H' sI := J'.ofTry ok
    have sky' : Sky B (X.env :: X.outer) a (Zc cls d) X.env.locals s'.heap := by rw [← hs]; exact sky
    have nb : ∀ b o, sI.heap.get? b = some o → b ∉ frs X.stack → B.get? b = some o := nb
    show wpAny (model X.prog X.w) X.A (noteFrame (.ref a) X.env) _ _ _
    refine Sky.land Zc.steady hfr hf sky' fun h3 fl3 up3 => ?_
    have J3 : Inv X pins σ' H' { s' with heap := h3 } := J.landed nb fl3.1 (up.trans up3) os ag
    obtain ⟨oe3, vs3, he3, hz3, hd3⟩ := fl3.there
    have notFr : ∀ {h : Heap} {o : Obj} {vs : Array Value}, h.FunFrames B (X.env :: X.outer) → h.get? a = some o → o.data = .fields vs → a ∉ frs (X.env :: X.outer) := fun {h o vs} ff e dd hm => by
      obtain ⟨_, o', e', hnf⟩ := ff.mem hm
      rw [e] at e'; cases e'
      exact hnf _ dd
    have nfr := notFr fl3.2.2.1 he3 hd3
    have notI : ∀ {c : Addr} {o : Obj}, sI.heap.get? c = some o → c ≠ a := fun {c o} e z => by
      subst z
      have y := nb _ o e (by rw [hs]; exact nfr)
      rw [fl3.2.1] at y
      cases y
    have h0 : X.s_0.heap.get? a = none := by
      cases z : X.s_0.heap.get? a with
      | none => rfl
      | some o =>
        obtain ⟨o', e'⟩ := J.base.there a o z (by rw [hex]; exact fun y => nomatch y)
        exact absurd rfl (notI e')
    have nL : a ≠ X.env.locals := fun z => nfr (List.mem_filterMap.mpr ⟨X.env, List.mem_cons_self, by rw [hf, z]⟩)
    have nF : a ∉ X.fs := fun hm => by
      obtain ⟨e, he, q⟩ := List.mem_filterMap.mp hm
      exact nfr (List.mem_filterMap.mpr ⟨e, List.mem_cons_of_mem _ he, q⟩)
    have hnp : ∀ p ∈ X.pn ++ pins, p.1 ≠ a := fun p hp => notI (J.pin p hp).1
    have hnc : ∀ y c, X.env.cells.lookup y = some c → c ≠ a := fun y c e => by
      obtain ⟨v, o, z, _⟩ := J.cell y c e
      exact notI z
    have S3 := J3.suite he3 hd3 na nL nF
    refine wpAny_handleBy_cons (codeAny_handlers_test ?_) (by intro q; cases q)
    have LT : PySem.W.Looks (model X.prog X.w) h3 (typeOf (.ref a)) cls := fun A Q E s k q => wpAny_typeOf_ref (k _ _ he3) (by rw [hz3.1]; exact q)
    have LM := PySem.W.exm_one (M := model X.prog X.w) (J3.kIn) LT hb1
    have test : ∀ {Q : Value → Shared → Prop} {E : Value → Shared → Prop}, Q c { s' with heap := h3 } → wpAny (model X.prog X.w) (X.A.mark (some (.ref a))) (eval (.Name x np) X.env) Q E { s' with heap := h3 } := fun {Q E} q => by
      obtain ⟨hg, hdbg, hm | ⟨hm, hv, hnn⟩⟩ := hc
      · exact ld_glob (X := X.suite a ((a, oe3) :: (X.pn ++ pins))) S3 hg hm q hdbg
      · exact ld_blt (X := X.suite a ((a, oe3) :: (X.pn ++ pins))) S3 hg hm hv q hnn hdbg
    refine test (LM.here ?_)
    cases b with
    | true =>
      refine codeAny_handlers_suite_as ?_
      refine HandSPX.lands_againZ fl3 fun h4 fl4 up4 => ?_
      have J4 : Inv X pins σ' H' { s' with heap := h4 } := J.landed nb fl4.1 ((up.trans up3).trans up4) os ag
      obtain ⟨oe4, vs4, he4, hz4, hd4⟩ := fl4.there
      have S4 := J4.suite he4 hd4 na nL nF
      refine store_ok (X := X.suite a ((a, oe4) :: (X.pn ++ pins))) (v := .ref a) S4 hN hi hloc rfl (fun s5 S5 => ?_) (.inr hln)
      refine wpAny_mono ((hsu a oe4 cls d (X.pn ++ pins) hz4 ⟨_, hd4⟩).run [] s5 _ H' _ S5 (hyes rfl a na)) (fun f s6 hsp => ?_) (fun _ _ z => False.elim z)
      have end_ : ∀ {σ6 : L2.St} {H6 : Hp} {Q : Shared → Prop}, Inv (X.suite a ((a, oe4) :: (X.pn ++ pins))) [] σ6 H6 s6 → (∀ s7, Inv X pins (σ6.set i none) (upd H6 a (exv a cls d)) s7 → Q s7) →
          wpAny (model X.prog X.w) X.A (do bindName X.env n .none; unbindBehindTheSuite X.env n pos') (fun _ s7 => Q s7) X.xe s6 := fun {σ6 H6 Q} S6 hq => by
        have T6 : Inv X ((a, oe4) :: pins) σ6 H6 s6 := ⟨ok, S6.os, S6.bare, S6.base, S6.loc, S6.cell, S6.free, S6.freeC, fun p hp => S6.pin p (by
          rw [List.append_nil]
          rcases List.mem_append.mp hp with z | z
          · exact List.mem_cons_of_mem _ (List.mem_append_left _ z)
          · rcases List.mem_cons.mp z with z | z
            · rw [z]; exact List.mem_cons_self
            · exact List.mem_cons_of_mem _ (List.mem_append_right _ z)), S6.hok, S6.len⟩
        refine gone_ok T6 hN hi hln fun s7 T7 => hq s7 ?_
        obtain ⟨y1, y2, _⟩ := T7.pin (a, oe4) (List.mem_append_right _ List.mem_cons_self)
        exact adopt (ClX.unpin T7) y2 h0 y1 hz4 hd4 hnp nL hnc
      cases f with
      | next =>
        obtain ⟨σ6, H6, S6, q6⟩ := hsp
        exact end_ S6 fun s7 J7 => ⟨_, _, J7, q6⟩
      | brk =>
        obtain ⟨σ6, H6, S6, q6⟩ := hsp
        exact end_ S6 fun s7 J7 => ⟨_, _, J7, q6⟩
      | cont =>
        obtain ⟨σ6, H6, S6, q6⟩ := hsp
        exact end_ S6 fun s7 J7 => ⟨_, _, J7, q6⟩
      | ret u =>
        obtain ⟨v6, σ6, H6, S6, r6, q6⟩ := hsp
        exact end_ S6 fun s7 J7 => ⟨_, _, _, J7, r6, q6⟩
    | false =>
      show wpAny _ X.A (handleBy (.ref a) X.env []) _ _ _
      refine wpAny_handleBy_nil ?_
      obtain ⟨k1, k2, k3, oe, vs, T, oT, ts', he, hz, hd, h1, hr⟩ := id fl3
      unfold PySem.passOn
      refine wpAny_bind (wpAny_field he hd h1 ?_)
      rw [if_neg (show ¬ ((Value.ref T == Value.none) = true) from by simp)]
      have fin : wpAny (model X.prog X.w) X.A (setFlight (.ref a) X.env.frame) (fun _ s4 => wpAny (model X.prog X.w) X.A (throw (.ref a) : Sem Flow) (SP X pins D) X.xe s4) X.xe { s' with heap := h3 } := by
        rw [hf]
        refine HandSPX.setFlight_upZ fl3 fun h4 hh4 up4 => wpAny_throw (tk _ _ ?_)
        exact ⟨a, B, sI, pins, σ', H', cls, d, rfl, J, nb, (up.trans up3).trans up4, .inr (.inr (by rw [hs]; exact hh4)), na, os, ag, hno rfl⟩
      first
        | exact wpAny_bind (wpAny_pure (wpAny_bind fin))
        | exact wpAny_bind fin
  · cases f with
    | next =>
      obtain ⟨σ', H', J', q⟩ := hsp
      exact wpAny_execs_nil ⟨σ', H', J'.ofTry ok, q⟩
    | brk =>
      obtain ⟨σ', H', J', q⟩ := hsp
      exact ⟨σ', H', J'.ofTry ok, q⟩
    | cont =>
      obtain ⟨σ', H', J', q⟩ := hsp
      exact ⟨σ', H', J'.ofTry ok, q⟩
    | ret u =>
      obtain ⟨v, σ', H', J', r, q⟩ := hsp
      exact ⟨v, σ', H', J'.ofTry ok, r, q⟩
end
end Uk

/-! UkS: repr of data with dicts within -/
namespace Uk
open PySem PySem.Spec PyProof.Rows L2 StX

def kD : Key → PyData
  | .inl i => .int i
  | .inr x => .str x
mutual
inductive Dq (K : PySem.W.Frag) (H : Hp) : V → PyData → Prop
  | non : Dq K H .non .none
  | bl (b : Bool) : Dq K H (.bl b) (.bool b)
  | int (i : Int) : Dq K H (.int i) (.int i)
  | str (x : Str) : Dq K H (.str x) (.str x)
  | lst {a : Addr} {xs : List V} {ds : List PyData} : H a = some (.lst xs) → DqAll K H xs ds → Dq K H (.ref a) (.list ds)
  | tup {a : Addr} {xs : List V} {ds : List PyData} : SqT K H a xs → DqAll K H xs ds → Dq K H (.ref a) (.tuple ds)
  | dct {a : Addr} {kvs : List (Key × V)} {ps : List (PyData × PyData)} : H a = some (.dK kvs) → DqKv K H kvs ps → Dq K H (.ref a) (.dict ps)
inductive DqAll (K : PySem.W.Frag) (H : Hp) : List V → List PyData → Prop
  | nil : DqAll K H [] []
  | cons {v : V} {vs : List V} {d : PyData} {ds : List PyData} : Dq K H v d → DqAll K H vs ds → DqAll K H (v :: vs) (d :: ds)
inductive DqKv (K : PySem.W.Frag) (H : Hp) : List (Key × V) → List (PyData × PyData) → Prop
  | nil : DqKv K H [] []
  | cons {k : Key} {v : V} {r : List (Key × V)} {d : PyData} {ps : List (PyData × PyData)} : Dq K H v d → DqKv K H r ps → DqKv K H ((k, v) :: r) ((kD k, d) :: ps)
end
section
variable {K : PySem.W.Frag} {H H' : Hp}
mutual
theorem dq_mono (e : Same H H') : ∀ {d : PyData} {v : V}, Dq K H v d → Dq K H' v d
  | .none, _, h => by cases h; exact .non
  | .bool b, _, h => by cases h; exact .bl b
  | .int i, _, h => by cases h; exact .int i
  | .str x, _, h => by cases h; exact .str x
  | .list ds, _, h => by
    cases h with
    | lst a r => exact .lst (e _ _ a) (dqAll_mono e r)
  | .tuple ds, _, h => by
    cases h with
    | tup a r => exact .tup (st_mono e a) (dqAll_mono e r)
  | .dict ps, _, h => by
    cases h with
    | dct a r => exact .dct (e _ _ a) (dqKv_mono e r)
theorem dqAll_mono (e : Same H H') : ∀ {ds : List PyData} {vs : List V}, DqAll K H vs ds → DqAll K H' vs ds
  | [], _, h => by cases h; exact .nil
  | d :: ds, _, h => by
    cases h with
    | cons a r => exact .cons (dq_mono e a) (dqAll_mono e r)
theorem dqKv_mono (e : Same H H') : ∀ {ps : List (PyData × PyData)} {kvs : List (Key × V)}, DqKv K H kvs ps → DqKv K H' kvs ps
  | [], _, h => by cases h; exact .nil
  | p :: ps, _, h => by
    cases h with
    | cons a r => exact .cons (dq_mono e a) (dqKv_mono e r)
end
end
section
variable {X : Cx} {pins : List (Addr × Obj)} {σ : L2.St} {H : Hp} {s : Shared}
/-- what stands in the ground is tracked by nobody -/
theorem untracked {b : Addr} {o : Obj} (I : Inv X pins σ H s) (h : X.base.get? b = some o) : H b = none := by
  have z := I.ok.bs b o h
  exact I.base.free b o z.1 z.2 (I.ok.noex b o h)
theorem ne_sys {a : Addr} {u : HO} (hB : ∃ o, X.base.get? sysModules = some o) (I : Inv X pins σ H s) (h : H a = some u) : a ≠ sysModules := fun z => by
  obtain ⟨o, e⟩ := hB
  rw [z, untracked I e] at h
  cases h
mutual
theorem dq_reads (hB : ∃ o, X.base.get? sysModules = some o) (I : Inv X pins σ H s) : ∀ (d : PyData) (v : V) (u : Value), Dq X.K H v d → RelV v u → ∃ as, Reads s.heap u d as ∧ sysModules ∉ as
  | .none, _, _, h, r => by
    cases h
    cases r
    exact ⟨_, Reads.none, by simp⟩
  | .bool b, _, _, h, r => by
    cases h
    cases r
    exact ⟨_, Reads.bool b, by simp⟩
  | .int i, _, _, h, r => by
    cases h
    obtain ⟨t, rfl⟩ := r
    exact ⟨_, Reads.int i t, by simp⟩
  | .str x, _, _, h, r => by
    cases h
    obtain ⟨t, rfl⟩ := r
    exact ⟨_, Reads.str x t, by simp⟩
  | .list ds, _, _, h, r => by
    cases h with
    | lst hs ha =>
      cases r
      obtain ⟨its, rv, ⟨o, n, ho, hc, _, hd⟩, _⟩ := I.list (SqL.of hs)
      obtain ⟨as, hr, hn⟩ := dqAll_reads hB I ds _ its ha rv
      exact ⟨_, Reads.list ho hc hd hr, fun z => (List.mem_cons.mp z).elim (fun e => ne_sys hB I hs e.symm) hn⟩
  | .tuple ds, _, _, h, r => by
    cases h with
    | tup hs ha =>
      cases r
      obtain ⟨its, rv, ⟨o, ho, hc, n, hd⟩, _⟩ := I.tuple hs
      obtain ⟨as, hr, hn⟩ := dqAll_reads hB I ds _ its ha rv
      exact ⟨_, Reads.tuple ho hc hd hr, hn⟩
  | .dict ps, _, _, h, r => by
    cases h with
    | dct hs ha =>
      cases r
      obtain ⟨_, hne, vs, kv, o, es, ep, ho, hx, hd, _, hp, _⟩ := dk_of I.hok hs
      obtain ⟨as, bs, r1, r2, n1, n2⟩ := dqKv_reads hB I ps _ vs es.toList ha kv hp
      refine ⟨_, Reads.dict ho hx.1 hd r1 r2, fun z => ?_⟩
      rcases List.mem_append.mp z with z | z
      · rcases List.mem_cons.mp z with z | z
        · exact (beq_eq_false_iff_ne.mp hne) z.symm
        · exact n1 z
      · exact n2 z
theorem dqAll_reads (hB : ∃ o, X.base.get? sysModules = some o) (I : Inv X pins σ H s) : ∀ (ds : List PyData) (vs : List V) (us : List Value), DqAll X.K H vs ds → Vals vs us → ∃ as, ReadsAll s.heap us ds as ∧ sysModules ∉ as
  | [], _, _, h, r => by
    cases h
    cases r
    exact ⟨_, ReadsAll.nil, by simp⟩
  | d :: ds, _, _, h, r => by
    cases h with
    | cons h1 h2 =>
      cases r with
      | cons r1 r2 =>
        obtain ⟨as, q1, n1⟩ := dq_reads hB I d _ _ h1 r1
        obtain ⟨bs, q2, n2⟩ := dqAll_reads hB I ds _ _ h2 r2
        exact ⟨_, ReadsAll.cons q1 q2, fun z => (List.mem_append.mp z).elim n1 n2⟩
theorem dqKv_reads (hB : ∃ o, X.base.get? sysModules = some o) (I : Inv X pins σ H s) : ∀ (ps : List (PyData × PyData)) (kvs : List (Key × V)) (vs : List (Key × Value)) (es : List DictEntry), DqKv X.K H kvs ps → KV kvs vs → Pairs (mixKind X.prog X.w) es vs →
    ∃ as bs, ReadsAll s.heap (es.map (·.key)) (ps.map (·.1)) as ∧ ReadsAll s.heap (es.map (·.val)) (ps.map (·.2)) bs ∧ sysModules ∉ as ∧ sysModules ∉ bs
  | [], _, _, _, h, r, p => by
    cases h
    cases r
    cases p
    exact ⟨_, _, ReadsAll.nil, ReadsAll.nil, by simp, by simp⟩
  | q :: ps, _, _, _, h, r, p => by
    cases h with
    | cons h1 h2 =>
      cases r with
      | cons r1 r2 =>
        cases p with
        | cons p1 p2 p3 =>
          obtain ⟨as, bs, x1, x2, n1, n2⟩ := dqKv_reads hB I ps _ _ _ h2 r2 p3
          obtain ⟨cs, y, n3⟩ := dq_reads hB I _ _ _ h1 (by rw [← p2] at r1; exact r1.2)
          have hk := r1.1
          refine ⟨[] ++ as, cs ++ bs, ReadsAll.cons ?_ x1, ReadsAll.cons y x2, by simpa using n1, fun z => (List.mem_append.mp z).elim n3 n2⟩
          rcases keyIs_shape (k := _) (v := _) p1 with ⟨i, t, e1, e2⟩ | ⟨x, t, e1, e2⟩
          · dsimp only at hk ⊢
            rw [hk, e1, e2]
            exact Reads.int i t
          · dsimp only at hk ⊢
            rw [hk, e1, e2]
            exact Reads.str x t
end
end
def rReprQ (K : PySem.W.Frag) : List V → Hp → VK → Prop := fun xs H Q => ∃ v d, xs = [v] ∧ Dq K H v d ∧ Shw d ∧ Q (.str d.shown) H
theorem call_reprQ {X : Cx} (hB : ∃ o, X.base.get? sysModules = some o) (hg : X.A.guards = some []) (hu : X.A.units + 64 < cLine) : CallR X (.builtin "repr") (rReprQ X.K) := by
  intro pins s σ H xs us Q I r h
  obtain ⟨v, d, rfl, hd, ⟨h1, h2, h3⟩, q⟩ := h
  obtain ⟨u, rfl, rv⟩ := vals1 r
  have refs : ∀ {a : Addr}, v = .ref a → wpAny (model X.prog X.w) X.A (call (.builtin "repr") [u]) (EP X pins σ Q) X.xe s := fun {a} e => by
    obtain ⟨as, rd, no⟩ := dq_reads hB I _ _ u hd rv
    subst e
    obtain rfl : u = Value.ref a := rv
    exact repr_of_reads' rd h1 (fun _ => no) hg (by omega) (fun _ _ z => z) (fun h' u tk k => ⟨.str _, H, I.kept k, ⟨_, rfl⟩, q⟩) h2
  cases hd with
  | non => cases (show u = Value.none from rv); exact PySem.P.repr_of_none ⟨.str _, H, I.tok _, ⟨_, rfl⟩, q⟩
  | bl b =>
    cases (show u = Value.bool b from rv)
    refine PySem.P.repr_of_bool ⟨.str _, H, I.tok _, ⟨_, rfl⟩, ?_⟩
    cases b <;> exact q
  | int i =>
    obtain ⟨t, rfl⟩ := (show ∃ t, u = Value.int i t from rv)
    exact PySem.P.repr_of_int (of_decide_eq_true h1) ⟨.str _, H, I.tok _, ⟨_, rfl⟩, q⟩
  | str x =>
    obtain ⟨t, rfl⟩ := (show ∃ t, u = Value.str x t from rv)
    exact PySem.P.repr_of_str ⟨.str _, H, I.tok _, ⟨_, rfl⟩, q⟩ h2
  | lst a r => exact refs rfl
  | tup a r => exact refs rfl
  | dct a r => exact refs rfl
end Uk

/-! UkT: calls by keywords of defs that say super(), of own exceptions -/
namespace Uk
namespace Kx
open PySem
section
variable {M : Model} {A : Around} {E : Value → Shared → Prop} {h : Heap} {g : Array GenState} {d : Drawn} {t : Nat} {os : OsState}
variable {nm q : Str} {C N : Addr} {bs bm bmB : List Value} {hdct : Bool} {sn : List Str} {sub : List Value} {ab : Bool} {col : Option Bool} {dd : Option Addr} {k0 k1 k2 k3 k5 : Option Value} {B newId initId : String}
theorem kx_check_new (F : ExcBaseFacts B newId initId bmB) (hT : ∀ X : String, bm.contains (.type X) = bmB.contains (.type X)) {rest : List Value} {kw : List (Str × Value)} {Q : Unit → Shared → Prop}
    (hC : h.get? C = some (excClassObj nm q C N bs bm hdct sn sub ab col dd k0 k1 k2 k3 k5 newId)) (hq : Q () ⟨h, g, d, t, os⟩) : wpAny M A (checkBuiltinCall newId ⟨.ref C :: rest, kw⟩) Q E ⟨h, g, d, t, os⟩ := by
  have hcont : (Value.ref C :: bm).contains (.type B) = true := by rw [List.contains_cons, hT, F.hasB, Bool.or_true]
  have hstar := F.noStar
  simp only [checkBuiltinCall, F.newKind, F.newSplit, F.newRow]
  repeat (first | refine wpAny_loadPart_at hC ?_ | (refine wpAny_isSubtype_exc hC ?_; rw [hcont]) | refine wpAny_staticBase_exc hC ?_ | refine wpAny_madeBy_exc hC ?_ | simp only [bne_self_eq_false, Bool.false_eq_true, if_false] | wp_step)
  exact hq
end
section
variable {prog : Program} {w : World} {A : Around} {E : Value → Shared → Prop} {R : Result → Shared → Prop} {h : Heap} {g : Array GenState} {d : Drawn} {t : Nat} {os : OsState}
variable {nm q : Str} {C N : Addr} {bs bm bmB : List Value} {hdct : Bool} {sn : List Str} {sub : List Value} {ab : Bool} {col : Option Bool} {dd : Option Addr} {k0 k1 k2 k3 k5 : Option Value} {B newId initId : String}
theorem kx_new (F : ExcBaseFacts B newId initId bmB) (hT : ∀ X : String, bm.contains (.type X) = bmB.contains (.type X)) {rest : List Value} {kw : List (Str × Value)}
    (hC : h.get? C = some (excClassObj nm q C N bs bm hdct sn sub ab col dd k0 k1 k2 k3 k5 newId))
    (hq : R (.ok (.ret (.ref (h.objs.size + 1)))) ⟨(h.push { cls := .type "tuple", data := .seq rest.toArray }).push
      { cls := .ref C, data := .fields #[.ref h.objs.size, .none, .none, .none, .bool false, .none] }, g, d, t, os⟩) (hrest : rest.length ≤ sizeLine) :
    codeAny (model prog w) A (.builtin newId ⟨.ref C :: rest, kw⟩) R ⟨h, g, d, t, os⟩ := by
  have hends := F.ends
  have hcB : (Value.ref C :: bm).contains (.type B) = true := by rw [List.contains_cons, hT, F.hasB, Bool.or_true]
  have hcA : (Value.ref C :: bm).contains (.type "AttributeError") = false := by rw [List.contains_cons, hT, F.noAttr]; rfl
  have hcN : (Value.ref C :: bm).contains (.type "NameError") = false := by rw [List.contains_cons, hT, F.noName]; rfl
  refine codeAny_builtinAt F.entry ?_
  unfold Builtin.«BaseException.__new__»
  refine wpAt_bind ?_
  show wpAt _ _ _ (stack >>= _) _ _ _
  refine wpAt_bind (wpAt_stack fun p below => wpAt_of_wpAny ?_)
  wp_walk
  refine wpAt_of_wpAny ?_
  rw [F.owner]
  repeat (first | with_reducible refine wpAny_madeHere_exc F.canon hC ?_ | with_reducible refine wpAny_loadPart_at hC ?_ | (with_reducible refine wpAny_isSubtype_exc hC ?_; first | rw [hcB] | rw [hcA] | rw [hcN]) | wp_step)
  show R _ _
  rw [Heap.size_push]
  exact hq
theorem kx_type (F : ExcBaseFacts B newId initId bmB) (hT : ∀ X : String, bm.contains (.type X) = bmB.contains (.type X)) {rest : List Value} {kw : List (Str × Value)} {fI : Addr} {Q : Fin → Shared → Prop}
    (hC : h.get? C = some (excClassObj nm q C N bs bm hdct sn sub ab col dd k0 k1 k2 k3 k5 newId))
    (hi : W.Looks (model prog w) h (typeLookup (.ref C) "__init__") (some (.ref fI))) (hb : ∀ self, W.Looks (model prog w) h (bindSpecial (.ref fI) self) (.ref fI, [self])) (hrest : rest.length ≤ sizeLine)
    (hq : codeAny (model prog w) A (.call (.ref fI) ⟨.ref (h.objs.size + 1) :: rest, kw⟩)
      (fun r s' => match r with | .ok (.ret v) => v = .none ∧ Q (.done (.ret (.ref (h.objs.size + 1)))) s' | .ok _ => False | .error e => E e s')
      ⟨(h.push (W.kdv_tup rest)).push (HandSPX.excO C h.objs.size), g, d, t, os⟩) :
    wpAny (model prog w) A (Builtin.«type.__call__» ⟨.ref C :: rest, kw⟩) Q E ⟨h, g, d, t, os⟩ := by
  repeat (first | with_reducible refine wpAny_loadPart_at hC ?_ | with_reducible refine wpAny_madeBy_exc hC ?_ | wp_step)
  refine codeAny_call_builtin_code (Code.quiet_builtin _ F.quiet) (kx_check_new F hT hC ?_)
  refine kx_new F hT hC ?_ hrest
  show wpAny _ _ _ _ _ _
  have k : ∀ b o, h.get? b = some o → ((h.push (W.kdv_tup rest)).push (HandSPX.excO C h.objs.size)).get? b = some o := fun b o e => Heap.get?_push_of_some _ (Heap.get?_push_of_some _ e)
  have hC₁ := k _ _ hC
  have hget : ((h.push (W.kdv_tup rest)).push (HandSPX.excO C h.objs.size)).get? (h.objs.size + 1) = some (HandSPX.excO C h.objs.size) := by heap_get
  have hcC : (Value.ref C :: bm).contains (.ref C) = true := by simp
  have i1 := hi.keeps k
  have b1 := (hb (.ref (h.objs.size + 1))).keeps k
  unfold isInstance
  repeat (first | with_reducible refine wpAny_loadPart_at hget ?_ | (with_reducible refine wpAny_isSubtype_exc hC₁ ?_; rw [hcC]) | wp_step)
  show wpAny _ _ (typeLookup (.ref C) _) _ _ _
  refine i1.at ?_
  refine wpAny_holding (wpAny_bind (b1.at ?_))
  refine wpAny_bind (wpAny_call (codeAny_mono hq fun r s' z => ?_))
  rcases r with e | (v | _ | _ | _) <;> first | exact z | exact z.elim | skip
  obtain ⟨rfl, z⟩ := z
  first
    | exact wpAny_pure (wpAny_pure z)
    | (wp_walk; exact z)
theorem kx_call (F : ExcBaseFacts B newId initId bmB) (hT : ∀ X : String, bm.contains (.type X) = bmB.contains (.type X)) {rest : List Value} {kw : List (Str × Value)} {fI : Addr}
    (hC : h.get? C = some (excClassObj nm q C N bs bm hdct sn sub ab col dd k0 k1 k2 k3 k5 newId))
    (hi : W.Looks (model prog w) h (typeLookup (.ref C) "__init__") (some (.ref fI))) (hb : ∀ self, W.Looks (model prog w) h (bindSpecial (.ref fI) self) (.ref fI, [self])) (hrest : rest.length ≤ sizeLine)
    (hq : codeAny (model prog w) (A.under (.builtin "type.__call__" ⟨.ref C :: rest, kw⟩)) (.call (.ref fI) ⟨.ref (h.objs.size + 1) :: rest, kw⟩) (W.InitBack (h.objs.size + 1) R)
      ⟨(h.push (W.kdv_tup rest)).push (HandSPX.excO C h.objs.size), g, d, t, os⟩) :
    codeAny (model prog w) A (.call (.ref C) ⟨rest, kw⟩) R ⟨h, g, d, t, os⟩ := by
  have f1 := tc_lookup
  have f2 := tc_bind (.ref C)
  have hTy : (⟨h, g, d, t, os⟩ : Shared).TypeIs (.ref C) "type" := ⟨_, hC, rfl⟩
  have typ : W.Looks (model prog w) h (isInstance (.ref C) (.type "type")) true := by
    have t1 : W.Looks (model prog w) h (typeOf (.ref C)) (.type "type") := (W.Looks.ld hC).andThen .now
    exact t1.andThen (W.Looks.of_pure tc_sub)
  refine codeAny_of_tree ?_
  show wpAny _ _ (callAny (.ref C) _) _ _ _
  repeat (any_goals (first | assumption | with_reducible refine wpAny_loadPart_at hC ?_ | wp_step))
  refine ⟨rfl, ?_⟩
  refine codeAny_call_builtin_at (Code.quiet_builtin _ (by decide +kernel)) entry_typeCall (W.check_slot tc_kind tc_split typ (W.tc_args _ _ _) (kx_type F hT hC hi hb hrest ?_))
  refine codeAny_mono hq fun r s' z => ?_
  rcases r with e | (v | _ | _ | _) <;> exact z
end
end Kx
end Uk
namespace Uk
open PySem PySem.Spec PyProof.Rows L2 StX
/-- self by its place, all others by these names -/
def kwd (ks : List Str) (sp : Sp) : SpK := fun vs zs H Q E => vs.length = 1 ∧ zs.map (·.1) = ks ∧ sp (vs ++ zs.map (·.2)) H Q E
theorem kvs_split : ∀ {zs : List (Str × V)} {kws : List (Str × Value)}, KVs zs kws → kws = (zs.map (·.1)).zip (kws.map (·.2)) ∧ Vals (zs.map (·.2)) (kws.map (·.2))
  | _, _, .nil => ⟨rfl, .nil⟩
  | _, _, .cons (a := p) (b := q) h r => by
    obtain ⟨e, v⟩ := kvs_split r
    refine ⟨?_, .cons h.2 v⟩
    rw [List.map_cons, List.map_cons, List.zip_cons_cons, ← e, h.1]
/-- a def that says super(), called by keywords -/
theorem def_SK {P : Program} {w : World} {K : PySem.W.Frag} {mg : Str → Option Value} {base : Heap} {N ps ks : List Str} {qual x : Str} {st : Stmt} {f cc cda D : Addr} {k : Nat} {sp : Sp} (F : FunS K x qual st f cc cda D) (S : ScopeS N ps (defScope st)) (hlen : ps.length = 1 + ks.length)
    (hb : ∀ (kV doc pm : Value) (an : Option Addr) (ct : Value) (us ws : List Value), us.length = 1 → ws.length = ks.length → bindArgs (PySem.W.ksFn x qual (defArgs st) (defBody st) (defScope st) .none kV doc pm an (.ref cda) ct cc) ⟨us, ks.zip ws⟩ = pure (ps.zip (us ++ ws)))
    (hbody : ∀ (A : Around) (outer : List Env) (s : Shared) (H : Hp) (vs : List V) (Q : VK) (E : XK), Room k (A.deeper (envS qual (defScope st) s.heap.objs.size f (.ref cda) cc)) → A.guards = some [] → sp vs H Q E →
      ∃ t, PSst (cxS P w K mg base N qual (defScope st) f (.ref cda) cc A outer s H E) (.func (defBody st) (envS qual (defScope st) s.heap.objs.size f (.ref cda) cc)) (defBody st) t ∧ t { nx := fun _ H' => Q .non H', rt := Q } (L2.start N vs) H) :
    CallG P w K mg base (k + 1) (.ref f) (kwd ks sp) := by
  obtain ⟨oc, od, kV, doc, pm, an, ct, osl, lk, hcd⟩ := F.ex
  rintro A outer s H us kws vs zs Q E hr hg e0 r rk ⟨h1, hks, hsp⟩
  obtain ⟨ek, rz⟩ := kvs_split rk
  rw [hks] at ek
  have r2 := r.append rz
  have hu : us.length = 1 := r.length.symm.trans h1
  have hz : (kws.map (·.2)).length = ks.length := by rw [← hks, List.length_map, List.length_map]; exact (Paired.length rk).symm
  have hl : (vs ++ zs.map (·.2)).length = ps.length := by rw [hlen, List.length_append, h1, ← hks, List.length_map, List.length_map]
  have KX : K.In s.heap := Env0.kIn e0
  have lim : s.heap.NoLimit := e0.mod.nolimit.keeps fun b o e => (e0.bs b o e).1
  rw [ek]
  refine ks_codeAny_call_defAt (fd := PySem.W.ksFn x qual (defArgs st) (defBody st) (defScope st) .none kV doc pm an (.ref cda) ct cc) (body := defBody st) (binds := ps.zip (us ++ kws.map (·.2))) hr.depth (KX _ _ lk) rfl lim (PySem.W.codeRec_of KX hcd) rfl (BindsTo.of_eq (hb kV doc pm an ct us (kws.map (·.2)) hu hz))
    S.nocell (fun y hy => S.par y.1 (List.of_mem_zip hy).1) (fun h1 hns hk => ?_) S.co S.gen S.kind
  obtain ⟨t, ht, hq⟩ := hbody A outer s H _ Q E (hr.deeper _) hg hsp
  have I := inv_S (P := P) (w := w) (mg := mg) (N := N) (qual := qual) (f := f) (cd := .ref cda) (outer := outer) (E := E) (n := (ps.zip (us ++ kws.map (·.2))).length) S hr.hd e0 hl r2 F.cell hns hk
  refine ks_wpAt_mono (ht.run [] _ _ _ _ I hq) (fun fl s' hs => ?_) fun e s' hs => hs
  have fin : ∀ {σ' : L2.St} {H' : Hp} {v : V} {u : Value}, Inv (cxS P w K mg base N qual (defScope st) f (.ref cda) cc A outer s H E) [] σ' H' s' → RelV v u → Q v H' → CE outer P w H s Q u s' :=
    fun {σ' H' v u} J rv q => ⟨v, H', J.os, J.bare, J.base, J.hok, rv, q⟩
  cases fl with
  | ret u =>
    obtain ⟨v, σ', H', J, rv, q⟩ := hs
    exact fin J rv q
  | next =>
    obtain ⟨σ', H', J, q⟩ := hs
    exact fin (v := V.non) (u := Value.none) J rfl q
  | brk =>
    obtain ⟨_, _, _, q⟩ := hs
    exact q.elim
  | cont =>
    obtain ⟨_, _, _, q⟩ := hs
    exact q.elim
section
variable {X : Cx} {W : WX} {k : Nat} {C f : Addr} {ns : List Str} {pins : List (Addr × Obj)} {σ : L2.St} {H : Hp} {s : Shared} {Q : VK}
theorem under_guardsK {A : Around} {C : Addr} {us : List Value} {kw : List (Str × Value)} (h : A.guards = some []) : (A.under (.builtin "type.__call__" ⟨.ref C :: us, kw⟩)).guards = some [] := under_guards h
theorem vals_kvs : ∀ {ns : List Str} {vs : List V} {ws : List Value}, Vals vs ws → KVs (ns.zip vs) (ns.zip ws)
  | [], _, _, _ => by simpa using Paired.nil
  | _ :: _, _, _, .nil => .nil
  | n :: ns, _, _, .cons h r => .cons ⟨rfl, h⟩ (vals_kvs r)
/-- C(k = e, ..), kept as a value -/
theorem pe_mkXk {x : Str} {p qs : Pos} {kws : List Keyword} {t : TA} (tk : Takes X W) (M : MkE X.K C f) (F : CallG X.prog X.w X.K X.mg X.base k (.ref f) (kwd ns (spInit C ns))) (hr : Room (k + 1) X.A) (hg : X.A.guards = some []) (kC : PySem.W.keepIn X.K (.ref C) = true) (hx : Gl X x) (hm : X.mg x = some (.ref C)) (ha : PK X kws t) (hl : ns.length ≤ 1000)
    (hall : (backToKw qs (keywordEach kws X.env)).all (·.1.isSome) = true := by rfl) (hks : (backToKw qs (keywordEach kws X.env)).filterMap (·.1) = ns := by rfl)
    (hdb : (x == ("__debug__" : Str)) = false := by decide) (hpl : ((backTo qs (starEach [] X.env)).any (·.1) || (backToKw qs (keywordEach kws X.env)).any (·.1.isNone)) = false := by rfl) :
    PE X (.Call (.Name x p) [] kws qs) (tMkX C ns t) := by
  refine ⟨fun pins s σ H Q I h => ?_⟩
  refine wpAny_Call_Name_kw (ld_glob I hx hm ?_ hdb)
  refine PySem.W.callWith_KW0 (h₀ := X.base) I.ok.mod.kin kC hall (thn (ha.run qs pins s σ H _ I h) fun ws s1 ⟨vs, H1, I1, r, hv, q⟩ => ⟨I1.kIn, ?_⟩) hpl
  rw [hks]
  obtain ⟨nm, q0, N, bs, bm, sn, sub, ab, col, dd, k0, k1, k2, k3, k5, hC, hbm⟩ := M.T.cls
  obtain ⟨hp, g, dr, tk', os⟩ := s1
  have hsz : hp.objs.size ≤ hp.objs.size + 1 := Nat.le_succ _
  have hn : H1 (hp.objs.size + 1) = none := I1.hok.fresh hsz
  have kk : ∀ b o, hp.get? b = some o → ((hp.push (PySem.W.kdv_tup [])).push (PySem.HandSPX.excO C hp.objs.size)).get? b = some o := fun b o e => Heap.get?_push_of_some _ (Heap.get?_push_of_some _ e)
  have hget : ((hp.push (PySem.W.kdv_tup [])).push (PySem.HandSPX.excO C hp.objs.size)).get? (hp.objs.size + 1) = some (PySem.HandSPX.excO C hp.objs.size) := by heap_get
  have I2 : Inv X pins σ (upd H1 (hp.objs.size + 1) (exo (hp.objs.size + 1) C none)) ⟨(hp.push (PySem.W.kdv_tup [])).push (PySem.HandSPX.excO C hp.objs.size), g, dr, tk', os⟩ :=
    I1.laid (t' := tk') (a := hp.objs.size + 1) (o := exo (hp.objs.size + 1) C none) (h' := (hp.push (PySem.W.kdv_tup [])).push (PySem.HandSPX.excO C hp.objs.size)) kk hsz (exo_ok hget)
  have lz : vs.length = ns.length := hv
  have ez : (ns.zip vs).map (·.1) = ns := by rw [List.map_fst_zip]; omega
  have ey : (ns.zip vs).map (·.2) = vs := by rw [List.map_snd_zip]; omega
  show wpAny _ _ (call (.ref C) [] (ns.zip ws)) _ _ _
  refine wpAny_call (Kx.kx_call PySem.F.excBase_ValueError (fun Y => PySem.HandSPX.refsVE_contains Y bm hbm) (I1.kIn _ _ hC) (PySem.W.looks_findIn I1.kIn M.init) (fun self => PySem.W.bind_fn I1.kIn self M.fn) (Nat.zero_le _)
    (codeAny_mono (F _ X.stack _ _ [Value.ref (hp.objs.size + 1)] (ns.zip ws) [V.ref (hp.objs.size + 1)] (ns.zip vs)
      (fun v H2 => v = .non ∧ ∃ d, H2 = exmk (upd H1 (hp.objs.size + 1) (exo (hp.objs.size + 1) C none)) (hp.objs.size + 1) C d (ns.zip vs).reverse ∧ H1 d = none ∧ d ≠ hp.objs.size + 1 ∧ Q (.ref (hp.objs.size + 1)) (exF H1 (hp.objs.size + 1) C d (ns.zip vs).reverse))
      (WE W σ) (hr.make C [] (ns.zip ws)) (under_guardsK hg) (I2.env0.make C [] (ns.zip ws)) (.cons rfl .nil) (vals_kvs r) ⟨rfl, ez, ?_⟩) fun r s' hq' => ?_))
  · rw [ey]
    refine ⟨_, vs, rfl, hv, upd_same, fun dx hdx hne => ?_⟩
    rw [upd_ne hne] at hdx
    exact ⟨rfl, dx, rfl, hdx, hne, q dx _ hdx (by rw [upd_ne (Ne.symm hne)]; exact hn)⟩
  cases r with
  | error er => exact passAt tk σ pins _ _ er s' I2 hq'
  | ok fl =>
    cases fl with
    | ret u =>
      obtain ⟨v, H2, os2, bare2, un2, hok2, rv, ev, d, e2, ed, hne, q'⟩ := hq'
      subst ev
      refine ⟨rv, ?_⟩
      have J : Inv X pins σ H2 s' := by
        obtain ⟨hp', g', dr', tk2, os'⟩ := s'
        have e2 : os' = os := os2
        subst e2
        exact I2.call (ch := []) un2 hok2 bare2 (fun b z => absurd z (by simp))
      subst e2
      exact ⟨.ref (hp.objs.size + 1), _, exc_known J ed hne, rfl, q'⟩
    | next => exact False.elim hq'
    | brk => exact False.elim hq'
    | cont => exact False.elim hq'
/-- C() of one without arguments -/
def tMkX0 (C : Addr) : TE := fun _ H Q => ∀ a, H a = none → Q (.ref a) (upd H a (exv a (.ref C) none))
theorem pe_mkX0 {x : Str} {p qs : Pos} (tk : Takes X W) (M : MkE X.K C f) (F : CallG X.prog X.w X.K X.mg X.base k (.ref f) (pos (spInit0 C))) (hr : Room (k + 1) X.A) (hg : X.A.guards = some []) (kC : PySem.W.keepIn X.K (.ref C) = true) (hx : Gl X x) (hm : X.mg x = some (.ref C))
    (hdb : (x == ("__debug__" : Str)) = false := by decide) : PE X (.Call (.Name x p) [] [] qs) (tMkX0 C) := by
  refine ⟨fun pins s σ H Q I h => ?_⟩
  refine wpAny_Call_Name_kw (ld_glob I hx hm ?_ hdb)
  refine PySem.W.callWith_K0 I.kIn kC ?_
  refine run_makeE (us := []) (vs := []) (R := fun a v H2 => v = .non ∧ H2 = upd H a (exo a C none) ∧ Q (.ref a) (upd H a (exv a (.ref C) none))) tk M F hr hg I .nil (Nat.zero_le _) (fun a ea => ⟨a, rfl, upd_same, rfl, rfl, h a ea⟩) (fun a s' H2 hp hp2 eh hsz kk un hok eos hb J ev => ?_) fun a v H2 z => z.1
  obtain ⟨_, e2, q'⟩ := ev
  subst e2
  obtain ⟨t1, ho⟩ := exo_at J.hok (upd_same (H := H) (a := a) (o := exo a C none))
  obtain ⟨hp', g', dr', tk2, os'⟩ := s'
  have J2 := J.write (t' := tk2) (h' := hp') (x := a) (e := a) (o := exv a (.ref C) none) (by rw [upd_same]; exact True.intro) (.inl rfl) (fun b u _ z => z) ⟨_, ho⟩ (exv_ok ho ⟨rfl, rfl⟩ rfl)
  rw [upd_upd] at J2
  exact ⟨.ref a, _, J2, rfl, q'⟩
end
end Uk

/-! UkU: the end, where the ground is known to hold sys.modules -/
namespace Uk
open PySem PySem.Spec PyProof.Rows L2 StX
section
variable {P : Program} {w : World} {K : PySem.W.Frag} {mg mb : Str → Option Value} {k : Nat} {fa a : Addr} {sp : Sp} {s₁ : Shared} {vs : List Value} {ns : List Int}
theorem endGB (KX : K.In s₁.heap) (hns : s₁.heap.Ns mainGlobals mg) (hsys : ∃ m, s₁.heap.Ns sysModules m) (hb : s₁.heap.Ns builtinsNs mb) (hbb : ∀ x : Str, x ≠ "__name__" → mb x = bootBuiltins x) (hlim : s₁.heap.NoLimit) (hgen : s₁.gens = #[])
    (isList : ∃ its, s₁.heap.get? a = some { cls := .type "list", data := .seq its }) (hr : Room k callerA) (F : ∀ base : Heap, Mod K mg base → (∃ o, base.get? sysModules = some o) → CallG P w K mg base k (.ref fa) (pos sp)) {H : Hp} (T : OneFrz P w K s₁.heap a H)
    (law : sp [.ref a] H (fun v _ => v = .bl true) NoE) :
    codeAny (model P w) callerA (.call (.ref fa) ⟨[.ref a], []⟩) (fun r s' => r = .ok (.ret (.bool true)) ∧ OldK s₁.heap s'.heap ∧ s'.os = s₁.os ∧ AllBare s'.gens) s₁ := by
  obtain ⟨its, hlist⟩ := isList
  have clear : ∀ {b : Addr} {o : Obj}, s₁.heap.get? b = some o → (b = a → K.lookup a = none → False) → (hidT s₁.heap H).get? b = some o := fun {b o} e no => hidT_get e (by
    rcases T.one b with z | ⟨eb, ob, ys, z⟩
    · exact z
    · refine (no eb (T.free fun q => ?_)).elim
      rw [← eb, z] at q
      cases q)
  have names : ∀ {b : Addr} {m : Str → Option Value}, s₁.heap.Ns b m → (hidT s₁.heap H).Ns b m := fun {b m} ⟨o, es, ep, e, d, r⟩ => by
    refine ⟨o, es, ep, clear e (fun eb _ => ?_), d, r⟩
    rw [eb, hlist] at e
    cases e
    cases d
  have kIn : K.In (hidT s₁.heap H) := fun b o e => clear (KX b o e) fun eb kn => by
    rw [eb, kn] at e
    cases e
  have M : Mod K mg (hidT s₁.heap H) := ⟨kIn, names hns, ⟨mb, names hb, hbb⟩, hlim.elim fun mc z => ⟨mc, names z.1, z.2⟩⟩
  have env : Env0 P w K mg (hidT s₁.heap H) callerA [] s₁ H := ⟨rfl, M, fun _ _ => of_hidT, Nat.le_of_eq (hidT_size _ _), trivial, (fun b z => nomatch (show b ∈ ([] : List Addr) from z)), T.hok, .of_eq hgen⟩
  have hB : ∃ o, (hidT s₁.heap H).get? sysModules = some o := by
    obtain ⟨m, z⟩ := hsys
    obtain ⟨o, _, _, e, _⟩ := names z
    exact ⟨o, e⟩
  refine codeAny_mono (F _ M hB callerA [] s₁ H [.ref a] [] [.ref a] [] (fun v _ => v = .bl true) NoE hr rfl env (.cons rfl .nil) .nil ⟨rfl, law⟩) fun r s' got => ?_
  rcases r with e | fl
  · exact (cx_no got).elim
  · cases fl
    case ret u =>
      obtain ⟨v, H', os, bare, un, hok', rv, hv⟩ := got
      cases (show v = .bl true from hv)
      cases (show u = Value.bool true from rv)
      refine ⟨rfl, .of_keep fun b o e => ?_, os, bare⟩
      obtain z | ⟨_, ob, ys, z⟩ := T.one b
      · exact un.keep b o e z (fun i => nomatch (show b ∈ ([] : List Addr) from i)) (fun i => nomatch i)
      · have same := (T.hok b _ z).1
        rw [e] at same
        cases same
        exact (hok' b _ (un.frzs b _ _ z)).1
    all_goals exact got.elim
/-- the law's call, by the promise of its def -/
theorem lawGB (KX : K.In s₁.heap) (hns : s₁.heap.Ns mainGlobals mg) (hsys : ∃ m, s₁.heap.Ns sysModules m) (hb : s₁.heap.Ns builtinsNs mb) (hbb : ∀ x : Str, x ≠ "__name__" → mb x = bootBuiltins x) (hlim : s₁.heap.NoLimit) (hgen : s₁.gens = #[])
    (ha : s₁.heap.get? a = some { cls := .type "list", data := .seq vs.toArray }) (hi : IntsAre vs ns) (hl : ns.length ≤ sizeLine) (hr : Room k callerA) (F : ∀ base : Heap, Mod K mg base → (∃ o, base.get? sysModules = some o) → CallG P w K mg base k (.ref fa) (pos sp))
    (law : ∀ H : Hp, SqL K H a (ns.map V.int) → sp [.ref a] H (fun v _ => v = .bl true) NoE) :
    codeAny (model P w) callerA (.call (.ref fa) ⟨[.ref a], []⟩) (fun r s' => r = .ok (.ret (.bool true)) ∧ OldK s₁.heap s'.heap ∧ s'.os = s₁.os ∧ AllBare s'.gens) s₁ := by
  have many := hi.length
  have rel := vals_ints hi
  by_cases hk : K.lookup a = none
  · let H : Hp := fun b => if b = a then some (.frz { cls := .type "list", data := .seq vs.toArray } (.lst (ns.map V.int))) else none
    have Ha : H a = some (.frz { cls := .type "list", data := .seq vs.toArray } (.lst (ns.map V.int))) := if_pos rfl
    have Hn : ∀ b, b ≠ a → H b = none := fun b nb => if_neg nb
    refine endGB KX hns hsys hb hbb hlim hgen ⟨_, ha⟩ hr F (H := H) ⟨fun b u z => ?_, fun b => ?_, fun _ => hk⟩ (law H (.inl (.inr ⟨_, Ha⟩)))
    · by_cases eb : b = a
      · subst eb
        rw [Ha] at z
        cases z
        exact ⟨ha, by rw [List.length_map]; exact hl, vs, _, rel, ha⟩
      · rw [Hn b eb] at z
        cases z
    · by_cases eb : b = a
      · subst eb
        exact .inr ⟨rfl, _, _, Ha⟩
      · exact .inl (Hn b eb)
  · obtain ⟨o, ho⟩ := Option.ne_none_iff_exists'.mp hk
    have e := KX a o ho
    rw [ha] at e
    cases e
    refine endGB KX hns hsys hb hbb hlim hgen ⟨_, ha⟩ hr F (H := fun _ => none) ⟨(fun b u z => nomatch z), (fun b => Or.inl rfl), fun z => absurd rfl z⟩ (law _ (.inr ⟨_, vs.toArray, _, ho, rfl, rfl, rfl, ?_, by simpa using rel⟩))
    rw [List.size_toArray, many]
    exact hl
end
/-- the goal that the head leaves, from the law's promise -/
theorem walkGB {l : PySem.W.OpenLaw} {n k : Nat} {q : Program} {loose : List Str} {XP : (Str → Option Value) → Heap → Prop} {YP : World → Heap → Prop} {d : DefRec} {K : Params → PySem.W.Frag} {sp : World → Sp}
    (hn : l.most = some n) (hn2 : n ≤ sizeLine) (hq0 : importsNone q = true) (hdf : d.params.defaults = []) (hr : Room k callerA) (hY : ∀ (w : World) (h : Heap), YP w h → (K w.params).In h)
    (F : ∀ (w : World) (mg : Str → Option Value) (fa : Addr) (h : Heap), (K w.params).In h → h.Ns mainGlobals mg → mg d.name = some (.ref fa) → ∀ base : Heap, Mod (K w.params) mg base → (∃ o, base.get? sysModules = some o) → CallG l.prog w (K w.params) mg base k (.ref fa) (pos (sp w)))
    (law : ∀ (w : World) (H : Hp) (a : Addr) (ns : List Int), ns.length ≤ n → SqL (K w.params) H a (ns.map V.int) → sp w [.ref a] H (fun v _ => v = .bl true) NoE) :
    PySem.W.WalkO q loose XP YP l.row.toRowW d [] (fun f vs => PySem.call f vs) := by
  refine Att.attach_call hn hdf fun w s₀ s₁ mg mb fa o pm cd doc a vs ns G Y ho hd hcd hmg hobj hints hlen hgen => ?_
  have KX := hY w _ Y
  exact lawGB KX G.T.g (let ⟨m, z, _⟩ := (G.T.seer hq0).mods; ⟨m, z⟩) G.T.b G.T.builtins G.T.nolimit hgen hobj hints (Nat.le_trans hlen hn2) hr (F w mg fa _ KX G.T.g hmg) fun H hS => law w H a ns hlen hS
end Uk

/-! UkV: defs called by keywords; classmethods; a class held by a local name, called with a star -/
namespace Uk
open PySem PySem.Spec PyProof.Rows L2 StX

/-- n values by place, the others by these names -/
def kwp (n : Nat) (ks : List Str) (gV : List V → List V → List V) (sp : Sp) : SpK := fun vs zs H Q E => vs.length = n ∧ zs.map (·.1) = ks ∧ sp (gV vs (zs.map (·.2))) H Q E
/-- a def without defaults, called by keywords -/
theorem def_posK {P : Program} {w : World} {K : PySem.W.Frag} {mg : Str → Option Value} {base : Heap} {k : Nat} {x qual : Str} {st : Stmt} {f : Addr} {fd : FuncData} {N ps : List Str} {sp : Sp} {n : Nat} {ks : List Str} {gV : List V → List V → List V} {gv : List Value → List Value → List Value} (F : Fun K x qual st f fd) (S : FnScope N ps (defScope st))
    (rel : ∀ vs us zs ws, vs.length = n → zs.length = ks.length → Vals vs us → Vals zs ws → Vals (gV vs zs) (gv us ws)) (len : ∀ vs zs, vs.length = n → zs.length = ks.length → (gV vs zs).length = ps.length)
    (hb : ∀ (kV doc pm : Value) (an : Option Addr) (cdv ct : Value) (us ws : List Value), us.length = n → ws.length = ks.length → bindArgs (PySem.W.fnOf x qual (defArgs st) (defBody st) (defScope st) .none kV doc pm an cdv ct) ⟨us, ks.zip ws⟩ = pure (ps.zip (gv us ws)))
    (hbody : ∀ (cdv : Value) (A : Around) (outer : List Env) (s : Shared) (H : Hp) (vs : List V) (Q : VK) (E : XK), Room k (A.deeper (envOfC qual (defScope st) s.heap.objs.size f cdv)) → A.guards = some [] → sp vs H Q E →
      ∃ t, PSs (cxOf (L2.CX P w) P w K mg base N qual (defScope st) f cdv A outer s H E) (defBody st) t ∧ t { nx := fun _ H' => Q .non H', rt := Q } (start N vs) H) : CallG P w K mg base (k + 1) (.ref f) (kwp n ks gV sp) := by
  obtain ⟨oc, od, kV, doc, pm, an, cdv, ct, osl, rfl, lk, hcd⟩ := F.ex
  rintro A outer s H us kws vs zs Q E hr hg e0 r rk ⟨h1, hks, hsp⟩
  obtain ⟨ek, rz⟩ := kvs_split rk
  rw [hks] at ek
  have lz : (zs.map (·.2)).length = ks.length := by rw [← hks, List.length_map, List.length_map]
  have lw : (kws.map (·.2)).length = ks.length := rz.length.symm.trans lz
  have lu : us.length = n := r.length.symm.trans h1
  rw [ek]
  refine run_bnd lk hcd S hr e0 (G := fun xs H2 => xs = gV vs (zs.map (·.2)) ∧ H2 = H) (fun A' Ex Q' h => ?_) fun s2 H2 xs ⟨ex, eH⟩ hr' => ?_
  · rw [hb kV doc pm an cdv ct us _ lu lw]
    exact wpAny_pure (h s H _ _ e0 Un.refl rfl (fun _ _ z => z) (rel _ _ _ _ h1 lz r rz) (len _ _ h1 lz) ⟨rfl, rfl⟩)
  · subst ex eH
    exact hbody cdv A outer s2 _ _ Q E hr' hg hsp
section
variable {X : Cx} {W : WX} {k i : Nat} {f C p g : Addr} {mc : Value} {sp : SpK} {spi : Sp} {m x : Str} {o e : Expr} {es : List Expr} {qs apos pp : Pos} {ta : TE} {t : TA} {pl : Sem Bool} {dom : Addr → Prop}
/-- x(e, .., *y), x a local name that holds a class -/
def tMkL (W : WX) (i : Nat) (dom : Addr → Prop) (sp : Sp) (t : TA) : TE := fun σ H Q => ∃ C, σ[i]? = some (some (.ref C)) ∧ dom C ∧ t σ H fun vs H1 => spMk C sp vs H1 Q (WE W σ)
theorem pe_mkLS (tk : Takes X W) (M : ∀ C, dom C → Mk X.K C f) (F : CallG X.prog X.w X.K X.mg X.base k (.ref f) (pos spi)) (hr : Room (k + 1) X.A) (hg : X.A.guards = some []) (hN : X.N[i]? = some x) (hv : Vis X.env.scope x) (ha : PA X (e :: es) t)
    (hdb : (x == ("__debug__" : Str)) = false := by decide) (hcd : (x == ("__classdict__" : Str)) = false := by decide)
    (he : starEach (e :: es) X.env = (false, eval e X.env) :: starEach es X.env := by rfl) (hst : (backTo qs (starEach es X.env)).any (·.1) = true := by rfl) : PE X (.Call (.Name x pp) (e :: es) [] qs) (tMkL W i dom spi t) := by
  refine ⟨fun pins s σ H Q I ⟨C, hs, hC, ht⟩ => ?_⟩
  refine wpAny_Call_Name_kw (thn ((pe_var (pos := pp) hN hv hdb hcd).run pins s σ H (fun v H1 => v = .ref C ∧ H1 = H) I ⟨.ref C, hs, rfl, rfl⟩) fun u s1 ⟨v, H1, I1, r1, q1⟩ => ?_)
  obtain ⟨rfl, rfl⟩ := q1
  cases r1
  refine PySem.W.callWith_S2 (h₀ := X.base) I1.ok.mod.kin (M C hC).kp (thn (ha.run qs pins s1 σ _ _ I1 ht) fun us s2 ⟨vs, H2, I2, r, q⟩ => ⟨I2.kIn, ?_⟩) he hst
  exact run_makeG tk (M C hC) F hr hg I2 r q
/-- a bound classmethod is called -/
theorem run_cmG {pins : List (Addr × Obj)} {σ : L2.St} {H : Hp} {s : Shared} {Q : VK} {q : Addr} {us : List Value} {vs : List V} {kws : List (Str × Value)} {zs : List (Str × V)} (tk : Takes X W) (F : CallG X.prog X.w X.K X.mg X.base k (.ref g) sp) (hr : Room k X.A) (hg : X.A.guards = some []) (I : Inv X ((q, PySem.W.methodObj (.ref g) (.ref C)) :: pins) σ H s)
    (r : Vals vs us) (rk : KVs zs kws) (h : sp (.ref C :: vs) zs H Q (WE W σ)) : wpAny (model X.prog X.w) X.A (call (.ref q) us kws) (EP X pins σ Q) X.xe s := by
  have z : wpAny (model X.prog X.w) X.A (call (.ref q) us kws) (EP X ((q, PySem.W.methodObj (.ref g) (.ref C)) :: pins) σ Q) X.xe s := by
    refine wpAny_call (PySem.W.method_call (ClX.pin_at I) (codeAny_mono (F X.A X.stack s H (.ref C :: us) kws (.ref C :: vs) zs Q _ hr hg I.env0 (.cons rfl r) rk h) fun r s' hq => ?_))
    cases r with
    | error e => exact passAt tk σ _ H s e s' I hq
    | ok fl =>
      cases fl with
      | ret u => exact I.after hq
      | next => exact False.elim hq
      | brk => exact False.elim hq
      | cont => exact False.elim hq
  exact thn z fun _ _ y => ClX.unpinE y
/-- C.m(e, ..), m a classmethod -/
def tCm (W : WX) (C : Addr) (sp : SpK) (ta : TE) (t : TA) : TE := fun σ H Q => ta σ H fun x H1 => x = .ref C ∧ t σ H1 fun vs H2 => sp (.ref C :: vs) [] H2 Q (WE W σ)
theorem pe_cmG (tk : Takes X W) (he : PE X o ta) (r : ClX.CRead X.K C mc) (c : ClX.CMet X.K C mc m p g) (F : CallG X.prog X.w X.K X.mg X.base k (.ref g) sp) (hr : Room k X.A) (hg : X.A.guards = some []) (ha : PA X (e :: es) t)
    (hst : starEach (e :: es) X.env = (false, eval e X.env) :: starEach es X.env := by rfl) (hpl : (backTo qs (starEach es X.env)).any (·.1) = false := by rfl)
    (ht : eval (.Call (.Attribute o m apos) (e :: es) [] qs) X.env = (do
      let ov ← eval o X.env
      standAt apos.atName
      let (f, first) ← holding [ov] (getMethod ov m pl)
      callWith qs f first (backTo qs (starEach (e :: es) X.env)) (backToKw qs (keywordEach [] X.env))) := by rfl) :
    PE X (.Call (.Attribute o m apos) (e :: es) [] qs) (tCm W C sp ta t) := by
  refine ⟨fun pins s σ H Q I h => ?_⟩
  refine PySem.W.methodCall_KW (pl := pl) (thn (he.run pins s σ H _ I h) fun u s1 ⟨x, H1, I1, rx, ex, q⟩ => ?_) ht
  subst ex
  obtain rfl : u = Value.ref C := rx
  refine ClX.getmethcm_ok I1 r c fun s2 I2 => ?_
  refine ClX.callwith_cm I2 (ClX.base_none I1 (Nat.le_refl _)) c.fi (thn (ha.run qs _ s2 σ H1 _ I2 q) fun us s3 ⟨vs, H2, I3, rv, q2⟩ => ⟨⟨ClX.pin_at I3, I3.kIn⟩, ?_⟩) hst hpl
  exact run_cmG tk F hr hg I3 rv .nil q2
/-- C.m(k = e, ..) -/
def tCmk (W : WX) (C : Addr) (ns : List Str) (sp : SpK) (ta : TE) (t : TA) : TE := fun σ H Q => ta σ H fun x H1 => x = .ref C ∧ t σ H1 fun vs H2 => vs.length = ns.length ∧ sp [.ref C] (ns.zip vs) H2 Q (WE W σ)
theorem pe_cmGk {kws : List Keyword} {ns : List Str} (tk : Takes X W) (he : PE X o ta) (r : ClX.CRead X.K C mc) (c : ClX.CMet X.K C mc m p g) (F : CallG X.prog X.w X.K X.mg X.base k (.ref g) sp) (hr : Room k X.A) (hg : X.A.guards = some []) (ha : PK X kws t)
    (hall : (backToKw qs (keywordEach kws X.env)).all (·.1.isSome) = true := by rfl) (hks : (backToKw qs (keywordEach kws X.env)).filterMap (·.1) = ns := by rfl)
    (hpl : ((backTo qs (starEach [] X.env)).any (·.1) || (backToKw qs (keywordEach kws X.env)).any (·.1.isNone)) = false := by rfl)
    (ht : eval (.Call (.Attribute o m apos) [] kws qs) X.env = (do
      let ov ← eval o X.env
      standAt apos.atName
      let (f, first) ← holding [ov] (getMethod ov m pl)
      callWith qs f first (backTo qs (starEach [] X.env)) (backToKw qs (keywordEach kws X.env))) := by rfl) :
    PE X (.Call (.Attribute o m apos) [] kws qs) (tCmk W C ns sp ta t) := by
  refine ⟨fun pins s σ H Q I h => ?_⟩
  refine PySem.W.methodCall_KW (pl := pl) (thn (he.run pins s σ H _ I h) fun u s1 ⟨x, H1, I1, rx, ex, q⟩ => ?_) ht
  subst ex
  obtain rfl : u = Value.ref C := rx
  refine ClX.getmethcm_ok I1 r c fun s2 I2 => ?_
  refine PySem.W.callWith_of (P := PySem.W.MethP X.K s1.heap.objs.size g (.ref C)) hpl (PySem.W.keeps_M c.fi) (evalArgs_kw2_nil hall (thn (ha.run qs _ s2 σ H1 _ I2 q) fun us s3 ⟨vs, H2, I3, rv, hl, q2⟩ => ⟨⟨ClX.pin_at I3, I3.kIn⟩, ?_⟩))
  rw [hks]
  exact run_cmG (us := []) (vs := []) tk F hr hg I3 .nil (vals_kvs rv) q2
end
end Uk

/-! UkW: x[i] and len(x) of own classes; what isinstance says of data -/
namespace Uk
open PySem PySem.Spec PyProof.Rows L2 StX

section
variable {X : Cx} {k : Nat} {f : Addr} {sp : SpK} {D : Addr → Prop} {a b : Expr} {ta tb : TE} {pos : Pos}
/-- a[b], a an instance with an own __getitem__ -/
def tIxO (D : Addr → Prop) (sp : SpK) (ta tb : TE) : TE := fun σ H Q => ta σ H fun x H1 => tb σ H1 fun y H2 => ∃ (c C dx : Addr) (fs : List (Str × V)), x = .ref c ∧ D C ∧ H2 c = some (.ins C dx fs) ∧ sp [x, y] [] H2 Q NoE
theorem pe_ixO (F : CallG X.prog X.w X.K X.mg X.base k (.ref f) sp) (hr : Room (k + 1) X.A) (hg : X.A.guards = some []) (hD : ∀ C, D C → Own X.K C "__getitem__" f) (hf : PySem.W.fnIn X.K f = true) (ha : PE X a ta) (hb : PE X b tb)
    (hsl : ∀ v u, subscripted b true v u = runValue (.builtin "lifetime.subscript" ⟨[v, u], []⟩)) : PE X (.Subscript a b pos) (tIxO D sp ta tb) := by
  refine ⟨fun pins s σ H Q I h => ?_⟩
  refine Subscript_ (binT ha hb I h fun v u s2 x y H2 I2 rx ry q => ?_)
  obtain ⟨c, C, dx, fs, rfl, d, e, q⟩ := q
  obtain rfl : v = Value.ref c := rx
  obtain ⟨od, J⟩ := ins_at I2.hok e
  obtain ⟨m, fr⟩ := I2.fr
  exact PySem.W.sub_K fr I2.ok.mod.kin J (hD C d).at_ hf (hD C d).fn (run_callN F hr.in1 hg rfl I2 (vs := [.ref c, y]) (us := [.ref c, u]) (.cons rfl (.cons ry .nil)) q) (hsl _ _)
end
/-- len(x), x an instance with an own __len__ -/
theorem call_lenO {X : Cx} {k : Nat} {sp : SpK} {D : Addr → Prop} {f : Addr} (F : CallG X.prog X.w X.K X.mg X.base k (.ref f) sp) (hr : Room (k + 1) X.A) (hg : X.A.guards = some []) (hD : ∀ C, D C → Own X.K C "__len__" f) :
    CallR X (.builtin "len") (fun xs H Q => ∃ (a C dx : Addr) (fs : List (Str × V)), xs = [.ref a] ∧ D C ∧ H a = some (.ins C dx fs) ∧ sp [.ref a] [] H (fun v H' => ∃ n : Nat, v = .int n ∧ n < 2 ^ 62 ∧ Q (.int n) H') NoE) := by
  intro pins s σ H xs us Q I r h
  obtain ⟨a, C, dx, fs, rfl, d, e, q⟩ := h
  obtain ⟨u, rfl, r1⟩ := vals1 r
  obtain rfl : u = Value.ref a := r1
  obtain ⟨od, J⟩ := ins_at I.hok e
  obtain ⟨m, fr⟩ := I.fr
  refine PySem.W.len_K fr I.ok.mod.kin J (hD C d).at_ (hD C d).fn (wpAny_mono (run_callN F hr.in1 hg rfl I (vs := [.ref a]) (us := [.ref a]) (.cons rfl .nil) q) (fun z s' hz => ?_) fun _ _ y => y)
  obtain ⟨v', H', I', rv, n, rfl, hn, q'⟩ := hz
  obtain ⟨t, rfl⟩ := (show ∃ t, z = Value.int n t from rv)
  exact ⟨⟨by omega, by omega⟩, .int n, H', I'.tok _, ⟨_, rfl⟩, q'⟩
/-- what a def with a star behind three parameters binds -/
theorem bind_star3 {B : List Value → Sem (List (Str × Value))} {p1 p2 p3 pv : Str} (h0 : ∀ a b c, B [a, b, c] = (newTuple [] >>= fun t => pure [(p1, a), (p2, b), (p3, c), (pv, t)])) (h1 : ∀ a b c r rs, B (a :: b :: c :: r :: rs) = (newTuple (r :: rs) >>= fun t => pure [(p1, a), (p2, b), (p3, c), (pv, t)])) :
    ∀ us rest : List Value, us.length = [p1, p2, p3].length → B (us ++ rest) = (newTuple rest >>= fun t => pure ([p1, p2, p3].zip us ++ [(pv, t)]))
  | [a, b, c], [], _ => h0 a b c
  | [a, b, c], r :: rs, _ => h1 a b c r rs
section
variable {K : PySem.W.Frag} {H : Hp}
theorem sqt_ty {a : Addr} {xs : List V} (h : SqT K H a xs) : TyX K H (.ref a) (.type "tuple") := by
  rcases h with (h | ⟨o, h⟩) | ⟨o, its, n, h, c, _⟩
  · exact .base (.tup h)
  · exact .fTuple h
  · exact .kTuple h c
def tyD : PyData → String
  | .none => "NoneType"
  | .bool _ => "bool"
  | .int _ => "int"
  | .str _ => "str"
  | .list _ => "list"
  | .tuple _ => "tuple"
  | .dict _ => "dict"
theorem dq_ty {v : V} {d : PyData} (h : Dq K H v d) : TyX K H v (.type (tyD d)) := by
  cases h with
  | non => exact .base .non
  | bl b => exact .base (.bl b)
  | int i => exact .base (.int i)
  | str x => exact .base (.str x)
  | lst a r => exact .base (.lst a)
  | tup a r => exact sqt_ty a
  | dct a r => exact .base (.dK a)
abbrev tyNames : List String := ["NoneType", "bool", "int", "str", "list", "tuple", "dict"]
theorem tyD_mem (d : PyData) : tyD d ∈ tyNames := by
  cases d <;> simp [tyD]
def isN (T n : String) : Bool := n == T || (n == "bool" && T == "int")
def isD (T : String) (d : PyData) : Bool := isN T (tyD d)
theorem kit_dInt (d : PyData) : PySem.W.kitOne K (.type (tyD d)) (.type "int") = some (isD "int" d) := kit_ty ((show ∀ n ∈ tyNames, kitB n "int" = some (isN "int" n) by decide +kernel) _ (tyD_mem d))
theorem kit_dBool (d : PyData) : PySem.W.kitOne K (.type (tyD d)) (.type "bool") = some (isD "bool" d) := kit_ty ((show ∀ n ∈ tyNames, kitB n "bool" = some (isN "bool" n) by decide +kernel) _ (tyD_mem d))
theorem kit_dStr (d : PyData) : PySem.W.kitOne K (.type (tyD d)) (.type "str") = some (isD "str" d) := kit_ty ((show ∀ n ∈ tyNames, kitB n "str" = some (isN "str" n) by decide +kernel) _ (tyD_mem d))
theorem kit_dTup (d : PyData) : PySem.W.kitOne K (.type (tyD d)) (.type "tuple") = some (isD "tuple" d) := kit_ty ((show ∀ n ∈ tyNames, kitB n "tuple" = some (isN "tuple" n) by decide +kernel) _ (tyD_mem d))
end
end Uk

/-! UkX: list(reversed(a list)); a text times a number -/
namespace Uk
section
open PySem PySem.Spec PyProof.Rows RT
variable {prog : Program} {w : World} {A : Around} {E : Value → Shared → Prop} {s : Shared}
/-- list(it), it a new reverse iterator over the list at l -/
theorem list_of_rev {it l : Addr} {items : Array Value} {Q : Value → Shared → Prop} (hh : A.handled = none) (hit : s.heap.IsRevIter it l ((items.size : Int) - 1)) (hl : s.heap.IsList l items) (hne : l ≠ it) (hn : items.size ≤ sizeLine)
    (hQ : ∀ (S : Addr) (h' : Heap) (tk : Nat) (acc : Array Value) (c : Nat), s.heap.objs.size ≤ S → (∀ b o, b ≠ it → s.heap.get? b = some o → h'.get? b = some o) → h'.get? S = some { cls := .type "list", dict := none, data := .seq acc c, slots := #[] } →
      ItemsOf (fun i v => items[items.size - 1 - i]? = some v) acc items.size → Q (.ref S) { s with heap := h', toks := tk }) :
    wpAny (model prog w) A (call (.type "list") [.ref it]) Q E s := by
  obtain ⟨oi, hoi, _⟩ := id hit
  obtain ⟨ol, hol, _⟩ := id hl
  have hSi : s.heap.objs.size ≠ it := Nat.ne_of_gt (Heap.lt_size hoi)
  have hSl : s.heap.objs.size ≠ l := Nat.ne_of_gt (Heap.lt_size hol)
  have hSf : s.heap.objs.size ∉ [it, l] := by simp only [List.mem_cons, List.not_mem_nil, or_false, not_or]; exact ⟨hSi, hSl⟩
  refine callType_codes (Q₁ := fun obj s₁ => obj = .ref s.heap.objs.size ∧ s₁ = { s with heap := s.heap.push { cls := .type "list", data := .seq #[] } }) F.called_list (F.typeCall_list_1 _) F.entry_list_init
    (code_list_new _ ⟨rfl, rfl⟩) fun obj s₁ h₁ => ?_
  obtain ⟨rfl, rfl⟩ := h₁
  have hS : (s.heap.push { cls := .type "list", data := .seq #[] }).get? s.heap.objs.size = some { cls := .type "list", data := .seq #[] } := Heap.get?_push_size _ rfl
  refine ⟨⟨_, hS, rfl⟩, F.args_list_init_2 _ _, ?_⟩
  show wpAny _ A.in1.in1 (do let old ← Builtin.List.listItems (.ref s.heap.objs.size); Builtin.List.listUpdate (.ref s.heap.objs.size) (fun _ => #[]); letGo old.toList.reverse; Builtin.List.listExtendWith (.ref s.heap.objs.size) (.ref it) .none) _ _ _
  refine wpAny_bind ?_
  unfold Builtin.List.listItems
  refine wpAny_bind (wpAny_seqItems hS rfl (wpAny_pure ?_))
  show wpAny _ A.in1.in1 (updateSeq s.heap.objs.size (fun _ => #[]) >>= fun _ => letGo (#[] : Array Value).toList.reverse >>= fun _ => Builtin.List.listExtendWith (.ref s.heap.objs.size) (.ref it) .none) _ _ _
  refine wpAny_bind (wpAny_updateSeq hS rfl ?_)
  have hS2 := Heap.get?_update_self (Obj.mapSeq (fun _ => (#[] : Array Value))) hS rfl
  refine wpAny_bind (wpAny_letGo ?_)
  unfold Builtin.List.listExtendWith
  have keep : ∀ b o, s.heap.get? b = some o → ((s.heap.push { cls := .type "list", data := .seq #[] }).update s.heap.objs.size (Obj.mapSeq (fun _ => (#[] : Array Value)))).get? b = some o := fun b o e =>
    (Heap.get?_update_other _ _ (Ne.symm (Nat.ne_of_lt (Heap.lt_size e)))).trans (Heap.get?_push_of_some _ e)
  have hit1 : ((s.heap.push { cls := .type "list", data := .seq #[] }).update s.heap.objs.size (Obj.mapSeq (fun _ => (#[] : Array Value)))).IsRevIter it l ((items.size : Int) - 1) := hit.at fun o e => keep _ _ e
  have hl1 : ((s.heap.push { cls := .type "list", data := .seq #[] }).update s.heap.objs.size (Obj.mapSeq (fun _ => (#[] : Array Value)))).IsList l items := hl.at fun o e => keep _ _ e
  have hT : ({ s with heap := (s.heap.push { cls := .type "list", data := .seq #[] }).update s.heap.objs.size (Obj.mapSeq (fun _ => (#[] : Array Value))) } : Shared).TypeIs (.ref it) "list_reverseiterator" := Heap.IsRevIter.typeIs (s := { s with heap := _ }) hit1
  have h1 : Builtin.List.listSameRef (.ref s.heap.objs.size) (.ref it) = false := by simp [Builtin.List.listSameRef, hSi]
  refine wpAny_bind (wpAny_typeOf hT ?_)
  have h2 : (Value.type "list_reverseiterator" == Value.type "list") = false := by decide
  have h3 : (Value.type "list_reverseiterator" == Value.type "tuple") = false := by decide
  simp only [h1, h2, h3, Bool.or_false, Bool.false_eq_true, if_false]
  refine wpAny_bind (wpAny_pyIter_revIter (s := { s with heap := _ }) hit1 ?_)
  refine wpAny_bind (wpAny_holding ?_)
  unfold Builtin.List.listLengthHint
  refine wpAny_bind (wpAny_specialOf hT nolen_lri ?_)
  show wpAny _ A.in1.in1 (specialOf (Value.ref it) (Str.ofString "__length_hint__") >>= _) _ _ _
  refine wpAny_bind (wpAny_specialOf hT hint_lri ?_)
  generalize hid : ("list_reverseiterator.__length_hint__" : String) = id0
  wp_delta
  rw [show splitId id0 = some ("list_reverseiterator", "__length_hint__") from by subst hid; decide +kernel]
  subst hid
  refine wpAny_bind (wpAny_isInstance (b := true) hT (by rw [isSubtype_type]; kernel_rfl) ?_)
  refine wpAny_pure ?_
  rw [if_neg (by decide)]
  have W := (Walks.listRev (prog := prog) (w := w) (A := A.in1.in1) hh it l hne items).toS
  have e0 : ((items.size : Nat) : Int) - 1 - ((0 : Nat) : Int) = (items.size : Int) - 1 := by omega
  refine wpAny_pure ⟨plainId_quiet F.plain_extend_loop _, codeAny_extend_loopS (A := A.in1) W hn _ hSf _ items.size 0 _ _ _ rfl (Nat.zero_le _) ⟨Nat.zero_le _, by rw [e0]; exact hit1, hl1⟩ hS2 (ItemsOf.nil _) fun s' acc' c' hm hS' hacc => ?_⟩
  rw [Moved.eq_with hm]
  refine ⟨rfl, hQ _ s'.heap s'.toks acc' c' (Nat.le_refl _) (fun b o hb e => hm.heap b o (fun hmem => ?_) (keep _ _ e)) hS' hacc⟩
  rcases List.mem_cons.mp hmem with e' | hmem
  · exact absurd (Heap.lt_size e) (by rw [e']; exact Nat.lt_irrefl _)
  · exact hb (List.mem_singleton.mp hmem)
end
section
open PySem PySem.Spec PyProof.Rows L2 StX RT
variable {X : Cx}
/-- list(reversed(x)), x a list: a new list -/
def tListRev (K : PySem.W.Frag) (te : TE) : TE := fun σ H Q => te σ H fun v H1 => ∃ (a : Addr) (xs : List V), v = .ref a ∧ SqL K H1 a xs ∧ ∀ q, H1 q = none → Q (.ref q) (upd H1 q (.lst xs.reverse))
theorem pe_listRev {e : Expr} {te : TE} {p p2 pos pos2 : Pos} (hc : X.calm = true) (hg : Gl X "list") (hm : X.mg "list" = none) (hg2 : Gl X "reversed") (hm2 : X.mg "reversed" = none) (he : PE X e te)
    (hs : starEach [e] X.env = (false, eval e X.env) :: starEach [] X.env := by rfl)
    (hs2 : starEach [.Call (.Name "reversed" p2) [e] [] pos2] X.env = (false, eval (.Call (.Name "reversed" p2) [e] [] pos2) X.env) :: starEach [] X.env := by rfl) :
    PE X (.Call (.Name "list" p) [.Call (.Name "reversed" p2) [e] [] pos2] [] pos) (tListRev X.K te) := by
  refine ⟨fun pins s σ H Q I h => ?_⟩
  refine Call_ (ld_blt I hg hm PyProof.Rows.boot_list (PyProof.Rows.callWith_type1 (args_cons (Call_ (ld_blt I hg2 hm2 PyProof.Rows.boot_reversed (PyProof.Rows.callWith_type1 (args_cons (thn (he.run pins s σ H _ I h) fun u s1 ⟨v, H1, I1, r1, q1⟩ => args_nil ?_) hs) hs rfl))) hs2) hs2 rfl))
  obtain ⟨a, xs, ev, hq, q⟩ := q1
  subst ev
  obtain rfl : u = Value.ref a := r1
  obtain ⟨its, rv, p', hz⟩ := I1.list hq
  refine call_reversed_list p'.isList (args_nil ?_)
  have k0 : ∀ b o, s1.heap.get? b = some o → (s1.heap.push (revObj a ((its.toArray.size : Int) - 1))).get? b = some o := fun b o e => Heap.get?_push_of_some _ e
  have I2 : Inv X pins σ H1 { s1 with heap := s1.heap.push (revObj a ((its.toArray.size : Int) - 1)) } := I1.kept (t' := s1.toks) k0
  have fp := I1.fpOk (H' := H1) (b := s1.heap.objs.size) (Nat.le_refl _) (I1.hok.fresh (Nat.le_refl _))
  have hl := p'.isList
  obtain ⟨ol, hol, _⟩ := id hl
  have hne : a ≠ s1.heap.objs.size := Nat.ne_of_lt (Heap.lt_size hol)
  have hn : its.toArray.size ≤ sizeLine := by rw [List.size_toArray, ← rv.length]; exact hz
  refine list_of_rev (s := { s1 with heap := s1.heap.push (revObj a ((its.toArray.size : Int) - 1)) }) (I1.ok.hd hc) ⟨_, Heap.get?_push_size _ rfl, rfl, rfl⟩ (hl.push _) hne hn fun S h' tk acc c hS hk hS' hi => ?_
  have new : ObjOk X.prog X.w (upd H1 S (.lst xs.reverse)) h' S (.lst xs.reverse) := ⟨by rw [List.length_reverse]; exact hz, acc.toList, c, vals_rev rv hi, by rw [Array.toArray_toList]; exact hS'⟩
  have hSn : H1 S = none := I2.hok.fresh hS
  exact ⟨.ref S, upd H1 S (.lst xs.reverse), I2.turnedNew (t' := tk) (ch := [s1.heap.objs.size]) (fun b o hb e => hk b o (fun z => hb (by rw [z]; exact List.mem_singleton_self _)) e) (fun b hb => by rw [List.mem_singleton.mp hb]; exact fp) hS new, rfl, q S hSn⟩
/-- a text, n times -/
def strRep (z : Str) (n : Int) : Str := ⟨(List.replicate n.toNat z.cps).foldl (· ++ ·) #[]⟩
theorem rep_size (c : Array Nat) : ∀ (n : Nat) (acc : Array Nat), ((List.replicate n c).foldl (fun x1 x2 => x1 ++ x2) acc).size = acc.size + c.size * n
  | 0, acc => by simp
  | n + 1, acc => by
    rw [List.replicate_succ, List.foldl_cons, rep_size c n, Array.size_append, Nat.mul_succ]
    omega
theorem strRep_len (z : Str) (n : Int) : (strRep z n).length = z.length * n.toNat := by
  show ((List.replicate n.toNat z.cps).foldl (fun x1 x2 => x1 ++ x2) #[]).size = _
  rw [rep_size]
  simp [Str.length]
theorem op_mulS : OpR X (binaryOp .Mult) (fun x y H Q => ∃ (z : Str) (n : Int), x = .str z ∧ y = .int n ∧ 1 ≤ z.length ∧ z.length ≤ 1000 ∧ 1 ≤ n ∧ n ≤ 1000 ∧ Q (.str (strRep z n)) H) := by
  intro pins s σ H x y u v Q I rx ry h
  obtain ⟨z, n, rfl, rfl, z1, z2, n1, n2, q⟩ := h
  obtain ⟨t, rfl⟩ := (show ∃ t, u = Value.str z t from rx)
  obtain ⟨t2, rfl⟩ := (show ∃ t, v = Value.int n t from ry)
  have hz : (z.length == 0) = false := by
    rw [beq_eq_false_iff_ne]
    omega
  have hprod : z.length * n.toNat ≤ 1000 * 1000 := Nat.mul_le_mul z2 (by omega)
  refine PySem.P.mul_str (by rw [decide_eq_false (by omega), decide_eq_false (by omega)] <;> rfl) (fun _ _ => ?_) (fun _ _ => ?_) ?_
  · have h1 : (1000 : Int) ≤ (2 ^ 63 - 1) / n := (Int.le_ediv_iff_mul_le (by omega)).mpr (by omega)
    omega
  · refine decide_eq_false (p := z.length * n.toNat > sizeLine) ?_
    rw [sizeLine_eq]
    omega
  · rw [if_neg (by omega)]
    by_cases e : n = 1
    · subst e
      rw [if_pos (by rfl)]
      have es : strRep z 1 = z := by
        obtain ⟨c⟩ := z
        unfold strRep
        simp
      rw [es] at q
      exact ⟨.str z, H, I, ⟨_, rfl⟩, q⟩
    · have hn1 : (n == 1) = false := beq_eq_false_iff_ne.mpr e
      rw [if_neg (by rw [hn1, hz]; exact Bool.false_ne_true)]
      refine ⟨?_, .str (strRep z n), H, I.tok _, ⟨_, rfl⟩, q⟩
      show (strRep z n).length ≤ _
      rw [strRep_len, sizeLine_eq]
      omega
end
end Uk

/-! UkY: the first k such that; lists of data; small words of proofs -/
namespace Uk
open PySem PySem.Spec PyProof.Rows L2 StX
def firstK (p : Nat → Bool) : Nat → Nat → Option Nat
  | _, 0 => none
  | k, n + 1 => if p k = true then some k else firstK p (k + 1) n
theorem firstK_some {p : Nat → Bool} : ∀ {n k i : Nat}, (∀ j, j < i → p (k + j) = false) → p (k + i) = true → i < n → firstK p k n = some (k + i)
  | 0, _, _, _, _, h => absurd h (Nat.not_lt_zero _)
  | n + 1, k, 0, _, h, _ => by
    show (if p k = true then some k else _) = _
    rw [if_pos (show p k = true from h)]
    rfl
  | n + 1, k, i + 1, h0, h, hi => by
    show (if p k = true then some k else _) = _
    have e : p k = false := h0 0 (Nat.succ_pos _)
    rw [if_neg (by rw [e]; exact Bool.false_ne_true), firstK_some (i := i) (fun j hj => by rw [Nat.add_assoc, Nat.add_comm 1 j]; exact h0 (j + 1) (Nat.succ_lt_succ hj)) (by rw [Nat.add_assoc, Nat.add_comm 1 i]; exact h) (Nat.lt_of_succ_lt_succ hi), Nat.add_assoc, Nat.add_comm 1 i]
theorem firstK_none {p : Nat → Bool} : ∀ {n k : Nat}, (∀ j, j < n → p (k + j) = false) → firstK p k n = none
  | 0, _, _ => rfl
  | n + 1, k, h => by
    show (if p k = true then some k else _) = _
    have e : p k = false := h 0 (Nat.succ_pos _)
    rw [if_neg (by rw [e]; exact Bool.false_ne_true)]
    exact firstK_none fun j hj => by rw [Nat.add_assoc, Nat.add_comm 1 j]; exact h (j + 1) (Nat.succ_lt_succ hj)
def intV : PyData → Int
  | .int i => i
  | _ => 0
theorem dqAll_get {K : PySem.W.Frag} {H : Hp} : ∀ {vs : List V} {ds : List PyData} {i : Nat} {v : V}, DqAll K H vs ds → vs[i]? = some v → ∃ d, ds[i]? = some d ∧ Dq K H v d
  | [], _, _, _, _, h => by simp at h
  | x :: vs, d :: ds, 0, v, .cons a r, h => by
    simp at h
    subst h
    exact ⟨d, rfl, a⟩
  | x :: vs, d :: ds, i + 1, v, .cons a r, h => dqAll_get (i := i) r (by simpa using h)
theorem dqAll_len {K : PySem.W.Frag} {H : Hp} : ∀ {vs : List V} {ds : List PyData}, DqAll K H vs ds → vs.length = ds.length
  | [], [], .nil => rfl
  | _ :: _, _ :: _, .cons _ r => congrArg Nat.succ (dqAll_len r)
theorem old_none {p c z : Addr} {m : Int} {H H' : Hp} (s : Same (Off p H) (Off p H')) (P : Pen H' p c m) (hz : H' z = none) : H z = none := by
  cases e : H z with
  | none => rfl
  | some u =>
    have y := Uk.Off.at (s _ _ (Uk.Off.of e (P.ne hz)))
    rw [hz] at y
    cases y
theorem firstK_none' {p : Nat → Bool} : ∀ {n k : Nat}, firstK p k n = none → ∀ j, j < n → p (k + j) = false
  | 0, _, _, _, h => absurd h (Nat.not_lt_zero _)
  | n + 1, k, h, j, hj => by
    have h' : (if p k = true then some k else firstK p (k + 1) n) = none := h
    cases e : p k with
    | true =>
      rw [e, if_pos rfl] at h'
      cases h'
    | false =>
      rw [e, if_neg Bool.false_ne_true] at h'
      cases j with
      | zero => exact e
      | succ j =>
        have z := firstK_none' h' j (Nat.lt_of_succ_lt_succ hj)
        rw [Nat.add_assoc, Nat.add_comm 1 j] at z
        exact z
theorem all_ints : ∀ {ds : List PyData}, (∀ (j : Nat) (d : PyData), ds[j]? = some d → ∃ a : Int, d = PyData.int a) → ∃ js : List Int, ds = js.map PyData.int
  | [], _ => ⟨[], rfl⟩
  | d :: ds, h => by
    obtain ⟨a, rfl⟩ := h 0 d rfl
    obtain ⟨js, rfl⟩ := all_ints (ds := ds) fun j d e => h (j + 1) d e
    exact ⟨a :: js, rfl⟩
theorem dqAll_ints {K : PySem.W.Frag} {H : Hp} : ∀ js : List Int, DqAll K H (js.map V.int) (js.map PyData.int)
  | [] => .nil
  | j :: js => .cons (.int j) (dqAll_ints js)
theorem dqAll_ints' {K : PySem.W.Frag} {H : Hp} : ∀ {js : List Int} {xs : List V}, DqAll K H xs (js.map PyData.int) → xs = js.map V.int
  | [], _, .nil => rfl
  | j :: js, _, .cons (.int _) r => by rw [dqAll_ints' r] <;> rfl
theorem eqv_ints : ∀ js : List Int, PyData.eqvAll (js.map PyData.int) (js.map PyData.int) = true
  | [] => rfl
  | j :: js => by
    show ((j == j) && PyData.eqvAll (js.map PyData.int) (js.map PyData.int)) = true
    rw [eqv_ints js, beq_self_eq_true] <;> rfl
theorem neqv_ints (js : List Int) : (!PyData.eqv (.tuple (js.map PyData.int)) (.tuple (js.map PyData.int))) = false := by
  rw [show PyData.eqv (.tuple (js.map PyData.int)) (.tuple (js.map PyData.int)) = true from eqv_ints js] <;> rfl
theorem neqv_lints (js : List Int) : (!PyData.eqv (.list (js.map PyData.int)) (.list (js.map PyData.int))) = false := by
  rw [show PyData.eqv (.list (js.map PyData.int)) (.list (js.map PyData.int)) = true from eqv_ints js] <;> rfl
theorem canlay_ints : ∀ js : List Int, PyData.canLayAll0 (js.map PyData.int) = true
  | [] => rfl
  | j :: js => by
    show (true && PyData.canLayAll0 (js.map PyData.int)) = true
    rw [canlay_ints js] <;> rfl
theorem depth_ints : ∀ js : List Int, PyData.depthAll (js.map PyData.int) = 0
  | [] => rfl
  | j :: js => by
    show max 0 (PyData.depthAll (js.map PyData.int)) = 0
    rw [depth_ints js] <;> rfl
theorem shaped_tints (js : List Int) : SeqAt.shaped (.tuple (js.map PyData.int)) = true := by
  show (PyData.canLayAll0 (js.map PyData.int) && decide (PyData.depthAll (js.map PyData.int) + 1 ≤ 64)) = true
  rw [canlay_ints, depth_ints] <;> rfl
theorem shaped_lints (js : List Int) : SeqAt.shaped (.list (js.map PyData.int)) = true := by
  show (PyData.canLayAll0 (js.map PyData.int) && decide (PyData.depthAll (js.map PyData.int) + 1 ≤ 64)) = true
  rw [canlay_ints, depth_ints] <;> rfl
theorem dqAll_set {K : PySem.W.Frag} {H : Hp} : ∀ {xs : List V} {ds : List PyData} {v : V} {d : PyData}, DqAll K H xs ds → Dq K H v d → ∀ i, DqAll K H (xs.set i v) (ds.set i d)
  | [], [], _, _, .nil, _, _ => .nil
  | _ :: _, _ :: _, _, _, .cons _ r, q, 0 => .cons q r
  | _ :: _, _ :: _, _, _, .cons a r, q, i + 1 => .cons a (dqAll_set r q i)
theorem split_rest {R : L2.St → Hp → Prop} {G : Prop} {C : L2.St → Hp → Prop} (main : (∀ σ Hx, C σ Hx → R σ Hx) → G) (rest : ∀ σ Hx, C σ Hx → R σ Hx) : G := main rest
section
variable {X : Cx} {W : WX} {k : Nat} {C f : Addr} {sp : Sp} {x : Str} {p qs : Pos} {e : Expr} {es : List Expr} {t : TA}
/-- C(e, .., *y) -/
theorem pe_mkGS (tk : Takes X W) (M : Mk X.K C f) (F : CallG X.prog X.w X.K X.mg X.base k (.ref f) (pos sp)) (hr : Room (k + 1) X.A) (hg : X.A.guards = some []) (hx : Gl X x) (hm : X.mg x = some (.ref C)) (ha : PA X (e :: es) t)
    (hdb : (x == ("__debug__" : Str)) = false := by decide) (he : starEach (e :: es) X.env = (false, eval e X.env) :: starEach es X.env := by rfl) (hst : (backTo qs (starEach es X.env)).any (·.1) = true := by rfl) :
    PE X (.Call (.Name x p) (e :: es) [] qs) (tCl W (pos (spMk C sp)) t) := by
  refine ⟨fun pins s σ H Q I h => ?_⟩
  refine wpAny_Call_Name_kw (ld_glob I hx hm ?_ hdb)
  refine PySem.W.callWith_S2 (h₀ := X.base) I.ok.mod.kin M.kp (thn (ha.run qs pins s σ H _ I h) fun us s1 ⟨vs, H1, I1, r, q⟩ => ⟨I1.kIn, ?_⟩) he hst
  exact run_makeG tk M F hr hg I1 r q.2
end
end Uk

/-! UkZ: == and != of lists and tuples whose items are the same (whatever they are: dicts within too), or whose lengths differ -/
namespace Uk
open PySem PySem.Spec PyProof.Rows L2 StX PySem.SeqAt
def idV : V → Bool
  | .byt _ => false
  | .flt _ => false
  | _ => true
theorem dq_idV {K : PySem.W.Frag} {H : Hp} {v : V} {d : PyData} (h : Dq K H v d) : idV v = true := by cases h <;> rfl
theorem dqAll_idV {K : PySem.W.Frag} {H : Hp} : ∀ {vs : List V} {ds : List PyData}, DqAll K H vs ds → ∀ v ∈ vs, idV v = true
  | [], _, _, _, m => nomatch m
  | x :: vs, d :: ds, .cons h r, v, m => by
    rcases List.mem_cons.mp m with e | e
    · rw [e]; exact dq_idV h
    · exact dqAll_idV r v e
theorem eqAt_sameV {A : Around} {s : Shared} : ∀ {v : V} {u u' : Value}, RelV v u → RelV v u' → idV v = true → EqAt A s u u' true
  | .non, _, _, r, r', _ => by cases r; cases r'; exact EqAt.same _
  | .bl b, _, _, r, r', _ => by cases r; cases r'; exact EqAt.same _
  | .int i, _, _, r, r', _ => by
    obtain ⟨t, rfl⟩ := r
    obtain ⟨t', rfl⟩ := r'
    have := EqAt.int_int (A := A) (s := s) i t i t'
    rw [beq_self_eq_true] at this
    exact this
  | .str x, _, _, r, r', _ => by
    obtain ⟨t, rfl⟩ := r
    obtain ⟨t', rfl⟩ := r'
    have := EqAt.str_str (A := A) (s := s) x t x t'
    rw [show (x == x) = true from by simp] at this
    exact this
  | .byt _, _, _, _, _, h => nomatch h
  | .flt _, _, _, _, _, h => nomatch h
  | .ref a, _, _, r, r', _ => by cases r; cases r'; exact EqAt.same _
  | .ty n, _, _, r, r', _ => by cases r; cases r'; exact EqAt.same _
theorem eqAt_items {A : Around} {s : Shared} {xs : List V} {us us' : List Value} (r : Vals xs us) (r' : Vals xs us') (h : ∀ v ∈ xs, idV v = true) (j : Nat) (h1 : j < us.toArray.size) (h2 : j < us'.toArray.size) : EqAt A s us.toArray[j] us'.toArray[j] true := by
  rw [List.size_toArray] at h1 h2
  have hj : j < xs.length := by rw [r.length]; exact h1
  have e := List.getElem?_eq_getElem hj
  obtain ⟨u, e1, r1⟩ := r.get e
  obtain ⟨u', e2, r2⟩ := r'.get e
  have f1 : us.toArray[j]'(by rw [List.size_toArray]; exact h1) = u := by
    rw [List.getElem?_eq_getElem h1] at e1
    rw [List.getElem_toArray]
    exact Option.some.inj e1
  have f2 : us'.toArray[j]'(by rw [List.size_toArray]; exact h2) = u' := by
    rw [List.getElem?_eq_getElem h2] at e2
    rw [List.getElem_toArray]
    exact Option.some.inj e2
  rw [f1, f2]
  exact eqAt_sameV r1 r2 (h _ (List.getElem_mem hj))
theorem all_tt (n : Nat) : (List.range n).all (fun _ => true) = true := List.all_eq_true.mpr fun _ _ => rfl
section
variable {X : Cx}
def rNeLs (K : PySem.W.Frag) : R2 := fun x y H Q => ∃ (a b : Addr) (xs ys : List V), x = .ref a ∧ y = .ref b ∧ SqL K H a xs ∧ SqL K H b ys ∧ ((xs.length ≠ ys.length ∧ Q (.bl true) H) ∨ (xs = ys ∧ (∀ v ∈ xs, idV v = true) ∧ Q (.bl false) H))
theorem op_neLs (hu : X.A.units + 64 < cLine) : OpR X (compareOp .NotEq) (rNeLs X.K) := by
  intro pins s σ H x y v u Q I rx ry h
  obtain ⟨a, b, xs, ys, rfl, rfl, ha, hb, q⟩ := h
  cases rx
  cases ry
  obtain ⟨its, r, ⟨o, n, ho, hc, _, hd⟩, _⟩ := I.list ha
  obtain ⟨its2, r2, ⟨o2, n2, ho2, hc2, _, hd2⟩, _⟩ := I.list hb
  have e1 : its.toArray.size = xs.length := by rw [List.size_toArray]; exact r.length.symm
  have e2 : its2.toArray.size = ys.length := by rw [List.size_toArray]; exact r2.length.symm
  rcases q with ⟨hl, q⟩ | ⟨rfl, hi, q⟩
  · exact RcNeAt.lists_lengths (A := X.A) ⟨o, ho, hc, n, hd⟩ ⟨o2, ho2, hc2, n2, hd2⟩ (by rw [e1, e2]; exact bne_iff_ne.mpr hl) (by omega) X.prog X.w _ _ ⟨.bl true, H, I, rfl, q⟩
  · refine RcNeAt.lists (A := X.A) (e := fun _ => true) ⟨o, ho, hc, n, hd⟩ ⟨o2, ho2, hc2, n2, hd2⟩ (by rw [e1, e2]) (by omega) (fun j h1 h2 => eqAt_items r r2 hi j h1 h2) X.prog X.w _ _ ?_
    rw [all_tt]
    exact ⟨.bl false, H, I, rfl, q⟩
def rEqTs (K : PySem.W.Frag) : R2 := fun x y H Q => ∃ (a b : Addr) (xs : List V), x = .ref a ∧ y = .ref b ∧ SqT K H a xs ∧ SqT K H b xs ∧ (∀ v ∈ xs, idV v = true) ∧ Q (.bl true) H
theorem op_eqTs (hu : X.A.units + 64 < cLine) : OpR X (compareOp .Eq) (rEqTs X.K) := by
  intro pins s σ H x y v u Q I rx ry h
  obtain ⟨a, b, xs, rfl, rfl, ha, hb, hi, q⟩ := h
  cases rx
  cases ry
  obtain ⟨its, r, ⟨o, ho, hc, n, hd⟩, _⟩ := I.tuple ha
  obtain ⟨its2, r2, ⟨o2, ho2, hc2, n2, hd2⟩, _⟩ := I.tuple hb
  have e1 : its.toArray.size = xs.length := by rw [List.size_toArray]; exact r.length.symm
  have e2 : its2.toArray.size = xs.length := by rw [List.size_toArray]; exact r2.length.symm
  refine RcAt.tuples (A := X.A) (e := fun _ => true) ⟨o, ho, hc, n, hd⟩ ⟨o2, ho2, hc2, n2, hd2⟩ (by omega) (fun j h1 h2 => eqAt_items r r2 hi j h1 h2) X.prog X.w _ _ ?_
  rw [all_tt, Bool.true_and, e1, e2, beq_self_eq_true]
  exact ⟨.bl true, H, I, rfl, q⟩
/-- t + u, of any tuples -/
def rCatTa (K : PySem.W.Frag) : R2 := fun x y H Q => ∃ a b xs ys, x = .ref a ∧ y = .ref b ∧ SqT K H a xs ∧ SqT K H b ys ∧ xs.length + ys.length ≤ sizeLine ∧
  (xs = [] → Q (.ref b) H) ∧ (xs ≠ [] → ys = [] → Q (.ref a) H) ∧ (xs ≠ [] → ys ≠ [] → ∀ p, H p = none → Q (.ref p) (upd H p (.tup (xs ++ ys))))
theorem op_catTa : OpR X (binaryOp .Add) (rCatTa X.K) := by
  intro pins s σ H x y v u Q I rx ry h
  obtain ⟨a, b, xs, ys, rfl, rfl, ha, hb, hz, q0, q1, q2⟩ := h
  by_cases hx : xs = []
  · cases rx
    cases ry
    obtain ⟨its, r1, p1, _⟩ := I.tuple ha
    obtain ⟨its2, r2, p2, _⟩ := I.tuple hb
    obtain ⟨⟨cls, dd, data, sl⟩, ho, hc, n, hd⟩ := id p1
    obtain ⟨⟨cls2, dd2, data2, sl2⟩, ho2, hc2, n2, hd2⟩ := id p2
    simp only at hc hd hc2 hd2
    subst hc hd hc2 hd2
    have e : its = [] := r1.nil_iff.mpr hx
    exact concat_meets ⟨_, ho, rfl⟩ ⟨_, ho2, rfl⟩ noFill_tuple_add seq_tuple_add PySem.F.slot_tuple_add PySem.F.entry_tuple_add (PySem.F.args_tuple_add_2 _ _)
      (tuple_addW0 a b its.toArray its2.toArray n n2 dd dd2 sl sl2 (by simp [e])) ⟨ho, ho2, .ref b, H, I, rfl, q0 hx⟩
  · exact op_catT pins s σ H _ _ v u Q I rx ry ⟨a, b, xs, ys, rfl, rfl, ha, hb, hx, hz, q1 hx, q2 hx⟩
theorem pe_meV0 {X : Cx} {W : WX} {k : Nat} {dom : Addr → Prop} {f : Addr → Addr} {sp : Addr → SpK} {m : Str} {o : Expr} {qs apos : Pos} {ta : TE} {pl : Sem Bool} (tk : Takes X W) (he : PE X o ta) (hm : ∀ C, dom C → Cls X.K C ∧ Meth X.K C m (f C))
    (F : ∀ C, dom C → CallG X.prog X.w X.K X.mg X.base k (.ref (f C)) (sp C)) (hr : Room k X.A) (hg : X.A.guards = some [])
    (ht : eval (.Call (.Attribute o m apos) [] [] qs) X.env = (do
      let ov ← eval o X.env
      standAt apos.atName
      let (f, first) ← holding [ov] (getMethod ov m pl)
      callWith qs f first (backTo qs (starEach [] X.env)) (backToKw qs (keywordEach [] X.env))) := by rfl) :
    PE X (.Call (.Attribute o m apos) [] [] qs) (tMeV W dom m sp ta tNil) := by
  refine ⟨fun pins s σ H Q I h => ?_⟩
  refine PySem.W.methodCall_KW (pl := pl) (thn (he.run pins s σ H _ I h) fun u s1 ⟨x, H1, I1, rx, a, C, dx, fs, ex, d, ea, l, q⟩ => ?_) ht
  subst ex
  obtain rfl : u = Value.ref a := rx
  refine getmeth_ok I1 ea (hm C d).1 (hm C d).2 l ?_
  exact PySem.W.callWith_K0 (first := [.ref a]) I1.kIn (hm C d).2.kp (run_call (us := [.ref a]) (vs := [.ref a]) tk (F C d) hr hg I1 (.cons rfl .nil) .nil q)
end
end Uk

namespace M04
open PySem PySem.Spec PyProof.Rows L2 StX Uk
abbrev PP := PySem.Challenge.pw_unkeptlines_k04_agents_refused
def topS (i : Nat) : Stmt := PP.main.body.getD i (.Pass ⟨0, 0, 0, 0⟩)
abbrev s_NoPart___init__ : Stmt := inClass (topS 2) 0
theorem sc_NoPart___init__ : ScopeS ["self", "reason", "place"] ["self", "reason", "place"] (defScope s_NoPart___init__) := ⟨rfl, rfl, rfl, by decide +kernel, rfl, by decide +kernel, by decide +kernel, by decide +kernel⟩
abbrev s_NoNet___init__ : Stmt := inClass (topS 3) 0
theorem sc_NoNet___init__ : ScopeS ["self", "reason", "place"] ["self", "reason", "place"] (defScope s_NoNet___init__) := ⟨rfl, rfl, rfl, by decide +kernel, rfl, by decide +kernel, by decide +kernel, by decide +kernel⟩
abbrev s_NoName___init__ : Stmt := inClass (topS 4) 0
theorem sc_NoName___init__ : ScopeS ["self", "name"] ["self", "name"] (defScope s_NoName___init__) := ⟨rfl, rfl, rfl, by decide +kernel, rfl, by decide +kernel, by decide +kernel, by decide +kernel⟩
abbrev s_NoStep___init__ : Stmt := inClass (topS 5) 0
theorem sc_NoStep___init__ : ScopeS ["self", "place"] ["self", "place"] (defScope s_NoStep___init__) := ⟨rfl, rfl, rfl, by decide +kernel, rfl, by decide +kernel, by decide +kernel, by decide +kernel⟩
abbrev s_NoDeed___init__ : Stmt := inClass (topS 6) 0
theorem sc_NoDeed___init__ : ScopeS ["self", "reason"] ["self", "reason"] (defScope s_NoDeed___init__) := ⟨rfl, rfl, rfl, by decide +kernel, rfl, by decide +kernel, by decide +kernel, by decide +kernel⟩
abbrev s_NoText___init__ : Stmt := inClass (topS 7) 0
theorem sc_NoText___init__ : ScopeS ["self", "row"] ["self", "row"] (defScope s_NoText___init__) := ⟨rfl, rfl, rfl, by decide +kernel, rfl, by decide +kernel, by decide +kernel, by decide +kernel⟩
abbrev s_NoRow___init__ : Stmt := inClass (topS 8) 0
theorem sc_NoRow___init__ : ScopeS ["self"] ["self"] (defScope s_NoRow___init__) := ⟨rfl, rfl, rfl, by decide +kernel, rfl, by decide +kernel, by decide +kernel, by decide +kernel⟩
abbrev s_is_integer : Stmt := topS 12
theorem sc_is_integer : FnScope ["value"] ["value"] (defScope s_is_integer) := ⟨rfl, rfl, rfl, by decide +kernel, rfl, by decide +kernel, by decide +kernel⟩
abbrev s_is_within : Stmt := topS 13
theorem sc_is_within : FnScope ["value", "least", "most"] ["value", "least", "most"] (defScope s_is_within) := ⟨rfl, rfl, rfl, by decide +kernel, rfl, by decide +kernel, by decide +kernel⟩
abbrev s_is_name : Stmt := topS 14
theorem sc_is_name : FnScope ["value", "letter"] ["value"] (defScope s_is_name) := ⟨rfl, rfl, rfl, by decide +kernel, rfl, by decide +kernel, by decide +kernel⟩
abbrev s_is_word : Stmt := topS 23
theorem sc_is_word : FnScope ["value", "words"] ["value", "words"] (defScope s_is_word) := ⟨rfl, rfl, rfl, by decide +kernel, rfl, by decide +kernel, by decide +kernel⟩
abbrev s_is_range : Stmt := topS 24
theorem sc_is_range : FnScope ["first", "last"] ["first", "last"] (defScope s_is_range) := ⟨rfl, rfl, rfl, by decide +kernel, rfl, by decide +kernel, by decide +kernel⟩
abbrev s_is_step : Stmt := topS 25
theorem sc_is_step : FnScope ["value"] ["value"] (defScope s_is_step) := ⟨rfl, rfl, rfl, by decide +kernel, rfl, by decide +kernel, by decide +kernel⟩
abbrev s_Agent___init__ : Stmt := inClass (topS 28) 2
theorem sc_Agent___init__ : FnScope ["self", "name", "steps", "k", "step"] ["self", "name", "steps"] (defScope s_Agent___init__) := ⟨rfl, rfl, rfl, by decide +kernel, rfl, by decide +kernel, by decide +kernel⟩
abbrev s_Agent_made : Stmt := inClass (topS 28) 3
theorem sc_Agent_made : FnScope ["cls", "name", "steps"] ["cls", "name", "steps"] (defScope s_Agent_made) := ⟨rfl, rfl, rfl, by decide +kernel, rfl, by decide +kernel, by decide +kernel⟩
abbrev s_Agent___len__ : Stmt := inClass (topS 28) 4
theorem sc_Agent___len__ : FnScope ["self"] ["self"] (defScope s_Agent___len__) := ⟨rfl, rfl, rfl, by decide +kernel, rfl, by decide +kernel, by decide +kernel⟩
abbrev s_Agent___getitem__ : Stmt := inClass (topS 28) 5
theorem sc_Agent___getitem__ : FnScope ["self", "number"] ["self", "number"] (defScope s_Agent___getitem__) := ⟨rfl, rfl, rfl, by decide +kernel, rfl, by decide +kernel, by decide +kernel⟩
abbrev s_Agent___iter__ : Stmt := inClass (topS 28) 6
theorem sc_Agent___iter__ : FnScope ["self"] ["self"] (defScope s_Agent___iter__) := ⟨rfl, rfl, rfl, by decide +kernel, rfl, by decide +kernel, by decide +kernel⟩
abbrev s_Agent___eq__ : Stmt := inClass (topS 28) 7
theorem sc_Agent___eq__ : FnScope ["self", "other"] ["self", "other"] (defScope s_Agent___eq__) := ⟨rfl, rfl, rfl, by decide +kernel, rfl, by decide +kernel, by decide +kernel⟩
abbrev s_Agent_may : Stmt := inClass (topS 28) 8
theorem sc_Agent_may : FnScope ["self", "word"] ["self", "word"] (defScope s_Agent_may) := ⟨rfl, rfl, rfl, by decide +kernel, rfl, by decide +kernel, by decide +kernel⟩
abbrev s_Agent_with_steps : Stmt := inClass (topS 28) 9
theorem sc_Agent_with_steps : FnScope ["self", "steps"] ["self", "steps"] (defScope s_Agent_with_steps) := ⟨rfl, rfl, rfl, by decide +kernel, rfl, by decide +kernel, by decide +kernel⟩
abbrev s_Through_made : Stmt := inClass (topS 29) 2
theorem sc_Through_made : FnScope ["cls", "name", "steps"] ["cls", "name", "steps"] (defScope s_Through_made) := ⟨rfl, rfl, rfl, by decide +kernel, rfl, by decide +kernel, by decide +kernel⟩
abbrev s_Through_may : Stmt := inClass (topS 29) 3
theorem sc_Through_may : ScopeS ["self", "word"] ["self", "word"] (defScope s_Through_may) := ⟨rfl, rfl, rfl, by decide +kernel, rfl, by decide +kernel, by decide +kernel, by decide +kernel⟩
abbrev s_Through_with_steps : Stmt := inClass (topS 29) 4
theorem sc_Through_with_steps : FnScope ["self", "steps"] ["self", "steps"] (defScope s_Through_with_steps) := ⟨rfl, rfl, rfl, by decide +kernel, rfl, by decide +kernel, by decide +kernel⟩
abbrev s_Back_made : Stmt := inClass (topS 30) 1
theorem sc_Back_made : FnScope ["cls", "name", "steps"] ["cls", "name", "steps"] (defScope s_Back_made) := ⟨rfl, rfl, rfl, by decide +kernel, rfl, by decide +kernel, by decide +kernel⟩
abbrev s_Back_may : Stmt := inClass (topS 30) 2
theorem sc_Back_may : ScopeS ["self", "word"] ["self", "word"] (defScope s_Back_may) := ⟨rfl, rfl, rfl, by decide +kernel, rfl, by decide +kernel, by decide +kernel, by decide +kernel⟩
abbrev s_Back_with_steps : Stmt := inClass (topS 30) 3
theorem sc_Back_with_steps : FnScope ["self", "steps"] ["self", "steps"] (defScope s_Back_with_steps) := ⟨rfl, rfl, rfl, by decide +kernel, rfl, by decide +kernel, by decide +kernel⟩
abbrev s__law_pen : Stmt := topS 32
theorem sc__law_pen : FnScope ["script"] ["script"] (defScope s__law_pen) := ⟨rfl, rfl, rfl, by decide +kernel, rfl, by decide +kernel, by decide +kernel⟩
abbrev s__law_draw : Stmt := topS 33
theorem sc__law_draw : FnScope ["pen", "many", "digit", "begun", "cell", "great", "mixed"] ["pen", "many"] (defScope s__law_draw) := ⟨rfl, rfl, rfl, by decide +kernel, rfl, by decide +kernel, by decide +kernel⟩
abbrev s__law_thing : Stmt := topS 34
theorem sc__law_thing : FnScope ["pen", "some"] ["pen"] (defScope s__law_thing) := ⟨rfl, rfl, rfl, by decide +kernel, rfl, by decide +kernel, by decide +kernel⟩
abbrev s__law_is_name : Stmt := topS 35
theorem sc__law_is_name : FnScope ["value", "letter"] ["value"] (defScope s__law_is_name) := ⟨rfl, rfl, rfl, by decide +kernel, rfl, by decide +kernel, by decide +kernel⟩
abbrev s__law_within : Stmt := topS 36
theorem sc__law_within : FnScope ["value", "least", "greatest"] ["value", "least", "greatest"] (defScope s__law_within) := ⟨rfl, rfl, rfl, by decide +kernel, rfl, by decide +kernel, by decide +kernel⟩
abbrev s__law_refusal : Stmt := topS 37
theorem sc__law_refusal : FnScope ["caught", "reason", "spot"] ["caught", "reason", "spot"] (defScope s__law_refusal) := ⟨rfl, rfl, rfl, by decide +kernel, rfl, by decide +kernel, by decide +kernel⟩
abbrev s__law_good_step : Stmt := topS 38
theorem sc__law_good_step : FnScope ["pen", "kind", "words", "word", "called", "first"] ["pen", "kind"] (defScope s__law_good_step) := ⟨rfl, rfl, rfl, by decide +kernel, rfl, by decide +kernel, by decide +kernel⟩
abbrev s__law_bent_step : Stmt := topS 39
theorem sc__law_bent_step : FnScope ["pen", "kind", "step", "choice", "some", "spot"] ["pen", "kind"] (defScope s__law_bent_step) := ⟨rfl, rfl, rfl, by decide +kernel, rfl, by decide +kernel, by decide +kernel⟩
abbrev s__law_is_step : Stmt := topS 40
theorem sc__law_is_step : FnScope ["value", "kind"] ["value", "kind"] (defScope s__law_is_step) := ⟨rfl, rfl, rfl, by decide +kernel, rfl, by decide +kernel, by decide +kernel⟩
abbrev s__law_direct : Stmt := topS 41
theorem sc__law_direct : FnScope ["kind", "called", "handed"] ["kind", "called", "handed"] (defScope s__law_direct) := ⟨rfl, rfl, rfl, by decide +kernel, rfl, by decide +kernel, by decide +kernel⟩
abbrev s__law_made : Stmt := topS 42
theorem sc__law_made : FnScope ["kind", "called", "handed"] ["kind", "called", "handed"] (defScope s__law_made) := ⟨rfl, rfl, rfl, by decide +kernel, rfl, by decide +kernel, by decide +kernel⟩
abbrev s__law_asked : Stmt := topS 43
theorem sc__law_asked : FnScope ["kind", "called", "handed", "direct", "found", "e"] ["kind", "called", "handed", "direct"] (defScope s__law_asked) := ⟨rfl, rfl, rfl, by decide +kernel, rfl, by decide +kernel, by decide +kernel⟩
abbrev s__law_again : Stmt := topS 44
theorem sc__law_again : FnScope ["kind", "handed", "found", "good", "e"] ["kind", "handed"] (defScope s__law_again) := ⟨rfl, rfl, rfl, by decide +kernel, rfl, by decide +kernel, by decide +kernel⟩
abbrev s__law_no_steps : Stmt := topS 45
theorem sc__law_no_steps : FnScope ["kind", "found", "e"] ["kind"] (defScope s__law_no_steps) := ⟨rfl, rfl, rfl, by decide +kernel, rfl, by decide +kernel, by decide +kernel⟩
abbrev s__law_right : Stmt := topS 46
theorem sc__law_right : FnScope ["found", "kind", "called", "handed", "k"] ["found", "kind", "called", "handed"] (defScope s__law_right) := ⟨rfl, rfl, rfl, by decide +kernel, rfl, by decide +kernel, by decide +kernel⟩
abbrev s__law_round : Stmt := topS 47
theorem sc__law_round : FnScope ["pen", "kind", "handed", "k", "size_choice", "called", "kept", "found"] ["pen"] (defScope s__law_round) := ⟨rfl, rfl, rfl, by decide +kernel, rfl, by decide +kernel, by decide +kernel⟩
abbrev s_law : Stmt := topS 48
theorem sc_law : FnScope ["script", "pen", "k"] ["script"] (defScope s_law) := ⟨rfl, rfl, rfl, by decide +kernel, rfl, by decide +kernel, by decide +kernel⟩
section
variable {mg : PySem.Str → Option Value} {base : Heap} {w : World}
theorem mg_UnkeptError (M : Mod (hd04.heap_39 w.params) mg base) : mg "UnkeptError" = some (.ref 24) := PySem.W.mg_of M.kin M.glob (by k_is)
theorem kp_UnkeptError (w : World) : PySem.W.keepIn (hd04.heap_39 w.params) (.ref 24) = true := by k_is
theorem mg_NoPart (M : Mod (hd04.heap_39 w.params) mg base) : mg "NoPart" = some (.ref 46) := PySem.W.mg_of M.kin M.glob (by k_is)
theorem kp_NoPart (w : World) : PySem.W.keepIn (hd04.heap_39 w.params) (.ref 46) = true := by k_is
theorem mg_NoNet (M : Mod (hd04.heap_39 w.params) mg base) : mg "NoNet" = some (.ref 67) := PySem.W.mg_of M.kin M.glob (by k_is)
theorem kp_NoNet (w : World) : PySem.W.keepIn (hd04.heap_39 w.params) (.ref 67) = true := by k_is
theorem mg_NoName (M : Mod (hd04.heap_39 w.params) mg base) : mg "NoName" = some (.ref 88) := PySem.W.mg_of M.kin M.glob (by k_is)
theorem kp_NoName (w : World) : PySem.W.keepIn (hd04.heap_39 w.params) (.ref 88) = true := by k_is
theorem mg_NoStep (M : Mod (hd04.heap_39 w.params) mg base) : mg "NoStep" = some (.ref 109) := PySem.W.mg_of M.kin M.glob (by k_is)
theorem kp_NoStep (w : World) : PySem.W.keepIn (hd04.heap_39 w.params) (.ref 109) = true := by k_is
theorem mg_NoDeed (M : Mod (hd04.heap_39 w.params) mg base) : mg "NoDeed" = some (.ref 130) := PySem.W.mg_of M.kin M.glob (by k_is)
theorem kp_NoDeed (w : World) : PySem.W.keepIn (hd04.heap_39 w.params) (.ref 130) = true := by k_is
theorem mg_NoText (M : Mod (hd04.heap_39 w.params) mg base) : mg "NoText" = some (.ref 151) := PySem.W.mg_of M.kin M.glob (by k_is)
theorem kp_NoText (w : World) : PySem.W.keepIn (hd04.heap_39 w.params) (.ref 151) = true := by k_is
theorem mg_NoRow (M : Mod (hd04.heap_39 w.params) mg base) : mg "NoRow" = some (.ref 172) := PySem.W.mg_of M.kin M.glob (by k_is)
theorem kp_NoRow (w : World) : PySem.W.keepIn (hd04.heap_39 w.params) (.ref 172) = true := by k_is
theorem mg_Agent (M : Mod (hd04.heap_39 w.params) mg base) : mg "Agent" = some (.ref 288) := PySem.W.mg_of M.kin M.glob (by k_is)
theorem kp_Agent (w : World) : PySem.W.keepIn (hd04.heap_39 w.params) (.ref 288) = true := by k_is
theorem mg_Through (M : Mod (hd04.heap_39 w.params) mg base) : mg "Through" = some (.ref 328) := PySem.W.mg_of M.kin M.glob (by k_is)
theorem kp_Through (w : World) : PySem.W.keepIn (hd04.heap_39 w.params) (.ref 328) = true := by k_is
theorem mg_Back (M : Mod (hd04.heap_39 w.params) mg base) : mg "Back" = some (.ref 366) := PySem.W.mg_of M.kin M.glob (by k_is)
theorem kp_Back (w : World) : PySem.W.keepIn (hd04.heap_39 w.params) (.ref 366) = true := by k_is
theorem mg_is_integer (M : Mod (hd04.heap_39 w.params) mg base) : mg "is_integer" = some (.ref 181) := PySem.W.mg_of M.kin M.glob (by k_is)
theorem kp_is_integer (w : World) : PySem.W.keepIn (hd04.heap_39 w.params) (.ref 181) = true := by k_is
theorem fn_is_integer (w : World) : ∃ fd, Fun (hd04.heap_39 w.params) "is_integer" "is_integer" s_is_integer 181 fd := ⟨_, fun_mk (by k_is) (by k_is) (by k_is)⟩
theorem mg_is_within (M : Mod (hd04.heap_39 w.params) mg base) : mg "is_within" = some (.ref 188) := PySem.W.mg_of M.kin M.glob (by k_is)
theorem kp_is_within (w : World) : PySem.W.keepIn (hd04.heap_39 w.params) (.ref 188) = true := by k_is
theorem fn_is_within (w : World) : ∃ fd, Fun (hd04.heap_39 w.params) "is_within" "is_within" s_is_within 188 fd := ⟨_, fun_mk (by k_is) (by k_is) (by k_is)⟩
theorem mg_is_name (M : Mod (hd04.heap_39 w.params) mg base) : mg "is_name" = some (.ref 193) := PySem.W.mg_of M.kin M.glob (by k_is)
theorem kp_is_name (w : World) : PySem.W.keepIn (hd04.heap_39 w.params) (.ref 193) = true := by k_is
theorem fn_is_name (w : World) : ∃ fd, Fun (hd04.heap_39 w.params) "is_name" "is_name" s_is_name 193 fd := ⟨_, fun_mk (by k_is) (by k_is) (by k_is)⟩
theorem mg_is_word (M : Mod (hd04.heap_39 w.params) mg base) : mg "is_word" = some (.ref 205) := PySem.W.mg_of M.kin M.glob (by k_is)
theorem kp_is_word (w : World) : PySem.W.keepIn (hd04.heap_39 w.params) (.ref 205) = true := by k_is
theorem fn_is_word (w : World) : ∃ fd, Fun (hd04.heap_39 w.params) "is_word" "is_word" s_is_word 205 fd := ⟨_, fun_mk (by k_is) (by k_is) (by k_is)⟩
theorem mg_is_range (M : Mod (hd04.heap_39 w.params) mg base) : mg "is_range" = some (.ref 212) := PySem.W.mg_of M.kin M.glob (by k_is)
theorem kp_is_range (w : World) : PySem.W.keepIn (hd04.heap_39 w.params) (.ref 212) = true := by k_is
theorem fn_is_range (w : World) : ∃ fd, Fun (hd04.heap_39 w.params) "is_range" "is_range" s_is_range 212 fd := ⟨_, fun_mk (by k_is) (by k_is) (by k_is)⟩
theorem mg_is_step (M : Mod (hd04.heap_39 w.params) mg base) : mg "is_step" = some (.ref 219) := PySem.W.mg_of M.kin M.glob (by k_is)
theorem kp_is_step (w : World) : PySem.W.keepIn (hd04.heap_39 w.params) (.ref 219) = true := by k_is
theorem fn_is_step (w : World) : ∃ fd, Fun (hd04.heap_39 w.params) "is_step" "is_step" s_is_step 219 fd := ⟨_, fun_mk (by k_is) (by k_is) (by k_is)⟩
theorem mg__law_pen (M : Mod (hd04.heap_39 w.params) mg base) : mg "_law_pen" = some (.ref 375) := PySem.W.mg_of M.kin M.glob (by k_is)
theorem kp__law_pen (w : World) : PySem.W.keepIn (hd04.heap_39 w.params) (.ref 375) = true := by k_is
theorem fn__law_pen (w : World) : ∃ fd, Fun (hd04.heap_39 w.params) "_law_pen" "_law_pen" s__law_pen 375 fd := ⟨_, fun_mk (by k_is) (by k_is) (by k_is)⟩
theorem mg__law_draw (M : Mod (hd04.heap_39 w.params) mg base) : mg "_law_draw" = some (.ref 382) := PySem.W.mg_of M.kin M.glob (by k_is)
theorem kp__law_draw (w : World) : PySem.W.keepIn (hd04.heap_39 w.params) (.ref 382) = true := by k_is
theorem fn__law_draw (w : World) : ∃ fd, Fun (hd04.heap_39 w.params) "_law_draw" "_law_draw" s__law_draw 382 fd := ⟨_, fun_mk (by k_is) (by k_is) (by k_is)⟩
theorem mg__law_thing (M : Mod (hd04.heap_39 w.params) mg base) : mg "_law_thing" = some (.ref 389) := PySem.W.mg_of M.kin M.glob (by k_is)
theorem kp__law_thing (w : World) : PySem.W.keepIn (hd04.heap_39 w.params) (.ref 389) = true := by k_is
theorem fn__law_thing (w : World) : ∃ fd, Fun (hd04.heap_39 w.params) "_law_thing" "_law_thing" s__law_thing 389 fd := ⟨_, fun_mk (by k_is) (by k_is) (by k_is)⟩
theorem mg__law_is_name (M : Mod (hd04.heap_39 w.params) mg base) : mg "_law_is_name" = some (.ref 394) := PySem.W.mg_of M.kin M.glob (by k_is)
theorem kp__law_is_name (w : World) : PySem.W.keepIn (hd04.heap_39 w.params) (.ref 394) = true := by k_is
theorem fn__law_is_name (w : World) : ∃ fd, Fun (hd04.heap_39 w.params) "_law_is_name" "_law_is_name" s__law_is_name 394 fd := ⟨_, fun_mk (by k_is) (by k_is) (by k_is)⟩
theorem mg__law_within (M : Mod (hd04.heap_39 w.params) mg base) : mg "_law_within" = some (.ref 401) := PySem.W.mg_of M.kin M.glob (by k_is)
theorem kp__law_within (w : World) : PySem.W.keepIn (hd04.heap_39 w.params) (.ref 401) = true := by k_is
theorem fn__law_within (w : World) : ∃ fd, Fun (hd04.heap_39 w.params) "_law_within" "_law_within" s__law_within 401 fd := ⟨_, fun_mk (by k_is) (by k_is) (by k_is)⟩
theorem mg__law_refusal (M : Mod (hd04.heap_39 w.params) mg base) : mg "_law_refusal" = some (.ref 408) := PySem.W.mg_of M.kin M.glob (by k_is)
theorem kp__law_refusal (w : World) : PySem.W.keepIn (hd04.heap_39 w.params) (.ref 408) = true := by k_is
theorem fn__law_refusal (w : World) : ∃ fd, Fun (hd04.heap_39 w.params) "_law_refusal" "_law_refusal" s__law_refusal 408 fd := ⟨_, fun_mk (by k_is) (by k_is) (by k_is)⟩
theorem mg__law_good_step (M : Mod (hd04.heap_39 w.params) mg base) : mg "_law_good_step" = some (.ref 415) := PySem.W.mg_of M.kin M.glob (by k_is)
theorem kp__law_good_step (w : World) : PySem.W.keepIn (hd04.heap_39 w.params) (.ref 415) = true := by k_is
theorem fn__law_good_step (w : World) : ∃ fd, Fun (hd04.heap_39 w.params) "_law_good_step" "_law_good_step" s__law_good_step 415 fd := ⟨_, fun_mk (by k_is) (by k_is) (by k_is)⟩
theorem mg__law_bent_step (M : Mod (hd04.heap_39 w.params) mg base) : mg "_law_bent_step" = some (.ref 422) := PySem.W.mg_of M.kin M.glob (by k_is)
theorem kp__law_bent_step (w : World) : PySem.W.keepIn (hd04.heap_39 w.params) (.ref 422) = true := by k_is
theorem fn__law_bent_step (w : World) : ∃ fd, Fun (hd04.heap_39 w.params) "_law_bent_step" "_law_bent_step" s__law_bent_step 422 fd := ⟨_, fun_mk (by k_is) (by k_is) (by k_is)⟩
theorem mg__law_is_step (M : Mod (hd04.heap_39 w.params) mg base) : mg "_law_is_step" = some (.ref 429) := PySem.W.mg_of M.kin M.glob (by k_is)
theorem kp__law_is_step (w : World) : PySem.W.keepIn (hd04.heap_39 w.params) (.ref 429) = true := by k_is
theorem fn__law_is_step (w : World) : ∃ fd, Fun (hd04.heap_39 w.params) "_law_is_step" "_law_is_step" s__law_is_step 429 fd := ⟨_, fun_mk (by k_is) (by k_is) (by k_is)⟩
theorem mg__law_direct (M : Mod (hd04.heap_39 w.params) mg base) : mg "_law_direct" = some (.ref 436) := PySem.W.mg_of M.kin M.glob (by k_is)
theorem kp__law_direct (w : World) : PySem.W.keepIn (hd04.heap_39 w.params) (.ref 436) = true := by k_is
theorem fn__law_direct (w : World) : ∃ fd, Fun (hd04.heap_39 w.params) "_law_direct" "_law_direct" s__law_direct 436 fd := ⟨_, fun_mk (by k_is) (by k_is) (by k_is)⟩
theorem mg__law_made (M : Mod (hd04.heap_39 w.params) mg base) : mg "_law_made" = some (.ref 443) := PySem.W.mg_of M.kin M.glob (by k_is)
theorem kp__law_made (w : World) : PySem.W.keepIn (hd04.heap_39 w.params) (.ref 443) = true := by k_is
theorem fn__law_made (w : World) : ∃ fd, Fun (hd04.heap_39 w.params) "_law_made" "_law_made" s__law_made 443 fd := ⟨_, fun_mk (by k_is) (by k_is) (by k_is)⟩
theorem mg__law_asked (M : Mod (hd04.heap_39 w.params) mg base) : mg "_law_asked" = some (.ref 450) := PySem.W.mg_of M.kin M.glob (by k_is)
theorem kp__law_asked (w : World) : PySem.W.keepIn (hd04.heap_39 w.params) (.ref 450) = true := by k_is
theorem fn__law_asked (w : World) : ∃ fd, Fun (hd04.heap_39 w.params) "_law_asked" "_law_asked" s__law_asked 450 fd := ⟨_, fun_mk (by k_is) (by k_is) (by k_is)⟩
theorem mg__law_again (M : Mod (hd04.heap_39 w.params) mg base) : mg "_law_again" = some (.ref 457) := PySem.W.mg_of M.kin M.glob (by k_is)
theorem kp__law_again (w : World) : PySem.W.keepIn (hd04.heap_39 w.params) (.ref 457) = true := by k_is
theorem fn__law_again (w : World) : ∃ fd, Fun (hd04.heap_39 w.params) "_law_again" "_law_again" s__law_again 457 fd := ⟨_, fun_mk (by k_is) (by k_is) (by k_is)⟩
theorem mg__law_no_steps (M : Mod (hd04.heap_39 w.params) mg base) : mg "_law_no_steps" = some (.ref 464) := PySem.W.mg_of M.kin M.glob (by k_is)
theorem kp__law_no_steps (w : World) : PySem.W.keepIn (hd04.heap_39 w.params) (.ref 464) = true := by k_is
theorem fn__law_no_steps (w : World) : ∃ fd, Fun (hd04.heap_39 w.params) "_law_no_steps" "_law_no_steps" s__law_no_steps 464 fd := ⟨_, fun_mk (by k_is) (by k_is) (by k_is)⟩
theorem mg__law_right (M : Mod (hd04.heap_39 w.params) mg base) : mg "_law_right" = some (.ref 471) := PySem.W.mg_of M.kin M.glob (by k_is)
theorem kp__law_right (w : World) : PySem.W.keepIn (hd04.heap_39 w.params) (.ref 471) = true := by k_is
theorem fn__law_right (w : World) : ∃ fd, Fun (hd04.heap_39 w.params) "_law_right" "_law_right" s__law_right 471 fd := ⟨_, fun_mk (by k_is) (by k_is) (by k_is)⟩
theorem mg__law_round (M : Mod (hd04.heap_39 w.params) mg base) : mg "_law_round" = some (.ref 476) := PySem.W.mg_of M.kin M.glob (by k_is)
theorem kp__law_round (w : World) : PySem.W.keepIn (hd04.heap_39 w.params) (.ref 476) = true := by k_is
theorem fn__law_round (w : World) : ∃ fd, Fun (hd04.heap_39 w.params) "_law_round" "_law_round" s__law_round 476 fd := ⟨_, fun_mk (by k_is) (by k_is) (by k_is)⟩
theorem mg_law (M : Mod (hd04.heap_39 w.params) mg base) : mg "law" = some (.ref 481) := PySem.W.mg_of M.kin M.glob (by k_is)
theorem kp_law (w : World) : PySem.W.keepIn (hd04.heap_39 w.params) (.ref 481) = true := by k_is
theorem fn_law (w : World) : ∃ fd, Fun (hd04.heap_39 w.params) "law" "law" s_law 481 fd := ⟨_, fun_mk (by k_is) (by k_is) (by k_is)⟩
theorem fn_NoPart___init__ (w : World) : FunS (hd04.heap_39 w.params) "__init__" "NoPart.__init__" s_NoPart___init__ 43 31 42 46 := ⟨⟨_, _, _, _, _, _, _, _, by k_is, by k_is⟩, ⟨_, _, _, by k_is⟩, by k_is⟩
theorem sup_NoPart___init__ (w : World) : SupF PP (hd04.heap_39 w.params) 42 46 := ⟨⟨_, _, _, _, _, _, by k_is, by rfl, by decide +kernel⟩, ⟨_, by k_is⟩, by k_is, by decide +kernel, by k_is⟩
theorem fn_NoNet___init__ (w : World) : FunS (hd04.heap_39 w.params) "__init__" "NoNet.__init__" s_NoNet___init__ 64 52 63 67 := ⟨⟨_, _, _, _, _, _, _, _, by k_is, by k_is⟩, ⟨_, _, _, by k_is⟩, by k_is⟩
theorem sup_NoNet___init__ (w : World) : SupF PP (hd04.heap_39 w.params) 63 67 := ⟨⟨_, _, _, _, _, _, by k_is, by rfl, by decide +kernel⟩, ⟨_, by k_is⟩, by k_is, by decide +kernel, by k_is⟩
theorem fn_NoName___init__ (w : World) : FunS (hd04.heap_39 w.params) "__init__" "NoName.__init__" s_NoName___init__ 85 73 84 88 := ⟨⟨_, _, _, _, _, _, _, _, by k_is, by k_is⟩, ⟨_, _, _, by k_is⟩, by k_is⟩
theorem sup_NoName___init__ (w : World) : SupF PP (hd04.heap_39 w.params) 84 88 := ⟨⟨_, _, _, _, _, _, by k_is, by rfl, by decide +kernel⟩, ⟨_, by k_is⟩, by k_is, by decide +kernel, by k_is⟩
theorem fn_NoStep___init__ (w : World) : FunS (hd04.heap_39 w.params) "__init__" "NoStep.__init__" s_NoStep___init__ 106 94 105 109 := ⟨⟨_, _, _, _, _, _, _, _, by k_is, by k_is⟩, ⟨_, _, _, by k_is⟩, by k_is⟩
theorem sup_NoStep___init__ (w : World) : SupF PP (hd04.heap_39 w.params) 105 109 := ⟨⟨_, _, _, _, _, _, by k_is, by rfl, by decide +kernel⟩, ⟨_, by k_is⟩, by k_is, by decide +kernel, by k_is⟩
theorem fn_NoDeed___init__ (w : World) : FunS (hd04.heap_39 w.params) "__init__" "NoDeed.__init__" s_NoDeed___init__ 127 115 126 130 := ⟨⟨_, _, _, _, _, _, _, _, by k_is, by k_is⟩, ⟨_, _, _, by k_is⟩, by k_is⟩
theorem sup_NoDeed___init__ (w : World) : SupF PP (hd04.heap_39 w.params) 126 130 := ⟨⟨_, _, _, _, _, _, by k_is, by rfl, by decide +kernel⟩, ⟨_, by k_is⟩, by k_is, by decide +kernel, by k_is⟩
theorem fn_NoText___init__ (w : World) : FunS (hd04.heap_39 w.params) "__init__" "NoText.__init__" s_NoText___init__ 148 136 147 151 := ⟨⟨_, _, _, _, _, _, _, _, by k_is, by k_is⟩, ⟨_, _, _, by k_is⟩, by k_is⟩
theorem sup_NoText___init__ (w : World) : SupF PP (hd04.heap_39 w.params) 147 151 := ⟨⟨_, _, _, _, _, _, by k_is, by rfl, by decide +kernel⟩, ⟨_, by k_is⟩, by k_is, by decide +kernel, by k_is⟩
theorem fn_NoRow___init__ (w : World) : FunS (hd04.heap_39 w.params) "__init__" "NoRow.__init__" s_NoRow___init__ 169 157 168 172 := ⟨⟨_, _, _, _, _, _, _, _, by k_is, by k_is⟩, ⟨_, _, _, by k_is⟩, by k_is⟩
theorem sup_NoRow___init__ (w : World) : SupF PP (hd04.heap_39 w.params) 168 172 := ⟨⟨_, _, _, _, _, _, by k_is, by rfl, by decide +kernel⟩, ⟨_, by k_is⟩, by k_is, by decide +kernel, by k_is⟩
theorem fn_Agent___init__ (w : World) : ∃ fd, Fun (hd04.heap_39 w.params) "__init__" "Agent.__init__" s_Agent___init__ 233 fd := ⟨_, fun_mk (by k_is) (by k_is) (by k_is)⟩
theorem fn_Agent___len__ (w : World) : ∃ fd, Fun (hd04.heap_39 w.params) "__len__" "Agent.__len__" s_Agent___len__ 250 fd := ⟨_, fun_mk (by k_is) (by k_is) (by k_is)⟩
theorem fn_Agent___getitem__ (w : World) : ∃ fd, Fun (hd04.heap_39 w.params) "__getitem__" "Agent.__getitem__" s_Agent___getitem__ 257 fd := ⟨_, fun_mk (by k_is) (by k_is) (by k_is)⟩
theorem fn_Agent___iter__ (w : World) : ∃ fd, Fun (hd04.heap_39 w.params) "__iter__" "Agent.__iter__" s_Agent___iter__ 264 fd := ⟨_, fun_mk (by k_is) (by k_is) (by k_is)⟩
theorem fn_Agent___eq__ (w : World) : ∃ fd, Fun (hd04.heap_39 w.params) "__eq__" "Agent.__eq__" s_Agent___eq__ 271 fd := ⟨_, fun_mk (by k_is) (by k_is) (by k_is)⟩
theorem fn_Agent_may (w : World) : ∃ fd, Fun (hd04.heap_39 w.params) "may" "Agent.may" s_Agent_may 278 fd := ⟨_, fun_mk (by k_is) (by k_is) (by k_is)⟩
theorem fn_Agent_with_steps (w : World) : ∃ fd, Fun (hd04.heap_39 w.params) "with_steps" "Agent.with_steps" s_Agent_with_steps 285 fd := ⟨_, fun_mk (by k_is) (by k_is) (by k_is)⟩
theorem fn_Through_may (w : World) : FunS (hd04.heap_39 w.params) "may" "Through.may" s_Through_may 318 296 317 328 := ⟨⟨_, _, _, _, _, _, _, _, by k_is, by k_is⟩, ⟨_, _, _, by k_is⟩, by k_is⟩
theorem sup_Through_may (w : World) : SupF PP (hd04.heap_39 w.params) 317 328 := ⟨⟨_, _, _, _, _, _, by k_is, by rfl, by decide +kernel⟩, ⟨_, by k_is⟩, by k_is, by decide +kernel, by k_is⟩
theorem fn_Through_with_steps (w : World) : ∃ fd, Fun (hd04.heap_39 w.params) "with_steps" "Through.with_steps" s_Through_with_steps 325 fd := ⟨_, fun_mk (by k_is) (by k_is) (by k_is)⟩
theorem fn_Back_may (w : World) : FunS (hd04.heap_39 w.params) "may" "Back.may" s_Back_may 356 334 355 366 := ⟨⟨_, _, _, _, _, _, _, _, by k_is, by k_is⟩, ⟨_, _, _, by k_is⟩, by k_is⟩
theorem sup_Back_may (w : World) : SupF PP (hd04.heap_39 w.params) 355 366 := ⟨⟨_, _, _, _, _, _, by k_is, by rfl, by decide +kernel⟩, ⟨_, by k_is⟩, by k_is, by decide +kernel, by k_is⟩
theorem fn_Back_with_steps (w : World) : ∃ fd, Fun (hd04.heap_39 w.params) "with_steps" "Back.with_steps" s_Back_with_steps 363 fd := ⟨_, fun_mk (by k_is) (by k_is) (by k_is)⟩
theorem oex_UnkeptError (w : World) : OexC (hd04.heap_39 w.params) 24 := ⟨⟨_, _, _, _, _, _, _, _, _, _, _, _, _, _, _, by k_is, by decide +kernel⟩, by k_is, by k_is, by k_is, by k_is⟩
theorem exc_UnkeptError (w : World) : ExcC (hd04.heap_39 w.params) 24 := ⟨by k_is, by k_is, by k_is, by k_is, by k_is, by k_is, by k_is, by k_is⟩
theorem xf_UnkeptError (w : World) : XfC (hd04.heap_39 w.params) 24 := ⟨by k_is, by k_is, by k_is, by k_is⟩
theorem oex_NoPart (w : World) : OexC (hd04.heap_39 w.params) 46 := ⟨⟨_, _, _, _, _, _, _, _, _, _, _, _, _, _, _, by k_is, by decide +kernel⟩, by k_is, by k_is, by k_is, by k_is⟩
theorem exc_NoPart (w : World) : ExcC (hd04.heap_39 w.params) 46 := ⟨by k_is, by k_is, by k_is, by k_is, by k_is, by k_is, by k_is, by k_is⟩
theorem xf_NoPart (w : World) : XfC (hd04.heap_39 w.params) 46 := ⟨by k_is, by k_is, by k_is, by k_is⟩
theorem mke_NoPart (w : World) : MkE (hd04.heap_39 w.params) 46 43 := ⟨oex_NoPart w, by k_is, by k_is, exc_NoPart w⟩
theorem supe_NoPart (w : World) : SupE (hd04.heap_39 w.params) 46 46 := ⟨oex_NoPart w, ⟨_, by k_is⟩, by k_is, by ks_is, by k_is⟩
theorem nf_NoPart_reason (w : World) : PySem.W.findIn (hd04.heap_39 w.params) (.ref 46) "reason" = some none := by k_is
theorem nf_NoPart_place (w : World) : PySem.W.findIn (hd04.heap_39 w.params) (.ref 46) "place" = some none := by k_is
theorem oex_NoNet (w : World) : OexC (hd04.heap_39 w.params) 67 := ⟨⟨_, _, _, _, _, _, _, _, _, _, _, _, _, _, _, by k_is, by decide +kernel⟩, by k_is, by k_is, by k_is, by k_is⟩
theorem exc_NoNet (w : World) : ExcC (hd04.heap_39 w.params) 67 := ⟨by k_is, by k_is, by k_is, by k_is, by k_is, by k_is, by k_is, by k_is⟩
theorem xf_NoNet (w : World) : XfC (hd04.heap_39 w.params) 67 := ⟨by k_is, by k_is, by k_is, by k_is⟩
theorem mke_NoNet (w : World) : MkE (hd04.heap_39 w.params) 67 64 := ⟨oex_NoNet w, by k_is, by k_is, exc_NoNet w⟩
theorem supe_NoNet (w : World) : SupE (hd04.heap_39 w.params) 67 67 := ⟨oex_NoNet w, ⟨_, by k_is⟩, by k_is, by ks_is, by k_is⟩
theorem nf_NoNet_reason (w : World) : PySem.W.findIn (hd04.heap_39 w.params) (.ref 67) "reason" = some none := by k_is
theorem nf_NoNet_place (w : World) : PySem.W.findIn (hd04.heap_39 w.params) (.ref 67) "place" = some none := by k_is
theorem oex_NoName (w : World) : OexC (hd04.heap_39 w.params) 88 := ⟨⟨_, _, _, _, _, _, _, _, _, _, _, _, _, _, _, by k_is, by decide +kernel⟩, by k_is, by k_is, by k_is, by k_is⟩
theorem exc_NoName (w : World) : ExcC (hd04.heap_39 w.params) 88 := ⟨by k_is, by k_is, by k_is, by k_is, by k_is, by k_is, by k_is, by k_is⟩
theorem xf_NoName (w : World) : XfC (hd04.heap_39 w.params) 88 := ⟨by k_is, by k_is, by k_is, by k_is⟩
theorem mke_NoName (w : World) : MkE (hd04.heap_39 w.params) 88 85 := ⟨oex_NoName w, by k_is, by k_is, exc_NoName w⟩
theorem supe_NoName (w : World) : SupE (hd04.heap_39 w.params) 88 88 := ⟨oex_NoName w, ⟨_, by k_is⟩, by k_is, by ks_is, by k_is⟩
theorem nf_NoName_name (w : World) : PySem.W.findIn (hd04.heap_39 w.params) (.ref 88) "name" = some none := by k_is
theorem oex_NoStep (w : World) : OexC (hd04.heap_39 w.params) 109 := ⟨⟨_, _, _, _, _, _, _, _, _, _, _, _, _, _, _, by k_is, by decide +kernel⟩, by k_is, by k_is, by k_is, by k_is⟩
theorem exc_NoStep (w : World) : ExcC (hd04.heap_39 w.params) 109 := ⟨by k_is, by k_is, by k_is, by k_is, by k_is, by k_is, by k_is, by k_is⟩
theorem xf_NoStep (w : World) : XfC (hd04.heap_39 w.params) 109 := ⟨by k_is, by k_is, by k_is, by k_is⟩
theorem mke_NoStep (w : World) : MkE (hd04.heap_39 w.params) 109 106 := ⟨oex_NoStep w, by k_is, by k_is, exc_NoStep w⟩
theorem supe_NoStep (w : World) : SupE (hd04.heap_39 w.params) 109 109 := ⟨oex_NoStep w, ⟨_, by k_is⟩, by k_is, by ks_is, by k_is⟩
theorem nf_NoStep_place (w : World) : PySem.W.findIn (hd04.heap_39 w.params) (.ref 109) "place" = some none := by k_is
theorem oex_NoDeed (w : World) : OexC (hd04.heap_39 w.params) 130 := ⟨⟨_, _, _, _, _, _, _, _, _, _, _, _, _, _, _, by k_is, by decide +kernel⟩, by k_is, by k_is, by k_is, by k_is⟩
theorem exc_NoDeed (w : World) : ExcC (hd04.heap_39 w.params) 130 := ⟨by k_is, by k_is, by k_is, by k_is, by k_is, by k_is, by k_is, by k_is⟩
theorem xf_NoDeed (w : World) : XfC (hd04.heap_39 w.params) 130 := ⟨by k_is, by k_is, by k_is, by k_is⟩
theorem mke_NoDeed (w : World) : MkE (hd04.heap_39 w.params) 130 127 := ⟨oex_NoDeed w, by k_is, by k_is, exc_NoDeed w⟩
theorem supe_NoDeed (w : World) : SupE (hd04.heap_39 w.params) 130 130 := ⟨oex_NoDeed w, ⟨_, by k_is⟩, by k_is, by ks_is, by k_is⟩
theorem nf_NoDeed_reason (w : World) : PySem.W.findIn (hd04.heap_39 w.params) (.ref 130) "reason" = some none := by k_is
theorem oex_NoText (w : World) : OexC (hd04.heap_39 w.params) 151 := ⟨⟨_, _, _, _, _, _, _, _, _, _, _, _, _, _, _, by k_is, by decide +kernel⟩, by k_is, by k_is, by k_is, by k_is⟩
theorem exc_NoText (w : World) : ExcC (hd04.heap_39 w.params) 151 := ⟨by k_is, by k_is, by k_is, by k_is, by k_is, by k_is, by k_is, by k_is⟩
theorem xf_NoText (w : World) : XfC (hd04.heap_39 w.params) 151 := ⟨by k_is, by k_is, by k_is, by k_is⟩
theorem mke_NoText (w : World) : MkE (hd04.heap_39 w.params) 151 148 := ⟨oex_NoText w, by k_is, by k_is, exc_NoText w⟩
theorem supe_NoText (w : World) : SupE (hd04.heap_39 w.params) 151 151 := ⟨oex_NoText w, ⟨_, by k_is⟩, by k_is, by ks_is, by k_is⟩
theorem nf_NoText_row (w : World) : PySem.W.findIn (hd04.heap_39 w.params) (.ref 151) "row" = some none := by k_is
theorem oex_NoRow (w : World) : OexC (hd04.heap_39 w.params) 172 := ⟨⟨_, _, _, _, _, _, _, _, _, _, _, _, _, _, _, by k_is, by decide +kernel⟩, by k_is, by k_is, by k_is, by k_is⟩
theorem exc_NoRow (w : World) : ExcC (hd04.heap_39 w.params) 172 := ⟨by k_is, by k_is, by k_is, by k_is, by k_is, by k_is, by k_is, by k_is⟩
theorem xf_NoRow (w : World) : XfC (hd04.heap_39 w.params) 172 := ⟨by k_is, by k_is, by k_is, by k_is⟩
theorem mke_NoRow (w : World) : MkE (hd04.heap_39 w.params) 172 169 := ⟨oex_NoRow w, by k_is, by k_is, exc_NoRow w⟩
theorem supe_NoRow (w : World) : SupE (hd04.heap_39 w.params) 172 172 := ⟨oex_NoRow w, ⟨_, by k_is⟩, by k_is, by ks_is, by k_is⟩
theorem cls_Agent (w : World) : Cls (hd04.heap_39 w.params) 288 := ⟨by k_is, by k_is, by k_is, by k_is⟩
theorem tyc_Agent (w : World) : TyC (hd04.heap_39 w.params) 288 := ⟨cls_Agent w, by k_is, by k_is, by k_is, by k_is⟩
theorem mk_Agent (w : World) : Mk (hd04.heap_39 w.params) 288 233 := ⟨by k_is, by k_is, by k_is, by k_is⟩
theorem na_Agent_name (w : World) : NoAttr (hd04.heap_39 w.params) 288 "name" := by show PySem.W.findIn _ _ _ = _; k_is
theorem na_Agent_steps (w : World) : NoAttr (hd04.heap_39 w.params) 288 "steps" := by show PySem.W.findIn _ _ _ = _; k_is
theorem na_Agent_shape (w : World) : NoAttr (hd04.heap_39 w.params) 288 "shape" := by show PySem.W.findIn _ _ _ = _; k_is
theorem fi_Agent_len (w : World) : PySem.W.fnIn (hd04.heap_39 w.params) 250 = true := by k_is
theorem own_Agent_len (w : World) : Own (hd04.heap_39 w.params) 288 "__len__" 250 := ⟨by k_is, by k_is⟩
theorem fi_Agent_getitem (w : World) : PySem.W.fnIn (hd04.heap_39 w.params) 257 = true := by k_is
theorem own_Agent_getitem (w : World) : Own (hd04.heap_39 w.params) 288 "__getitem__" 257 := ⟨by k_is, by k_is⟩
theorem own_Agent_eq (w : World) : Own (hd04.heap_39 w.params) 288 "__eq__" 271 := ⟨by k_is, by k_is⟩
theorem own_Agent_ne (w : World) : OwnNe (hd04.heap_39 w.params) 288 271 := ⟨own_Agent_eq w, by k_is, by k_is⟩
theorem me_Agent_may (w : World) : Meth (hd04.heap_39 w.params) 288 "may" 278 := ⟨by k_is, by k_is, by k_is⟩
theorem me_Agent_with_steps (w : World) : Meth (hd04.heap_39 w.params) 288 "with_steps" 285 := ⟨by k_is, by k_is, by k_is⟩
theorem cls_Through (w : World) : Cls (hd04.heap_39 w.params) 328 := ⟨by k_is, by k_is, by k_is, by k_is⟩
theorem tyc_Through (w : World) : TyC (hd04.heap_39 w.params) 328 := ⟨cls_Through w, by k_is, by k_is, by k_is, by k_is⟩
theorem mk_Through (w : World) : Mk (hd04.heap_39 w.params) 328 233 := ⟨by k_is, by k_is, by k_is, by k_is⟩
theorem na_Through_name (w : World) : NoAttr (hd04.heap_39 w.params) 328 "name" := by show PySem.W.findIn _ _ _ = _; k_is
theorem na_Through_steps (w : World) : NoAttr (hd04.heap_39 w.params) 328 "steps" := by show PySem.W.findIn _ _ _ = _; k_is
theorem na_Through_shape (w : World) : NoAttr (hd04.heap_39 w.params) 328 "shape" := by show PySem.W.findIn _ _ _ = _; k_is
theorem me_Through_may (w : World) : Meth (hd04.heap_39 w.params) 328 "may" 318 := ⟨by k_is, by k_is, by k_is⟩
theorem me_Through_with_steps (w : World) : Meth (hd04.heap_39 w.params) 328 "with_steps" 325 := ⟨by k_is, by k_is, by k_is⟩
theorem cls_Back (w : World) : Cls (hd04.heap_39 w.params) 366 := ⟨by k_is, by k_is, by k_is, by k_is⟩
theorem tyc_Back (w : World) : TyC (hd04.heap_39 w.params) 366 := ⟨cls_Back w, by k_is, by k_is, by k_is, by k_is⟩
theorem mk_Back (w : World) : Mk (hd04.heap_39 w.params) 366 233 := ⟨by k_is, by k_is, by k_is, by k_is⟩
theorem na_Back_name (w : World) : NoAttr (hd04.heap_39 w.params) 366 "name" := by show PySem.W.findIn _ _ _ = _; k_is
theorem na_Back_steps (w : World) : NoAttr (hd04.heap_39 w.params) 366 "steps" := by show PySem.W.findIn _ _ _ = _; k_is
theorem na_Back_shape (w : World) : NoAttr (hd04.heap_39 w.params) 366 "shape" := by show PySem.W.findIn _ _ _ = _; k_is
theorem me_Back_may (w : World) : Meth (hd04.heap_39 w.params) 366 "may" 356 := ⟨by k_is, by k_is, by k_is⟩
theorem me_Back_with_steps (w : World) : Meth (hd04.heap_39 w.params) 366 "with_steps" 363 := ⟨by k_is, by k_is, by k_is⟩
theorem fn_Agent_made (w : World) : ∃ fd, Fun (hd04.heap_39 w.params) "made" "Agent.made" s_Agent_made 240 fd := ⟨_, fun_mk (by k_is) (by k_is) (by k_is)⟩
theorem crd_Agent (w : World) : ClX.CRead (hd04.heap_39 w.params) 288 (.type "type") := ⟨by k_is, by k_is⟩
theorem cm_Agent_made (w : World) : ClX.CMet (hd04.heap_39 w.params) 288 (.type "type") "made" 242 240 := ⟨by k_is, ⟨_, by k_is⟩, by k_is⟩
theorem fn_Through_made (w : World) : ∃ fd, Fun (hd04.heap_39 w.params) "made" "Through.made" s_Through_made 307 fd := ⟨_, fun_mk (by k_is) (by k_is) (by k_is)⟩
theorem crd_Through (w : World) : ClX.CRead (hd04.heap_39 w.params) 328 (.type "type") := ⟨by k_is, by k_is⟩
theorem cm_Through_made (w : World) : ClX.CMet (hd04.heap_39 w.params) 328 (.type "type") "made" 309 307 := ⟨by k_is, ⟨_, by k_is⟩, by k_is⟩
theorem fn_Back_made (w : World) : ∃ fd, Fun (hd04.heap_39 w.params) "made" "Back.made" s_Back_made 345 fd := ⟨_, fun_mk (by k_is) (by k_is) (by k_is)⟩
theorem crd_Back (w : World) : ClX.CRead (hd04.heap_39 w.params) 366 (.type "type") := ⟨by k_is, by k_is⟩
theorem cm_Back_made (w : World) : ClX.CMet (hd04.heap_39 w.params) 366 (.type "type") "made" 347 345 := ⟨by k_is, ⟨_, by k_is⟩, by k_is⟩
theorem mg_LETTERS (M : Mod (hd04.heap_39 w.params) mg base) : mg "LETTERS" = some (.str "abcdefghijklmnopqrstuvwxyz" 400) := PySem.W.mg_of M.kin M.glob (by k_is)
theorem mg_LONGEST (M : Mod (hd04.heap_39 w.params) mg base) : mg "LONGEST" = some (.int 8 402) := PySem.W.mg_of M.kin M.glob (by k_is)
theorem mg_ACCESSES (M : Mod (hd04.heap_39 w.params) mg base) : mg "ACCESSES" = some (.ref 194) := PySem.W.mg_of M.kin M.glob (by k_is)
theorem sq_ACCESSES (w : World) (H : Hp) : SqT (hd04.heap_39 w.params) H 194 [.str "read", .str "write", .str "get", .str "put"] := sqT_k (by k_is) (.cons ⟨_, rfl⟩ (.cons ⟨_, rfl⟩ (.cons ⟨_, rfl⟩ (.cons ⟨_, rfl⟩ .nil)))) (by decide)
theorem mg_CACHED_ACCESSES (M : Mod (hd04.heap_39 w.params) mg base) : mg "CACHED_ACCESSES" = some (.ref 195) := PySem.W.mg_of M.kin M.glob (by k_is)
theorem sq_CACHED_ACCESSES (w : World) (H : Hp) : SqT (hd04.heap_39 w.params) H 195 [.str "read", .str "write"] := sqT_k (by k_is) (.cons ⟨_, rfl⟩ (.cons ⟨_, rfl⟩ .nil)) (by decide)
theorem mg_DIRECT (M : Mod (hd04.heap_39 w.params) mg base) : mg "DIRECT" = some (.ref 196) := PySem.W.mg_of M.kin M.glob (by k_is)
theorem sq_DIRECT (w : World) (H : Hp) : SqT (hd04.heap_39 w.params) H 196 [.str "get", .str "put"] := sqT_k (by k_is) (.cons ⟨_, rfl⟩ (.cons ⟨_, rfl⟩ .nil)) (by decide)
theorem mg_UPKEEP (M : Mod (hd04.heap_39 w.params) mg base) : mg "UPKEEP" = some (.ref 197) := PySem.W.mg_of M.kin M.glob (by k_is)
theorem sq_UPKEEP (w : World) (H : Hp) : SqT (hd04.heap_39 w.params) H 197 [.str "clean", .str "drop", .str "flush"] := sqT_k (by k_is) (.cons ⟨_, rfl⟩ (.cons ⟨_, rfl⟩ (.cons ⟨_, rfl⟩ .nil))) (by decide)
theorem mg_SIGNALLING (M : Mod (hd04.heap_39 w.params) mg base) : mg "SIGNALLING" = some (.ref 198) := PySem.W.mg_of M.kin M.glob (by k_is)
theorem sq_SIGNALLING (w : World) (H : Hp) : SqT (hd04.heap_39 w.params) H 198 [.str "post", .str "wait"] := sqT_k (by k_is) (.cons ⟨_, rfl⟩ (.cons ⟨_, rfl⟩ .nil)) (by decide)
theorem mg_MOST_SHIFT (M : Mod (hd04.heap_39 w.params) mg base) : mg "MOST_SHIFT" = some (.int 3 446) := PySem.W.mg_of M.kin M.glob (by k_is)
theorem mg_LAST_BYTE (M : Mod (hd04.heap_39 w.params) mg base) : mg "LAST_BYTE" = some (.int 7 448) := PySem.W.mg_of M.kin M.glob (by k_is)
theorem mg_MOST_STEPS (M : Mod (hd04.heap_39 w.params) mg base) : mg "MOST_STEPS" = some (.int 24 475) := PySem.W.mg_of M.kin M.glob (by k_is)
theorem mn_len (M : Mod (hd04.heap_39 w.params) mg base) : mg "len" = none := PySem.W.mg_none_of M.kin M.glob (by k_is)
theorem mn_int (M : Mod (hd04.heap_39 w.params) mg base) : mg "int" = none := PySem.W.mg_none_of M.kin M.glob (by k_is)
theorem mn_abs (M : Mod (hd04.heap_39 w.params) mg base) : mg "abs" = none := PySem.W.mg_none_of M.kin M.glob (by k_is)
theorem mn_list (M : Mod (hd04.heap_39 w.params) mg base) : mg "list" = none := PySem.W.mg_none_of M.kin M.glob (by k_is)
theorem mn_tuple (M : Mod (hd04.heap_39 w.params) mg base) : mg "tuple" = none := PySem.W.mg_none_of M.kin M.glob (by k_is)
theorem mn_range (M : Mod (hd04.heap_39 w.params) mg base) : mg "range" = none := PySem.W.mg_none_of M.kin M.glob (by k_is)
theorem mn_isinstance (M : Mod (hd04.heap_39 w.params) mg base) : mg "isinstance" = none := PySem.W.mg_none_of M.kin M.glob (by k_is)
theorem mn_bool (M : Mod (hd04.heap_39 w.params) mg base) : mg "bool" = none := PySem.W.mg_none_of M.kin M.glob (by k_is)
theorem mn_all (M : Mod (hd04.heap_39 w.params) mg base) : mg "all" = none := PySem.W.mg_none_of M.kin M.glob (by k_is)
theorem mn_enumerate (M : Mod (hd04.heap_39 w.params) mg base) : mg "enumerate" = none := PySem.W.mg_none_of M.kin M.glob (by k_is)
theorem mn_str (M : Mod (hd04.heap_39 w.params) mg base) : mg "str" = none := PySem.W.mg_none_of M.kin M.glob (by k_is)
theorem mn_ValueError (M : Mod (hd04.heap_39 w.params) mg base) : mg "ValueError" = none := PySem.W.mg_none_of M.kin M.glob (by k_is)
theorem mn_super (M : Mod (hd04.heap_39 w.params) mg base) : mg "super" = none := PySem.W.mg_none_of M.kin M.glob (by k_is)
theorem mn_TypeError (M : Mod (hd04.heap_39 w.params) mg base) : mg "TypeError" = none := PySem.W.mg_none_of M.kin M.glob (by k_is)
theorem con_Agent_KIND (w : World) : Con (hd04.heap_39 w.params) 288 "KIND" (.str "plain") (.str "plain" 489) := ⟨by k_is, ⟨_, rfl⟩, by k_is, by decide +kernel⟩
theorem con_Through_KIND (w : World) : Con (hd04.heap_39 w.params) 328 "KIND" (.str "through") (.str "through" 594) := ⟨by k_is, ⟨_, rfl⟩, by k_is, by decide +kernel⟩
theorem con_Back_KIND (w : World) : Con (hd04.heap_39 w.params) 366 "KIND" (.str "back") (.str "back" 652) := ⟨by k_is, ⟨_, rfl⟩, by k_is, by decide +kernel⟩
theorem kt_288_Agent (w : World) : PySem.W.kitOne (hd04.heap_39 w.params) (.ref 288) (.ref 288) = some true := by kit_is
theorem kt_328_Agent (w : World) : PySem.W.kitOne (hd04.heap_39 w.params) (.ref 328) (.ref 288) = some true := by kit_is
theorem kt_366_Agent (w : World) : PySem.W.kitOne (hd04.heap_39 w.params) (.ref 366) (.ref 288) = some true := by kit_is
theorem supc_Through_may (w : World) (C : Addr) (h : C = 328 ∨ C = 366) : SupC (hd04.heap_39 w.params) C 328 "may" 278 := by
  rcases h with rfl | rfl
  · exact ⟨⟨_, by k_is⟩, by k_is, by ks_is, by k_is, by k_is⟩
  · exact ⟨⟨_, by k_is⟩, by k_is, by ks_is, by k_is, by k_is⟩
theorem supc_Back_may (w : World) : SupC (hd04.heap_39 w.params) 366 366 "may" 318 := ⟨⟨_, by k_is⟩, by k_is, by ks_is, by k_is, by k_is⟩
end
end M04

namespace M04
open PySem PySem.Spec PyProof.Rows L2 StX Uk
section
variable {mg : PySem.Str → Option Value} {base : Heap} {w : World}
theorem ok__law_draw (M : Mod (hd04.heap_39 w.params) mg base) : CallG PP w (hd04.heap_39 w.params) mg base 1 (.ref 382) (pos spDraw) := by
  obtain ⟨fd, F⟩ := fn__law_draw w
  refine def_pos F sc__law_draw (fun vs H Q E h => ?_) (fun _ _ _ _ _ _ us hl => match us, hl with | [_, _], _ => rfl) (fun cdv A outer s H vs Q E hr hg h => ?_)
  · obtain ⟨p, c, b, l, many, ns, rfl, _⟩ := h
    rfl
  obtain ⟨p, c, b, l, many, ns, rfl, hp, hc, hns, hb0, hb1, hm1, hm2, q⟩ := h
  have nd := sc__law_draw.nd
  -- the mixing
  obtain ⟨tm, PM, mix⟩ : ∃ tm : TS, PSs (cxOf (L2.CX PP w) PP w (hd04.heap_39 w.params) mg base ["pen", "many", "digit", "begun", "cell", "great", "mixed"] "_law_draw" (defScope s__law_draw) 382 cdv A outer s H E) ((defBody s__law_draw).drop 6) tm ∧
      ∀ (cell : Int) (H2 : Hp), Chg p (penO c (b + 1) l) H H2 → tm { nx := fun _ H' => Q .non H', rt := Q } [some (.ref p), some (.int many), none, some (.int b), some (.int cell), none, none] H2 := by
    refine ⟨_, (pss_cons (ps_set (i := 6) nd rfl (.inl rfl) (pe_op op_modN (pe_callTy call_int1 (by rfl) (mn_int M) (by decide +kernel) (pa_cons (pe_op op_pow (pe_op op_add (pe_op op_add (pe_op op_modN (pe_callTy call_int1 (by rfl) (mn_int M) (by decide +kernel) (pa_cons (pv 4) pa_nil)) pe_int) (pe_op op_mul pe_int (pv 3))) pe_int) pe_int) pa_nil)) pe_int))
      (pss_cons (ps_set (i := 6) nd rfl (.inl rfl) (pe_op op_modN (pe_callTy call_int1 (by rfl) (mn_int M) (by decide +kernel) (pa_cons (pe_op op_pow (pe_op op_add (pe_op op_add (pe_op op_mul (pv 6) (pe_op op_add (pe_op op_mul pe_int (pv 3)) pe_int)) (pe_op op_mul (pe_op op_mul pe_int (pv 3)) (pv 3))) pe_int) pe_int) pa_nil)) pe_int))
      (pss_one (ps_ret (pe_op op_modN (pe_op op_fdivN (pe_callTy call_int1 (by rfl) (mn_int M) (by decide +kernel) (pa_cons (pv 6) pa_nil)) pe_int) (pv 1)))))), fun cell H2 c2 => ?_⟩
    have hr1 := @fmod_range cell 2147483579 (by decide)
    refine ⟨_, rfl, .inl ⟨cell, rfl, ?_⟩⟩
    refine ⟨_, _, rfl, rfl, by show ¬ _ = _; decide, ?_⟩
    refine ⟨_, rfl, _, _, rfl, rfl, .inl ⟨by decide, by decide⟩, ?_⟩
    refine ⟨_, _, rfl, rfl, ?_⟩
    refine ⟨_, _, rfl, rfl, ?_⟩
    refine ⟨_, _, rfl, rfl, ⟨by decide, by decide, by omega⟩, .inl ⟨_, rfl, ?_⟩⟩
    refine ⟨_, _, rfl, rfl, by show ¬ _ = _; decide, ?_⟩
    obtain ⟨m1, e1, m10, m11⟩ := fmod_ex (C := 2147483647) (by decide) ((Int.fmod cell 2147483579 + 50207 * b + 41) ^ Int.toNat 5)
    simp only [e1]
    clear e1
    refine ⟨_, rfl, _, rfl, _, _, rfl, rfl, .inl ⟨by decide, by decide⟩, ?_⟩
    refine ⟨_, _, rfl, rfl, ?_⟩
    refine ⟨_, _, rfl, rfl, .inl ⟨by show _ < m1; omega, by show m1 < _; omega⟩, ?_⟩
    refine ⟨_, rfl, _, _, rfl, rfl, .inl ⟨by decide, by decide⟩, ?_⟩
    refine ⟨_, rfl, _, _, rfl, rfl, .inr ⟨by show _ < b; omega, by show b < _; omega⟩, ?_⟩
    refine ⟨_, _, rfl, rfl, ?_⟩
    refine ⟨_, _, rfl, rfl, ?_⟩
    refine ⟨_, _, rfl, rfl, ⟨by decide, by decide, ?_⟩, .inl ⟨_, rfl, ?_⟩⟩
    · have i1 : m1 * (2 * b + 31) ≤ 2147483649 * (2 * b + 31) := Int.mul_le_mul_of_nonneg_right (by omega) (by omega)
      have i2 : 0 ≤ m1 * (2 * b + 31) := Int.mul_nonneg m10 (by omega)
      have i3 : 60133 * b * b ≤ 60133 * b * 100000 := Int.mul_le_mul_of_nonneg_left hb1 (by omega)
      have i4 : 0 ≤ 60133 * b * b := Int.mul_nonneg (by omega) hb0
      omega
    refine ⟨_, _, rfl, rfl, by show ¬ _ = _; decide, ?_⟩
    refine ⟨_, rfl, .inl ⟨_, rfl, ?_⟩⟩
    refine ⟨_, _, rfl, rfl, ⟨by decide, by decide⟩, ?_⟩
    refine ⟨_, rfl, _, many, rfl, rfl, by show ¬ many = 0; omega, ?_⟩
    exact q _ (b + 1) _ _ (fmod_range (by omega)).1 (fmod_range (by omega)).2 (by omega) (by omega) c2
  -- what stands behind the cell
  obtain ⟨tr, PR, key⟩ : ∃ tr : TS, PSs (cxOf (L2.CX PP w) PP w (hd04.heap_39 w.params) mg base ["pen", "many", "digit", "begun", "cell", "great", "mixed"] "_law_draw" (defScope s__law_draw) 382 cdv A outer s H E) ((defBody s__law_draw).drop 5) tr ∧
      ∀ (cell : Int) (H2 : Hp), Chg p (penO c (b + 1) l) H H2 → H2 c = some (.lst (ns.map .int)) → tr { nx := fun _ H' => Q .non H', rt := Q } [some (.ref p), some (.int many), none, some (.int b), some (.int cell), none, none] H2 := by
    refine ⟨_, (pss_cons (ps_if (PW.pt (pw_and (pt_cmpR op_lt (pv 3) (pe_callB call_len_seq (by rfl) (mn_len M) (by decide +kernel) (pa_cons (pe_ix ix_list (pv 0) pe_int (fun _ _ => rfl)) pa_nil)) (nomark _)) (pw_and1 (pt_cmpR op_ge (pe_callB call_abs (by rfl) (mn_abs M) (by decide +kernel) (pa_cons (pv 4) pa_nil)) (pe_op op_pow pe_int pe_int) (nomark _))))) (pss_cons (ps_set (i := 5) nd rfl (.inl rfl) (pe_op op_add (pe_op op_mul pe_int (pe_op op_sub (pe_callB call_abs (by rfl) (mn_abs M) (by decide +kernel) (pa_cons (pv 4) pa_nil)) (pe_op op_pow pe_int pe_int))) (pe_callTy call_int1 (by rfl) (mn_int M) (by decide +kernel) (pa_cons (pe_cmpR op_lt (pv 4) pe_int (nomark _)) pa_nil))))
      (pss_cons (ps_asg (pe_op op_fdivN (pe_callTy call_int1 (by rfl) (mn_int M) (by decide +kernel) (pa_cons (pv 5) pa_nil)) (pv 1)) (pg_sub (pv 0) pe_int set_list))
      (pss_one (ps_ret (pe_op op_modN (pe_callTy call_int1 (by rfl) (mn_int M) (by decide +kernel) (pa_cons (pv 5) pa_nil)) (pv 1)))))) pss_nil) PM), fun cell H2 c2 h4 => ?_⟩
    have h3 := c2.at_
    refine ⟨_, rfl, .ref p, rfl, p, _, _, _, rfl, rfl, SqL.of h3, rfl, c, _, rfl, .inl (SqL.of h4), b, _, rfl, rfl, _, rfl, ?_⟩
    refine ite_b (fun hlt => ?_) (fun hlt => ?_)
    · refine ⟨_, rfl, cell, rfl, ?_⟩
      refine ⟨10, 18, rfl, rfl, ⟨by decide, by decide, by decide⟩, _, _, rfl, rfl, _, rfl, ?_⟩
      refine ite_b (fun hbig => ?_) (fun hbig => ?_)
      · refine ⟨_, rfl, cell, rfl, ?_⟩
        refine ⟨10, 18, rfl, rfl, ⟨by decide, by decide, by decide⟩, ?_⟩
        refine ⟨_, _, rfl, rfl, ?_⟩
        refine ⟨2, _, rfl, rfl, .inl ⟨by decide, by decide⟩, ?_⟩
        refine ⟨_, rfl, cell, 0, rfl, rfl, .inr ⟨_, rfl, ?_⟩⟩
        refine ⟨_, _, rfl, rfl, ?_⟩
        refine ⟨_, rfl, .inl ⟨_, rfl, ?_⟩⟩
        refine ⟨_, rfl, _, many, rfl, rfl, ⟨by omega, by omega⟩, ?_⟩
        refine ⟨.ref p, rfl, p, _, _, _, rfl, rfl, h3, rfl, ?_⟩
        refine ⟨_, rfl, .inl ⟨_, rfl, ?_⟩⟩
        refine ⟨_, rfl, _, many, rfl, rfl, by omega, ?_⟩
        exact q _ (b + 1) _ _ (fmod_range (by omega)).1 (fmod_range (by omega)).2 (by omega) (by omega) (c2.trans Chg.upd)
      · exact mix cell _ c2
    · exact mix cell _ c2
  refine ⟨_, (pss_cons (ps_if (pt_cmpR op_gt (pe_ix ix_list (pv 0) pe_int (fun _ _ => rfl)) pe_int (nomark _)) (pss_cons (ps_set (i := 2) nd rfl (.inl rfl) (pe_op op_modN (pe_callTy call_int1 (by rfl) (mn_int M) (by decide +kernel) (pa_cons (pe_ix ix_list (pv 0) pe_int (fun _ _ => rfl)) pa_nil)) (pv 1)))
      (pss_cons (ps_asg (pe_op op_fdivN (pe_callTy call_int1 (by rfl) (mn_int M) (by decide +kernel) (pa_cons (pe_ix ix_list (pv 0) pe_int (fun _ _ => rfl)) pa_nil)) (pv 1)) (pg_sub (pv 0) pe_int set_list))
      (pss_one (ps_ret (pv 2))))) pss_nil)
      (pss_cons (ps_set (i := 3) nd rfl (.inl rfl) (pe_ix ix_list (pv 0) pe_int (fun _ _ => rfl)))
      (pss_cons (ps_asg (pe_op op_add (pv 3) pe_int) (pg_sub (pv 0) pe_int set_list))
      (pss_cons (ps_set (i := 4) nd rfl (.inl rfl) (pe_op op_add (pe_op op_mul pe_int (pv 3)) pe_int))
      (pss_cons (ps_if (pt_cmpR (op_neD (hu_big hr)) (pe_ix ix_list (pv 0) pe_int (fun _ _ => rfl)) (pe_lst pa_nil) (nomark _)) (pss_one (ps_set (i := 4) nd rfl (.inl rfl) (pe_ix ix_list (pe_ix ix_list (pv 0) pe_int (fun _ _ => rfl)) (pe_op op_modN (pe_callTy call_int1 (by rfl) (mn_int M) (by decide +kernel) (pa_cons (pv 3) pa_nil)) (pe_callB call_len_seq (by rfl) (mn_len M) (by decide +kernel) (pa_cons (pe_ix ix_list (pv 0) pe_int (fun _ _ => rfl)) pa_nil))) (fun _ _ => rfl)))) pss_nil)
      PR))))), ?_⟩
  refine ⟨.ref p, rfl, p, _, _, _, rfl, rfl, SqL.of hp, atI_lit (by decide) rfl, l, 0, rfl, rfl, _, rfl, ?_⟩
  refine ite_b (fun hl => ?_) (fun hl => ?_)
  · refine ⟨.ref p, rfl, p, _, _, _, rfl, rfl, SqL.of hp, atI_lit (by decide) rfl, .inl ⟨l, rfl, ?_⟩⟩
    refine ⟨_, rfl, l, many, rfl, rfl, by omega, ?_⟩
    refine ⟨.ref p, rfl, p, _, _, _, rfl, rfl, SqL.of hp, atI_lit (by decide) rfl, .inl ⟨l, rfl, ?_⟩⟩
    refine ⟨_, rfl, l, many, rfl, rfl, ⟨by omega, by omega⟩, ?_⟩
    refine ⟨.ref p, rfl, p, _, _, _, rfl, rfl, hp, rfl, ?_⟩
    refine ⟨_, rfl, ?_⟩
    exact q _ b _ _ (fmod_range (by omega)).1 (fmod_range (by omega)).2 (by omega) (by omega) Chg.upd
  · refine ⟨.ref p, rfl, p, _, _, _, rfl, rfl, SqL.of hp, rfl, ?_⟩
    refine ⟨_, rfl, b, 1, rfl, rfl, .ref p, rfl, p, _, _, _, rfl, rfl, hp, rfl, ?_⟩
    generalize eH1 : upd H p (.lst ([V.ref c, V.int b, V.int l].set _ _)) = H1
    have c1 : Chg p (penO c (b + 1) l) H H1 := by rw [← eH1]; exact Chg.upd
    clear eH1
    have pc : c ≠ p := fun e => by
      rw [e, hp] at hc
      match ns, hc with
      | [], hc => cases hc
      | n :: r, hc => cases hc
    have h1 : H1 p = some (penO c (b + 1) l) := c1.at_
    have h2 : H1 c = some (.lst (ns.map .int)) := c1.ne _ _ pc hc
    refine ⟨_, rfl, 70123, b, rfl, rfl, .inl ⟨by decide, by decide⟩, _, _, rfl, rfl, ?_⟩
    refine ⟨.ref p, rfl, p, _, _, _, rfl, rfl, SqL.of h1, rfl, Nat.zero_le _, fun z hz => ?_⟩
    have sz := same_new (o := .lst []) hz
    refine ⟨.list (ns.map PyData.int), .list [], .lst (SqL.of (sz _ _ h2)) (dpAll_ints ns), .lst (SqL.of upd_same) .nil, Uk.shaped_ints ns, rfl, ?_⟩
    refine ⟨_, rfl, ?_⟩
    have c2 := c1.then sz
    have h3 := sz _ _ h1
    have h4 := sz _ _ h2
    generalize upd H1 z (.lst []) = H2 at *
    refine ite_b (fun hne => ?_) (fun hne => ?_)
    · have hl : 0 < ns.length := by
        cases ns with
        | nil => cases hne
        | cons n r => exact Nat.succ_pos _
      obtain ⟨cell, hcell⟩ : ∃ cell : Int, atI (ns.map V.int) (b.fmod (ns.length : Int)) = some (.int cell) := by
        have hr := fmod_range (i := b) (j := (ns.length : Int)) (by omega)
        have hi : (b.fmod (ns.length : Int)).toNat < ns.length := by omega
        refine ⟨ns[(b.fmod (ns.length : Int)).toNat], atI_lit hr.1 ?_⟩
        rw [List.getElem?_map, List.getElem?_eq_getElem hi]
        rfl
      refine ⟨.ref p, rfl, p, _, _, _, rfl, rfl, SqL.of h3, rfl, _, rfl, .inl ⟨b, rfl, ?_⟩⟩
      refine ⟨.ref p, rfl, p, _, _, _, rfl, rfl, SqL.of h3, rfl, c, _, rfl, .inl (SqL.of h4), _, _, rfl, rfl, ?_, ?_⟩
      · rw [List.length_map]; omega
      refine ⟨c, _, _, _, rfl, rfl, SqL.of h4, by rw [List.length_map]; exact hcell, ?_⟩
      exact key cell _ c2 h4
    · exact key _ _ c2 h4
theorem ok_drawP (M : Mod (hd04.heap_39 w.params) mg base) : CallG PP w (hd04.heap_39 w.params) mg base 1 (.ref 382) (pos spDrawP) := (ok__law_draw M).imp fun _ _ _ _ _ h => ⟨h.1, draw_P h.2⟩
end
end M04

namespace M04
open PySem PySem.Spec PyProof.Rows L2 StX Uk

local macro_rules | `(tactic| wtm_at "off0") => `(tactic| first | with_reducible assumption | (with_reducible apply Off.mk; wtm_at "pen"; assumption))
local macro_rules | `(tactic| wtm_at "at0") => `(tactic| first | with_reducible assumption | with_reducible exact upd_same | (with_reducible apply Off.at; wtm_at "off0"))
local macro_rules | `(tactic| wtm_at "off1") => `(tactic| first | with_reducible assumption | (with_reducible apply Off.mk; wtm_at "pen"; assumption) | (with_reducible refine Off.new (by assumption) _ _ ?_; wtm_at "off0") | (with_reducible refine at_same (by with_reducible assumption) ?_; wtm_at "off0"))
local macro_rules | `(tactic| wtm_at "at1") => `(tactic| first | with_reducible assumption | with_reducible exact upd_same | (with_reducible refine at_new (by assumption) ?_; wtm_at "at0") | (with_reducible refine at_same (by with_reducible assumption) ?_; wtm_at "at0") | (with_reducible apply Off.at; wtm_at "off1"))
local macro_rules | `(tactic| wtm_at "off2") => `(tactic| first | with_reducible assumption | (with_reducible apply Off.mk; wtm_at "pen"; assumption) | (with_reducible refine Off.new (by assumption) _ _ ?_; wtm_at "off1") | (with_reducible refine at_same (by with_reducible assumption) ?_; wtm_at "off1"))
local macro_rules | `(tactic| wtm_at "at2") => `(tactic| first | with_reducible assumption | with_reducible exact upd_same | (with_reducible refine at_new (by assumption) ?_; wtm_at "at1") | (with_reducible refine at_same (by with_reducible assumption) ?_; wtm_at "at1") | (with_reducible apply Off.at; wtm_at "off2"))
local macro_rules | `(tactic| wtm_at "off3") => `(tactic| first | with_reducible assumption | (with_reducible apply Off.mk; wtm_at "pen"; assumption) | (with_reducible refine Off.new (by assumption) _ _ ?_; wtm_at "off2") | (with_reducible refine at_same (by with_reducible assumption) ?_; wtm_at "off2"))
local macro_rules | `(tactic| wtm_at "at3") => `(tactic| first | with_reducible assumption | with_reducible exact upd_same | (with_reducible refine at_new (by assumption) ?_; wtm_at "at2") | (with_reducible refine at_same (by with_reducible assumption) ?_; wtm_at "at2") | (with_reducible apply Off.at; wtm_at "off3"))
local macro_rules | `(tactic| wtm_at "off4") => `(tactic| first | with_reducible assumption | (with_reducible apply Off.mk; wtm_at "pen"; assumption) | (with_reducible refine Off.new (by assumption) _ _ ?_; wtm_at "off3") | (with_reducible refine at_same (by with_reducible assumption) ?_; wtm_at "off3"))
local macro_rules | `(tactic| wtm_at "at4") => `(tactic| first | with_reducible assumption | with_reducible exact upd_same | (with_reducible refine at_new (by assumption) ?_; wtm_at "at3") | (with_reducible refine at_same (by with_reducible assumption) ?_; wtm_at "at3") | (with_reducible apply Off.at; wtm_at "off4"))
local macro_rules | `(tactic| wtm_at "off5") => `(tactic| first | with_reducible assumption | (with_reducible apply Off.mk; wtm_at "pen"; assumption) | (with_reducible refine Off.new (by assumption) _ _ ?_; wtm_at "off4") | (with_reducible refine at_same (by with_reducible assumption) ?_; wtm_at "off4"))
local macro_rules | `(tactic| wtm_at "at5") => `(tactic| first | with_reducible assumption | with_reducible exact upd_same | (with_reducible refine at_new (by assumption) ?_; wtm_at "at4") | (with_reducible refine at_same (by with_reducible assumption) ?_; wtm_at "at4") | (with_reducible apply Off.at; wtm_at "off5"))
local macro_rules | `(tactic| wtm_at "off6") => `(tactic| first | with_reducible assumption | (with_reducible apply Off.mk; wtm_at "pen"; assumption) | (with_reducible refine Off.new (by assumption) _ _ ?_; wtm_at "off5") | (with_reducible refine at_same (by with_reducible assumption) ?_; wtm_at "off5"))
local macro_rules | `(tactic| wtm_at "at6") => `(tactic| first | with_reducible assumption | with_reducible exact upd_same | (with_reducible refine at_new (by assumption) ?_; wtm_at "at5") | (with_reducible refine at_same (by with_reducible assumption) ?_; wtm_at "at5") | (with_reducible apply Off.at; wtm_at "off6"))
local macro_rules | `(tactic| wtm_at "off7") => `(tactic| first | with_reducible assumption | (with_reducible apply Off.mk; wtm_at "pen"; assumption) | (with_reducible refine Off.new (by assumption) _ _ ?_; wtm_at "off6") | (with_reducible refine at_same (by with_reducible assumption) ?_; wtm_at "off6"))
local macro_rules | `(tactic| wtm_at "at7") => `(tactic| first | with_reducible assumption | with_reducible exact upd_same | (with_reducible refine at_new (by assumption) ?_; wtm_at "at6") | (with_reducible refine at_same (by with_reducible assumption) ?_; wtm_at "at6") | (with_reducible apply Off.at; wtm_at "off7"))
local macro_rules | `(tactic| wtm_at "off8") => `(tactic| first | with_reducible assumption | (with_reducible apply Off.mk; wtm_at "pen"; assumption) | (with_reducible refine Off.new (by assumption) _ _ ?_; wtm_at "off7") | (with_reducible refine at_same (by with_reducible assumption) ?_; wtm_at "off7"))
local macro_rules | `(tactic| wtm_at "at8") => `(tactic| first | with_reducible assumption | with_reducible exact upd_same | (with_reducible refine at_new (by assumption) ?_; wtm_at "at7") | (with_reducible refine at_same (by with_reducible assumption) ?_; wtm_at "at7") | (with_reducible apply Off.at; wtm_at "off8"))
local macro_rules | `(tactic| wtm_at "off9") => `(tactic| first | with_reducible assumption | (with_reducible apply Off.mk; wtm_at "pen"; assumption) | (with_reducible refine Off.new (by assumption) _ _ ?_; wtm_at "off8") | (with_reducible refine at_same (by with_reducible assumption) ?_; wtm_at "off8"))
local macro_rules | `(tactic| wtm_at "at9") => `(tactic| first | with_reducible assumption | with_reducible exact upd_same | (with_reducible refine at_new (by assumption) ?_; wtm_at "at8") | (with_reducible refine at_same (by with_reducible assumption) ?_; wtm_at "at8") | (with_reducible apply Off.at; wtm_at "off9"))
local macro_rules | `(tactic| wtm_at "off10") => `(tactic| first | with_reducible assumption | (with_reducible apply Off.mk; wtm_at "pen"; assumption) | (with_reducible refine Off.new (by assumption) _ _ ?_; wtm_at "off9") | (with_reducible refine at_same (by with_reducible assumption) ?_; wtm_at "off9"))
local macro_rules | `(tactic| wtm_at "at10") => `(tactic| first | with_reducible assumption | with_reducible exact upd_same | (with_reducible refine at_new (by assumption) ?_; wtm_at "at9") | (with_reducible refine at_same (by with_reducible assumption) ?_; wtm_at "at9") | (with_reducible apply Off.at; wtm_at "off10"))
local macro_rules | `(tactic| wtm_at "off11") => `(tactic| first | with_reducible assumption | (with_reducible apply Off.mk; wtm_at "pen"; assumption) | (with_reducible refine Off.new (by assumption) _ _ ?_; wtm_at "off10") | (with_reducible refine at_same (by with_reducible assumption) ?_; wtm_at "off10"))
local macro_rules | `(tactic| wtm_at "at11") => `(tactic| first | with_reducible assumption | with_reducible exact upd_same | (with_reducible refine at_new (by assumption) ?_; wtm_at "at10") | (with_reducible refine at_same (by with_reducible assumption) ?_; wtm_at "at10") | (with_reducible apply Off.at; wtm_at "off11"))
local macro_rules | `(tactic| wtm_at "off12") => `(tactic| first | with_reducible assumption | (with_reducible apply Off.mk; wtm_at "pen"; assumption) | (with_reducible refine Off.new (by assumption) _ _ ?_; wtm_at "off11") | (with_reducible refine at_same (by with_reducible assumption) ?_; wtm_at "off11"))
local macro_rules | `(tactic| wtm_at "at12") => `(tactic| first | with_reducible assumption | with_reducible exact upd_same | (with_reducible refine at_new (by assumption) ?_; wtm_at "at11") | (with_reducible refine at_same (by with_reducible assumption) ?_; wtm_at "at11") | (with_reducible apply Off.at; wtm_at "off12"))
local macro_rules | `(tactic| wtm_at "off13") => `(tactic| first | with_reducible assumption | (with_reducible apply Off.mk; wtm_at "pen"; assumption) | (with_reducible refine Off.new (by assumption) _ _ ?_; wtm_at "off12") | (with_reducible refine at_same (by with_reducible assumption) ?_; wtm_at "off12"))
local macro_rules | `(tactic| wtm_at "at13") => `(tactic| first | with_reducible assumption | with_reducible exact upd_same | (with_reducible refine at_new (by assumption) ?_; wtm_at "at12") | (with_reducible refine at_same (by with_reducible assumption) ?_; wtm_at "at12") | (with_reducible apply Off.at; wtm_at "off13"))
local macro_rules | `(tactic| wtm_at "off14") => `(tactic| first | with_reducible assumption | (with_reducible apply Off.mk; wtm_at "pen"; assumption) | (with_reducible refine Off.new (by assumption) _ _ ?_; wtm_at "off13") | (with_reducible refine at_same (by with_reducible assumption) ?_; wtm_at "off13"))
local macro_rules | `(tactic| wtm_at "at14") => `(tactic| first | with_reducible assumption | with_reducible exact upd_same | (with_reducible refine at_new (by assumption) ?_; wtm_at "at13") | (with_reducible refine at_same (by with_reducible assumption) ?_; wtm_at "at13") | (with_reducible apply Off.at; wtm_at "off14"))
local macro_rules | `(tactic| wtm_at "off15") => `(tactic| first | with_reducible assumption | (with_reducible apply Off.mk; wtm_at "pen"; assumption) | (with_reducible refine Off.new (by assumption) _ _ ?_; wtm_at "off14") | (with_reducible refine at_same (by with_reducible assumption) ?_; wtm_at "off14"))
local macro_rules | `(tactic| wtm_at "at15") => `(tactic| first | with_reducible assumption | with_reducible exact upd_same | (with_reducible refine at_new (by assumption) ?_; wtm_at "at14") | (with_reducible refine at_same (by with_reducible assumption) ?_; wtm_at "at14") | (with_reducible apply Off.at; wtm_at "off15"))
local macro_rules | `(tactic| wtm_at "off16") => `(tactic| first | with_reducible assumption | (with_reducible apply Off.mk; wtm_at "pen"; assumption) | (with_reducible refine Off.new (by assumption) _ _ ?_; wtm_at "off15") | (with_reducible refine at_same (by with_reducible assumption) ?_; wtm_at "off15"))
local macro_rules | `(tactic| wtm_at "at16") => `(tactic| first | with_reducible assumption | with_reducible exact upd_same | (with_reducible refine at_new (by assumption) ?_; wtm_at "at15") | (with_reducible refine at_same (by with_reducible assumption) ?_; wtm_at "at15") | (with_reducible apply Off.at; wtm_at "off16"))
local macro_rules | `(tactic| wtm_at "off17") => `(tactic| first | with_reducible assumption | (with_reducible apply Off.mk; wtm_at "pen"; assumption) | (with_reducible refine Off.new (by assumption) _ _ ?_; wtm_at "off16") | (with_reducible refine at_same (by with_reducible assumption) ?_; wtm_at "off16"))
local macro_rules | `(tactic| wtm_at "at17") => `(tactic| first | with_reducible assumption | with_reducible exact upd_same | (with_reducible refine at_new (by assumption) ?_; wtm_at "at16") | (with_reducible refine at_same (by with_reducible assumption) ?_; wtm_at "at16") | (with_reducible apply Off.at; wtm_at "off17"))
local macro_rules | `(tactic| wtm_at "off18") => `(tactic| first | with_reducible assumption | (with_reducible apply Off.mk; wtm_at "pen"; assumption) | (with_reducible refine Off.new (by assumption) _ _ ?_; wtm_at "off17") | (with_reducible refine at_same (by with_reducible assumption) ?_; wtm_at "off17"))
local macro_rules | `(tactic| wtm_at "at18") => `(tactic| first | with_reducible assumption | with_reducible exact upd_same | (with_reducible refine at_new (by assumption) ?_; wtm_at "at17") | (with_reducible refine at_same (by with_reducible assumption) ?_; wtm_at "at17") | (with_reducible apply Off.at; wtm_at "off18"))
local macro_rules | `(tactic| wtm_at "off19") => `(tactic| first | with_reducible assumption | (with_reducible apply Off.mk; wtm_at "pen"; assumption) | (with_reducible refine Off.new (by assumption) _ _ ?_; wtm_at "off18") | (with_reducible refine at_same (by with_reducible assumption) ?_; wtm_at "off18"))
local macro_rules | `(tactic| wtm_at "at19") => `(tactic| first | with_reducible assumption | with_reducible exact upd_same | (with_reducible refine at_new (by assumption) ?_; wtm_at "at18") | (with_reducible refine at_same (by with_reducible assumption) ?_; wtm_at "at18") | (with_reducible apply Off.at; wtm_at "off19"))
local macro_rules | `(tactic| wtm_at "off20") => `(tactic| first | with_reducible assumption | (with_reducible apply Off.mk; wtm_at "pen"; assumption) | (with_reducible refine Off.new (by assumption) _ _ ?_; wtm_at "off19") | (with_reducible refine at_same (by with_reducible assumption) ?_; wtm_at "off19"))
local macro_rules | `(tactic| wtm_at "at20") => `(tactic| first | with_reducible assumption | with_reducible exact upd_same | (with_reducible refine at_new (by assumption) ?_; wtm_at "at19") | (with_reducible refine at_same (by with_reducible assumption) ?_; wtm_at "at19") | (with_reducible apply Off.at; wtm_at "off20"))
local macro_rules | `(tactic| wtm_at "off21") => `(tactic| first | with_reducible assumption | (with_reducible apply Off.mk; wtm_at "pen"; assumption) | (with_reducible refine Off.new (by assumption) _ _ ?_; wtm_at "off20") | (with_reducible refine at_same (by with_reducible assumption) ?_; wtm_at "off20"))
local macro_rules | `(tactic| wtm_at "at21") => `(tactic| first | with_reducible assumption | with_reducible exact upd_same | (with_reducible refine at_new (by assumption) ?_; wtm_at "at20") | (with_reducible refine at_same (by with_reducible assumption) ?_; wtm_at "at20") | (with_reducible apply Off.at; wtm_at "off21"))
local macro_rules | `(tactic| wtm_at "off22") => `(tactic| first | with_reducible assumption | (with_reducible apply Off.mk; wtm_at "pen"; assumption) | (with_reducible refine Off.new (by assumption) _ _ ?_; wtm_at "off21") | (with_reducible refine at_same (by with_reducible assumption) ?_; wtm_at "off21"))
local macro_rules | `(tactic| wtm_at "at22") => `(tactic| first | with_reducible assumption | with_reducible exact upd_same | (with_reducible refine at_new (by assumption) ?_; wtm_at "at21") | (with_reducible refine at_same (by with_reducible assumption) ?_; wtm_at "at21") | (with_reducible apply Off.at; wtm_at "off22"))
local macro_rules | `(tactic| wtm_at "off23") => `(tactic| first | with_reducible assumption | (with_reducible apply Off.mk; wtm_at "pen"; assumption) | (with_reducible refine Off.new (by assumption) _ _ ?_; wtm_at "off22") | (with_reducible refine at_same (by with_reducible assumption) ?_; wtm_at "off22"))
local macro_rules | `(tactic| wtm_at "at23") => `(tactic| first | with_reducible assumption | with_reducible exact upd_same | (with_reducible refine at_new (by assumption) ?_; wtm_at "at22") | (with_reducible refine at_same (by with_reducible assumption) ?_; wtm_at "at22") | (with_reducible apply Off.at; wtm_at "off23"))
local macro_rules | `(tactic| wtm_at "off24") => `(tactic| first | with_reducible assumption | (with_reducible apply Off.mk; wtm_at "pen"; assumption) | (with_reducible refine Off.new (by assumption) _ _ ?_; wtm_at "off23") | (with_reducible refine at_same (by with_reducible assumption) ?_; wtm_at "off23"))
local macro_rules | `(tactic| wtm_at "at24") => `(tactic| first | with_reducible assumption | with_reducible exact upd_same | (with_reducible refine at_new (by assumption) ?_; wtm_at "at23") | (with_reducible refine at_same (by with_reducible assumption) ?_; wtm_at "at23") | (with_reducible apply Off.at; wtm_at "off24"))
local macro_rules | `(tactic| wtm_at "off25") => `(tactic| first | with_reducible assumption | (with_reducible apply Off.mk; wtm_at "pen"; assumption) | (with_reducible refine Off.new (by assumption) _ _ ?_; wtm_at "off24") | (with_reducible refine at_same (by with_reducible assumption) ?_; wtm_at "off24"))
local macro_rules | `(tactic| wtm_at "at25") => `(tactic| first | with_reducible assumption | with_reducible exact upd_same | (with_reducible refine at_new (by assumption) ?_; wtm_at "at24") | (with_reducible refine at_same (by with_reducible assumption) ?_; wtm_at "at24") | (with_reducible apply Off.at; wtm_at "off25"))
local macro_rules | `(tactic| wtm_at "off26") => `(tactic| first | with_reducible assumption | (with_reducible apply Off.mk; wtm_at "pen"; assumption) | (with_reducible refine Off.new (by assumption) _ _ ?_; wtm_at "off25") | (with_reducible refine at_same (by with_reducible assumption) ?_; wtm_at "off25"))
local macro_rules | `(tactic| wtm_at "at26") => `(tactic| first | with_reducible assumption | with_reducible exact upd_same | (with_reducible refine at_new (by assumption) ?_; wtm_at "at25") | (with_reducible refine at_same (by with_reducible assumption) ?_; wtm_at "at25") | (with_reducible apply Off.at; wtm_at "off26"))
local macro_rules | `(tactic| wtm_at "off27") => `(tactic| first | with_reducible assumption | (with_reducible apply Off.mk; wtm_at "pen"; assumption) | (with_reducible refine Off.new (by assumption) _ _ ?_; wtm_at "off26") | (with_reducible refine at_same (by with_reducible assumption) ?_; wtm_at "off26"))
local macro_rules | `(tactic| wtm_at "at27") => `(tactic| first | with_reducible assumption | with_reducible exact upd_same | (with_reducible refine at_new (by assumption) ?_; wtm_at "at26") | (with_reducible refine at_same (by with_reducible assumption) ?_; wtm_at "at26") | (with_reducible apply Off.at; wtm_at "off27"))
local macro_rules | `(tactic| wtm_at "off28") => `(tactic| first | with_reducible assumption | (with_reducible apply Off.mk; wtm_at "pen"; assumption) | (with_reducible refine Off.new (by assumption) _ _ ?_; wtm_at "off27") | (with_reducible refine at_same (by with_reducible assumption) ?_; wtm_at "off27"))
local macro_rules | `(tactic| wtm_at "at28") => `(tactic| first | with_reducible assumption | with_reducible exact upd_same | (with_reducible refine at_new (by assumption) ?_; wtm_at "at27") | (with_reducible refine at_same (by with_reducible assumption) ?_; wtm_at "at27") | (with_reducible apply Off.at; wtm_at "off28"))
local macro_rules | `(tactic| wtm_at "off29") => `(tactic| first | with_reducible assumption | (with_reducible apply Off.mk; wtm_at "pen"; assumption) | (with_reducible refine Off.new (by assumption) _ _ ?_; wtm_at "off28") | (with_reducible refine at_same (by with_reducible assumption) ?_; wtm_at "off28"))
local macro_rules | `(tactic| wtm_at "at29") => `(tactic| first | with_reducible assumption | with_reducible exact upd_same | (with_reducible refine at_new (by assumption) ?_; wtm_at "at28") | (with_reducible refine at_same (by with_reducible assumption) ?_; wtm_at "at28") | (with_reducible apply Off.at; wtm_at "off29"))
local macro_rules | `(tactic| wtm_at "off30") => `(tactic| first | with_reducible assumption | (with_reducible apply Off.mk; wtm_at "pen"; assumption) | (with_reducible refine Off.new (by assumption) _ _ ?_; wtm_at "off29") | (with_reducible refine at_same (by with_reducible assumption) ?_; wtm_at "off29"))
local macro_rules | `(tactic| wtm_at "at30") => `(tactic| first | with_reducible assumption | with_reducible exact upd_same | (with_reducible refine at_new (by assumption) ?_; wtm_at "at29") | (with_reducible refine at_same (by with_reducible assumption) ?_; wtm_at "at29") | (with_reducible apply Off.at; wtm_at "off30"))
local macro_rules | `(tactic| wtm_at "off31") => `(tactic| first | with_reducible assumption | (with_reducible apply Off.mk; wtm_at "pen"; assumption) | (with_reducible refine Off.new (by assumption) _ _ ?_; wtm_at "off30") | (with_reducible refine at_same (by with_reducible assumption) ?_; wtm_at "off30"))
local macro_rules | `(tactic| wtm_at "at31") => `(tactic| first | with_reducible assumption | with_reducible exact upd_same | (with_reducible refine at_new (by assumption) ?_; wtm_at "at30") | (with_reducible refine at_same (by with_reducible assumption) ?_; wtm_at "at30") | (with_reducible apply Off.at; wtm_at "off31"))
local macro_rules | `(tactic| wtm_at "off32") => `(tactic| first | with_reducible assumption | (with_reducible apply Off.mk; wtm_at "pen"; assumption) | (with_reducible refine Off.new (by assumption) _ _ ?_; wtm_at "off31") | (with_reducible refine at_same (by with_reducible assumption) ?_; wtm_at "off31"))
local macro_rules | `(tactic| wtm_at "at32") => `(tactic| first | with_reducible assumption | with_reducible exact upd_same | (with_reducible refine at_new (by assumption) ?_; wtm_at "at31") | (with_reducible refine at_same (by with_reducible assumption) ?_; wtm_at "at31") | (with_reducible apply Off.at; wtm_at "off32"))
local macro_rules | `(tactic| wtm_at "off33") => `(tactic| first | with_reducible assumption | (with_reducible apply Off.mk; wtm_at "pen"; assumption) | (with_reducible refine Off.new (by assumption) _ _ ?_; wtm_at "off32") | (with_reducible refine at_same (by with_reducible assumption) ?_; wtm_at "off32"))
local macro_rules | `(tactic| wtm_at "at33") => `(tactic| first | with_reducible assumption | with_reducible exact upd_same | (with_reducible refine at_new (by assumption) ?_; wtm_at "at32") | (with_reducible refine at_same (by with_reducible assumption) ?_; wtm_at "at32") | (with_reducible apply Off.at; wtm_at "off33"))
local macro_rules | `(tactic| wtm_at "off34") => `(tactic| first | with_reducible assumption | (with_reducible apply Off.mk; wtm_at "pen"; assumption) | (with_reducible refine Off.new (by assumption) _ _ ?_; wtm_at "off33") | (with_reducible refine at_same (by with_reducible assumption) ?_; wtm_at "off33"))
local macro_rules | `(tactic| wtm_at "at34") => `(tactic| first | with_reducible assumption | with_reducible exact upd_same | (with_reducible refine at_new (by assumption) ?_; wtm_at "at33") | (with_reducible refine at_same (by with_reducible assumption) ?_; wtm_at "at33") | (with_reducible apply Off.at; wtm_at "off34"))
local macro_rules | `(tactic| wtm_at "off35") => `(tactic| first | with_reducible assumption | (with_reducible apply Off.mk; wtm_at "pen"; assumption) | (with_reducible refine Off.new (by assumption) _ _ ?_; wtm_at "off34") | (with_reducible refine at_same (by with_reducible assumption) ?_; wtm_at "off34"))
local macro_rules | `(tactic| wtm_at "at35") => `(tactic| first | with_reducible assumption | with_reducible exact upd_same | (with_reducible refine at_new (by assumption) ?_; wtm_at "at34") | (with_reducible refine at_same (by with_reducible assumption) ?_; wtm_at "at34") | (with_reducible apply Off.at; wtm_at "off35"))
local macro_rules | `(tactic| wtm_at "off36") => `(tactic| first | with_reducible assumption | (with_reducible apply Off.mk; wtm_at "pen"; assumption) | (with_reducible refine Off.new (by assumption) _ _ ?_; wtm_at "off35") | (with_reducible refine at_same (by with_reducible assumption) ?_; wtm_at "off35"))
local macro_rules | `(tactic| wtm_at "at36") => `(tactic| first | with_reducible assumption | with_reducible exact upd_same | (with_reducible refine at_new (by assumption) ?_; wtm_at "at35") | (with_reducible refine at_same (by with_reducible assumption) ?_; wtm_at "at35") | (with_reducible apply Off.at; wtm_at "off36"))
local macro_rules | `(tactic| wtm_at "off37") => `(tactic| first | with_reducible assumption | (with_reducible apply Off.mk; wtm_at "pen"; assumption) | (with_reducible refine Off.new (by assumption) _ _ ?_; wtm_at "off36") | (with_reducible refine at_same (by with_reducible assumption) ?_; wtm_at "off36"))
local macro_rules | `(tactic| wtm_at "at37") => `(tactic| first | with_reducible assumption | with_reducible exact upd_same | (with_reducible refine at_new (by assumption) ?_; wtm_at "at36") | (with_reducible refine at_same (by with_reducible assumption) ?_; wtm_at "at36") | (with_reducible apply Off.at; wtm_at "off37"))
local macro_rules | `(tactic| wtm_at "off38") => `(tactic| first | with_reducible assumption | (with_reducible apply Off.mk; wtm_at "pen"; assumption) | (with_reducible refine Off.new (by assumption) _ _ ?_; wtm_at "off37") | (with_reducible refine at_same (by with_reducible assumption) ?_; wtm_at "off37"))
local macro_rules | `(tactic| wtm_at "at38") => `(tactic| first | with_reducible assumption | with_reducible exact upd_same | (with_reducible refine at_new (by assumption) ?_; wtm_at "at37") | (with_reducible refine at_same (by with_reducible assumption) ?_; wtm_at "at37") | (with_reducible apply Off.at; wtm_at "off38"))
local macro_rules | `(tactic| wtm_at "off39") => `(tactic| first | with_reducible assumption | (with_reducible apply Off.mk; wtm_at "pen"; assumption) | (with_reducible refine Off.new (by assumption) _ _ ?_; wtm_at "off38") | (with_reducible refine at_same (by with_reducible assumption) ?_; wtm_at "off38"))
local macro_rules | `(tactic| wtm_at "at39") => `(tactic| first | with_reducible assumption | with_reducible exact upd_same | (with_reducible refine at_new (by assumption) ?_; wtm_at "at38") | (with_reducible refine at_same (by with_reducible assumption) ?_; wtm_at "at38") | (with_reducible apply Off.at; wtm_at "off39"))
local macro_rules | `(tactic| wtm_at "at") => `(tactic| wtm_at "at39")
local macro_rules | `(tactic| wtm_at "off") => `(tactic| wtm_at "off39")
local macro_rules | `(tactic| wtm_at "pen") => `(tactic| first
  | assumption | (refine Pen.new (by assumption) ?_; wtm_at "pen") | (refine Pen.same (by assumption) ?_; wtm_at "pen"))
local macro_rules | `(tactic| wtm_at "same") => `(tactic| first
  | exact fun _ _ h => h | assumption | exact same_new (by assumption) | (refine same_trans ?_ (same_new (by assumption)); wtm_at "same") | (refine same_trans ?_ (by assumption); wtm_at "same")
  | (refine same_trans ?_ (Off.new (by assumption)); wtm_at "same") | (refine same_trans ?_ (Off.same (by assumption)); wtm_at "same"))
local macro_rules | `(tactic| wtm_at "dps") => `(tactic| first
  | exact .nil | (apply DpAll.cons; wtm_at "dp"; wtm_at "dps") | exact dpAll_ints _)
local macro_rules | `(tactic| wtm_at "dp") => `(tactic| first
  | exact .non | exact .bl _ | exact .int _ | exact .str _ | (fail) | (apply Dp.lst; (apply SqL.of; wtm_at "at"); wtm_at "dps") | (apply Dp.tup; (apply SqT.of; wtm_at "at"); wtm_at "dps"))
local macro_rules | `(tactic| wtm_at "side") => `(tactic| first
  | exact ⟨by decide, by decide⟩ | exact ⟨by decide, by decide, by decide⟩ | exact .inl ⟨by decide, by decide⟩ | exact .inr ⟨by decide, by decide⟩ | (show ¬ _ = _; decide))
local macro_rules | `(tactic| wtm_at "sml") => `(tactic| first
  | exact sml_none (by decide) | exact sml_bool (by decide) | exact sml_int (by decide) (by omega) | (fail) | exact sml_list (n := 19) (k := 0) (by wtm_at "smls") (by decide) (by decide))
local macro_rules | `(tactic| wtm_at "smls") => `(tactic| first | exact smlAll_nil (m := 0) | (apply smlAll_cons; wtm_at "sml"; wtm_at "smls"))
local macro_rules | `(tactic| wtm_at "shw") => `(tactic| exact Sml.shw (n := 10000) (k := 50) (by wtm_at "sml") (by decide) (by decide))
local macro_rules | `(tactic| wtm_at "rd") => `(tactic| first
  | refine ⟨_, rfl, ?_⟩ | refine ⟨_, _, rfl, rfl, ?_⟩ | refine ifT rfl ?_ | refine ifF rfl ?_ | refine ⟨rfl, ?_⟩
  | refine ⟨_, _, by rfl, by wtm_at "dp", by wtm_at "shw", ?_⟩
  | refine ⟨_, _, _, _, _, rfl, by wtm_at "at", by wtm_at "cls", by wtm_at "na", by rfl, ?_⟩
  | refine ⟨_, _, rfl, .inr (SqT.of (by wtm_at "at")), ?_⟩ | refine ⟨_, _, rfl, .inl (SqL.of (by wtm_at "at")), ?_⟩
  | refine ⟨_, _, rfl, .inr (SqT.of (by wtm_at "at")), by rfl, by rfl, ?_⟩ | refine ⟨_, _, rfl, .inl (SqL.of (by wtm_at "at")), by rfl, by rfl, ?_⟩
  | refine ⟨_, _, _, _, rfl, rfl, SqT.of (by wtm_at "at"), by rfl, ?_⟩ | refine ⟨_, _, _, _, rfl, rfl, SqL.of (by wtm_at "at"), by rfl, ?_⟩
  | refine ⟨_, _, rfl, rfl, by wtm_at "side", ?_⟩
  | refine ⟨_, _, by wtm_at "dp", by wtm_at "dp", by first | rfl | decide +kernel, by first | rfl | decide +kernel, ?_⟩
  | refine ⟨_, _, [_, _], [_, _], rfl, rfl, sqI2 (by wtm_at "at"), sqI2 (by wtm_at "at"), ?_⟩
  | refine ⟨_, _, rfl, ?_⟩
  | refine ⟨Nat.le_of_ble_eq_true rfl, fun _ _ => ?_⟩
  | refine ifF (by decide +kernel) ?_ | refine ifF (nd_refl _) ?_ | refine ifT (de_refl _) ?_)

theorem dqAll_mem {K : PySem.W.Frag} {H : Hp} : ∀ {vs : List V} {ds : List PyData} {v : V}, DqAll K H vs ds → v ∈ vs → ∃ d ∈ ds, Dq K H v d
  | [], _, _, _, m => nomatch m
  | x :: vs, d :: ds, v, .cons h r, m => by
    rcases List.mem_cons.mp m with e | e
    · rw [e]
      exact ⟨d, List.mem_cons_self, h⟩
    · obtain ⟨d', m', q⟩ := dqAll_mem r e
      exact ⟨d', List.mem_cons_of_mem _ m', q⟩

/-- what is new in H' beside H -/
def Nw (H H' : Hp) : Hp := fun a => if (H a).isSome = true then none else H' a
theorem Nw.of {H H' : Hp} {a : Addr} {u : HO} (h : H a = none) (e : H' a = some u) : Nw H H' a = some u := by
  unfold Nw
  rw [h]
  exact e
theorem Nw.at {H H' : Hp} {a : Addr} {u : HO} (e : Nw H H' a = some u) : H' a = some u ∧ H a = none := by
  unfold Nw at e
  cases h : H a with
  | none => rw [h] at e; exact ⟨e, rfl⟩
  | some o => rw [h] at e; cases e
theorem upd_none {H : Hp} {a b : Addr} {o : HO} (h : upd H a o b = none) : H b = none := by
  by_cases e : b = a
  · rw [e, upd_same] at h; cases h
  · rw [upd_ne e] at h; exact h

theorem pen_cut (ns : List Int) : ∃ ms : List Int, cutV (ns.map V.int) none (some 63) = ms.map V.int ∧ ms.length ≤ 63 := by
  refine ⟨ns.take (HT.sIx ns.length ns.length (some 63)), ?_, ?_⟩
  · unfold cutV
    rw [List.length_map, HT.sIx_none, List.drop_zero, Nat.sub_zero, List.map_take]
  · rw [List.length_take]
    have : HT.sIx ns.length ns.length (some 63) = min 63 ns.length := HT.sIx_nat _ _ 63
    omega
def spPen (K : PySem.W.Frag) : Sp := fun vs H Q _ => ∃ (a : Addr) (ns : List Int), vs = [.ref a] ∧ SqL K H a (ns.map V.int) ∧ ∀ p c H', Same H H' → Pen H' p c 0 → Q (.ref p) H'
def thingData : List PyData := [.none, .bool true, .bool false, .int (-1), .int 0, .int 1, .int 3, .int 4, .int 5, .int 8, .int 9, .int 16, .int 17, .int 1016, .int 1023, .int 1024, .int ((10 : Int) ^ Int.toNat 60), .str "", .str "a", .str "A", .str "ab cd", .str "a\n", .str "abcdefgh", .str "abcdefghi", .str "a1", .str "read", .str "clean", .str "wait", .tuple [], .list [], .dict [], .tuple [.str "a"], .list [.int 0], .dict [(.str "a", .int 0)], .tuple [.int 0, .int 0]]
/-- one of the things that a law draws -/
def Thg (K : PySem.W.Frag) (H : Hp) (v : V) : Prop := ∃ d ∈ thingData, Dq K H v d
theorem Thg.same {K : PySem.W.Frag} {H H' : Hp} {v : V} (s : Same H H') (h : Thg K H v) : Thg K H' v := let ⟨d, m, q⟩ := h; ⟨d, m, dq_mono s q⟩
theorem Thg.on {K : PySem.W.Frag} {p : Addr} {H : Hp} {v : V} (h : Thg K (Uk.Off p H) v) : Thg K H v := h.same fun _ _ e => Uk.Off.at e
theorem thing_shw {d : PyData} (h : d ∈ thingData) : Shw d := by
  have z : (thingData.all fun d => d.showable && decide (d.shown.length ≤ 1000) && decide (d.depth ≤ 60)) = true := by decide +kernel
  have y := List.all_eq_true.mp z d h
  rw [Bool.and_eq_true, Bool.and_eq_true, decide_eq_true_eq, decide_eq_true_eq] at y
  exact ⟨y.1.1, Nat.le_trans y.1.2 (by decide), y.2⟩
def spThing (K : PySem.W.Frag) : Sp := fun vs H Q _ => ∃ p c m, vs = [.ref p] ∧ Pen H p c m ∧ m ≤ 99000 ∧ ∀ v H', Thg K (Nw H H') v → Same (Off p H) (Off p H') → Pen H' p c (m + 1) → Q v H'
section
variable {mg : PySem.Str → Option Value} {base : Heap} {w : World}
theorem ok_NoPart___init__ (M : Mod (hd04.heap_39 w.params) mg base) : CallG PP w (hd04.heap_39 w.params) mg base 3 (.ref 43) (pos (spInit 46 ["reason", "place"])) := by
  refine def_S (fn_NoPart___init__ w) sc_NoPart___init__ (fun vs H Q E h => ?_) (fun _ _ _ _ _ us hl => match us, hl with | [_, _, _], _ => rfl) (fun A outer s H vs Q E hr hg h => ?_)
  · obtain ⟨a, ws, rfl, hl, _⟩ := h; exact congrArg Nat.succ hl
  obtain ⟨a, ws, rfl, hl, ha, q⟩ := h
  match ws, hl, q with
  | [x0, x1], _, q =>
    refine ⟨_, psst_expr (pet_superE (fn_NoPart___init__ w) sc_NoPart___init__ (sup_NoPart___init__ w) rfl rfl rfl rfl rfl (pa_cons pe_str pa_nil)) (psst_of (pss_cons (ps_ost (pv 0) (pv 1)) (pss_cons (ps_ost (pv 0) (pv 2)) pss_nil))), ?_⟩
    refine ⟨a, 46, rfl, ha, supe_NoPart w, by decide, ha, ?_⟩
    refine ⟨_, rfl, _, rfl, a, 46, rfl, oex_NoPart w, nf_NoPart_reason w, .inl ⟨ha, fun dx hdx hne => ?_⟩⟩
    have q := q dx hdx hne
    refine ⟨_, rfl, _, rfl, a, 46, rfl, oex_NoPart w, nf_NoPart_place w, .inr ⟨dx, [("reason", x0)], upd_same, exmk_d (H := H) (C := 46) hne, Nat.le_of_ble_eq_true rfl, ?_⟩⟩
    show Q .non (upd (exmk H a 46 dx [("reason", x0)]) dx (exd dx [("place", x1), ("reason", x0)]))
    rw [exmk_put hne]
    exact q
theorem ok__law_pen (M : Mod (hd04.heap_39 w.params) mg base) : CallG PP w (hd04.heap_39 w.params) mg base 1 (.ref 375) (pos (spPen (hd04.heap_39 w.params))) := by
  obtain ⟨fd, F⟩ := fn__law_pen w
  refine def_pos F sc__law_pen (fun vs H Q E h => ?_) (fun _ _ _ _ _ _ us hl => match us, hl with | [_], _ => rfl) (fun cdv A outer s H vs Q E hr hg h => ?_)
  · obtain ⟨a, ns, rfl, _⟩ := h; rfl
  have nd := sc__law_pen.nd
  obtain ⟨a, ns, rfl, ha, q⟩ := h
  refine ⟨_, (pss_one (ps_ret (pe_lst (pa_cons (pe_callTy call_list_of (by rfl) (mn_list M) (by decide +kernel) (pa_cons (pe_slice sl_list (pv 0) po_none (po_some pe_int)) pa_nil)) (pa_cons pe_int (pa_cons pe_int pa_nil)))))), ?_⟩
  repeat wtm_at "rd"
  refine ⟨a, _, rfl, ha, fun p hp => ⟨p, _, rfl, .inl (SqL.of upd_same), fun l hl => ⟨Nat.le_of_ble_eq_true rfl, fun z hz => ?_⟩⟩⟩
  obtain ⟨ms, em, lm⟩ := pen_cut ns
  refine q z l _ (by wtm_at "same") ⟨0, 0, ms, upd_same, ?_, lm, Int.le_refl _, Int.le_refl _⟩
  rw [← em]
  wtm_at "at"
theorem ok__law_thing (M : Mod (hd04.heap_39 w.params) mg base) : CallG PP w (hd04.heap_39 w.params) mg base 2 (.ref 389) (pos (spThing (hd04.heap_39 w.params))) := by
  obtain ⟨fd, F⟩ := fn__law_thing w
  refine def_pos F sc__law_thing (fun vs H Q E h => ?_) (fun _ _ _ _ _ _ us hl => match us, hl with | [_], _ => rfl) (fun cdv A outer s H vs Q E hr hg h => ?_)
  · obtain ⟨p, c, m, rfl, _⟩ := h; rfl
  have nd := sc__law_thing.nd
  obtain ⟨p, c, m, rfl, P, hm, q⟩ := h
  refine ⟨_, (pss_cons (ps_set (i := 1) nd rfl (.inl rfl) (pe_lst (pa_cons pe_non (pa_cons pe_bl (pa_cons pe_bl (pa_cons (pe_un un_neg pe_int) (pa_cons pe_int (pa_cons pe_int (pa_cons pe_int (pa_cons pe_int (pa_cons pe_int (pa_cons pe_int (pa_cons pe_int (pa_cons pe_int (pa_cons pe_int (pa_cons pe_int (pa_cons pe_int (pa_cons pe_int (pa_cons (pe_op op_pow pe_int pe_int) (pa_cons pe_str (pa_cons pe_str (pa_cons pe_str pa_nil))))))))))))))))))))))
      (pss_cons (ps_set (i := 1) nd rfl (.inl rfl) (pe_op op_cat (pv 1) (pe_lst (pa_cons pe_str (pa_cons pe_str (pa_cons pe_str (pa_cons pe_str (pa_cons pe_str (pa_cons pe_str (pa_cons pe_str (pa_cons pe_str (pa_cons (pe_tup pa_nil) (pa_cons (pe_lst pa_nil) (pa_cons pe_dnewK pa_nil))))))))))))))
      (pss_cons (ps_set (i := 1) nd rfl (.inl rfl) (pe_op op_cat (pv 1) (pe_lst (pa_cons (pe_tup (pa_cons pe_str pa_nil)) (pa_cons (pe_lst (pa_cons pe_int pa_nil)) (pa_cons (pe_disp (pps_cons pe_str pe_int pps_nil) rfl rfl (by simp) (by decide)) (pa_cons (pe_tup (pa_cons pe_int (pa_cons pe_int pa_nil))) pa_nil)))))))
      (pss_one (ps_ret (pe_ix ix_list (pv 1) (pe_cl (takes_of rfl rfl rfl rfl) (ok_drawP M) (hr.mono (by decide)) hg rfl (mg__law_draw M) (kp__law_draw w) (pa_cons (pv 0) (pa_cons (pe_callB call_len_seq (by rfl) (mn_len M) (by decide +kernel) (pa_cons (pv 1) pa_nil)) pa_nil))) (fun _ _ => rfl))))))), ?_⟩
  repeat wtm_at "rd"
  refine ⟨⟨by decide, by decide, by decide⟩, ?_⟩
  refine ⟨Nat.le_of_ble_eq_true rfl, fun z1 hz1 => ?_⟩
  wtm_at "rd"
  refine ⟨Nat.le_of_ble_eq_true rfl, fun t1 ht1 => ⟨Nat.le_of_ble_eq_true rfl, fun l1 hl1 => fun d1 hd1 => ?_⟩⟩
  refine ⟨Nat.le_of_ble_eq_true rfl, fun z2 hz2 => ?_⟩
  refine ⟨z1, z2, _, _, rfl, rfl, by wtm_at "at", upd_same, Nat.le_of_ble_eq_true rfl, fun z3 hz3 => ?_⟩
  wtm_at "rd"
  refine ⟨Nat.le_of_ble_eq_true rfl, fun t2 ht2 => ⟨Nat.le_of_ble_eq_true rfl, fun l2 hl2 => fun d2 hd2 => ?_⟩⟩
  refine ⟨upd_same, [(.inr "a", .int 0)], rfl, by decide, ?_⟩
  rw [upd_upd]
  refine ⟨Nat.le_of_ble_eq_true rfl, fun t3 ht3 => ?_⟩
  refine ⟨Nat.le_of_ble_eq_true rfl, fun z4 hz4 => ?_⟩
  refine ⟨z3, z4, _, _, rfl, rfl, by wtm_at "at", upd_same, Nat.le_of_ble_eq_true rfl, fun z5 hz5 => ?_⟩
  refine ⟨_, rfl, ?_⟩
  refine ⟨_, rfl, _, rfl, z5, _, rfl, .inl (SqL.of upd_same), ?_⟩
  refine ⟨rfl, p, c, m, _, rfl, ((((((((((((P.new hz1).new ht1).new hl1).new hd1).new hz2).new hz3).new ht2).new hl2).new hd2).new ht3).new hz4).new hz5), by omega, (show (1 : Int) ≤ ((35 : Nat) : Int) by decide), (show ((35 : Nat) : Int) ≤ 100000 by decide), fun d H' d0 dd s1 P2 => ?_⟩
  have n_t1 : H t1 = none := by
    have h := ht1
    repeat (replace h := upd_none h)
    exact h
  have f_t1 : Nw H H' t1 = some (.tup []) := Nw.of n_t1 (Uk.Off.at (s1 _ _ (Uk.Off.of (by wtm_at "at") ((P.new hz1).ne ht1))))
  have n_l1 : H l1 = none := by
    have h := hl1
    repeat (replace h := upd_none h)
    exact h
  have f_l1 : Nw H H' l1 = some (.lst []) := Nw.of n_l1 (Uk.Off.at (s1 _ _ (Uk.Off.of (by wtm_at "at") (((P.new hz1).new ht1).ne hl1))))
  have n_d1 : H d1 = none := by
    have h := hd1
    repeat (replace h := upd_none h)
    exact h
  have f_d1 : Nw H H' d1 = some (.dK []) := Nw.of n_d1 (Uk.Off.at (s1 _ _ (Uk.Off.of (by wtm_at "at") ((((P.new hz1).new ht1).new hl1).ne hd1))))
  have n_t2 : H t2 = none := by
    have h := ht2
    repeat (replace h := upd_none h)
    exact h
  have f_t2 : Nw H H' t2 = some (.tup [.str "a"]) := Nw.of n_t2 (Uk.Off.at (s1 _ _ (Uk.Off.of (by wtm_at "at") (((((((P.new hz1).new ht1).new hl1).new hd1).new hz2).new hz3).ne ht2))))
  have n_l2 : H l2 = none := by
    have h := hl2
    repeat (replace h := upd_none h)
    exact h
  have f_l2 : Nw H H' l2 = some (.lst [.int 0]) := Nw.of n_l2 (Uk.Off.at (s1 _ _ (Uk.Off.of (by wtm_at "at") ((((((((P.new hz1).new ht1).new hl1).new hd1).new hz2).new hz3).new ht2).ne hl2))))
  have n_d2 : H d2 = none := by
    have h := hd2
    repeat (replace h := upd_none h)
    exact h
  have f_d2 : Nw H H' d2 = some (.dK (mergeK [] [(.inr "a", .int 0)])) := Nw.of n_d2 (Uk.Off.at (s1 _ _ (Uk.Off.of (by wtm_at "at") (((((((((P.new hz1).new ht1).new hl1).new hd1).new hz2).new hz3).new ht2).new hl2).ne hd2))))
  have f_d2 : Nw H H' d2 = some (.dK [(.inr "a", .int 0)]) := f_d2
  have n_t3 : H t3 = none := by
    have h := ht3
    repeat (replace h := upd_none h)
    exact h
  have f_t3 : Nw H H' t3 = some (.tup [.int 0, .int 0]) := Nw.of n_t3 (Uk.Off.at (s1 _ _ (Uk.Off.of (by wtm_at "at") ((((((((((P.new hz1).new ht1).new hl1).new hd1).new hz2).new hz3).new ht2).new hl2).new hd2).ne ht3))))
  have f_z5 := Uk.Off.at (s1 _ _ (Uk.Off.of upd_same ((((((((((((P.new hz1).new ht1).new hl1).new hd1).new hz2).new hz3).new ht2).new hl2).new hd2).new ht3).new hz4).ne hz5)))
  have all : DqAll (hd04.heap_39 w.params) (Nw H H') ([V.non, V.bl true, V.bl false, V.int (-1), V.int 0, V.int 1, V.int 3, V.int 4, V.int 5, V.int 8, V.int 9, V.int 16, V.int 17, V.int 1016, V.int 1023, V.int 1024, V.int ((10 : Int) ^ Int.toNat 60), V.str "", V.str "a", V.str "A"] ++ [V.str "ab cd", V.str "a\n", V.str "abcdefgh", V.str "abcdefghi", V.str "a1", V.str "read", V.str "clean", V.str "wait", V.ref t1, V.ref l1, V.ref d1] ++ [V.ref t2, V.ref l2, V.ref d2, V.ref t3]) thingData := by
    simp only [List.cons_append, List.nil_append]
    unfold thingData
    exact .cons .non (.cons (.bl _) (.cons (.bl _) (.cons (.int _) (.cons (.int _) (.cons (.int _) (.cons (.int _) (.cons (.int _) (.cons (.int _) (.cons (.int _) (.cons (.int _) (.cons (.int _) (.cons (.int _) (.cons (.int _) (.cons (.int _) (.cons (.int _) (.cons (.int _) (.cons (.str _) (.cons (.str _) (.cons (.str _) (.cons (.str _) (.cons (.str _) (.cons (.str _) (.cons (.str _) (.cons (.str _) (.cons (.str _) (.cons (.str _) (.cons (.str _) (.cons (.tup (SqT.of f_t1) .nil) (.cons (.lst f_l1 .nil) (.cons (.dct f_d1 .nil) (.cons (.tup (SqT.of f_t2) (.cons (.str _) .nil)) (.cons (.lst f_l2 (.cons (.int _) .nil)) (.cons (.dct f_d2 (.cons (k := .inr _) (.int _) .nil)) (.cons (.tup (SqT.of f_t3) (.cons (.int _) (.cons (.int _) .nil))) .nil))))))))))))))))))))))))))))))))))
  obtain ⟨v, hv, hmv⟩ := atI_mem d0 dd
  refine ⟨z5, _, d, v, rfl, rfl, SqL.of f_z5, hv, q v H' (dqAll_mem all hmv) (same_trans (Uk.Off.same (by wtm_at "same")) s1) P2⟩
end
end M04

namespace M04
open PySem PySem.Spec PyProof.Rows L2 StX Uk

local macro_rules | `(tactic| wtm_at "off0") => `(tactic| first | with_reducible assumption | (with_reducible apply Off.mk; wtm_at "pen"; assumption))
local macro_rules | `(tactic| wtm_at "at0") => `(tactic| first | with_reducible assumption | with_reducible exact upd_same | (with_reducible apply Off.at; wtm_at "off0"))
local macro_rules | `(tactic| wtm_at "off1") => `(tactic| first | with_reducible assumption | (with_reducible apply Off.mk; wtm_at "pen"; assumption) | (with_reducible refine Off.new (by assumption) _ _ ?_; wtm_at "off0") | (with_reducible refine at_same (by with_reducible assumption) ?_; wtm_at "off0"))
local macro_rules | `(tactic| wtm_at "at1") => `(tactic| first | with_reducible assumption | with_reducible exact upd_same | (with_reducible refine at_new (by assumption) ?_; wtm_at "at0") | (with_reducible refine at_same (by with_reducible assumption) ?_; wtm_at "at0") | (with_reducible apply Off.at; wtm_at "off1"))
local macro_rules | `(tactic| wtm_at "off2") => `(tactic| first | with_reducible assumption | (with_reducible apply Off.mk; wtm_at "pen"; assumption) | (with_reducible refine Off.new (by assumption) _ _ ?_; wtm_at "off1") | (with_reducible refine at_same (by with_reducible assumption) ?_; wtm_at "off1"))
local macro_rules | `(tactic| wtm_at "at2") => `(tactic| first | with_reducible assumption | with_reducible exact upd_same | (with_reducible refine at_new (by assumption) ?_; wtm_at "at1") | (with_reducible refine at_same (by with_reducible assumption) ?_; wtm_at "at1") | (with_reducible apply Off.at; wtm_at "off2"))
local macro_rules | `(tactic| wtm_at "off3") => `(tactic| first | with_reducible assumption | (with_reducible apply Off.mk; wtm_at "pen"; assumption) | (with_reducible refine Off.new (by assumption) _ _ ?_; wtm_at "off2") | (with_reducible refine at_same (by with_reducible assumption) ?_; wtm_at "off2"))
local macro_rules | `(tactic| wtm_at "at3") => `(tactic| first | with_reducible assumption | with_reducible exact upd_same | (with_reducible refine at_new (by assumption) ?_; wtm_at "at2") | (with_reducible refine at_same (by with_reducible assumption) ?_; wtm_at "at2") | (with_reducible apply Off.at; wtm_at "off3"))
local macro_rules | `(tactic| wtm_at "off4") => `(tactic| first | with_reducible assumption | (with_reducible apply Off.mk; wtm_at "pen"; assumption) | (with_reducible refine Off.new (by assumption) _ _ ?_; wtm_at "off3") | (with_reducible refine at_same (by with_reducible assumption) ?_; wtm_at "off3"))
local macro_rules | `(tactic| wtm_at "at4") => `(tactic| first | with_reducible assumption | with_reducible exact upd_same | (with_reducible refine at_new (by assumption) ?_; wtm_at "at3") | (with_reducible refine at_same (by with_reducible assumption) ?_; wtm_at "at3") | (with_reducible apply Off.at; wtm_at "off4"))
local macro_rules | `(tactic| wtm_at "off5") => `(tactic| first | with_reducible assumption | (with_reducible apply Off.mk; wtm_at "pen"; assumption) | (with_reducible refine Off.new (by assumption) _ _ ?_; wtm_at "off4") | (with_reducible refine at_same (by with_reducible assumption) ?_; wtm_at "off4"))
local macro_rules | `(tactic| wtm_at "at5") => `(tactic| first | with_reducible assumption | with_reducible exact upd_same | (with_reducible refine at_new (by assumption) ?_; wtm_at "at4") | (with_reducible refine at_same (by with_reducible assumption) ?_; wtm_at "at4") | (with_reducible apply Off.at; wtm_at "off5"))
local macro_rules | `(tactic| wtm_at "off6") => `(tactic| first | with_reducible assumption | (with_reducible apply Off.mk; wtm_at "pen"; assumption) | (with_reducible refine Off.new (by assumption) _ _ ?_; wtm_at "off5") | (with_reducible refine at_same (by with_reducible assumption) ?_; wtm_at "off5"))
local macro_rules | `(tactic| wtm_at "at6") => `(tactic| first | with_reducible assumption | with_reducible exact upd_same | (with_reducible refine at_new (by assumption) ?_; wtm_at "at5") | (with_reducible refine at_same (by with_reducible assumption) ?_; wtm_at "at5") | (with_reducible apply Off.at; wtm_at "off6"))
local macro_rules | `(tactic| wtm_at "off7") => `(tactic| first | with_reducible assumption | (with_reducible apply Off.mk; wtm_at "pen"; assumption) | (with_reducible refine Off.new (by assumption) _ _ ?_; wtm_at "off6") | (with_reducible refine at_same (by with_reducible assumption) ?_; wtm_at "off6"))
local macro_rules | `(tactic| wtm_at "at7") => `(tactic| first | with_reducible assumption | with_reducible exact upd_same | (with_reducible refine at_new (by assumption) ?_; wtm_at "at6") | (with_reducible refine at_same (by with_reducible assumption) ?_; wtm_at "at6") | (with_reducible apply Off.at; wtm_at "off7"))
local macro_rules | `(tactic| wtm_at "off8") => `(tactic| first | with_reducible assumption | (with_reducible apply Off.mk; wtm_at "pen"; assumption) | (with_reducible refine Off.new (by assumption) _ _ ?_; wtm_at "off7") | (with_reducible refine at_same (by with_reducible assumption) ?_; wtm_at "off7"))
local macro_rules | `(tactic| wtm_at "at8") => `(tactic| first | with_reducible assumption | with_reducible exact upd_same | (with_reducible refine at_new (by assumption) ?_; wtm_at "at7") | (with_reducible refine at_same (by with_reducible assumption) ?_; wtm_at "at7") | (with_reducible apply Off.at; wtm_at "off8"))
local macro_rules | `(tactic| wtm_at "off9") => `(tactic| first | with_reducible assumption | (with_reducible apply Off.mk; wtm_at "pen"; assumption) | (with_reducible refine Off.new (by assumption) _ _ ?_; wtm_at "off8") | (with_reducible refine at_same (by with_reducible assumption) ?_; wtm_at "off8"))
local macro_rules | `(tactic| wtm_at "at9") => `(tactic| first | with_reducible assumption | with_reducible exact upd_same | (with_reducible refine at_new (by assumption) ?_; wtm_at "at8") | (with_reducible refine at_same (by with_reducible assumption) ?_; wtm_at "at8") | (with_reducible apply Off.at; wtm_at "off9"))
local macro_rules | `(tactic| wtm_at "off10") => `(tactic| first | with_reducible assumption | (with_reducible apply Off.mk; wtm_at "pen"; assumption) | (with_reducible refine Off.new (by assumption) _ _ ?_; wtm_at "off9") | (with_reducible refine at_same (by with_reducible assumption) ?_; wtm_at "off9"))
local macro_rules | `(tactic| wtm_at "at10") => `(tactic| first | with_reducible assumption | with_reducible exact upd_same | (with_reducible refine at_new (by assumption) ?_; wtm_at "at9") | (with_reducible refine at_same (by with_reducible assumption) ?_; wtm_at "at9") | (with_reducible apply Off.at; wtm_at "off10"))
local macro_rules | `(tactic| wtm_at "off11") => `(tactic| first | with_reducible assumption | (with_reducible apply Off.mk; wtm_at "pen"; assumption) | (with_reducible refine Off.new (by assumption) _ _ ?_; wtm_at "off10") | (with_reducible refine at_same (by with_reducible assumption) ?_; wtm_at "off10"))
local macro_rules | `(tactic| wtm_at "at11") => `(tactic| first | with_reducible assumption | with_reducible exact upd_same | (with_reducible refine at_new (by assumption) ?_; wtm_at "at10") | (with_reducible refine at_same (by with_reducible assumption) ?_; wtm_at "at10") | (with_reducible apply Off.at; wtm_at "off11"))
local macro_rules | `(tactic| wtm_at "off12") => `(tactic| first | with_reducible assumption | (with_reducible apply Off.mk; wtm_at "pen"; assumption) | (with_reducible refine Off.new (by assumption) _ _ ?_; wtm_at "off11") | (with_reducible refine at_same (by with_reducible assumption) ?_; wtm_at "off11"))
local macro_rules | `(tactic| wtm_at "at12") => `(tactic| first | with_reducible assumption | with_reducible exact upd_same | (with_reducible refine at_new (by assumption) ?_; wtm_at "at11") | (with_reducible refine at_same (by with_reducible assumption) ?_; wtm_at "at11") | (with_reducible apply Off.at; wtm_at "off12"))
local macro_rules | `(tactic| wtm_at "off13") => `(tactic| first | with_reducible assumption | (with_reducible apply Off.mk; wtm_at "pen"; assumption) | (with_reducible refine Off.new (by assumption) _ _ ?_; wtm_at "off12") | (with_reducible refine at_same (by with_reducible assumption) ?_; wtm_at "off12"))
local macro_rules | `(tactic| wtm_at "at13") => `(tactic| first | with_reducible assumption | with_reducible exact upd_same | (with_reducible refine at_new (by assumption) ?_; wtm_at "at12") | (with_reducible refine at_same (by with_reducible assumption) ?_; wtm_at "at12") | (with_reducible apply Off.at; wtm_at "off13"))
local macro_rules | `(tactic| wtm_at "off14") => `(tactic| first | with_reducible assumption | (with_reducible apply Off.mk; wtm_at "pen"; assumption) | (with_reducible refine Off.new (by assumption) _ _ ?_; wtm_at "off13") | (with_reducible refine at_same (by with_reducible assumption) ?_; wtm_at "off13"))
local macro_rules | `(tactic| wtm_at "at14") => `(tactic| first | with_reducible assumption | with_reducible exact upd_same | (with_reducible refine at_new (by assumption) ?_; wtm_at "at13") | (with_reducible refine at_same (by with_reducible assumption) ?_; wtm_at "at13") | (with_reducible apply Off.at; wtm_at "off14"))
local macro_rules | `(tactic| wtm_at "off15") => `(tactic| first | with_reducible assumption | (with_reducible apply Off.mk; wtm_at "pen"; assumption) | (with_reducible refine Off.new (by assumption) _ _ ?_; wtm_at "off14") | (with_reducible refine at_same (by with_reducible assumption) ?_; wtm_at "off14"))
local macro_rules | `(tactic| wtm_at "at15") => `(tactic| first | with_reducible assumption | with_reducible exact upd_same | (with_reducible refine at_new (by assumption) ?_; wtm_at "at14") | (with_reducible refine at_same (by with_reducible assumption) ?_; wtm_at "at14") | (with_reducible apply Off.at; wtm_at "off15"))
local macro_rules | `(tactic| wtm_at "off16") => `(tactic| first | with_reducible assumption | (with_reducible apply Off.mk; wtm_at "pen"; assumption) | (with_reducible refine Off.new (by assumption) _ _ ?_; wtm_at "off15") | (with_reducible refine at_same (by with_reducible assumption) ?_; wtm_at "off15"))
local macro_rules | `(tactic| wtm_at "at16") => `(tactic| first | with_reducible assumption | with_reducible exact upd_same | (with_reducible refine at_new (by assumption) ?_; wtm_at "at15") | (with_reducible refine at_same (by with_reducible assumption) ?_; wtm_at "at15") | (with_reducible apply Off.at; wtm_at "off16"))
local macro_rules | `(tactic| wtm_at "off17") => `(tactic| first | with_reducible assumption | (with_reducible apply Off.mk; wtm_at "pen"; assumption) | (with_reducible refine Off.new (by assumption) _ _ ?_; wtm_at "off16") | (with_reducible refine at_same (by with_reducible assumption) ?_; wtm_at "off16"))
local macro_rules | `(tactic| wtm_at "at17") => `(tactic| first | with_reducible assumption | with_reducible exact upd_same | (with_reducible refine at_new (by assumption) ?_; wtm_at "at16") | (with_reducible refine at_same (by with_reducible assumption) ?_; wtm_at "at16") | (with_reducible apply Off.at; wtm_at "off17"))
local macro_rules | `(tactic| wtm_at "off18") => `(tactic| first | with_reducible assumption | (with_reducible apply Off.mk; wtm_at "pen"; assumption) | (with_reducible refine Off.new (by assumption) _ _ ?_; wtm_at "off17") | (with_reducible refine at_same (by with_reducible assumption) ?_; wtm_at "off17"))
local macro_rules | `(tactic| wtm_at "at18") => `(tactic| first | with_reducible assumption | with_reducible exact upd_same | (with_reducible refine at_new (by assumption) ?_; wtm_at "at17") | (with_reducible refine at_same (by with_reducible assumption) ?_; wtm_at "at17") | (with_reducible apply Off.at; wtm_at "off18"))
local macro_rules | `(tactic| wtm_at "off19") => `(tactic| first | with_reducible assumption | (with_reducible apply Off.mk; wtm_at "pen"; assumption) | (with_reducible refine Off.new (by assumption) _ _ ?_; wtm_at "off18") | (with_reducible refine at_same (by with_reducible assumption) ?_; wtm_at "off18"))
local macro_rules | `(tactic| wtm_at "at19") => `(tactic| first | with_reducible assumption | with_reducible exact upd_same | (with_reducible refine at_new (by assumption) ?_; wtm_at "at18") | (with_reducible refine at_same (by with_reducible assumption) ?_; wtm_at "at18") | (with_reducible apply Off.at; wtm_at "off19"))
local macro_rules | `(tactic| wtm_at "off20") => `(tactic| first | with_reducible assumption | (with_reducible apply Off.mk; wtm_at "pen"; assumption) | (with_reducible refine Off.new (by assumption) _ _ ?_; wtm_at "off19") | (with_reducible refine at_same (by with_reducible assumption) ?_; wtm_at "off19"))
local macro_rules | `(tactic| wtm_at "at20") => `(tactic| first | with_reducible assumption | with_reducible exact upd_same | (with_reducible refine at_new (by assumption) ?_; wtm_at "at19") | (with_reducible refine at_same (by with_reducible assumption) ?_; wtm_at "at19") | (with_reducible apply Off.at; wtm_at "off20"))
local macro_rules | `(tactic| wtm_at "off21") => `(tactic| first | with_reducible assumption | (with_reducible apply Off.mk; wtm_at "pen"; assumption) | (with_reducible refine Off.new (by assumption) _ _ ?_; wtm_at "off20") | (with_reducible refine at_same (by with_reducible assumption) ?_; wtm_at "off20"))
local macro_rules | `(tactic| wtm_at "at21") => `(tactic| first | with_reducible assumption | with_reducible exact upd_same | (with_reducible refine at_new (by assumption) ?_; wtm_at "at20") | (with_reducible refine at_same (by with_reducible assumption) ?_; wtm_at "at20") | (with_reducible apply Off.at; wtm_at "off21"))
local macro_rules | `(tactic| wtm_at "off22") => `(tactic| first | with_reducible assumption | (with_reducible apply Off.mk; wtm_at "pen"; assumption) | (with_reducible refine Off.new (by assumption) _ _ ?_; wtm_at "off21") | (with_reducible refine at_same (by with_reducible assumption) ?_; wtm_at "off21"))
local macro_rules | `(tactic| wtm_at "at22") => `(tactic| first | with_reducible assumption | with_reducible exact upd_same | (with_reducible refine at_new (by assumption) ?_; wtm_at "at21") | (with_reducible refine at_same (by with_reducible assumption) ?_; wtm_at "at21") | (with_reducible apply Off.at; wtm_at "off22"))
local macro_rules | `(tactic| wtm_at "off23") => `(tactic| first | with_reducible assumption | (with_reducible apply Off.mk; wtm_at "pen"; assumption) | (with_reducible refine Off.new (by assumption) _ _ ?_; wtm_at "off22") | (with_reducible refine at_same (by with_reducible assumption) ?_; wtm_at "off22"))
local macro_rules | `(tactic| wtm_at "at23") => `(tactic| first | with_reducible assumption | with_reducible exact upd_same | (with_reducible refine at_new (by assumption) ?_; wtm_at "at22") | (with_reducible refine at_same (by with_reducible assumption) ?_; wtm_at "at22") | (with_reducible apply Off.at; wtm_at "off23"))
local macro_rules | `(tactic| wtm_at "off24") => `(tactic| first | with_reducible assumption | (with_reducible apply Off.mk; wtm_at "pen"; assumption) | (with_reducible refine Off.new (by assumption) _ _ ?_; wtm_at "off23") | (with_reducible refine at_same (by with_reducible assumption) ?_; wtm_at "off23"))
local macro_rules | `(tactic| wtm_at "at24") => `(tactic| first | with_reducible assumption | with_reducible exact upd_same | (with_reducible refine at_new (by assumption) ?_; wtm_at "at23") | (with_reducible refine at_same (by with_reducible assumption) ?_; wtm_at "at23") | (with_reducible apply Off.at; wtm_at "off24"))
local macro_rules | `(tactic| wtm_at "off25") => `(tactic| first | with_reducible assumption | (with_reducible apply Off.mk; wtm_at "pen"; assumption) | (with_reducible refine Off.new (by assumption) _ _ ?_; wtm_at "off24") | (with_reducible refine at_same (by with_reducible assumption) ?_; wtm_at "off24"))
local macro_rules | `(tactic| wtm_at "at25") => `(tactic| first | with_reducible assumption | with_reducible exact upd_same | (with_reducible refine at_new (by assumption) ?_; wtm_at "at24") | (with_reducible refine at_same (by with_reducible assumption) ?_; wtm_at "at24") | (with_reducible apply Off.at; wtm_at "off25"))
local macro_rules | `(tactic| wtm_at "off26") => `(tactic| first | with_reducible assumption | (with_reducible apply Off.mk; wtm_at "pen"; assumption) | (with_reducible refine Off.new (by assumption) _ _ ?_; wtm_at "off25") | (with_reducible refine at_same (by with_reducible assumption) ?_; wtm_at "off25"))
local macro_rules | `(tactic| wtm_at "at26") => `(tactic| first | with_reducible assumption | with_reducible exact upd_same | (with_reducible refine at_new (by assumption) ?_; wtm_at "at25") | (with_reducible refine at_same (by with_reducible assumption) ?_; wtm_at "at25") | (with_reducible apply Off.at; wtm_at "off26"))
local macro_rules | `(tactic| wtm_at "off27") => `(tactic| first | with_reducible assumption | (with_reducible apply Off.mk; wtm_at "pen"; assumption) | (with_reducible refine Off.new (by assumption) _ _ ?_; wtm_at "off26") | (with_reducible refine at_same (by with_reducible assumption) ?_; wtm_at "off26"))
local macro_rules | `(tactic| wtm_at "at27") => `(tactic| first | with_reducible assumption | with_reducible exact upd_same | (with_reducible refine at_new (by assumption) ?_; wtm_at "at26") | (with_reducible refine at_same (by with_reducible assumption) ?_; wtm_at "at26") | (with_reducible apply Off.at; wtm_at "off27"))
local macro_rules | `(tactic| wtm_at "off28") => `(tactic| first | with_reducible assumption | (with_reducible apply Off.mk; wtm_at "pen"; assumption) | (with_reducible refine Off.new (by assumption) _ _ ?_; wtm_at "off27") | (with_reducible refine at_same (by with_reducible assumption) ?_; wtm_at "off27"))
local macro_rules | `(tactic| wtm_at "at28") => `(tactic| first | with_reducible assumption | with_reducible exact upd_same | (with_reducible refine at_new (by assumption) ?_; wtm_at "at27") | (with_reducible refine at_same (by with_reducible assumption) ?_; wtm_at "at27") | (with_reducible apply Off.at; wtm_at "off28"))
local macro_rules | `(tactic| wtm_at "off29") => `(tactic| first | with_reducible assumption | (with_reducible apply Off.mk; wtm_at "pen"; assumption) | (with_reducible refine Off.new (by assumption) _ _ ?_; wtm_at "off28") | (with_reducible refine at_same (by with_reducible assumption) ?_; wtm_at "off28"))
local macro_rules | `(tactic| wtm_at "at29") => `(tactic| first | with_reducible assumption | with_reducible exact upd_same | (with_reducible refine at_new (by assumption) ?_; wtm_at "at28") | (with_reducible refine at_same (by with_reducible assumption) ?_; wtm_at "at28") | (with_reducible apply Off.at; wtm_at "off29"))
local macro_rules | `(tactic| wtm_at "off30") => `(tactic| first | with_reducible assumption | (with_reducible apply Off.mk; wtm_at "pen"; assumption) | (with_reducible refine Off.new (by assumption) _ _ ?_; wtm_at "off29") | (with_reducible refine at_same (by with_reducible assumption) ?_; wtm_at "off29"))
local macro_rules | `(tactic| wtm_at "at30") => `(tactic| first | with_reducible assumption | with_reducible exact upd_same | (with_reducible refine at_new (by assumption) ?_; wtm_at "at29") | (with_reducible refine at_same (by with_reducible assumption) ?_; wtm_at "at29") | (with_reducible apply Off.at; wtm_at "off30"))
local macro_rules | `(tactic| wtm_at "off31") => `(tactic| first | with_reducible assumption | (with_reducible apply Off.mk; wtm_at "pen"; assumption) | (with_reducible refine Off.new (by assumption) _ _ ?_; wtm_at "off30") | (with_reducible refine at_same (by with_reducible assumption) ?_; wtm_at "off30"))
local macro_rules | `(tactic| wtm_at "at31") => `(tactic| first | with_reducible assumption | with_reducible exact upd_same | (with_reducible refine at_new (by assumption) ?_; wtm_at "at30") | (with_reducible refine at_same (by with_reducible assumption) ?_; wtm_at "at30") | (with_reducible apply Off.at; wtm_at "off31"))
local macro_rules | `(tactic| wtm_at "off32") => `(tactic| first | with_reducible assumption | (with_reducible apply Off.mk; wtm_at "pen"; assumption) | (with_reducible refine Off.new (by assumption) _ _ ?_; wtm_at "off31") | (with_reducible refine at_same (by with_reducible assumption) ?_; wtm_at "off31"))
local macro_rules | `(tactic| wtm_at "at32") => `(tactic| first | with_reducible assumption | with_reducible exact upd_same | (with_reducible refine at_new (by assumption) ?_; wtm_at "at31") | (with_reducible refine at_same (by with_reducible assumption) ?_; wtm_at "at31") | (with_reducible apply Off.at; wtm_at "off32"))
local macro_rules | `(tactic| wtm_at "off33") => `(tactic| first | with_reducible assumption | (with_reducible apply Off.mk; wtm_at "pen"; assumption) | (with_reducible refine Off.new (by assumption) _ _ ?_; wtm_at "off32") | (with_reducible refine at_same (by with_reducible assumption) ?_; wtm_at "off32"))
local macro_rules | `(tactic| wtm_at "at33") => `(tactic| first | with_reducible assumption | with_reducible exact upd_same | (with_reducible refine at_new (by assumption) ?_; wtm_at "at32") | (with_reducible refine at_same (by with_reducible assumption) ?_; wtm_at "at32") | (with_reducible apply Off.at; wtm_at "off33"))
local macro_rules | `(tactic| wtm_at "off34") => `(tactic| first | with_reducible assumption | (with_reducible apply Off.mk; wtm_at "pen"; assumption) | (with_reducible refine Off.new (by assumption) _ _ ?_; wtm_at "off33") | (with_reducible refine at_same (by with_reducible assumption) ?_; wtm_at "off33"))
local macro_rules | `(tactic| wtm_at "at34") => `(tactic| first | with_reducible assumption | with_reducible exact upd_same | (with_reducible refine at_new (by assumption) ?_; wtm_at "at33") | (with_reducible refine at_same (by with_reducible assumption) ?_; wtm_at "at33") | (with_reducible apply Off.at; wtm_at "off34"))
local macro_rules | `(tactic| wtm_at "off35") => `(tactic| first | with_reducible assumption | (with_reducible apply Off.mk; wtm_at "pen"; assumption) | (with_reducible refine Off.new (by assumption) _ _ ?_; wtm_at "off34") | (with_reducible refine at_same (by with_reducible assumption) ?_; wtm_at "off34"))
local macro_rules | `(tactic| wtm_at "at35") => `(tactic| first | with_reducible assumption | with_reducible exact upd_same | (with_reducible refine at_new (by assumption) ?_; wtm_at "at34") | (with_reducible refine at_same (by with_reducible assumption) ?_; wtm_at "at34") | (with_reducible apply Off.at; wtm_at "off35"))
local macro_rules | `(tactic| wtm_at "off36") => `(tactic| first | with_reducible assumption | (with_reducible apply Off.mk; wtm_at "pen"; assumption) | (with_reducible refine Off.new (by assumption) _ _ ?_; wtm_at "off35") | (with_reducible refine at_same (by with_reducible assumption) ?_; wtm_at "off35"))
local macro_rules | `(tactic| wtm_at "at36") => `(tactic| first | with_reducible assumption | with_reducible exact upd_same | (with_reducible refine at_new (by assumption) ?_; wtm_at "at35") | (with_reducible refine at_same (by with_reducible assumption) ?_; wtm_at "at35") | (with_reducible apply Off.at; wtm_at "off36"))
local macro_rules | `(tactic| wtm_at "off37") => `(tactic| first | with_reducible assumption | (with_reducible apply Off.mk; wtm_at "pen"; assumption) | (with_reducible refine Off.new (by assumption) _ _ ?_; wtm_at "off36") | (with_reducible refine at_same (by with_reducible assumption) ?_; wtm_at "off36"))
local macro_rules | `(tactic| wtm_at "at37") => `(tactic| first | with_reducible assumption | with_reducible exact upd_same | (with_reducible refine at_new (by assumption) ?_; wtm_at "at36") | (with_reducible refine at_same (by with_reducible assumption) ?_; wtm_at "at36") | (with_reducible apply Off.at; wtm_at "off37"))
local macro_rules | `(tactic| wtm_at "off38") => `(tactic| first | with_reducible assumption | (with_reducible apply Off.mk; wtm_at "pen"; assumption) | (with_reducible refine Off.new (by assumption) _ _ ?_; wtm_at "off37") | (with_reducible refine at_same (by with_reducible assumption) ?_; wtm_at "off37"))
local macro_rules | `(tactic| wtm_at "at38") => `(tactic| first | with_reducible assumption | with_reducible exact upd_same | (with_reducible refine at_new (by assumption) ?_; wtm_at "at37") | (with_reducible refine at_same (by with_reducible assumption) ?_; wtm_at "at37") | (with_reducible apply Off.at; wtm_at "off38"))
local macro_rules | `(tactic| wtm_at "off39") => `(tactic| first | with_reducible assumption | (with_reducible apply Off.mk; wtm_at "pen"; assumption) | (with_reducible refine Off.new (by assumption) _ _ ?_; wtm_at "off38") | (with_reducible refine at_same (by with_reducible assumption) ?_; wtm_at "off38"))
local macro_rules | `(tactic| wtm_at "at39") => `(tactic| first | with_reducible assumption | with_reducible exact upd_same | (with_reducible refine at_new (by assumption) ?_; wtm_at "at38") | (with_reducible refine at_same (by with_reducible assumption) ?_; wtm_at "at38") | (with_reducible apply Off.at; wtm_at "off39"))
local macro_rules | `(tactic| wtm_at "at") => `(tactic| wtm_at "at39")
local macro_rules | `(tactic| wtm_at "off") => `(tactic| wtm_at "off39")
local macro_rules | `(tactic| wtm_at "pen") => `(tactic| first
  | assumption | (refine Pen.new (by assumption) ?_; wtm_at "pen") | (refine Pen.same (by assumption) ?_; wtm_at "pen"))
local macro_rules | `(tactic| wtm_at "same") => `(tactic| first
  | exact fun _ _ h => h | assumption | exact same_new (by assumption) | (refine same_trans ?_ (same_new (by assumption)); wtm_at "same") | (refine same_trans ?_ (by assumption); wtm_at "same")
  | (refine same_trans ?_ (Off.new (by assumption)); wtm_at "same") | (refine same_trans ?_ (Off.same (by assumption)); wtm_at "same"))
local macro_rules | `(tactic| wtm_at "dps") => `(tactic| first
  | exact .nil | (apply DpAll.cons; wtm_at "dp"; wtm_at "dps") | exact dpAll_ints _)
local macro_rules | `(tactic| wtm_at "dp") => `(tactic| first
  | exact .non | exact .bl _ | exact .int _ | exact .str _ | (fail) | (apply Dp.lst; (apply SqL.of; wtm_at "at"); wtm_at "dps") | (apply Dp.tup; (apply SqT.of; wtm_at "at"); wtm_at "dps"))
local macro_rules | `(tactic| wtm_at "side") => `(tactic| first
  | exact ⟨by decide, by decide⟩ | exact ⟨by decide, by decide, by decide⟩ | exact .inl ⟨by decide, by decide⟩ | exact .inr ⟨by decide, by decide⟩ | (show ¬ _ = _; decide))
local macro_rules | `(tactic| wtm_at "sml") => `(tactic| first
  | exact sml_none (by decide) | exact sml_bool (by decide) | exact sml_int (by decide) (by omega) | (fail) | exact sml_list (n := 19) (k := 0) (by wtm_at "smls") (by decide) (by decide))
local macro_rules | `(tactic| wtm_at "smls") => `(tactic| first | exact smlAll_nil (m := 0) | (apply smlAll_cons; wtm_at "sml"; wtm_at "smls"))
local macro_rules | `(tactic| wtm_at "shw") => `(tactic| exact Sml.shw (n := 10000) (k := 50) (by wtm_at "sml") (by decide) (by decide))
local macro_rules | `(tactic| wtm_at "rd") => `(tactic| first
  | refine ⟨_, rfl, ?_⟩ | refine ⟨_, _, rfl, rfl, ?_⟩ | refine ifT rfl ?_ | refine ifF rfl ?_ | refine ⟨rfl, ?_⟩
  | refine ⟨_, _, by rfl, by wtm_at "dp", by wtm_at "shw", ?_⟩
  | refine ⟨_, _, _, _, _, rfl, by wtm_at "at", by wtm_at "cls", by wtm_at "na", by rfl, ?_⟩
  | refine ⟨_, _, rfl, .inr (SqT.of (by wtm_at "at")), ?_⟩ | refine ⟨_, _, rfl, .inl (SqL.of (by wtm_at "at")), ?_⟩
  | refine ⟨_, _, rfl, .inr (SqT.of (by wtm_at "at")), by rfl, by rfl, ?_⟩ | refine ⟨_, _, rfl, .inl (SqL.of (by wtm_at "at")), by rfl, by rfl, ?_⟩
  | refine ⟨_, _, _, _, rfl, rfl, SqT.of (by wtm_at "at"), by rfl, ?_⟩ | refine ⟨_, _, _, _, rfl, rfl, SqL.of (by wtm_at "at"), by rfl, ?_⟩
  | refine ⟨_, _, rfl, rfl, by wtm_at "side", ?_⟩
  | refine ⟨_, _, by wtm_at "dp", by wtm_at "dp", by first | rfl | decide +kernel, by first | rfl | decide +kernel, ?_⟩
  | refine ⟨_, _, [_, _], [_, _], rfl, rfl, sqI2 (by wtm_at "at"), sqI2 (by wtm_at "at"), ?_⟩
  | refine ⟨_, _, rfl, ?_⟩
  | refine ⟨Nat.le_of_ble_eq_true rfl, fun _ _ => ?_⟩
  | refine ifF (by decide +kernel) ?_ | refine ifF (nd_refl _) ?_ | refine ifT (de_refl _) ?_)

def lettersOk (x : Str) : Bool := x.cps.toList.all fun c => decide (97 ≤ c ∧ c ≤ 122)
def nameOk (x : Str) : Bool := decide (1 ≤ x.length ∧ x.length ≤ 8) && lettersOk x
theorem letter_in (c : Nat) : decide (c ∈ (("abcdefghijklmnopqrstuvwxyz" : Str)).cps.toList) = decide (97 ≤ c ∧ c ≤ 122) := by
  have e : (("abcdefghijklmnopqrstuvwxyz" : Str)).cps.toList = [97,98,99,100,101,102,103,104,105,106,107,108,109,110,111,112,113,114,115,116,117,118,119,120,121,122] := by decide +kernel
  rw [e]
  apply decide_eq_decide.mpr
  simp only [List.mem_cons, List.not_mem_nil, or_false]
  omega
def intD : PyData → Bool
  | .int _ => true
  | _ => false
def within (d : PyData) (lo hi : Int) : Bool := match d with
  | .int i => decide (lo ≤ i) && decide (i ≤ hi)
  | _ => false
def nameD : PyData → Bool
  | .str x => nameOk x
  | _ => false
def smallD : PyData → Prop
  | .str x => x.length ≤ 1000
  | _ => True
theorem intD_of (d : PyData) : (isD "int" d && !isD "bool" d) = intD d := by
  cases d <;> (simp only [isD, tyD, intD]; decide)
theorem within_of {d : PyData} {lo hi : Int} (h : intD d = false) : within d lo hi = false := by
  cases d <;> first | rfl | exact absurd h (by simp [intD])
theorem nameD_of {d : PyData} (h : isD "str" d = false) : nameD d = false := by
  cases d <;> first | rfl | exact absurd h (by simp only [isD, tyD]; decide)
theorem dq_int {K : PySem.W.Frag} {H : Hp} {v : V} {d : PyData} (h : Dq K H v d) (e : intD d = true) : ∃ i, d = .int i ∧ v = .int i := by
  cases h <;> first | exact ⟨_, rfl, rfl⟩ | exact absurd e (by simp [intD])
theorem dq_str {K : PySem.W.Frag} {H : Hp} {v : V} {d : PyData} (h : Dq K H v d) (e : isD "str" d = true) : ∃ x, d = .str x ∧ v = .str x := by
  cases h <;> first | exact ⟨_, rfl, rfl⟩ | exact absurd e (by simp only [isD, tyD]; decide)
def spIsInt (K : PySem.W.Frag) : Sp := fun vs H Q _ => ∃ v d, vs = [v] ∧ Dq K H v d ∧ Q (.bl (intD d)) H
def spWithin (K : PySem.W.Frag) : Sp := fun vs H Q _ => ∃ v d lo hi, vs = [v, .int lo, .int hi] ∧ Dq K H v d ∧ Q (.bl (within d lo hi)) H
def spNameD (K : PySem.W.Frag) : Sp := fun vs H Q _ => ∃ v d, vs = [v] ∧ Dq K H v d ∧ smallD d ∧ ∀ H', Same H H' → Q (.bl (nameD d)) H'
section
variable {mg : PySem.Str → Option Value} {base : Heap} {w : World}
theorem ok_is_integer (M : Mod (hd04.heap_39 w.params) mg base) : CallG PP w (hd04.heap_39 w.params) mg base 1 (.ref 181) (pos (spIsInt (hd04.heap_39 w.params))) := by
  obtain ⟨fd, F⟩ := fn_is_integer w
  refine def_pos F sc_is_integer (fun vs H Q E h => ?_) (fun _ _ _ _ _ _ us hl => match us, hl with | [_], _ => rfl) (fun cdv A outer s H vs Q E hr hg h => ?_)
  · obtain ⟨v, d, rfl, _⟩ := h; rfl
  have nd := sc_is_integer.nd
  obtain ⟨v, d, rfl, hd, q⟩ := h
  refine ⟨_, (pss_one (ps_ret (pe_and (pe_callB call_isi (by rfl) (mn_isinstance M) (by decide +kernel) (pa_cons (pv 0) (pa_cons (pe_bltn (v := .ty "int") (by rfl) (mn_int M) (by decide +kernel) rfl) pa_nil))) (pe_one (pe_not (pe_callB call_isi (by rfl) (mn_isinstance M) (by decide +kernel) (pa_cons (pv 0) (pa_cons (pe_bltn (v := .ty "bool") (by rfl) (mn_bool M) (by decide +kernel) rfl) pa_nil)))))))), ?_⟩
  have z := intD_of d
  refine ⟨_, rfl, _, _, _, _, _, rfl, .ty "int", dq_ty hd, kit_dInt d, _, rfl, ite_b (fun e => ?_) (fun e => ?_)⟩
  · refine ⟨_, rfl, _, _, _, _, _, rfl, .ty "bool", dq_ty hd, kit_dBool d, ?_⟩
    rw [e, Bool.true_and] at z
    rw [← z] at q
    first | exact q | exact ⟨_, rfl, q⟩
  · rw [e, Bool.false_and] at z
    rw [← z] at q
    first | exact q | exact ⟨_, rfl, q⟩
theorem ok_is_within (M : Mod (hd04.heap_39 w.params) mg base) : CallG PP w (hd04.heap_39 w.params) mg base 2 (.ref 188) (pos (spWithin (hd04.heap_39 w.params))) := by
  obtain ⟨fd, F⟩ := fn_is_within w
  refine def_pos F sc_is_within (fun vs H Q E h => ?_) (fun _ _ _ _ _ _ us hl => match us, hl with | [_, _, _], _ => rfl) (fun cdv A outer s H vs Q E hr hg h => ?_)
  · obtain ⟨v, d, lo, hi, rfl, _⟩ := h; rfl
  have nd := sc_is_within.nd
  obtain ⟨v, d, lo, hi, rfl, hd, q⟩ := h
  refine ⟨_, (pss_one (ps_ret (pe_and (pe_cl (takes_of rfl rfl rfl rfl) (ok_is_integer M) (hr.mono (by decide)) hg rfl (mg_is_integer M) (kp_is_integer w) (pa_cons (pv 0) pa_nil)) (pe_one (pe_chain op_le op_le (pv 1) (pv 0) (pv 2)))))), ?_⟩
  refine ⟨_, rfl, rfl, v, d, rfl, hd, _, rfl, ite_b (fun e => ?_) (fun e => ?_)⟩
  · obtain ⟨i, rfl, rfl⟩ := dq_int hd e
    refine ⟨_, rfl, _, rfl, _, _, rfl, rfl, _, rfl, ite_b (fun h1 => ?_) (fun h1 => ?_)⟩
    · refine ⟨_, rfl, _, _, rfl, rfl, ?_⟩
      have z : within (.int i) lo hi = decide (i ≤ hi) := by
        show (decide (lo ≤ i) && decide (i ≤ hi)) = _
        rw [h1, Bool.true_and]
      rw [z] at q
      exact q
    · have z : within (.int i) lo hi = false := by
        show (decide (lo ≤ i) && decide (i ≤ hi)) = _
        rw [h1, Bool.false_and]
      rw [z] at q
      exact q
  · rw [within_of e] at q
    exact q
theorem ok_is_name (M : Mod (hd04.heap_39 w.params) mg base) : CallG PP w (hd04.heap_39 w.params) mg base 1 (.ref 193) (pos (spNameD (hd04.heap_39 w.params))) := by
  obtain ⟨fd, F⟩ := fn_is_name w
  refine def_pos F sc_is_name (fun vs H Q E h => ?_) (fun _ _ _ _ _ _ us hl => match us, hl with | [_], _ => rfl) (fun cdv A outer s H vs Q E hr hg h => ?_)
  · obtain ⟨v, d, rfl, _⟩ := h; rfl
  have nd := sc_is_name.nd
  obtain ⟨v, d, rfl, hd, hs, q⟩ := h
  refine ⟨_, (pss_cons (ps_if (PW.pt (pw_or (pt_not (pt_val (pe_callB call_isi (by rfl) (mn_isinstance M) (by decide +kernel) (pa_cons (pv 0) (pa_cons (pe_bltn (v := .ty "str") (by rfl) (mn_str M) (by decide +kernel) rfl) pa_nil))))) (pw_or1 (pt_not (pt_chain op_le op_le pe_int (pe_callB call_len_str (by rfl) (mn_len M) (by decide +kernel) (pa_cons (pv 0) pa_nil)) (pe_glob (v := .int 8) rfl (mg_LONGEST M) ⟨_, rfl⟩)))))) (pss_one (ps_ret pe_bl)) pss_nil)
      (pss_one (ps_ret (pe_callB (cr_all rfl) (by rfl) (mn_all M) (by decide +kernel) (pa_cons (pe_lc (own := [("letter", 1)]) (g := gName 1) (by rfl) nd (pi_str (pv 0)) (blkOk_by (own := [("letter", 1)]) (N := ["value", "letter"]) (sc := defScope s_is_name) (by decide +kernel)) (fun _ _ _ _ _ => pg_name (i := 1) nd rfl (Or.inl rfl)) (fun _ _ _ _ _ => pts_nil) (fun _ _ _ _ _ => (pe_cmpR op_in_sign (pv 1) (pe_glob (v := .str _) rfl (mg_LETTERS M) ⟨_, rfl⟩) (by rfl)))) pa_nil))))), ?_⟩
  refine ⟨_, rfl, _, _, _, _, _, rfl, .ty "str", dq_ty hd, kit_dStr d, _, rfl, ite_b (fun e => ?_) (fun e => ?_)⟩
  · refine ifT (b := true) rfl ?_
    have z := q H Same.rfl
    rw [nameD_of (by rw [← Bool.not_not (isD "str" d), e] <;> rfl)] at z
    exact z
  · obtain ⟨x, rfl, rfl⟩ := dq_str hd (by rw [← Bool.not_not (isD "str" d), e] <;> rfl)
    have hx : x.length ≤ 1000 := hs
    repeat wtm_at "rd"
    refine ⟨Nat.le_trans hx (by decide), 1, _, rfl, rfl, _, rfl, ?_⟩
    have bad : ¬ (1 ≤ x.length ∧ x.length ≤ 8) → nameD (.str x) = false := fun h => by show nameOk x = _; unfold nameOk; rw [decide_eq_false h, Bool.false_and]
    refine ite_b (fun h1 => ?_) (fun h1 => ?_)
    · have h1 := of_decide_eq_true h1
      refine ⟨_, _, rfl, rfl, _, rfl, ?_⟩
      by_cases h8 : (x.length : Int) ≤ 8
      · rw [decide_eq_true h8]
        wtm_at "rd"
        refine ⟨_, rfl, fun D hD => ?_⟩
        have sD := same_new (o := .lst []) hD
        refine lc_it walk_str (fun i H' => Same H H' ∧ H' D = some (.lst ((x.cps.toList.take i).map fun c => .bl (decide (97 ≤ c ∧ c ≤ 122))))) ⟨sD, upd_same⟩ (fun _ _ _ _ => trivial) (fun i v H1 H2 hi p y => ?_) (fun H' p => ?_)
        · obtain ⟨rfl, c, hc, rfl⟩ := y
          obtain ⟨sm, e⟩ := p
          refine ⟨rfl, ?_⟩
          wtm_at "rd"
          refine ⟨c, _, rfl, rfl, _, e, ?_, ?_, ?_⟩
          · rw [List.length_map, List.length_take]
            exact Nat.lt_of_le_of_lt (Nat.le_trans (Nat.min_le_right _ _) (Nat.le_trans (Nat.le_of_eq rfl) hx)) (by decide)
          · exact fun a u h => by
              by_cases ea : a = D
              · rw [ea, hD] at h; cases h
              · rw [upd_ne ea]; exact sm a u h
          · rw [upd_same, letter_in]
            have hc' : x.cps.toList[i]? = some c := by rw [Array.getElem?_toList]; exact hc
            rw [List.take_add_one, hc', List.map_append]
            rfl
        · obtain ⟨sm, e⟩ := p
          refine ⟨D, x.cps.toList.map fun c => decide (97 ≤ c ∧ c ≤ 122), rfl, ?_, ?_⟩
          · rw [List.map_map]
            refine SqL.of (e.trans ?_)
            rw [List.take_of_length_le (by rw [Array.length_toList]; exact Nat.le_refl _)]
            rfl
          · have : nameD (.str x) = ((x.cps.toList.map fun c => decide (97 ≤ c ∧ c ≤ 122)).all id) := by
              show nameOk x = _
              unfold nameOk lettersOk
              rw [decide_eq_true (by omega), Bool.true_and, List.all_map]
              rfl
            rw [← this]
            exact q _ sm

      · rw [decide_eq_false h8]
        repeat wtm_at "rd"
        have := q H Same.rfl
        rw [bad (by omega)] at this
        exact this
    · have h1 := of_decide_eq_false h1
      repeat wtm_at "rd"
      have := q H Same.rfl
      rw [bad (by omega)] at this
      exact this
theorem ok__law_within (M : Mod (hd04.heap_39 w.params) mg base) : CallG PP w (hd04.heap_39 w.params) mg base 1 (.ref 401) (pos (spWithin (hd04.heap_39 w.params))) := by
  obtain ⟨fd, F⟩ := fn__law_within w
  refine def_pos F sc__law_within (fun vs H Q E h => ?_) (fun _ _ _ _ _ _ us hl => match us, hl with | [_, _, _], _ => rfl) (fun cdv A outer s H vs Q E hr hg h => ?_)
  · obtain ⟨v, d, lo, hi, rfl, _⟩ := h; rfl
  have nd := sc__law_within.nd
  obtain ⟨v, d, lo, hi, rfl, hd, q⟩ := h
  refine ⟨_, (pss_one (ps_ret (pe_and (pe_callB call_isi (by rfl) (mn_isinstance M) (by decide +kernel) (pa_cons (pv 0) (pa_cons (pe_bltn (v := .ty "int") (by rfl) (mn_int M) (by decide +kernel) rfl) pa_nil))) (pe_and (pe_not (pe_callB call_isi (by rfl) (mn_isinstance M) (by decide +kernel) (pa_cons (pv 0) (pa_cons (pe_bltn (v := .ty "bool") (by rfl) (mn_bool M) (by decide +kernel) rfl) pa_nil)))) (pe_one (pe_chain op_le op_le (pv 1) (pv 0) (pv 2))))))), ?_⟩
  have z := intD_of d
  refine ⟨_, rfl, _, _, _, _, _, rfl, .ty "int", dq_ty hd, kit_dInt d, _, rfl, ite_b (fun e => ?_) (fun e => ?_)⟩
  · refine ⟨_, rfl, _, _, _, _, _, rfl, .ty "bool", dq_ty hd, kit_dBool d, ?_⟩
    rw [e, Bool.true_and] at z
    refine ⟨_, rfl, _, rfl, ite_b (fun e2 => ?_) (fun e2 => ?_)⟩
    · obtain ⟨i, rfl, rfl⟩ := dq_int hd (z.symm.trans e2)
      refine ⟨_, rfl, _, rfl, _, _, rfl, rfl, _, rfl, ite_b (fun h1 => ?_) (fun h1 => ?_)⟩
      · refine ⟨_, rfl, _, _, rfl, rfl, ?_⟩
        have z : within (.int i) lo hi = decide (i ≤ hi) := by
          show (decide (lo ≤ i) && decide (i ≤ hi)) = _
          rw [h1, Bool.true_and]
        rw [z] at q
        exact q
      · have z : within (.int i) lo hi = false := by
          show (decide (lo ≤ i) && decide (i ≤ hi)) = _
          rw [h1, Bool.false_and]
        rw [z] at q
        exact q
    · rw [within_of (z.symm.trans e2)] at q
      exact q
  · rw [e, Bool.false_and] at z
    rw [within_of z.symm] at q
    exact q
theorem ok__law_is_name (M : Mod (hd04.heap_39 w.params) mg base) : CallG PP w (hd04.heap_39 w.params) mg base 1 (.ref 394) (pos (spNameD (hd04.heap_39 w.params))) := by
  obtain ⟨fd, F⟩ := fn__law_is_name w
  refine def_pos F sc__law_is_name (fun vs H Q E h => ?_) (fun _ _ _ _ _ _ us hl => match us, hl with | [_], _ => rfl) (fun cdv A outer s H vs Q E hr hg h => ?_)
  · obtain ⟨v, d, rfl, _⟩ := h; rfl
  have nd := sc__law_is_name.nd
  obtain ⟨v, d, rfl, hd, hs, q⟩ := h
  refine ⟨_, (pss_cons (ps_if (PW.pt (pw_or (pt_not (pt_val (pe_callB call_isi (by rfl) (mn_isinstance M) (by decide +kernel) (pa_cons (pv 0) (pa_cons (pe_bltn (v := .ty "str") (by rfl) (mn_str M) (by decide +kernel) rfl) pa_nil))))) (pw_or (pt_cmpR op_lt (pe_callB call_len_str (by rfl) (mn_len M) (by decide +kernel) (pa_cons (pv 0) pa_nil)) pe_int (nomark _)) (pw_or1 (pt_cmpR op_gt (pe_callB call_len_str (by rfl) (mn_len M) (by decide +kernel) (pa_cons (pv 0) pa_nil)) pe_int (nomark _)))))) (pss_one (ps_ret pe_bl)) pss_nil)
      (pss_one (ps_ret (pe_callB (cr_all rfl) (by rfl) (mn_all M) (by decide +kernel) (pa_cons (pe_lc (own := [("letter", 1)]) (g := gName 1) (by rfl) nd (pi_str (pv 0)) (blkOk_by (own := [("letter", 1)]) (N := ["value", "letter"]) (sc := defScope s__law_is_name) (by decide +kernel)) (fun _ _ _ _ _ => pg_name (i := 1) nd rfl (Or.inl rfl)) (fun _ _ _ _ _ => pts_nil) (fun _ _ _ _ _ => (pe_cmpR op_in_sign (pv 1) pe_str (by rfl)))) pa_nil))))), ?_⟩
  refine ⟨_, rfl, _, _, _, _, _, rfl, .ty "str", dq_ty hd, kit_dStr d, _, rfl, ite_b (fun e => ?_) (fun e => ?_)⟩
  · refine ifT (b := true) rfl ?_
    have z := q H Same.rfl
    rw [nameD_of (by rw [← Bool.not_not (isD "str" d), e] <;> rfl)] at z
    exact z
  · obtain ⟨x, rfl, rfl⟩ := dq_str hd (by rw [← Bool.not_not (isD "str" d), e] <;> rfl)
    have hx : x.length ≤ 1000 := hs
    have bad : ¬ (1 ≤ x.length ∧ x.length ≤ 8) → nameD (.str x) = false := fun h => by show nameOk x = _; unfold nameOk; rw [decide_eq_false h, Bool.false_and]
    refine ⟨_, rfl, x, rfl, Nat.le_trans hx (by decide), _, _, rfl, rfl, _, rfl, ite_b (fun h1 => ?_) (fun h1 => ?_)⟩
    · refine ifT (b := true) rfl ?_
      have h1 := of_decide_eq_true h1
      have := q H Same.rfl
      rw [bad (by omega)] at this
      exact this
    · have h1 := of_decide_eq_false h1
      refine ⟨_, rfl, x, rfl, Nat.le_trans hx (by decide), _, _, rfl, rfl, _, rfl, ite_b (fun h8 => ?_) (fun h8 => ?_)⟩
      · have h8 := of_decide_eq_true h8
        have := q H Same.rfl
        rw [bad (by omega)] at this
        exact this
      · have h8 := of_decide_eq_false h8
        refine ⟨_, rfl, ?_⟩
        refine ⟨_, rfl, fun D hD => ?_⟩
        have sD := same_new (o := .lst []) hD
        refine lc_it walk_str (fun i H' => Same H H' ∧ H' D = some (.lst ((x.cps.toList.take i).map fun c => .bl (decide (97 ≤ c ∧ c ≤ 122))))) ⟨sD, upd_same⟩ (fun _ _ _ _ => trivial) (fun i v H1 H2 hi p y => ?_) (fun H' p => ?_)
        · obtain ⟨rfl, c, hc, rfl⟩ := y
          obtain ⟨sm, e⟩ := p
          refine ⟨rfl, ?_⟩
          wtm_at "rd"
          refine ⟨c, _, rfl, rfl, _, e, ?_, ?_, ?_⟩
          · rw [List.length_map, List.length_take]
            exact Nat.lt_of_le_of_lt (Nat.le_trans (Nat.min_le_right _ _) (Nat.le_trans (Nat.le_of_eq rfl) hx)) (by decide)
          · exact fun a u h => by
              by_cases ea : a = D
              · rw [ea, hD] at h; cases h
              · rw [upd_ne ea]; exact sm a u h
          · rw [upd_same, letter_in]
            have hc' : x.cps.toList[i]? = some c := by rw [Array.getElem?_toList]; exact hc
            rw [List.take_add_one, hc', List.map_append]
            rfl
        · obtain ⟨sm, e⟩ := p
          refine ⟨D, x.cps.toList.map fun c => decide (97 ≤ c ∧ c ≤ 122), rfl, ?_, ?_⟩
          · rw [List.map_map]
            refine SqL.of (e.trans ?_)
            rw [List.take_of_length_le (by rw [Array.length_toList]; exact Nat.le_refl _)]
            rfl
          · have : nameD (.str x) = ((x.cps.toList.map fun c => decide (97 ≤ c ∧ c ≤ 122)).all id) := by
              show nameOk x = _
              unfold nameOk lettersOk
              rw [decide_eq_true (by omega), Bool.true_and, List.all_map]
              rfl
            rw [← this]
            exact q _ sm

end
end M04

namespace M04
open PySem PySem.Spec PyProof.Rows L2 StX Uk

local macro_rules | `(tactic| wtm_at "off0") => `(tactic| first | with_reducible assumption | (with_reducible apply Off.mk; wtm_at "pen"; assumption))
local macro_rules | `(tactic| wtm_at "at0") => `(tactic| first | with_reducible assumption | with_reducible exact upd_same | (with_reducible apply Off.at; wtm_at "off0"))
local macro_rules | `(tactic| wtm_at "off1") => `(tactic| first | with_reducible assumption | (with_reducible apply Off.mk; wtm_at "pen"; assumption) | (with_reducible refine Off.new (by assumption) _ _ ?_; wtm_at "off0") | (with_reducible refine at_same (by with_reducible assumption) ?_; wtm_at "off0"))
local macro_rules | `(tactic| wtm_at "at1") => `(tactic| first | with_reducible assumption | with_reducible exact upd_same | (with_reducible refine at_new (by assumption) ?_; wtm_at "at0") | (with_reducible refine at_same (by with_reducible assumption) ?_; wtm_at "at0") | (with_reducible apply Off.at; wtm_at "off1"))
local macro_rules | `(tactic| wtm_at "off2") => `(tactic| first | with_reducible assumption | (with_reducible apply Off.mk; wtm_at "pen"; assumption) | (with_reducible refine Off.new (by assumption) _ _ ?_; wtm_at "off1") | (with_reducible refine at_same (by with_reducible assumption) ?_; wtm_at "off1"))
local macro_rules | `(tactic| wtm_at "at2") => `(tactic| first | with_reducible assumption | with_reducible exact upd_same | (with_reducible refine at_new (by assumption) ?_; wtm_at "at1") | (with_reducible refine at_same (by with_reducible assumption) ?_; wtm_at "at1") | (with_reducible apply Off.at; wtm_at "off2"))
local macro_rules | `(tactic| wtm_at "off3") => `(tactic| first | with_reducible assumption | (with_reducible apply Off.mk; wtm_at "pen"; assumption) | (with_reducible refine Off.new (by assumption) _ _ ?_; wtm_at "off2") | (with_reducible refine at_same (by with_reducible assumption) ?_; wtm_at "off2"))
local macro_rules | `(tactic| wtm_at "at3") => `(tactic| first | with_reducible assumption | with_reducible exact upd_same | (with_reducible refine at_new (by assumption) ?_; wtm_at "at2") | (with_reducible refine at_same (by with_reducible assumption) ?_; wtm_at "at2") | (with_reducible apply Off.at; wtm_at "off3"))
local macro_rules | `(tactic| wtm_at "off4") => `(tactic| first | with_reducible assumption | (with_reducible apply Off.mk; wtm_at "pen"; assumption) | (with_reducible refine Off.new (by assumption) _ _ ?_; wtm_at "off3") | (with_reducible refine at_same (by with_reducible assumption) ?_; wtm_at "off3"))
local macro_rules | `(tactic| wtm_at "at4") => `(tactic| first | with_reducible assumption | with_reducible exact upd_same | (with_reducible refine at_new (by assumption) ?_; wtm_at "at3") | (with_reducible refine at_same (by with_reducible assumption) ?_; wtm_at "at3") | (with_reducible apply Off.at; wtm_at "off4"))
local macro_rules | `(tactic| wtm_at "off5") => `(tactic| first | with_reducible assumption | (with_reducible apply Off.mk; wtm_at "pen"; assumption) | (with_reducible refine Off.new (by assumption) _ _ ?_; wtm_at "off4") | (with_reducible refine at_same (by with_reducible assumption) ?_; wtm_at "off4"))
local macro_rules | `(tactic| wtm_at "at5") => `(tactic| first | with_reducible assumption | with_reducible exact upd_same | (with_reducible refine at_new (by assumption) ?_; wtm_at "at4") | (with_reducible refine at_same (by with_reducible assumption) ?_; wtm_at "at4") | (with_reducible apply Off.at; wtm_at "off5"))
local macro_rules | `(tactic| wtm_at "off6") => `(tactic| first | with_reducible assumption | (with_reducible apply Off.mk; wtm_at "pen"; assumption) | (with_reducible refine Off.new (by assumption) _ _ ?_; wtm_at "off5") | (with_reducible refine at_same (by with_reducible assumption) ?_; wtm_at "off5"))
local macro_rules | `(tactic| wtm_at "at6") => `(tactic| first | with_reducible assumption | with_reducible exact upd_same | (with_reducible refine at_new (by assumption) ?_; wtm_at "at5") | (with_reducible refine at_same (by with_reducible assumption) ?_; wtm_at "at5") | (with_reducible apply Off.at; wtm_at "off6"))
local macro_rules | `(tactic| wtm_at "off7") => `(tactic| first | with_reducible assumption | (with_reducible apply Off.mk; wtm_at "pen"; assumption) | (with_reducible refine Off.new (by assumption) _ _ ?_; wtm_at "off6") | (with_reducible refine at_same (by with_reducible assumption) ?_; wtm_at "off6"))
local macro_rules | `(tactic| wtm_at "at7") => `(tactic| first | with_reducible assumption | with_reducible exact upd_same | (with_reducible refine at_new (by assumption) ?_; wtm_at "at6") | (with_reducible refine at_same (by with_reducible assumption) ?_; wtm_at "at6") | (with_reducible apply Off.at; wtm_at "off7"))
local macro_rules | `(tactic| wtm_at "off8") => `(tactic| first | with_reducible assumption | (with_reducible apply Off.mk; wtm_at "pen"; assumption) | (with_reducible refine Off.new (by assumption) _ _ ?_; wtm_at "off7") | (with_reducible refine at_same (by with_reducible assumption) ?_; wtm_at "off7"))
local macro_rules | `(tactic| wtm_at "at8") => `(tactic| first | with_reducible assumption | with_reducible exact upd_same | (with_reducible refine at_new (by assumption) ?_; wtm_at "at7") | (with_reducible refine at_same (by with_reducible assumption) ?_; wtm_at "at7") | (with_reducible apply Off.at; wtm_at "off8"))
local macro_rules | `(tactic| wtm_at "off9") => `(tactic| first | with_reducible assumption | (with_reducible apply Off.mk; wtm_at "pen"; assumption) | (with_reducible refine Off.new (by assumption) _ _ ?_; wtm_at "off8") | (with_reducible refine at_same (by with_reducible assumption) ?_; wtm_at "off8"))
local macro_rules | `(tactic| wtm_at "at9") => `(tactic| first | with_reducible assumption | with_reducible exact upd_same | (with_reducible refine at_new (by assumption) ?_; wtm_at "at8") | (with_reducible refine at_same (by with_reducible assumption) ?_; wtm_at "at8") | (with_reducible apply Off.at; wtm_at "off9"))
local macro_rules | `(tactic| wtm_at "off10") => `(tactic| first | with_reducible assumption | (with_reducible apply Off.mk; wtm_at "pen"; assumption) | (with_reducible refine Off.new (by assumption) _ _ ?_; wtm_at "off9") | (with_reducible refine at_same (by with_reducible assumption) ?_; wtm_at "off9"))
local macro_rules | `(tactic| wtm_at "at10") => `(tactic| first | with_reducible assumption | with_reducible exact upd_same | (with_reducible refine at_new (by assumption) ?_; wtm_at "at9") | (with_reducible refine at_same (by with_reducible assumption) ?_; wtm_at "at9") | (with_reducible apply Off.at; wtm_at "off10"))
local macro_rules | `(tactic| wtm_at "off11") => `(tactic| first | with_reducible assumption | (with_reducible apply Off.mk; wtm_at "pen"; assumption) | (with_reducible refine Off.new (by assumption) _ _ ?_; wtm_at "off10") | (with_reducible refine at_same (by with_reducible assumption) ?_; wtm_at "off10"))
local macro_rules | `(tactic| wtm_at "at11") => `(tactic| first | with_reducible assumption | with_reducible exact upd_same | (with_reducible refine at_new (by assumption) ?_; wtm_at "at10") | (with_reducible refine at_same (by with_reducible assumption) ?_; wtm_at "at10") | (with_reducible apply Off.at; wtm_at "off11"))
local macro_rules | `(tactic| wtm_at "off12") => `(tactic| first | with_reducible assumption | (with_reducible apply Off.mk; wtm_at "pen"; assumption) | (with_reducible refine Off.new (by assumption) _ _ ?_; wtm_at "off11") | (with_reducible refine at_same (by with_reducible assumption) ?_; wtm_at "off11"))
local macro_rules | `(tactic| wtm_at "at12") => `(tactic| first | with_reducible assumption | with_reducible exact upd_same | (with_reducible refine at_new (by assumption) ?_; wtm_at "at11") | (with_reducible refine at_same (by with_reducible assumption) ?_; wtm_at "at11") | (with_reducible apply Off.at; wtm_at "off12"))
local macro_rules | `(tactic| wtm_at "off13") => `(tactic| first | with_reducible assumption | (with_reducible apply Off.mk; wtm_at "pen"; assumption) | (with_reducible refine Off.new (by assumption) _ _ ?_; wtm_at "off12") | (with_reducible refine at_same (by with_reducible assumption) ?_; wtm_at "off12"))
local macro_rules | `(tactic| wtm_at "at13") => `(tactic| first | with_reducible assumption | with_reducible exact upd_same | (with_reducible refine at_new (by assumption) ?_; wtm_at "at12") | (with_reducible refine at_same (by with_reducible assumption) ?_; wtm_at "at12") | (with_reducible apply Off.at; wtm_at "off13"))
local macro_rules | `(tactic| wtm_at "off14") => `(tactic| first | with_reducible assumption | (with_reducible apply Off.mk; wtm_at "pen"; assumption) | (with_reducible refine Off.new (by assumption) _ _ ?_; wtm_at "off13") | (with_reducible refine at_same (by with_reducible assumption) ?_; wtm_at "off13"))
local macro_rules | `(tactic| wtm_at "at14") => `(tactic| first | with_reducible assumption | with_reducible exact upd_same | (with_reducible refine at_new (by assumption) ?_; wtm_at "at13") | (with_reducible refine at_same (by with_reducible assumption) ?_; wtm_at "at13") | (with_reducible apply Off.at; wtm_at "off14"))
local macro_rules | `(tactic| wtm_at "off15") => `(tactic| first | with_reducible assumption | (with_reducible apply Off.mk; wtm_at "pen"; assumption) | (with_reducible refine Off.new (by assumption) _ _ ?_; wtm_at "off14") | (with_reducible refine at_same (by with_reducible assumption) ?_; wtm_at "off14"))
local macro_rules | `(tactic| wtm_at "at15") => `(tactic| first | with_reducible assumption | with_reducible exact upd_same | (with_reducible refine at_new (by assumption) ?_; wtm_at "at14") | (with_reducible refine at_same (by with_reducible assumption) ?_; wtm_at "at14") | (with_reducible apply Off.at; wtm_at "off15"))
local macro_rules | `(tactic| wtm_at "off16") => `(tactic| first | with_reducible assumption | (with_reducible apply Off.mk; wtm_at "pen"; assumption) | (with_reducible refine Off.new (by assumption) _ _ ?_; wtm_at "off15") | (with_reducible refine at_same (by with_reducible assumption) ?_; wtm_at "off15"))
local macro_rules | `(tactic| wtm_at "at16") => `(tactic| first | with_reducible assumption | with_reducible exact upd_same | (with_reducible refine at_new (by assumption) ?_; wtm_at "at15") | (with_reducible refine at_same (by with_reducible assumption) ?_; wtm_at "at15") | (with_reducible apply Off.at; wtm_at "off16"))
local macro_rules | `(tactic| wtm_at "off17") => `(tactic| first | with_reducible assumption | (with_reducible apply Off.mk; wtm_at "pen"; assumption) | (with_reducible refine Off.new (by assumption) _ _ ?_; wtm_at "off16") | (with_reducible refine at_same (by with_reducible assumption) ?_; wtm_at "off16"))
local macro_rules | `(tactic| wtm_at "at17") => `(tactic| first | with_reducible assumption | with_reducible exact upd_same | (with_reducible refine at_new (by assumption) ?_; wtm_at "at16") | (with_reducible refine at_same (by with_reducible assumption) ?_; wtm_at "at16") | (with_reducible apply Off.at; wtm_at "off17"))
local macro_rules | `(tactic| wtm_at "off18") => `(tactic| first | with_reducible assumption | (with_reducible apply Off.mk; wtm_at "pen"; assumption) | (with_reducible refine Off.new (by assumption) _ _ ?_; wtm_at "off17") | (with_reducible refine at_same (by with_reducible assumption) ?_; wtm_at "off17"))
local macro_rules | `(tactic| wtm_at "at18") => `(tactic| first | with_reducible assumption | with_reducible exact upd_same | (with_reducible refine at_new (by assumption) ?_; wtm_at "at17") | (with_reducible refine at_same (by with_reducible assumption) ?_; wtm_at "at17") | (with_reducible apply Off.at; wtm_at "off18"))
local macro_rules | `(tactic| wtm_at "off19") => `(tactic| first | with_reducible assumption | (with_reducible apply Off.mk; wtm_at "pen"; assumption) | (with_reducible refine Off.new (by assumption) _ _ ?_; wtm_at "off18") | (with_reducible refine at_same (by with_reducible assumption) ?_; wtm_at "off18"))
local macro_rules | `(tactic| wtm_at "at19") => `(tactic| first | with_reducible assumption | with_reducible exact upd_same | (with_reducible refine at_new (by assumption) ?_; wtm_at "at18") | (with_reducible refine at_same (by with_reducible assumption) ?_; wtm_at "at18") | (with_reducible apply Off.at; wtm_at "off19"))
local macro_rules | `(tactic| wtm_at "off20") => `(tactic| first | with_reducible assumption | (with_reducible apply Off.mk; wtm_at "pen"; assumption) | (with_reducible refine Off.new (by assumption) _ _ ?_; wtm_at "off19") | (with_reducible refine at_same (by with_reducible assumption) ?_; wtm_at "off19"))
local macro_rules | `(tactic| wtm_at "at20") => `(tactic| first | with_reducible assumption | with_reducible exact upd_same | (with_reducible refine at_new (by assumption) ?_; wtm_at "at19") | (with_reducible refine at_same (by with_reducible assumption) ?_; wtm_at "at19") | (with_reducible apply Off.at; wtm_at "off20"))
local macro_rules | `(tactic| wtm_at "off21") => `(tactic| first | with_reducible assumption | (with_reducible apply Off.mk; wtm_at "pen"; assumption) | (with_reducible refine Off.new (by assumption) _ _ ?_; wtm_at "off20") | (with_reducible refine at_same (by with_reducible assumption) ?_; wtm_at "off20"))
local macro_rules | `(tactic| wtm_at "at21") => `(tactic| first | with_reducible assumption | with_reducible exact upd_same | (with_reducible refine at_new (by assumption) ?_; wtm_at "at20") | (with_reducible refine at_same (by with_reducible assumption) ?_; wtm_at "at20") | (with_reducible apply Off.at; wtm_at "off21"))
local macro_rules | `(tactic| wtm_at "off22") => `(tactic| first | with_reducible assumption | (with_reducible apply Off.mk; wtm_at "pen"; assumption) | (with_reducible refine Off.new (by assumption) _ _ ?_; wtm_at "off21") | (with_reducible refine at_same (by with_reducible assumption) ?_; wtm_at "off21"))
local macro_rules | `(tactic| wtm_at "at22") => `(tactic| first | with_reducible assumption | with_reducible exact upd_same | (with_reducible refine at_new (by assumption) ?_; wtm_at "at21") | (with_reducible refine at_same (by with_reducible assumption) ?_; wtm_at "at21") | (with_reducible apply Off.at; wtm_at "off22"))
local macro_rules | `(tactic| wtm_at "off23") => `(tactic| first | with_reducible assumption | (with_reducible apply Off.mk; wtm_at "pen"; assumption) | (with_reducible refine Off.new (by assumption) _ _ ?_; wtm_at "off22") | (with_reducible refine at_same (by with_reducible assumption) ?_; wtm_at "off22"))
local macro_rules | `(tactic| wtm_at "at23") => `(tactic| first | with_reducible assumption | with_reducible exact upd_same | (with_reducible refine at_new (by assumption) ?_; wtm_at "at22") | (with_reducible refine at_same (by with_reducible assumption) ?_; wtm_at "at22") | (with_reducible apply Off.at; wtm_at "off23"))
local macro_rules | `(tactic| wtm_at "off24") => `(tactic| first | with_reducible assumption | (with_reducible apply Off.mk; wtm_at "pen"; assumption) | (with_reducible refine Off.new (by assumption) _ _ ?_; wtm_at "off23") | (with_reducible refine at_same (by with_reducible assumption) ?_; wtm_at "off23"))
local macro_rules | `(tactic| wtm_at "at24") => `(tactic| first | with_reducible assumption | with_reducible exact upd_same | (with_reducible refine at_new (by assumption) ?_; wtm_at "at23") | (with_reducible refine at_same (by with_reducible assumption) ?_; wtm_at "at23") | (with_reducible apply Off.at; wtm_at "off24"))
local macro_rules | `(tactic| wtm_at "off25") => `(tactic| first | with_reducible assumption | (with_reducible apply Off.mk; wtm_at "pen"; assumption) | (with_reducible refine Off.new (by assumption) _ _ ?_; wtm_at "off24") | (with_reducible refine at_same (by with_reducible assumption) ?_; wtm_at "off24"))
local macro_rules | `(tactic| wtm_at "at25") => `(tactic| first | with_reducible assumption | with_reducible exact upd_same | (with_reducible refine at_new (by assumption) ?_; wtm_at "at24") | (with_reducible refine at_same (by with_reducible assumption) ?_; wtm_at "at24") | (with_reducible apply Off.at; wtm_at "off25"))
local macro_rules | `(tactic| wtm_at "off26") => `(tactic| first | with_reducible assumption | (with_reducible apply Off.mk; wtm_at "pen"; assumption) | (with_reducible refine Off.new (by assumption) _ _ ?_; wtm_at "off25") | (with_reducible refine at_same (by with_reducible assumption) ?_; wtm_at "off25"))
local macro_rules | `(tactic| wtm_at "at26") => `(tactic| first | with_reducible assumption | with_reducible exact upd_same | (with_reducible refine at_new (by assumption) ?_; wtm_at "at25") | (with_reducible refine at_same (by with_reducible assumption) ?_; wtm_at "at25") | (with_reducible apply Off.at; wtm_at "off26"))
local macro_rules | `(tactic| wtm_at "off27") => `(tactic| first | with_reducible assumption | (with_reducible apply Off.mk; wtm_at "pen"; assumption) | (with_reducible refine Off.new (by assumption) _ _ ?_; wtm_at "off26") | (with_reducible refine at_same (by with_reducible assumption) ?_; wtm_at "off26"))
local macro_rules | `(tactic| wtm_at "at27") => `(tactic| first | with_reducible assumption | with_reducible exact upd_same | (with_reducible refine at_new (by assumption) ?_; wtm_at "at26") | (with_reducible refine at_same (by with_reducible assumption) ?_; wtm_at "at26") | (with_reducible apply Off.at; wtm_at "off27"))
local macro_rules | `(tactic| wtm_at "off28") => `(tactic| first | with_reducible assumption | (with_reducible apply Off.mk; wtm_at "pen"; assumption) | (with_reducible refine Off.new (by assumption) _ _ ?_; wtm_at "off27") | (with_reducible refine at_same (by with_reducible assumption) ?_; wtm_at "off27"))
local macro_rules | `(tactic| wtm_at "at28") => `(tactic| first | with_reducible assumption | with_reducible exact upd_same | (with_reducible refine at_new (by assumption) ?_; wtm_at "at27") | (with_reducible refine at_same (by with_reducible assumption) ?_; wtm_at "at27") | (with_reducible apply Off.at; wtm_at "off28"))
local macro_rules | `(tactic| wtm_at "off29") => `(tactic| first | with_reducible assumption | (with_reducible apply Off.mk; wtm_at "pen"; assumption) | (with_reducible refine Off.new (by assumption) _ _ ?_; wtm_at "off28") | (with_reducible refine at_same (by with_reducible assumption) ?_; wtm_at "off28"))
local macro_rules | `(tactic| wtm_at "at29") => `(tactic| first | with_reducible assumption | with_reducible exact upd_same | (with_reducible refine at_new (by assumption) ?_; wtm_at "at28") | (with_reducible refine at_same (by with_reducible assumption) ?_; wtm_at "at28") | (with_reducible apply Off.at; wtm_at "off29"))
local macro_rules | `(tactic| wtm_at "off30") => `(tactic| first | with_reducible assumption | (with_reducible apply Off.mk; wtm_at "pen"; assumption) | (with_reducible refine Off.new (by assumption) _ _ ?_; wtm_at "off29") | (with_reducible refine at_same (by with_reducible assumption) ?_; wtm_at "off29"))
local macro_rules | `(tactic| wtm_at "at30") => `(tactic| first | with_reducible assumption | with_reducible exact upd_same | (with_reducible refine at_new (by assumption) ?_; wtm_at "at29") | (with_reducible refine at_same (by with_reducible assumption) ?_; wtm_at "at29") | (with_reducible apply Off.at; wtm_at "off30"))
local macro_rules | `(tactic| wtm_at "off31") => `(tactic| first | with_reducible assumption | (with_reducible apply Off.mk; wtm_at "pen"; assumption) | (with_reducible refine Off.new (by assumption) _ _ ?_; wtm_at "off30") | (with_reducible refine at_same (by with_reducible assumption) ?_; wtm_at "off30"))
local macro_rules | `(tactic| wtm_at "at31") => `(tactic| first | with_reducible assumption | with_reducible exact upd_same | (with_reducible refine at_new (by assumption) ?_; wtm_at "at30") | (with_reducible refine at_same (by with_reducible assumption) ?_; wtm_at "at30") | (with_reducible apply Off.at; wtm_at "off31"))
local macro_rules | `(tactic| wtm_at "off32") => `(tactic| first | with_reducible assumption | (with_reducible apply Off.mk; wtm_at "pen"; assumption) | (with_reducible refine Off.new (by assumption) _ _ ?_; wtm_at "off31") | (with_reducible refine at_same (by with_reducible assumption) ?_; wtm_at "off31"))
local macro_rules | `(tactic| wtm_at "at32") => `(tactic| first | with_reducible assumption | with_reducible exact upd_same | (with_reducible refine at_new (by assumption) ?_; wtm_at "at31") | (with_reducible refine at_same (by with_reducible assumption) ?_; wtm_at "at31") | (with_reducible apply Off.at; wtm_at "off32"))
local macro_rules | `(tactic| wtm_at "off33") => `(tactic| first | with_reducible assumption | (with_reducible apply Off.mk; wtm_at "pen"; assumption) | (with_reducible refine Off.new (by assumption) _ _ ?_; wtm_at "off32") | (with_reducible refine at_same (by with_reducible assumption) ?_; wtm_at "off32"))
local macro_rules | `(tactic| wtm_at "at33") => `(tactic| first | with_reducible assumption | with_reducible exact upd_same | (with_reducible refine at_new (by assumption) ?_; wtm_at "at32") | (with_reducible refine at_same (by with_reducible assumption) ?_; wtm_at "at32") | (with_reducible apply Off.at; wtm_at "off33"))
local macro_rules | `(tactic| wtm_at "off34") => `(tactic| first | with_reducible assumption | (with_reducible apply Off.mk; wtm_at "pen"; assumption) | (with_reducible refine Off.new (by assumption) _ _ ?_; wtm_at "off33") | (with_reducible refine at_same (by with_reducible assumption) ?_; wtm_at "off33"))
local macro_rules | `(tactic| wtm_at "at34") => `(tactic| first | with_reducible assumption | with_reducible exact upd_same | (with_reducible refine at_new (by assumption) ?_; wtm_at "at33") | (with_reducible refine at_same (by with_reducible assumption) ?_; wtm_at "at33") | (with_reducible apply Off.at; wtm_at "off34"))
local macro_rules | `(tactic| wtm_at "off35") => `(tactic| first | with_reducible assumption | (with_reducible apply Off.mk; wtm_at "pen"; assumption) | (with_reducible refine Off.new (by assumption) _ _ ?_; wtm_at "off34") | (with_reducible refine at_same (by with_reducible assumption) ?_; wtm_at "off34"))
local macro_rules | `(tactic| wtm_at "at35") => `(tactic| first | with_reducible assumption | with_reducible exact upd_same | (with_reducible refine at_new (by assumption) ?_; wtm_at "at34") | (with_reducible refine at_same (by with_reducible assumption) ?_; wtm_at "at34") | (with_reducible apply Off.at; wtm_at "off35"))
local macro_rules | `(tactic| wtm_at "off36") => `(tactic| first | with_reducible assumption | (with_reducible apply Off.mk; wtm_at "pen"; assumption) | (with_reducible refine Off.new (by assumption) _ _ ?_; wtm_at "off35") | (with_reducible refine at_same (by with_reducible assumption) ?_; wtm_at "off35"))
local macro_rules | `(tactic| wtm_at "at36") => `(tactic| first | with_reducible assumption | with_reducible exact upd_same | (with_reducible refine at_new (by assumption) ?_; wtm_at "at35") | (with_reducible refine at_same (by with_reducible assumption) ?_; wtm_at "at35") | (with_reducible apply Off.at; wtm_at "off36"))
local macro_rules | `(tactic| wtm_at "off37") => `(tactic| first | with_reducible assumption | (with_reducible apply Off.mk; wtm_at "pen"; assumption) | (with_reducible refine Off.new (by assumption) _ _ ?_; wtm_at "off36") | (with_reducible refine at_same (by with_reducible assumption) ?_; wtm_at "off36"))
local macro_rules | `(tactic| wtm_at "at37") => `(tactic| first | with_reducible assumption | with_reducible exact upd_same | (with_reducible refine at_new (by assumption) ?_; wtm_at "at36") | (with_reducible refine at_same (by with_reducible assumption) ?_; wtm_at "at36") | (with_reducible apply Off.at; wtm_at "off37"))
local macro_rules | `(tactic| wtm_at "off38") => `(tactic| first | with_reducible assumption | (with_reducible apply Off.mk; wtm_at "pen"; assumption) | (with_reducible refine Off.new (by assumption) _ _ ?_; wtm_at "off37") | (with_reducible refine at_same (by with_reducible assumption) ?_; wtm_at "off37"))
local macro_rules | `(tactic| wtm_at "at38") => `(tactic| first | with_reducible assumption | with_reducible exact upd_same | (with_reducible refine at_new (by assumption) ?_; wtm_at "at37") | (with_reducible refine at_same (by with_reducible assumption) ?_; wtm_at "at37") | (with_reducible apply Off.at; wtm_at "off38"))
local macro_rules | `(tactic| wtm_at "off39") => `(tactic| first | with_reducible assumption | (with_reducible apply Off.mk; wtm_at "pen"; assumption) | (with_reducible refine Off.new (by assumption) _ _ ?_; wtm_at "off38") | (with_reducible refine at_same (by with_reducible assumption) ?_; wtm_at "off38"))
local macro_rules | `(tactic| wtm_at "at39") => `(tactic| first | with_reducible assumption | with_reducible exact upd_same | (with_reducible refine at_new (by assumption) ?_; wtm_at "at38") | (with_reducible refine at_same (by with_reducible assumption) ?_; wtm_at "at38") | (with_reducible apply Off.at; wtm_at "off39"))
local macro_rules | `(tactic| wtm_at "at") => `(tactic| wtm_at "at39")
local macro_rules | `(tactic| wtm_at "off") => `(tactic| wtm_at "off39")
local macro_rules | `(tactic| wtm_at "pen") => `(tactic| first
  | assumption | (refine Pen.new (by assumption) ?_; wtm_at "pen") | (refine Pen.same (by assumption) ?_; wtm_at "pen"))
local macro_rules | `(tactic| wtm_at "same") => `(tactic| first
  | exact fun _ _ h => h | assumption | exact same_new (by assumption) | (refine same_trans ?_ (same_new (by assumption)); wtm_at "same") | (refine same_trans ?_ (by assumption); wtm_at "same")
  | (refine same_trans ?_ (Off.new (by assumption)); wtm_at "same") | (refine same_trans ?_ (Off.same (by assumption)); wtm_at "same"))
local macro_rules | `(tactic| wtm_at "dps") => `(tactic| first
  | exact .nil | (apply DpAll.cons; wtm_at "dp"; wtm_at "dps") | exact dpAll_ints _)
local macro_rules | `(tactic| wtm_at "dp") => `(tactic| first
  | exact .non | exact .bl _ | exact .int _ | exact .str _ | (fail) | (apply Dp.lst; (apply SqL.of; wtm_at "at"); wtm_at "dps") | (apply Dp.tup; (apply SqT.of; wtm_at "at"); wtm_at "dps"))
local macro_rules | `(tactic| wtm_at "side") => `(tactic| first
  | exact ⟨by decide, by decide⟩ | exact ⟨by decide, by decide, by decide⟩ | exact .inl ⟨by decide, by decide⟩ | exact .inr ⟨by decide, by decide⟩ | (show ¬ _ = _; decide))
local macro_rules | `(tactic| wtm_at "sml") => `(tactic| first
  | exact sml_none (by decide) | exact sml_bool (by decide) | exact sml_int (by decide) (by omega) | (fail) | exact sml_list (n := 19) (k := 0) (by wtm_at "smls") (by decide) (by decide))
local macro_rules | `(tactic| wtm_at "smls") => `(tactic| first | exact smlAll_nil (m := 0) | (apply smlAll_cons; wtm_at "sml"; wtm_at "smls"))
local macro_rules | `(tactic| wtm_at "shw") => `(tactic| exact Sml.shw (n := 10000) (k := 50) (by wtm_at "sml") (by decide) (by decide))
local macro_rules | `(tactic| wtm_at "rd") => `(tactic| first
  | refine ⟨_, rfl, ?_⟩ | refine ⟨_, _, rfl, rfl, ?_⟩ | refine ifT rfl ?_ | refine ifF rfl ?_ | refine ⟨rfl, ?_⟩
  | refine ⟨_, _, by rfl, by wtm_at "dp", by wtm_at "shw", ?_⟩
  | refine ⟨_, _, _, _, _, rfl, by wtm_at "at", by wtm_at "cls", by wtm_at "na", by rfl, ?_⟩
  | refine ⟨_, _, rfl, .inr (SqT.of (by wtm_at "at")), ?_⟩ | refine ⟨_, _, rfl, .inl (SqL.of (by wtm_at "at")), ?_⟩
  | refine ⟨_, _, rfl, .inr (SqT.of (by wtm_at "at")), by rfl, by rfl, ?_⟩ | refine ⟨_, _, rfl, .inl (SqL.of (by wtm_at "at")), by rfl, by rfl, ?_⟩
  | refine ⟨_, _, _, _, rfl, rfl, SqT.of (by wtm_at "at"), by rfl, ?_⟩ | refine ⟨_, _, _, _, rfl, rfl, SqL.of (by wtm_at "at"), by rfl, ?_⟩
  | refine ⟨_, _, rfl, rfl, by wtm_at "side", ?_⟩
  | refine ⟨_, _, by wtm_at "dp", by wtm_at "dp", by first | rfl | decide +kernel, by first | rfl | decide +kernel, ?_⟩
  | refine ⟨_, _, [_, _], [_, _], rfl, rfl, sqI2 (by wtm_at "at"), sqI2 (by wtm_at "at"), ?_⟩
  | refine ⟨_, _, rfl, ?_⟩
  | refine ⟨Nat.le_of_ble_eq_true rfl, fun _ _ => ?_⟩
  | refine ifF (by decide +kernel) ?_ | refine ifF (nd_refl _) ?_ | refine ifT (de_refl _) ?_)
local macro_rules | `(tactic| wtm_at "cls") => `(tactic| first | exact cls_Agent _)
local macro_rules | `(tactic| wtm_at "na") => `(tactic| first | exact na_Agent_name _ | exact na_Agent_steps _ | exact na_Agent_shape _)

def wordD (ws : List Str) : PyData → Bool
  | .str x => decide (x ∈ ws)
  | _ => false
def partsSmall : PyData → Prop
  | .tuple ds => ds.length ≤ 1000 ∧ ∀ d ∈ ds, smallD d
  | .list ds => ds.length ≤ 1000
  | _ => True
abbrev wAcc : List Str := ["read", "write", "get", "put"]
abbrev wUp : List Str := ["clean", "drop", "flush"]
/-- a step, of whatever agent -/
def stepD : PyData → Bool
  | .tuple [w, n] => nameD n && wordD ["post", "wait"] w
  | .tuple [w, n, s, f, l] => nameD n && (wordD (wAcc ++ wUp) w && (within s 0 3 && (within f 0 7 && within l (intV f) 7)))
  | _ => false
theorem flat_strs (ws : List Str) : (ws.map V.str).all flatV = true := by
  rw [List.all_map]
  exact List.all_eq_true.mpr fun _ _ => rfl
theorem stepD_of {d : PyData} (h : isD "tuple" d = false) : stepD d = false := by
  cases d <;> first | rfl | exact absurd h (by simp only [isD, tyD]; decide)
theorem dq_tup {K : PySem.W.Frag} {H : Hp} {v : V} {d : PyData} (h : Dq K H v d) (e : isD "tuple" d = true) : ∃ a xs ds, v = .ref a ∧ d = .tuple ds ∧ SqT K H a xs ∧ DqAll K H xs ds := by
  cases h with
  | tup a r => exact ⟨_, _, _, rfl, rfl, a, r⟩
  | _ => exact absurd e (by simp only [isD, tyD]; decide)
theorem in25 (n : Nat) : inV (.int n) [.int 2, .int 5] = (decide (n = 2) || decide (n = 5)) := by
  show (((2 : Int) == (n : Int)) || (((5 : Int) == (n : Int)) || false)) = _
  rw [Bool.or_false]
  have e1 : ((2 : Int) == (n : Int)) = decide (n = 2) := by
    by_cases h : n = 2
    · subst h; rfl
    · rw [decide_eq_false h]; exact beq_eq_false_iff_ne.mpr (by omega)
  have e2 : ((5 : Int) == (n : Int)) = decide (n = 5) := by
    by_cases h : n = 5
    · subst h; rfl
    · rw [decide_eq_false h]; exact beq_eq_false_iff_ne.mpr (by omega)
  rw [e1, e2]
theorem stepD_len {ds : List PyData} (h2 : ds.length ≠ 2) (h5 : ds.length ≠ 5) : stepD (.tuple ds) = false := by
  match ds, h2, h5 with
  | [], _, _ => rfl
  | [_], _, _ => rfl
  | [_, _, _], _, _ => rfl
  | [_, _, _, _], _, _ => rfl
  | _ :: _ :: _ :: _ :: _ :: _ :: _, _, _ => rfl
  | [_, _], h, _ => exact absurd rfl h
  | [_, _, _, _, _], _, h => exact absurd rfl h
theorem len2 {α : Type} : ∀ {l : List α}, l.length = 2 → ∃ a b, l = [a, b]
  | [a, b], _ => ⟨a, b, rfl⟩
theorem len5 {α : Type} : ∀ {l : List α}, l.length = 5 → ∃ a b c d e, l = [a, b, c, d, e]
  | [a, b, c, d, e], _ => ⟨a, b, c, d, e, rfl⟩
theorem all2 {K : PySem.W.Frag} {H : Hp} {xs : List V} {a b : PyData} (h : DqAll K H xs [a, b]) : ∃ x y, xs = [x, y] ∧ Dq K H x a ∧ Dq K H y b := by
  cases h with
  | cons h1 h => cases h with
    | cons h2 h =>
      cases h
      exact ⟨_, _, rfl, h1, h2⟩
theorem all5 {K : PySem.W.Frag} {H : Hp} {xs : List V} {a b c d e : PyData} (h : DqAll K H xs [a, b, c, d, e]) : ∃ x y z u v, xs = [x, y, z, u, v] ∧ Dq K H x a ∧ Dq K H y b ∧ Dq K H z c ∧ Dq K H u d ∧ Dq K H v e := by
  cases h with
  | cons h1 h => cases h with
    | cons h2 h => cases h with
      | cons h3 h => cases h with
        | cons h4 h => cases h with
          | cons h5 h =>
            cases h
            exact ⟨_, _, _, _, _, rfl, h1, h2, h3, h4, h5⟩
theorem wordD_of {ws : List Str} {d : PyData} (h : isD "str" d = false) : wordD ws d = false := by
  cases d <;> first | rfl | exact absurd h (by simp only [isD, tyD]; decide)

def spWord (K : PySem.W.Frag) : Sp := fun vs H Q _ => ∃ (v : V) (d : PyData) (p : Addr) (ws : List Str), vs = [v, .ref p] ∧ SqT K H p (ws.map V.str) ∧ Dq K H v d ∧ Q (.bl (wordD ws d)) H
def spRange (K : PySem.W.Frag) : Sp := fun vs H Q _ => ∃ (v1 v2 : V) (d1 d2 : PyData), vs = [v1, v2] ∧ Dq K H v1 d1 ∧ Dq K H v2 d2 ∧ Q (.bl (within d1 0 7 && within d2 (intV d1) 7)) H
def spStep (K : PySem.W.Frag) : Sp := fun vs H Q _ => ∃ (v : V) (d : PyData), vs = [v] ∧ Dq K H v d ∧ partsSmall d ∧ ∀ H', Same H H' → Q (.bl (stepD d)) H'
section
variable {mg : PySem.Str → Option Value} {base : Heap} {w : World}
theorem ok_is_word (M : Mod (hd04.heap_39 w.params) mg base) : CallG PP w (hd04.heap_39 w.params) mg base 1 (.ref 205) (pos (spWord (hd04.heap_39 w.params))) := by
  obtain ⟨fd, F⟩ := fn_is_word w
  refine def_pos F sc_is_word (fun vs H Q E h => ?_) (fun _ _ _ _ _ _ us hl => match us, hl with | [_, _], _ => rfl) (fun cdv A outer s H vs Q E hr hg h => ?_)
  · obtain ⟨v, d, p, ws, rfl, _⟩ := h; rfl
  have nd := sc_is_word.nd
  obtain ⟨v, d, p, ws, rfl, hp, hd, q⟩ := h
  refine ⟨_, (pss_one (ps_ret (pe_and (pe_callB call_isi (by rfl) (mn_isinstance M) (by decide +kernel) (pa_cons (pv 0) (pa_cons (pe_bltn (v := .ty "str") (by rfl) (mn_str M) (by decide +kernel) rfl) pa_nil))) (pe_one (pe_cmpR op_in_seq (pv 0) (pv 1) (by rfl)))))), ?_⟩
  refine ⟨_, rfl, _, _, _, _, _, rfl, .ty "str", dq_ty hd, kit_dStr d, _, rfl, ite_b (fun e => ?_) (fun e => ?_)⟩
  · obtain ⟨x, rfl, rfl⟩ := dq_str hd e
    refine ⟨_, rfl, _, rfl, p, _, rfl, .inr hp, rfl, flat_strs ws, ?_⟩
    rw [show wordD ws (.str x) = inV (.str x) (ws.map V.str) from (inV_strs x ws).symm] at q
    exact q
  · rw [wordD_of e] at q
    exact q
theorem ok_is_range (M : Mod (hd04.heap_39 w.params) mg base) : CallG PP w (hd04.heap_39 w.params) mg base 3 (.ref 212) (pos (spRange (hd04.heap_39 w.params))) := by
  obtain ⟨fd, F⟩ := fn_is_range w
  refine def_pos F sc_is_range (fun vs H Q E h => ?_) (fun _ _ _ _ _ _ us hl => match us, hl with | [_, _], _ => rfl) (fun cdv A outer s H vs Q E hr hg h => ?_)
  · obtain ⟨v1, v2, d1, d2, rfl, _⟩ := h; rfl
  have nd := sc_is_range.nd
  obtain ⟨v1, v2, d1, d2, rfl, h1, h2, q⟩ := h
  refine ⟨_, (pss_one (ps_ret (pe_and (pe_cl (takes_of rfl rfl rfl rfl) (ok_is_within M) (hr.mono (by decide)) hg rfl (mg_is_within M) (kp_is_within w) (pa_cons (pv 0) (pa_cons pe_int (pa_cons (pe_glob (v := .int 7) rfl (mg_LAST_BYTE M) ⟨_, rfl⟩) pa_nil)))) (pe_one (pe_cl (takes_of rfl rfl rfl rfl) (ok_is_within M) (hr.mono (by decide)) hg rfl (mg_is_within M) (kp_is_within w) (pa_cons (pv 1) (pa_cons (pv 0) (pa_cons (pe_glob (v := .int 7) rfl (mg_LAST_BYTE M) ⟨_, rfl⟩) pa_nil)))))))), ?_⟩
  refine ⟨_, rfl, rfl, v1, d1, 0, 7, rfl, h1, _, rfl, ite_b (fun e => ?_) (fun e => ?_)⟩
  · have hint : intD d1 = true := by
      cases d1 <;> first | rfl | exact absurd e (by simp [within])
    obtain ⟨b, rfl, rfl⟩ := dq_int h1 hint
    rw [e, Bool.true_and] at q
    exact ⟨_, rfl, _, rfl, rfl, v2, d2, b, 7, rfl, h2, q⟩
  · rw [e, Bool.false_and] at q
    exact q
theorem ok_is_step (M : Mod (hd04.heap_39 w.params) mg base) : CallG PP w (hd04.heap_39 w.params) mg base 4 (.ref 219) (pos (spStep (hd04.heap_39 w.params))) := by
  obtain ⟨fd, F⟩ := fn_is_step w
  refine def_pos F sc_is_step (fun vs H Q E h => ?_) (fun _ _ _ _ _ _ us hl => match us, hl with | [_], _ => rfl) (fun cdv A outer s H vs Q E hr hg h => ?_)
  · obtain ⟨v, d, rfl, _⟩ := h; rfl
  have nd := sc_is_step.nd
  obtain ⟨v, d, rfl, hd, hs, q⟩ := h
  refine ⟨_, (pss_cons (ps_if (PW.pt (pw_or (pt_not (pt_val (pe_callB call_isi (by rfl) (mn_isinstance M) (by decide +kernel) (pa_cons (pv 0) (pa_cons (pe_bltn (v := .ty "tuple") (by rfl) (mn_tuple M) (by decide +kernel) rfl) pa_nil))))) (pw_or1 (pt_cmpR op_notIn_seq (pe_callB call_len_seq (by rfl) (mn_len M) (by decide +kernel) (pa_cons (pv 0) pa_nil)) (pe_tup (pa_cons pe_int (pa_cons pe_int pa_nil))) (by rfl))))) (pss_one (ps_ret pe_bl)) pss_nil)
      (pss_cons (ps_if (pt_not (pt_val (pe_cl (takes_of rfl rfl rfl rfl) (ok_is_name M) (hr.mono (by decide)) hg rfl (mg_is_name M) (kp_is_name w) (pa_cons (pe_ix ix_tup (pv 0) pe_int (fun _ _ => rfl)) pa_nil)))) (pss_one (ps_ret pe_bl)) pss_nil)
      (pss_cons (ps_if (pt_cmpR op_eq (pe_callB call_len_seq (by rfl) (mn_len M) (by decide +kernel) (pa_cons (pv 0) pa_nil)) pe_int (nomark _)) (pss_one (ps_ret (pe_cl (takes_of rfl rfl rfl rfl) (ok_is_word M) (hr.mono (by decide)) hg rfl (mg_is_word M) (kp_is_word w) (pa_cons (pe_ix ix_tup (pv 0) pe_int (fun _ _ => rfl)) (pa_cons (pe_glob (v := .ref 198) rfl (mg_SIGNALLING M) rfl) pa_nil))))) pss_nil)
      (pss_one (ps_ret (pe_and (pe_cl (takes_of rfl rfl rfl rfl) (ok_is_word M) (hr.mono (by decide)) hg rfl (mg_is_word M) (kp_is_word w) (pa_cons (pe_ix ix_tup (pv 0) pe_int (fun _ _ => rfl)) (pa_cons (pe_op op_catT (pe_glob (v := .ref 194) rfl (mg_ACCESSES M) rfl) (pe_glob (v := .ref 197) rfl (mg_UPKEEP M) rfl)) pa_nil))) (pe_and (pe_cl (takes_of rfl rfl rfl rfl) (ok_is_within M) (hr.mono (by decide)) hg rfl (mg_is_within M) (kp_is_within w) (pa_cons (pe_ix ix_tup (pv 0) pe_int (fun _ _ => rfl)) (pa_cons pe_int (pa_cons (pe_glob (v := .int 3) rfl (mg_MOST_SHIFT M) ⟨_, rfl⟩) pa_nil)))) (pe_one (pe_cl (takes_of rfl rfl rfl rfl) (ok_is_range M) (hr.mono (by decide)) hg rfl (mg_is_range M) (kp_is_range w) (pa_cons (pe_ix ix_tup (pv 0) pe_int (fun _ _ => rfl)) (pa_cons (pe_ix ix_tup (pv 0) pe_int (fun _ _ => rfl)) pa_nil))))))))))), ?_⟩
  refine ⟨_, rfl, _, _, _, _, _, rfl, .ty "tuple", dq_ty hd, kit_dTup d, _, rfl, ite_b (fun e => ?_) (fun e => ?_)⟩
  · refine ifT (b := true) rfl ?_
    have z := q H Same.rfl
    rw [stepD_of (by rw [← Bool.not_not (isD "tuple" d), e] <;> rfl)] at z
    exact z
  obtain ⟨a, xs, ds, rfl, rfl, hsq, hall⟩ := dq_tup hd (by rw [← Bool.not_not (isD "tuple" d), e] <;> rfl)
  have hlen := dqAll_len hall
  refine ⟨_, rfl, a, xs, rfl, .inr hsq, Nat.le_of_ble_eq_true rfl, fun z hz => ⟨z, _, rfl, .inr (SqT.of upd_same), rfl, rfl, _, rfl, ite_b (fun e2 => ?_) (fun e2 => ?_)⟩⟩
  · have e2 : (!inV (.int xs.length) [.int 2, .int 5]) = true := e2
    rw [in25] at e2
    have y := q _ (same_new (o := .tup [.int 2, .int 5]) hz)
    rw [stepD_len (fun h => by rw [hlen, h] at e2; cases e2) (fun h => by rw [hlen, h] at e2; cases e2)] at y
    exact y
  have e2 : (!inV (.int xs.length) [.int 2, .int 5]) = false := e2
  rw [in25] at e2
  have s0 := same_new (o := .tup [.int 2, .int 5]) hz
  have hsq0 := st_mono s0 hsq
  have hall0 := dqAll_mono s0 hall
  have h25 : ds.length = 2 ∨ ds.length = 5 := by
    by_cases h : ds.length = 2
    · exact .inl h
    · by_cases h' : ds.length = 5
      · exact .inr h'
      · rw [hlen, decide_eq_false h, decide_eq_false h'] at e2
        cases e2
  clear hd e2 hsq hall
  rcases h25 with h | h
  · obtain ⟨dw, dn, rfl⟩ := len2 h
    obtain ⟨vw, vn, rfl, hw, hn⟩ := all2 hall0
    · refine ⟨_, rfl, a, _, 1, vn, rfl, rfl, hsq0, rfl, rfl, vn, dn, rfl, hn, hs.2 dn (by simp), fun H1 s1 => ⟨_, rfl, ite_b (fun e1 => ?_) (fun e1 => ?_)⟩⟩
      · have e1 : nameD dn = false := by rw [← Bool.not_not (nameD dn), e1] <;> rfl
        have y := q H1 (same_trans s0 s1)
        rw [show stepD (.tuple [dw, dn]) = false from by show (nameD dn && _) = _; rw [e1, Bool.false_and]] at y
        exact y
      · have e1 : nameD dn = true := by rw [← Bool.not_not (nameD dn), e1] <;> rfl
        have sq1 := st_mono s1 hsq0
        refine ⟨_, rfl, a, _, rfl, .inr sq1, rfl, _, rfl, ifT rfl ?_⟩
        refine ⟨_, rfl, a, _, 0, vw, rfl, rfl, sq1, rfl, rfl, vw, dw, 198, ["post", "wait"], rfl, sq_SIGNALLING w _, dq_mono s1 hw, ?_⟩
        have y := q H1 (same_trans s0 s1)
        rw [show stepD (.tuple [dw, dn]) = wordD ["post", "wait"] dw from by show (nameD dn && _) = _; rw [e1, Bool.true_and]] at y
        exact y
  · obtain ⟨dw, dn, dsh, df, dl, rfl⟩ := len5 h
    obtain ⟨vw, vn, vs, vf, vl, rfl, hw, hn, hsh, hf, hl⟩ := all5 hall0
    · refine ⟨_, rfl, a, _, 1, vn, rfl, rfl, hsq0, rfl, rfl, vn, dn, rfl, hn, hs.2 dn (by simp), fun H1 s1 => ⟨_, rfl, ite_b (fun e1 => ?_) (fun e1 => ?_)⟩⟩
      · have e1 : nameD dn = false := by rw [← Bool.not_not (nameD dn), e1] <;> rfl
        have y := q H1 (same_trans s0 s1)
        rw [show stepD (.tuple [dw, dn, dsh, df, dl]) = false from by show (nameD dn && _) = _; rw [e1, Bool.false_and]] at y
        exact y
      · have e1 : nameD dn = true := by rw [← Bool.not_not (nameD dn), e1] <;> rfl
        have sq1 := st_mono s1 hsq0
        refine ⟨_, rfl, a, _, rfl, .inr sq1, rfl, _, rfl, ifF rfl ?_⟩
        refine ⟨_, rfl, a, _, 0, vw, rfl, rfl, sq1, rfl, 194, 197, _, _, rfl, rfl, sq_ACCESSES w _, sq_UPKEEP w _, by simp, by decide, (fun e => nomatch e), fun _ p hp => ?_⟩
        have s2 := same_trans s1 (same_new (o := .tup ((wAcc ++ wUp).map V.str)) hp)
        have sq2 := st_mono s2 hsq0
        have es : stepD (.tuple [dw, dn, dsh, df, dl]) = (wordD (wAcc ++ wUp) dw && (within dsh 0 3 && (within df 0 7 && within dl (intV df) 7))) := by
          show (nameD dn && _) = _
          rw [e1, Bool.true_and]
        have y := q _ (same_trans s0 s2)
        rw [es] at y
        refine ⟨rfl, vw, dw, p, wAcc ++ wUp, rfl, SqT.of upd_same, dq_mono s2 hw, _, rfl, ite_b (fun f1 => ?_) (fun f1 => ?_)⟩
        · rw [f1, Bool.true_and] at y
          refine ⟨_, rfl, a, _, 2, vs, rfl, rfl, sq2, rfl, rfl, vs, dsh, 0, 3, rfl, dq_mono s2 hsh, _, rfl, ite_b (fun f2 => ?_) (fun f2 => ?_)⟩
          · rw [f2, Bool.true_and] at y
            exact ⟨_, rfl, a, _, 3, vf, rfl, rfl, sq2, rfl, _, rfl, a, _, 4, vl, rfl, rfl, sq2, rfl, rfl, vf, vl, df, dl, rfl, dq_mono s2 hf, dq_mono s2 hl, y⟩
          · rw [f2, Bool.false_and] at y
            exact y
        · rw [f1, Bool.false_and] at y
          exact y
end
end M04

namespace M04
open PySem PySem.Spec PyProof.Rows L2 StX Uk

local macro_rules | `(tactic| wtm_at "off0") => `(tactic| first | with_reducible assumption | (with_reducible apply Off.mk; wtm_at "pen"; assumption))
local macro_rules | `(tactic| wtm_at "at0") => `(tactic| first | with_reducible assumption | with_reducible exact upd_same | (with_reducible apply Off.at; wtm_at "off0"))
local macro_rules | `(tactic| wtm_at "off1") => `(tactic| first | with_reducible assumption | (with_reducible apply Off.mk; wtm_at "pen"; assumption) | (with_reducible refine Off.new (by assumption) _ _ ?_; wtm_at "off0") | (with_reducible refine at_same (by with_reducible assumption) ?_; wtm_at "off0"))
local macro_rules | `(tactic| wtm_at "at1") => `(tactic| first | with_reducible assumption | with_reducible exact upd_same | (with_reducible refine at_new (by assumption) ?_; wtm_at "at0") | (with_reducible refine at_same (by with_reducible assumption) ?_; wtm_at "at0") | (with_reducible apply Off.at; wtm_at "off1"))
local macro_rules | `(tactic| wtm_at "off2") => `(tactic| first | with_reducible assumption | (with_reducible apply Off.mk; wtm_at "pen"; assumption) | (with_reducible refine Off.new (by assumption) _ _ ?_; wtm_at "off1") | (with_reducible refine at_same (by with_reducible assumption) ?_; wtm_at "off1"))
local macro_rules | `(tactic| wtm_at "at2") => `(tactic| first | with_reducible assumption | with_reducible exact upd_same | (with_reducible refine at_new (by assumption) ?_; wtm_at "at1") | (with_reducible refine at_same (by with_reducible assumption) ?_; wtm_at "at1") | (with_reducible apply Off.at; wtm_at "off2"))
local macro_rules | `(tactic| wtm_at "off3") => `(tactic| first | with_reducible assumption | (with_reducible apply Off.mk; wtm_at "pen"; assumption) | (with_reducible refine Off.new (by assumption) _ _ ?_; wtm_at "off2") | (with_reducible refine at_same (by with_reducible assumption) ?_; wtm_at "off2"))
local macro_rules | `(tactic| wtm_at "at3") => `(tactic| first | with_reducible assumption | with_reducible exact upd_same | (with_reducible refine at_new (by assumption) ?_; wtm_at "at2") | (with_reducible refine at_same (by with_reducible assumption) ?_; wtm_at "at2") | (with_reducible apply Off.at; wtm_at "off3"))
local macro_rules | `(tactic| wtm_at "off4") => `(tactic| first | with_reducible assumption | (with_reducible apply Off.mk; wtm_at "pen"; assumption) | (with_reducible refine Off.new (by assumption) _ _ ?_; wtm_at "off3") | (with_reducible refine at_same (by with_reducible assumption) ?_; wtm_at "off3"))
local macro_rules | `(tactic| wtm_at "at4") => `(tactic| first | with_reducible assumption | with_reducible exact upd_same | (with_reducible refine at_new (by assumption) ?_; wtm_at "at3") | (with_reducible refine at_same (by with_reducible assumption) ?_; wtm_at "at3") | (with_reducible apply Off.at; wtm_at "off4"))
local macro_rules | `(tactic| wtm_at "off5") => `(tactic| first | with_reducible assumption | (with_reducible apply Off.mk; wtm_at "pen"; assumption) | (with_reducible refine Off.new (by assumption) _ _ ?_; wtm_at "off4") | (with_reducible refine at_same (by with_reducible assumption) ?_; wtm_at "off4"))
local macro_rules | `(tactic| wtm_at "at5") => `(tactic| first | with_reducible assumption | with_reducible exact upd_same | (with_reducible refine at_new (by assumption) ?_; wtm_at "at4") | (with_reducible refine at_same (by with_reducible assumption) ?_; wtm_at "at4") | (with_reducible apply Off.at; wtm_at "off5"))
local macro_rules | `(tactic| wtm_at "off6") => `(tactic| first | with_reducible assumption | (with_reducible apply Off.mk; wtm_at "pen"; assumption) | (with_reducible refine Off.new (by assumption) _ _ ?_; wtm_at "off5") | (with_reducible refine at_same (by with_reducible assumption) ?_; wtm_at "off5"))
local macro_rules | `(tactic| wtm_at "at6") => `(tactic| first | with_reducible assumption | with_reducible exact upd_same | (with_reducible refine at_new (by assumption) ?_; wtm_at "at5") | (with_reducible refine at_same (by with_reducible assumption) ?_; wtm_at "at5") | (with_reducible apply Off.at; wtm_at "off6"))
local macro_rules | `(tactic| wtm_at "off7") => `(tactic| first | with_reducible assumption | (with_reducible apply Off.mk; wtm_at "pen"; assumption) | (with_reducible refine Off.new (by assumption) _ _ ?_; wtm_at "off6") | (with_reducible refine at_same (by with_reducible assumption) ?_; wtm_at "off6"))
local macro_rules | `(tactic| wtm_at "at7") => `(tactic| first | with_reducible assumption | with_reducible exact upd_same | (with_reducible refine at_new (by assumption) ?_; wtm_at "at6") | (with_reducible refine at_same (by with_reducible assumption) ?_; wtm_at "at6") | (with_reducible apply Off.at; wtm_at "off7"))
local macro_rules | `(tactic| wtm_at "off8") => `(tactic| first | with_reducible assumption | (with_reducible apply Off.mk; wtm_at "pen"; assumption) | (with_reducible refine Off.new (by assumption) _ _ ?_; wtm_at "off7") | (with_reducible refine at_same (by with_reducible assumption) ?_; wtm_at "off7"))
local macro_rules | `(tactic| wtm_at "at8") => `(tactic| first | with_reducible assumption | with_reducible exact upd_same | (with_reducible refine at_new (by assumption) ?_; wtm_at "at7") | (with_reducible refine at_same (by with_reducible assumption) ?_; wtm_at "at7") | (with_reducible apply Off.at; wtm_at "off8"))
local macro_rules | `(tactic| wtm_at "off9") => `(tactic| first | with_reducible assumption | (with_reducible apply Off.mk; wtm_at "pen"; assumption) | (with_reducible refine Off.new (by assumption) _ _ ?_; wtm_at "off8") | (with_reducible refine at_same (by with_reducible assumption) ?_; wtm_at "off8"))
local macro_rules | `(tactic| wtm_at "at9") => `(tactic| first | with_reducible assumption | with_reducible exact upd_same | (with_reducible refine at_new (by assumption) ?_; wtm_at "at8") | (with_reducible refine at_same (by with_reducible assumption) ?_; wtm_at "at8") | (with_reducible apply Off.at; wtm_at "off9"))
local macro_rules | `(tactic| wtm_at "off10") => `(tactic| first | with_reducible assumption | (with_reducible apply Off.mk; wtm_at "pen"; assumption) | (with_reducible refine Off.new (by assumption) _ _ ?_; wtm_at "off9") | (with_reducible refine at_same (by with_reducible assumption) ?_; wtm_at "off9"))
local macro_rules | `(tactic| wtm_at "at10") => `(tactic| first | with_reducible assumption | with_reducible exact upd_same | (with_reducible refine at_new (by assumption) ?_; wtm_at "at9") | (with_reducible refine at_same (by with_reducible assumption) ?_; wtm_at "at9") | (with_reducible apply Off.at; wtm_at "off10"))
local macro_rules | `(tactic| wtm_at "off11") => `(tactic| first | with_reducible assumption | (with_reducible apply Off.mk; wtm_at "pen"; assumption) | (with_reducible refine Off.new (by assumption) _ _ ?_; wtm_at "off10") | (with_reducible refine at_same (by with_reducible assumption) ?_; wtm_at "off10"))
local macro_rules | `(tactic| wtm_at "at11") => `(tactic| first | with_reducible assumption | with_reducible exact upd_same | (with_reducible refine at_new (by assumption) ?_; wtm_at "at10") | (with_reducible refine at_same (by with_reducible assumption) ?_; wtm_at "at10") | (with_reducible apply Off.at; wtm_at "off11"))
local macro_rules | `(tactic| wtm_at "off12") => `(tactic| first | with_reducible assumption | (with_reducible apply Off.mk; wtm_at "pen"; assumption) | (with_reducible refine Off.new (by assumption) _ _ ?_; wtm_at "off11") | (with_reducible refine at_same (by with_reducible assumption) ?_; wtm_at "off11"))
local macro_rules | `(tactic| wtm_at "at12") => `(tactic| first | with_reducible assumption | with_reducible exact upd_same | (with_reducible refine at_new (by assumption) ?_; wtm_at "at11") | (with_reducible refine at_same (by with_reducible assumption) ?_; wtm_at "at11") | (with_reducible apply Off.at; wtm_at "off12"))
local macro_rules | `(tactic| wtm_at "off13") => `(tactic| first | with_reducible assumption | (with_reducible apply Off.mk; wtm_at "pen"; assumption) | (with_reducible refine Off.new (by assumption) _ _ ?_; wtm_at "off12") | (with_reducible refine at_same (by with_reducible assumption) ?_; wtm_at "off12"))
local macro_rules | `(tactic| wtm_at "at13") => `(tactic| first | with_reducible assumption | with_reducible exact upd_same | (with_reducible refine at_new (by assumption) ?_; wtm_at "at12") | (with_reducible refine at_same (by with_reducible assumption) ?_; wtm_at "at12") | (with_reducible apply Off.at; wtm_at "off13"))
local macro_rules | `(tactic| wtm_at "off14") => `(tactic| first | with_reducible assumption | (with_reducible apply Off.mk; wtm_at "pen"; assumption) | (with_reducible refine Off.new (by assumption) _ _ ?_; wtm_at "off13") | (with_reducible refine at_same (by with_reducible assumption) ?_; wtm_at "off13"))
local macro_rules | `(tactic| wtm_at "at14") => `(tactic| first | with_reducible assumption | with_reducible exact upd_same | (with_reducible refine at_new (by assumption) ?_; wtm_at "at13") | (with_reducible refine at_same (by with_reducible assumption) ?_; wtm_at "at13") | (with_reducible apply Off.at; wtm_at "off14"))
local macro_rules | `(tactic| wtm_at "off15") => `(tactic| first | with_reducible assumption | (with_reducible apply Off.mk; wtm_at "pen"; assumption) | (with_reducible refine Off.new (by assumption) _ _ ?_; wtm_at "off14") | (with_reducible refine at_same (by with_reducible assumption) ?_; wtm_at "off14"))
local macro_rules | `(tactic| wtm_at "at15") => `(tactic| first | with_reducible assumption | with_reducible exact upd_same | (with_reducible refine at_new (by assumption) ?_; wtm_at "at14") | (with_reducible refine at_same (by with_reducible assumption) ?_; wtm_at "at14") | (with_reducible apply Off.at; wtm_at "off15"))
local macro_rules | `(tactic| wtm_at "off16") => `(tactic| first | with_reducible assumption | (with_reducible apply Off.mk; wtm_at "pen"; assumption) | (with_reducible refine Off.new (by assumption) _ _ ?_; wtm_at "off15") | (with_reducible refine at_same (by with_reducible assumption) ?_; wtm_at "off15"))
local macro_rules | `(tactic| wtm_at "at16") => `(tactic| first | with_reducible assumption | with_reducible exact upd_same | (with_reducible refine at_new (by assumption) ?_; wtm_at "at15") | (with_reducible refine at_same (by with_reducible assumption) ?_; wtm_at "at15") | (with_reducible apply Off.at; wtm_at "off16"))
local macro_rules | `(tactic| wtm_at "off17") => `(tactic| first | with_reducible assumption | (with_reducible apply Off.mk; wtm_at "pen"; assumption) | (with_reducible refine Off.new (by assumption) _ _ ?_; wtm_at "off16") | (with_reducible refine at_same (by with_reducible assumption) ?_; wtm_at "off16"))
local macro_rules | `(tactic| wtm_at "at17") => `(tactic| first | with_reducible assumption | with_reducible exact upd_same | (with_reducible refine at_new (by assumption) ?_; wtm_at "at16") | (with_reducible refine at_same (by with_reducible assumption) ?_; wtm_at "at16") | (with_reducible apply Off.at; wtm_at "off17"))
local macro_rules | `(tactic| wtm_at "off18") => `(tactic| first | with_reducible assumption | (with_reducible apply Off.mk; wtm_at "pen"; assumption) | (with_reducible refine Off.new (by assumption) _ _ ?_; wtm_at "off17") | (with_reducible refine at_same (by with_reducible assumption) ?_; wtm_at "off17"))
local macro_rules | `(tactic| wtm_at "at18") => `(tactic| first | with_reducible assumption | with_reducible exact upd_same | (with_reducible refine at_new (by assumption) ?_; wtm_at "at17") | (with_reducible refine at_same (by with_reducible assumption) ?_; wtm_at "at17") | (with_reducible apply Off.at; wtm_at "off18"))
local macro_rules | `(tactic| wtm_at "off19") => `(tactic| first | with_reducible assumption | (with_reducible apply Off.mk; wtm_at "pen"; assumption) | (with_reducible refine Off.new (by assumption) _ _ ?_; wtm_at "off18") | (with_reducible refine at_same (by with_reducible assumption) ?_; wtm_at "off18"))
local macro_rules | `(tactic| wtm_at "at19") => `(tactic| first | with_reducible assumption | with_reducible exact upd_same | (with_reducible refine at_new (by assumption) ?_; wtm_at "at18") | (with_reducible refine at_same (by with_reducible assumption) ?_; wtm_at "at18") | (with_reducible apply Off.at; wtm_at "off19"))
local macro_rules | `(tactic| wtm_at "off20") => `(tactic| first | with_reducible assumption | (with_reducible apply Off.mk; wtm_at "pen"; assumption) | (with_reducible refine Off.new (by assumption) _ _ ?_; wtm_at "off19") | (with_reducible refine at_same (by with_reducible assumption) ?_; wtm_at "off19"))
local macro_rules | `(tactic| wtm_at "at20") => `(tactic| first | with_reducible assumption | with_reducible exact upd_same | (with_reducible refine at_new (by assumption) ?_; wtm_at "at19") | (with_reducible refine at_same (by with_reducible assumption) ?_; wtm_at "at19") | (with_reducible apply Off.at; wtm_at "off20"))
local macro_rules | `(tactic| wtm_at "off21") => `(tactic| first | with_reducible assumption | (with_reducible apply Off.mk; wtm_at "pen"; assumption) | (with_reducible refine Off.new (by assumption) _ _ ?_; wtm_at "off20") | (with_reducible refine at_same (by with_reducible assumption) ?_; wtm_at "off20"))
local macro_rules | `(tactic| wtm_at "at21") => `(tactic| first | with_reducible assumption | with_reducible exact upd_same | (with_reducible refine at_new (by assumption) ?_; wtm_at "at20") | (with_reducible refine at_same (by with_reducible assumption) ?_; wtm_at "at20") | (with_reducible apply Off.at; wtm_at "off21"))
local macro_rules | `(tactic| wtm_at "off22") => `(tactic| first | with_reducible assumption | (with_reducible apply Off.mk; wtm_at "pen"; assumption) | (with_reducible refine Off.new (by assumption) _ _ ?_; wtm_at "off21") | (with_reducible refine at_same (by with_reducible assumption) ?_; wtm_at "off21"))
local macro_rules | `(tactic| wtm_at "at22") => `(tactic| first | with_reducible assumption | with_reducible exact upd_same | (with_reducible refine at_new (by assumption) ?_; wtm_at "at21") | (with_reducible refine at_same (by with_reducible assumption) ?_; wtm_at "at21") | (with_reducible apply Off.at; wtm_at "off22"))
local macro_rules | `(tactic| wtm_at "off23") => `(tactic| first | with_reducible assumption | (with_reducible apply Off.mk; wtm_at "pen"; assumption) | (with_reducible refine Off.new (by assumption) _ _ ?_; wtm_at "off22") | (with_reducible refine at_same (by with_reducible assumption) ?_; wtm_at "off22"))
local macro_rules | `(tactic| wtm_at "at23") => `(tactic| first | with_reducible assumption | with_reducible exact upd_same | (with_reducible refine at_new (by assumption) ?_; wtm_at "at22") | (with_reducible refine at_same (by with_reducible assumption) ?_; wtm_at "at22") | (with_reducible apply Off.at; wtm_at "off23"))
local macro_rules | `(tactic| wtm_at "off24") => `(tactic| first | with_reducible assumption | (with_reducible apply Off.mk; wtm_at "pen"; assumption) | (with_reducible refine Off.new (by assumption) _ _ ?_; wtm_at "off23") | (with_reducible refine at_same (by with_reducible assumption) ?_; wtm_at "off23"))
local macro_rules | `(tactic| wtm_at "at24") => `(tactic| first | with_reducible assumption | with_reducible exact upd_same | (with_reducible refine at_new (by assumption) ?_; wtm_at "at23") | (with_reducible refine at_same (by with_reducible assumption) ?_; wtm_at "at23") | (with_reducible apply Off.at; wtm_at "off24"))
local macro_rules | `(tactic| wtm_at "off25") => `(tactic| first | with_reducible assumption | (with_reducible apply Off.mk; wtm_at "pen"; assumption) | (with_reducible refine Off.new (by assumption) _ _ ?_; wtm_at "off24") | (with_reducible refine at_same (by with_reducible assumption) ?_; wtm_at "off24"))
local macro_rules | `(tactic| wtm_at "at25") => `(tactic| first | with_reducible assumption | with_reducible exact upd_same | (with_reducible refine at_new (by assumption) ?_; wtm_at "at24") | (with_reducible refine at_same (by with_reducible assumption) ?_; wtm_at "at24") | (with_reducible apply Off.at; wtm_at "off25"))
local macro_rules | `(tactic| wtm_at "off26") => `(tactic| first | with_reducible assumption | (with_reducible apply Off.mk; wtm_at "pen"; assumption) | (with_reducible refine Off.new (by assumption) _ _ ?_; wtm_at "off25") | (with_reducible refine at_same (by with_reducible assumption) ?_; wtm_at "off25"))
local macro_rules | `(tactic| wtm_at "at26") => `(tactic| first | with_reducible assumption | with_reducible exact upd_same | (with_reducible refine at_new (by assumption) ?_; wtm_at "at25") | (with_reducible refine at_same (by with_reducible assumption) ?_; wtm_at "at25") | (with_reducible apply Off.at; wtm_at "off26"))
local macro_rules | `(tactic| wtm_at "off27") => `(tactic| first | with_reducible assumption | (with_reducible apply Off.mk; wtm_at "pen"; assumption) | (with_reducible refine Off.new (by assumption) _ _ ?_; wtm_at "off26") | (with_reducible refine at_same (by with_reducible assumption) ?_; wtm_at "off26"))
local macro_rules | `(tactic| wtm_at "at27") => `(tactic| first | with_reducible assumption | with_reducible exact upd_same | (with_reducible refine at_new (by assumption) ?_; wtm_at "at26") | (with_reducible refine at_same (by with_reducible assumption) ?_; wtm_at "at26") | (with_reducible apply Off.at; wtm_at "off27"))
local macro_rules | `(tactic| wtm_at "off28") => `(tactic| first | with_reducible assumption | (with_reducible apply Off.mk; wtm_at "pen"; assumption) | (with_reducible refine Off.new (by assumption) _ _ ?_; wtm_at "off27") | (with_reducible refine at_same (by with_reducible assumption) ?_; wtm_at "off27"))
local macro_rules | `(tactic| wtm_at "at28") => `(tactic| first | with_reducible assumption | with_reducible exact upd_same | (with_reducible refine at_new (by assumption) ?_; wtm_at "at27") | (with_reducible refine at_same (by with_reducible assumption) ?_; wtm_at "at27") | (with_reducible apply Off.at; wtm_at "off28"))
local macro_rules | `(tactic| wtm_at "off29") => `(tactic| first | with_reducible assumption | (with_reducible apply Off.mk; wtm_at "pen"; assumption) | (with_reducible refine Off.new (by assumption) _ _ ?_; wtm_at "off28") | (with_reducible refine at_same (by with_reducible assumption) ?_; wtm_at "off28"))
local macro_rules | `(tactic| wtm_at "at29") => `(tactic| first | with_reducible assumption | with_reducible exact upd_same | (with_reducible refine at_new (by assumption) ?_; wtm_at "at28") | (with_reducible refine at_same (by with_reducible assumption) ?_; wtm_at "at28") | (with_reducible apply Off.at; wtm_at "off29"))
local macro_rules | `(tactic| wtm_at "off30") => `(tactic| first | with_reducible assumption | (with_reducible apply Off.mk; wtm_at "pen"; assumption) | (with_reducible refine Off.new (by assumption) _ _ ?_; wtm_at "off29") | (with_reducible refine at_same (by with_reducible assumption) ?_; wtm_at "off29"))
local macro_rules | `(tactic| wtm_at "at30") => `(tactic| first | with_reducible assumption | with_reducible exact upd_same | (with_reducible refine at_new (by assumption) ?_; wtm_at "at29") | (with_reducible refine at_same (by with_reducible assumption) ?_; wtm_at "at29") | (with_reducible apply Off.at; wtm_at "off30"))
local macro_rules | `(tactic| wtm_at "off31") => `(tactic| first | with_reducible assumption | (with_reducible apply Off.mk; wtm_at "pen"; assumption) | (with_reducible refine Off.new (by assumption) _ _ ?_; wtm_at "off30") | (with_reducible refine at_same (by with_reducible assumption) ?_; wtm_at "off30"))
local macro_rules | `(tactic| wtm_at "at31") => `(tactic| first | with_reducible assumption | with_reducible exact upd_same | (with_reducible refine at_new (by assumption) ?_; wtm_at "at30") | (with_reducible refine at_same (by with_reducible assumption) ?_; wtm_at "at30") | (with_reducible apply Off.at; wtm_at "off31"))
local macro_rules | `(tactic| wtm_at "off32") => `(tactic| first | with_reducible assumption | (with_reducible apply Off.mk; wtm_at "pen"; assumption) | (with_reducible refine Off.new (by assumption) _ _ ?_; wtm_at "off31") | (with_reducible refine at_same (by with_reducible assumption) ?_; wtm_at "off31"))
local macro_rules | `(tactic| wtm_at "at32") => `(tactic| first | with_reducible assumption | with_reducible exact upd_same | (with_reducible refine at_new (by assumption) ?_; wtm_at "at31") | (with_reducible refine at_same (by with_reducible assumption) ?_; wtm_at "at31") | (with_reducible apply Off.at; wtm_at "off32"))
local macro_rules | `(tactic| wtm_at "off33") => `(tactic| first | with_reducible assumption | (with_reducible apply Off.mk; wtm_at "pen"; assumption) | (with_reducible refine Off.new (by assumption) _ _ ?_; wtm_at "off32") | (with_reducible refine at_same (by with_reducible assumption) ?_; wtm_at "off32"))
local macro_rules | `(tactic| wtm_at "at33") => `(tactic| first | with_reducible assumption | with_reducible exact upd_same | (with_reducible refine at_new (by assumption) ?_; wtm_at "at32") | (with_reducible refine at_same (by with_reducible assumption) ?_; wtm_at "at32") | (with_reducible apply Off.at; wtm_at "off33"))
local macro_rules | `(tactic| wtm_at "off34") => `(tactic| first | with_reducible assumption | (with_reducible apply Off.mk; wtm_at "pen"; assumption) | (with_reducible refine Off.new (by assumption) _ _ ?_; wtm_at "off33") | (with_reducible refine at_same (by with_reducible assumption) ?_; wtm_at "off33"))
local macro_rules | `(tactic| wtm_at "at34") => `(tactic| first | with_reducible assumption | with_reducible exact upd_same | (with_reducible refine at_new (by assumption) ?_; wtm_at "at33") | (with_reducible refine at_same (by with_reducible assumption) ?_; wtm_at "at33") | (with_reducible apply Off.at; wtm_at "off34"))
local macro_rules | `(tactic| wtm_at "off35") => `(tactic| first | with_reducible assumption | (with_reducible apply Off.mk; wtm_at "pen"; assumption) | (with_reducible refine Off.new (by assumption) _ _ ?_; wtm_at "off34") | (with_reducible refine at_same (by with_reducible assumption) ?_; wtm_at "off34"))
local macro_rules | `(tactic| wtm_at "at35") => `(tactic| first | with_reducible assumption | with_reducible exact upd_same | (with_reducible refine at_new (by assumption) ?_; wtm_at "at34") | (with_reducible refine at_same (by with_reducible assumption) ?_; wtm_at "at34") | (with_reducible apply Off.at; wtm_at "off35"))
local macro_rules | `(tactic| wtm_at "off36") => `(tactic| first | with_reducible assumption | (with_reducible apply Off.mk; wtm_at "pen"; assumption) | (with_reducible refine Off.new (by assumption) _ _ ?_; wtm_at "off35") | (with_reducible refine at_same (by with_reducible assumption) ?_; wtm_at "off35"))
local macro_rules | `(tactic| wtm_at "at36") => `(tactic| first | with_reducible assumption | with_reducible exact upd_same | (with_reducible refine at_new (by assumption) ?_; wtm_at "at35") | (with_reducible refine at_same (by with_reducible assumption) ?_; wtm_at "at35") | (with_reducible apply Off.at; wtm_at "off36"))
local macro_rules | `(tactic| wtm_at "off37") => `(tactic| first | with_reducible assumption | (with_reducible apply Off.mk; wtm_at "pen"; assumption) | (with_reducible refine Off.new (by assumption) _ _ ?_; wtm_at "off36") | (with_reducible refine at_same (by with_reducible assumption) ?_; wtm_at "off36"))
local macro_rules | `(tactic| wtm_at "at37") => `(tactic| first | with_reducible assumption | with_reducible exact upd_same | (with_reducible refine at_new (by assumption) ?_; wtm_at "at36") | (with_reducible refine at_same (by with_reducible assumption) ?_; wtm_at "at36") | (with_reducible apply Off.at; wtm_at "off37"))
local macro_rules | `(tactic| wtm_at "off38") => `(tactic| first | with_reducible assumption | (with_reducible apply Off.mk; wtm_at "pen"; assumption) | (with_reducible refine Off.new (by assumption) _ _ ?_; wtm_at "off37") | (with_reducible refine at_same (by with_reducible assumption) ?_; wtm_at "off37"))
local macro_rules | `(tactic| wtm_at "at38") => `(tactic| first | with_reducible assumption | with_reducible exact upd_same | (with_reducible refine at_new (by assumption) ?_; wtm_at "at37") | (with_reducible refine at_same (by with_reducible assumption) ?_; wtm_at "at37") | (with_reducible apply Off.at; wtm_at "off38"))
local macro_rules | `(tactic| wtm_at "off39") => `(tactic| first | with_reducible assumption | (with_reducible apply Off.mk; wtm_at "pen"; assumption) | (with_reducible refine Off.new (by assumption) _ _ ?_; wtm_at "off38") | (with_reducible refine at_same (by with_reducible assumption) ?_; wtm_at "off38"))
local macro_rules | `(tactic| wtm_at "at39") => `(tactic| first | with_reducible assumption | with_reducible exact upd_same | (with_reducible refine at_new (by assumption) ?_; wtm_at "at38") | (with_reducible refine at_same (by with_reducible assumption) ?_; wtm_at "at38") | (with_reducible apply Off.at; wtm_at "off39"))
local macro_rules | `(tactic| wtm_at "at") => `(tactic| wtm_at "at39")
local macro_rules | `(tactic| wtm_at "off") => `(tactic| wtm_at "off39")
local macro_rules | `(tactic| wtm_at "pen") => `(tactic| first
  | assumption | (refine Pen.new (by assumption) ?_; wtm_at "pen") | (refine Pen.same (by assumption) ?_; wtm_at "pen"))
local macro_rules | `(tactic| wtm_at "same") => `(tactic| first
  | exact fun _ _ h => h | assumption | exact same_new (by assumption) | (refine same_trans ?_ (same_new (by assumption)); wtm_at "same") | (refine same_trans ?_ (by assumption); wtm_at "same")
  | (refine same_trans ?_ (Off.new (by assumption)); wtm_at "same") | (refine same_trans ?_ (Off.same (by assumption)); wtm_at "same"))
local macro_rules | `(tactic| wtm_at "dps") => `(tactic| first
  | exact .nil | (apply DpAll.cons; wtm_at "dp"; wtm_at "dps") | exact dpAll_ints _)
local macro_rules | `(tactic| wtm_at "dp") => `(tactic| first
  | exact .non | exact .bl _ | exact .int _ | exact .str _ | (fail) | (apply Dp.lst; (apply SqL.of; wtm_at "at"); wtm_at "dps") | (apply Dp.tup; (apply SqT.of; wtm_at "at"); wtm_at "dps"))
local macro_rules | `(tactic| wtm_at "side") => `(tactic| first
  | exact ⟨by decide, by decide⟩ | exact ⟨by decide, by decide, by decide⟩ | exact .inl ⟨by decide, by decide⟩ | exact .inr ⟨by decide, by decide⟩ | (show ¬ _ = _; decide))
local macro_rules | `(tactic| wtm_at "sml") => `(tactic| first
  | exact sml_none (by decide) | exact sml_bool (by decide) | exact sml_int (by decide) (by omega) | (fail) | exact sml_list (n := 19) (k := 0) (by wtm_at "smls") (by decide) (by decide))
local macro_rules | `(tactic| wtm_at "smls") => `(tactic| first | exact smlAll_nil (m := 0) | (apply smlAll_cons; wtm_at "sml"; wtm_at "smls"))
local macro_rules | `(tactic| wtm_at "shw") => `(tactic| exact Sml.shw (n := 10000) (k := 50) (by wtm_at "sml") (by decide) (by decide))
local macro_rules | `(tactic| wtm_at "rd") => `(tactic| first
  | refine ⟨_, rfl, ?_⟩ | refine ⟨_, _, rfl, rfl, ?_⟩ | refine ifT rfl ?_ | refine ifF rfl ?_ | refine ⟨rfl, ?_⟩
  | refine ⟨_, _, by rfl, by wtm_at "dp", by wtm_at "shw", ?_⟩
  | refine ⟨_, _, _, _, _, rfl, by wtm_at "at", by wtm_at "cls", by wtm_at "na", by rfl, ?_⟩
  | refine ⟨_, _, rfl, .inr (SqT.of (by wtm_at "at")), ?_⟩ | refine ⟨_, _, rfl, .inl (SqL.of (by wtm_at "at")), ?_⟩
  | refine ⟨_, _, rfl, .inr (SqT.of (by wtm_at "at")), by rfl, by rfl, ?_⟩ | refine ⟨_, _, rfl, .inl (SqL.of (by wtm_at "at")), by rfl, by rfl, ?_⟩
  | refine ⟨_, _, _, _, rfl, rfl, SqT.of (by wtm_at "at"), by rfl, ?_⟩ | refine ⟨_, _, _, _, rfl, rfl, SqL.of (by wtm_at "at"), by rfl, ?_⟩
  | refine ⟨_, _, rfl, rfl, by wtm_at "side", ?_⟩
  | refine ⟨_, _, by wtm_at "dp", by wtm_at "dp", by first | rfl | decide +kernel, by first | rfl | decide +kernel, ?_⟩
  | refine ⟨_, _, [_, _], [_, _], rfl, rfl, sqI2 (by wtm_at "at"), sqI2 (by wtm_at "at"), ?_⟩
  | refine ⟨_, _, rfl, ?_⟩
  | refine ⟨Nat.le_of_ble_eq_true rfl, fun _ _ => ?_⟩
  | refine ifF (by decide +kernel) ?_ | refine ifF (nd_refl _) ?_ | refine ifT (de_refl _) ?_)
local macro_rules | `(tactic| wtm_at "cls") => `(tactic| first | exact cls_Agent _)
local macro_rules | `(tactic| wtm_at "na") => `(tactic| first | exact na_Agent_name _ | exact na_Agent_steps _ | exact na_Agent_shape _)

abbrev wordsA : List Str := (["read", "write"] : List Str) ++ (["post", "wait"] : List Str)
abbrev wordsB : List Str := (["get", "put"] : List Str) ++ (["clean", "drop", "flush"] : List Str)
def mayWs (C : Addr) : List Str := if C = 288 then wordsA else wordsA ++ wordsB
theorem wordD_app (a b : List Str) (d : PyData) : wordD (a ++ b) d = (wordD a d || wordD b d) := by
  cases d with
  | str x =>
    show decide (x ∈ a ++ b) = (decide (x ∈ a) || decide (x ∈ b))
    rw [← Bool.decide_or]
    exact decide_eq_decide.mpr List.mem_append
  | _ => rfl
def spMay (K : PySem.W.Frag) (D : Addr → Prop) (ws : List Str) : Sp := fun vs H Q _ => ∃ (a C dx : Addr) (fs : List (Str × V)) (v : V) (d : PyData), vs = [.ref a, v] ∧ H a = some (.ins C dx fs) ∧ D C ∧ Dq K H v d ∧ ∀ H', Same H H' → Q (.bl (wordD ws d)) H'
def isAg (C : Addr) : Prop := C = 288 ∨ C = 328 ∨ C = 366
def mayOf (C : Addr) : Addr := if C = 288 then 278 else if C = 328 then 318 else 356
def headD : PyData → PyData
  | .tuple (w :: _) => w
  | _ => .none
def goodD (C : Addr) (d : PyData) : Bool := stepD d && wordD (mayWs C) (headD d)
/-- why an agent of these is refused, if it is -/
def wantA (C : Addr) (d1 : PyData) (ds : List PyData) : Option (Str × Option Nat) :=
  if nameD d1 = false then some ("name", none) else if ¬ (1 ≤ ds.length ∧ ds.length ≤ 24) then some ("steps", none) else match firstK (fun k => !goodD C (ds.getD k .none)) 0 ds.length with
    | some k => some ("step", some k)
    | none => none
theorem stepD_head {d : PyData} (h : stepD d = true) : ∃ w ds, d = .tuple (w :: ds) := by
  match d, h with
  | .tuple (w :: ds), _ => exact ⟨w, ds, rfl⟩
theorem all_cons {K : PySem.W.Frag} {H : Hp} {xs : List V} {d : PyData} {ds : List PyData} (h : DqAll K H xs (d :: ds)) : ∃ x ys, xs = x :: ys ∧ Dq K H x d := by
  cases h with
  | cons h1 h2 => exact ⟨_, _, rfl, h1⟩
def plV : Option Nat → V
  | none => .non
  | some k => .int k
def refFs (r : Str × Option Nat) : List (Str × V) := [("place", plV r.2), ("reason", .str r.1)]
abbrev agentO (C dx p q : Addr) (v1 : V) : HO := .ins C dx [("name", v1), ("steps", .ref p), ("shape", .ref q)]
def spAInit (K : PySem.W.Frag) : Sp := fun vs H Q E => ∃ (a C dx p : Addr) (v1 : V) (d1 : PyData) (xs : List V) (ds : List PyData), vs = [.ref a, v1, .ref p] ∧ isAg C ∧ H a = some (.ins C dx []) ∧ H p = some (.tup xs) ∧ Dq K H v1 d1 ∧ smallD d1 ∧ DqAll K H xs ds ∧ (∀ d ∈ ds, partsSmall d) ∧
  match wantA C d1 ds with
  | none => ∀ H' q, Chg a (agentO C dx p q v1) H H' → Q .non H'
  | some r => ∀ H' d, Same H H' → H' d = some (.xd (refFs r)) → E (.ref 46) (some d) H'
def spAStar (K : PySem.W.Frag) : Sp := fun vs H Q E => ∃ ws rest, vs = ws ++ rest ∧ ws.length = 2 ∧ rest.length ≤ sizeLine ∧ ∀ p, H p = none → spAInit K (ws ++ [.ref p]) (upd H p (.tup rest)) Q E
def spMkAg (K : PySem.W.Frag) (C : Addr) : Sp := fun vs H Q E => ∃ (v1 : V) (d1 : PyData) (xs : List V) (ds : List PyData), vs = v1 :: xs ∧ isAg C ∧ Dq K H v1 d1 ∧ smallD d1 ∧ DqAll K H xs ds ∧ (∀ d ∈ ds, partsSmall d) ∧ ds.length ≤ 1000 ∧
  match wantA C d1 ds with
  | none => ∀ x dx p q H', Same H H' → H' x = some (agentO C dx p q v1) → H' p = some (.tup xs) → Q (.ref x) H'
  | some r => ∀ H' d, Same H H' → H' d = some (.xd (refFs r)) → E (.ref 46) (some d) H'
theorem mkAg {K : PySem.W.Frag} {C : Addr} {vs : List V} {H : Hp} {Q : VK} {E : XK} (h : spMkAg K C vs H Q E) : spMk C (spAStar K) vs H Q E := by
  obtain ⟨v1, d1, xs, ds, rfl, hC, h1, hs, hd, hps, hl, q⟩ := h
  intro x dx hx hdx hne
  have sA : Same H (upd (upd H dx (.own x)) x (.ins C dx [])) := same_trans (same_new hdx) (same_new (by rw [upd_ne (Ne.symm hne)]; exact hx))
  refine ⟨[.ref x, v1], xs, rfl, rfl, ?_, fun p hp => ?_⟩
  · rw [dqAll_len hd, sizeLine_eq]
    omega
  · have sB := same_trans sA (same_new (o := .tup xs) hp)
    have hpx : p ≠ x := fun e => by rw [e, upd_same] at hp; cases hp
    refine ⟨x, C, dx, p, v1, d1, xs, ds, rfl, hC, at_new hp upd_same, upd_same, dq_mono sB h1, hs, dqAll_mono sB hd, hps, ?_⟩
    split
    · rename_i e
      rw [e] at q
      intro H' z c
      refine ⟨rfl, q x dx p z H' (fun b u hb => c.ne b u (fun e2 => ?_) (sB b u hb)) c.at_ (c.ne p _ hpx upd_same)⟩
      rw [e2, hx] at hb
      cases hb
    · rename_i r e
      rw [e] at q
      exact fun H' d s hd => q H' d (same_trans sB s) hd
section
variable {mg : PySem.Str → Option Value} {base : Heap} {w : World}
theorem ok_Agent_may (M : Mod (hd04.heap_39 w.params) mg base) : CallG PP w (hd04.heap_39 w.params) mg base 2 (.ref 278) (pos (spMay (hd04.heap_39 w.params) (fun _ => True) wordsA)) := by
  obtain ⟨fd, F⟩ := fn_Agent_may w
  refine def_pos F sc_Agent_may (fun vs H Q E h => ?_) (fun _ _ _ _ _ _ us hl => match us, hl with | [_, _], _ => rfl) (fun cdv A outer s H vs Q E hr hg h => ?_)
  · obtain ⟨a, C, dx, fs, v, d, rfl, _⟩ := h; rfl
  have nd := sc_Agent_may.nd
  obtain ⟨a, C, dx, fs, v, d, rfl, ha, _, hd, q⟩ := h
  refine ⟨_, (pss_one (ps_ret (pe_cl (takes_of rfl rfl rfl rfl) (ok_is_word M) (hr.mono (by decide)) hg rfl (mg_is_word M) (kp_is_word w) (pa_cons (pv 1) (pa_cons (pe_op op_catT (pe_glob (v := .ref 195) rfl (mg_CACHED_ACCESSES M) rfl) (pe_glob (v := .ref 198) rfl (mg_SIGNALLING M) rfl)) pa_nil))))), ?_⟩
  wtm_at "rd"
  refine ⟨195, 198, _, _, rfl, rfl, sq_CACHED_ACCESSES w _, sq_SIGNALLING w _, by simp, by decide, (fun e => nomatch e), fun _ p hp => ?_⟩
  have hs := same_new (o := .tup (wordsA.map V.str)) hp
  exact ⟨rfl, v, d, p, wordsA, rfl, SqT.of upd_same, dq_mono hs hd, q _ hs⟩
theorem ok_Through_may (M : Mod (hd04.heap_39 w.params) mg base) : CallG PP w (hd04.heap_39 w.params) mg base 4 (.ref 318) (pos (spMay (hd04.heap_39 w.params) (fun C => C = 328 ∨ C = 366) (wordsA ++ wordsB))) := by
  refine def_S (fn_Through_may w) sc_Through_may (fun vs H Q E h => ?_) (fun _ _ _ _ _ us hl => match us, hl with | [_, _], _ => rfl) (fun A outer s H vs Q E hr hg h => ?_)
  · obtain ⟨a, C, dx, fs, v, d, rfl, _⟩ := h; rfl
  have nd := sc_Through_may.nd
  obtain ⟨a, C, dx, fs, v, d, rfl, ha, hC, hd, q⟩ := h
  refine ⟨_, psst_ret (pet_or (pet_super (takes_of rfl rfl rfl rfl) (fn_Through_may w) sc_Through_may (sup_Through_may w) (ok_Agent_may M) (hr.mono (by decide)) hg rfl rfl rfl rfl rfl (by decide) (pa_cons (pv 1) pa_nil)) (pe_one (pe_cl (takes_of rfl rfl rfl rfl) (ok_is_word M) (hr.mono (by decide)) hg rfl (mg_is_word M) (kp_is_word w) (pa_cons (pv 1) (pa_cons (pe_op op_catT (pe_glob (v := .ref 196) rfl (mg_DIRECT M) rfl) (pe_glob (v := .ref 197) rfl (mg_UPKEEP M) rfl)) pa_nil))))), ?_⟩
  refine ⟨a, C, dx, fs, rfl, ha, supc_Through_may w C hC, ?_⟩
  wtm_at "rd"
  refine ⟨rfl, a, C, dx, fs, v, d, rfl, ha, trivial, hd, fun H1 s1 => ⟨_, rfl, ite_b (fun e => ?_) (fun e => ?_)⟩⟩
  · have := q H1 s1
    rw [wordD_app, e, Bool.true_or] at this
    exact this
  · wtm_at "rd"
    refine ⟨196, 197, _, _, rfl, rfl, sq_DIRECT w _, sq_UPKEEP w _, by simp, by decide, (fun e => nomatch e), fun _ p hp => ?_⟩
    have hs := same_new (o := .tup (wordsB.map V.str)) hp
    have := q _ (same_trans s1 hs)
    rw [wordD_app, e, Bool.false_or] at this
    exact ⟨rfl, v, d, p, wordsB, rfl, SqT.of upd_same, dq_mono (same_trans s1 hs) hd, this⟩
theorem ok_Back_may (M : Mod (hd04.heap_39 w.params) mg base) : CallG PP w (hd04.heap_39 w.params) mg base 6 (.ref 356) (pos (spMay (hd04.heap_39 w.params) (fun C => C = 366) (wordsA ++ wordsB))) := by
  refine def_S (fn_Back_may w) sc_Back_may (fun vs H Q E h => ?_) (fun _ _ _ _ _ us hl => match us, hl with | [_, _], _ => rfl) (fun A outer s H vs Q E hr hg h => ?_)
  · obtain ⟨a, C, dx, fs, v, d, rfl, _⟩ := h; rfl
  have nd := sc_Back_may.nd
  obtain ⟨a, C, dx, fs, v, d, rfl, ha, rfl, hd, q⟩ := h
  refine ⟨_, psst_ret (pet_super (takes_of rfl rfl rfl rfl) (fn_Back_may w) sc_Back_may (sup_Back_may w) (ok_Through_may M) (hr.mono (by decide)) hg rfl rfl rfl rfl rfl (by decide) (pa_cons (pv 1) pa_nil)), ?_⟩
  refine ⟨a, 366, dx, fs, rfl, ha, supc_Back_may w, ?_⟩
  wtm_at "rd"
  exact ⟨rfl, a, 366, dx, fs, v, d, rfl, ha, .inr rfl, hd, q⟩
theorem may_cls (w : World) (C : Addr) (h : isAg C) : Cls (hd04.heap_39 w.params) C ∧ Meth (hd04.heap_39 w.params) C "may" (mayOf C) := by
  rcases h with rfl | rfl | rfl
  · exact ⟨cls_Agent w, me_Agent_may w⟩
  · exact ⟨cls_Through w, me_Through_may w⟩
  · exact ⟨cls_Back w, me_Back_may w⟩
theorem may_ok (M : Mod (hd04.heap_39 w.params) mg base) (C : Addr) (h : isAg C) : CallG PP w (hd04.heap_39 w.params) mg base 6 (.ref (mayOf C)) (pos (spMay (hd04.heap_39 w.params) (fun D => D = C) (mayWs C))) := by
  rcases h with rfl | rfl | rfl
  · exact ((ok_Agent_may M).mono (by decide)).imp fun vs zs H Q E h => ⟨h.1, let ⟨a, C, dx, fs, v, d, e, ha, _, r⟩ := h.2; ⟨a, C, dx, fs, v, d, e, ha, trivial, r⟩⟩
  · exact ((ok_Through_may M).mono (by decide)).imp fun vs zs H Q E h => ⟨h.1, let ⟨a, C, dx, fs, v, d, e, ha, hC, r⟩ := h.2; ⟨a, C, dx, fs, v, d, e, ha, .inl hC, r⟩⟩
  · exact (ok_Back_may M).imp fun vs zs H Q E h => ⟨h.1, let ⟨a, C, dx, fs, v, d, e, ha, hC, r⟩ := h.2; ⟨a, C, dx, fs, v, d, e, ha, hC, r⟩⟩
theorem ok_Agent___init__ (M : Mod (hd04.heap_39 w.params) mg base) : CallG PP w (hd04.heap_39 w.params) mg base 8 (.ref 233) (pos fun vs H Q E => ∃ ws rest, vs = ws ++ rest ∧ ws.length = 2 ∧ rest.length ≤ sizeLine ∧ ∀ p, H p = none → spAInit (hd04.heap_39 w.params) (ws ++ [.ref p]) (upd H p (.tup rest)) Q E) := by
  obtain ⟨fd, F⟩ := fn_Agent___init__ w
  refine def_star (ps := ["self", "name"]) (pv := "steps") F sc_Agent___init__ (fun _ _ _ _ _ _ => bind_star2 (B := fun l => bindArgs _ ⟨l, []⟩) (fun _ _ => rfl) (fun _ _ _ _ => rfl)) (fun cdv A outer s H vs Q E hr hg h => ?_)
  have nd := sc_Agent___init__.nd
  obtain ⟨a, C, dx, p, v1, d1, xs, ds, rfl, hC, ha, hp, h1, hs, hd, hps, q⟩ := h
  have hlx := dqAll_len hd
  refine ⟨_, (pss_cons (ps_if (pt_not (pt_val (pe_cl (takes_of rfl rfl rfl rfl) (ok_is_name M) (hr.mono (by decide)) hg rfl (mg_is_name M) (kp_is_name w) (pa_cons (pv 1) pa_nil)))) (pss_one (ps_raise rfl (takes_of rfl rfl rfl rfl) (pmk_E (mke_NoPart w) (takes_of rfl rfl rfl rfl) (ok_NoPart___init__ M) (hr.mono (by decide)) hg (kp_NoPart w) rfl (mg_NoPart M) (pa_cons pe_str (pa_cons pe_non pa_nil)) (by decide)))) pss_nil)
      (pss_cons (ps_if (pt_not (pt_chain op_le op_le pe_int (pe_callB call_len_seq (by rfl) (mn_len M) (by decide +kernel) (pa_cons (pv 2) pa_nil)) (pe_glob (v := .int 24) rfl (mg_MOST_STEPS M) ⟨_, rfl⟩))) (pss_one (ps_raise rfl (takes_of rfl rfl rfl rfl) (pmk_E (mke_NoPart w) (takes_of rfl rfl rfl rfl) (ok_NoPart___init__ M) (hr.mono (by decide)) hg (kp_NoPart w) rfl (mg_NoPart M) (pa_cons pe_str (pa_cons pe_non pa_nil)) (by decide)))) pss_nil)
      (pss_cons (ps_for (passes_of rfl) rfl (pi_enumT (by rfl) (mn_enumerate M) (pa_cons (pv 2) pa_nil)) (pg_tup (by rfl) (pgs_cons (pg_name (i := 3) nd rfl (.inl rfl)) (pgs_cons (pg_name (i := 4) nd rfl (.inl rfl)) pgs_nil))) (pss_one (ps_if (PW.pt (pw_or (pt_not (pt_val (pe_cl (takes_of rfl rfl rfl rfl) (ok_is_step M) (hr.mono (by decide)) hg rfl (mg_is_step M) (kp_is_step w) (pa_cons (pv 4) pa_nil)))) (pw_or1 (pt_not (pt_val (pe_meV (takes_of rfl rfl rfl rfl) (pv 0) (hm := fun C h => may_cls w C h) (may_ok M) (hr.mono (by decide)) hg (pa_cons (pe_ix ix_tup (pv 4) pe_int (fun _ _ => rfl)) pa_nil))))))) (pss_one (ps_raise rfl (takes_of rfl rfl rfl rfl) (pmk_E (mke_NoPart w) (takes_of rfl rfl rfl rfl) (ok_NoPart___init__ M) (hr.mono (by decide)) hg (kp_NoPart w) rfl (mg_NoPart M) (pa_cons pe_str (pa_cons (pv 3) pa_nil)) (by decide)))) pss_nil)))
      (pss_cons (ps_fld (pv 0) (pv 1) rfl)
      (pss_cons (ps_fld (pv 0) (pv 2) rfl)
      (pss_one (ps_fld (pv 0) (pe_tup (pa_cons (pe_con (pv 0) rfl) (pa_cons (pv 1) (pa_cons (pv 2) pa_nil)))) rfl))))))), ?_⟩
  refine ⟨_, rfl, rfl, v1, d1, rfl, h1, hs, fun H1 s1 => ⟨_, rfl, ite_b (fun e1 => ?_) (fun e1 => ?_)⟩⟩
  · have e1 : nameD d1 = false := by rw [← Bool.not_not (nameD d1), e1] <;> rfl
    refine ⟨rfl, fun d hd => ?_⟩
    have e : wantA C d1 ds = some (("name" : Str), none) := by unfold wantA; rw [if_pos e1]
    rw [e] at q
    exact q _ d (same_trans s1 (same_new hd)) upd_same
  have e1 : nameD d1 = true := by rw [← Bool.not_not (nameD d1), e1] <;> rfl
  have hp1 := s1 _ _ hp
  have fin : ¬ (1 ≤ ds.length ∧ ds.length ≤ 24) → ∀ d, H1 d = none → E (.ref 46) (some d) (upd H1 d (.xd [("place", .non), ("reason", .str "steps")])) := fun hn d hd => by
    have e : wantA C d1 ds = some (("steps" : Str), none) := by unfold wantA; rw [if_neg (by rw [e1]; exact Bool.noConfusion), if_pos hn]
    rw [e] at q
    exact q _ d (same_trans s1 (same_new hd)) upd_same
  refine ⟨_, rfl, p, xs, rfl, .inr (SqT.of hp1), _, _, rfl, rfl, _, rfl, ite_b (fun h3 => ?_) (fun h3 => ?_)⟩
  · have h3 := of_decide_eq_true h3
    refine ⟨_, _, rfl, rfl, _, rfl, ite_b (fun h4 => ?_) (fun h4 => ?_)⟩
    · exact ⟨rfl, fin (by have h4 : decide ((xs.length : Int) ≤ 24) = false := by rw [← Bool.not_not (decide ((xs.length : Int) ≤ 24)), h4] <;> rfl
                          have h4 := of_decide_eq_false h4
                          omega)⟩
    have h4 : decide ((xs.length : Int) ≤ 24) = true := by rw [← Bool.not_not (decide ((xs.length : Int) ≤ 24)), h4] <;> rfl
    have h4 := of_decide_eq_true h4
    have ew : wantA C d1 ds = match firstK (fun k => !goodD C (ds.getD k .none)) 0 ds.length with
        | some k => some (("step" : Str), some k)
        | none => none := by
      unfold wantA
      rw [if_neg (by rw [e1]; exact Bool.noConfusion), if_neg (by omega)]
    have hC2 := hC
    refine ⟨_, rfl, p, xs, rfl, SqT.of hp1, ?_⟩
    refine for_it walk_enumT (fun i σ H' => (∃ o3 o4, σ = [some (.ref a), some v1, some (.ref p), o3, o4]) ∧ Same H H' ∧ ∀ j, j < i → goodD C (ds.getD j .none) = true) ⟨⟨_, _, rfl⟩, s1, fun j hj => absurd hj (Nat.not_lt_zero j)⟩ (fun i σ H' _ h => SqT.of (h.2.1 _ _ hp)) (fun i x σ H2 H3 hi h y => ?_) (fun σ H2 h => ?_)
    · obtain ⟨⟨o3, o4, rfl⟩, sm, hno⟩ := h
      obtain ⟨T, k, v, rfl, hT, rfl, hk, hv⟩ := y
      cases hk
      obtain ⟨d, hdi, hdv⟩ := dqAll_get hd hv
      have s2 := same_trans sm (same_new (o := .tup [.int i, v]) hT)
      have hdv := dq_mono s2 hdv
      have eb : goodD C (ds.getD i .none) = goodD C d := by
        rw [List.getD_eq_getElem?_getD, hdi] <;> rfl
      have fin : goodD C d = false → ∀ H4 d2, Same H H4 → H4 d2 = none → E (.ref 46) (some d2) (upd H4 d2 (.xd [("place", .int i), ("reason", .str "step")])) := fun hb H4 d2 s4 h2 => by
        have e : wantA C d1 ds = some (("step" : Str), some i) := by
          rw [ew, firstK_some (p := fun k => !goodD C (ds.getD k .none)) (k := 0) (i := i) (fun j hj => by rw [Nat.zero_add, hno j hj] <;> rfl) (by rw [Nat.zero_add, eb, hb] <;> rfl) (by omega), Nat.zero_add]
        rw [e] at q
        exact q _ d2 (same_trans s4 (same_new h2)) upd_same
      refine ⟨T, _, rfl, SqT.of upd_same, rfl, _, _, rfl, _, _, rfl, rfl, ?_⟩
      refine ⟨_, rfl, rfl, v, d, rfl, hdv, hps d (List.mem_of_getElem? hdi), fun H4 s4 => ⟨_, rfl, ite_b (fun e => ?_) (fun e => ?_)⟩⟩
      · refine ifT (b := true) rfl ?_
        have e : stepD d = false := by rw [← Bool.not_not (stepD d), e] <;> rfl
        exact ⟨_, rfl, rfl, fun d2 h2 => fin (by unfold goodD; rw [e] <;> rfl) _ d2 (same_trans s2 s4) h2⟩
      have e : stepD d = true := by rw [← Bool.not_not (stepD d), e] <;> rfl
      obtain ⟨wd, rs, rfl⟩ := stepD_head e
      obtain ⟨r, ys, ds2, rfl, e5, hsq, hall⟩ := dq_tup hdv rfl
      cases e5
      obtain ⟨x, zs, rfl, hx⟩ := all_cons hall
      have s5 := same_trans s2 s4
      have ha5 := s5 _ _ ha
      refine ⟨_, rfl, a, C, dx, _, rfl, hC, ha5, rfl, ?_⟩
      refine ⟨_, rfl, r, _, 0, x, rfl, rfl, st_mono s4 hsq, atI_nat (j := 0) rfl, rfl, a, C, dx, _, x, wd, rfl, ha5, rfl, dq_mono s4 hx, fun H6 s6 => ⟨_, rfl, ite_b (fun e2 => ?_) (fun e2 => ?_)⟩⟩
      · have e2 : wordD (mayWs C) wd = false := by rw [← Bool.not_not (wordD (mayWs C) wd), e2] <;> rfl
        exact ⟨_, rfl, rfl, fun d2 h2 => fin (by unfold goodD; rw [show headD (.tuple (wd :: rs)) = wd from rfl, e2, Bool.and_false]) _ d2 (same_trans s5 s6) h2⟩
      · have e2 : wordD (mayWs C) wd = true := by rw [← Bool.not_not (wordD (mayWs C) wd), e2] <;> rfl
        refine ⟨⟨_, _, rfl⟩, same_trans s5 s6, fun j hj => ?_⟩
        rcases Nat.lt_or_eq_of_le (Nat.le_of_lt_succ hj) with h | rfl
        · exact hno j h
        · rw [eb]
          unfold goodD
          rw [show headD (.tuple (wd :: rs)) = wd from rfl, e, e2] <;> rfl
    obtain ⟨⟨o3, o4, rfl⟩, sm, hno⟩ := h
    have e : wantA C d1 ds = none := by
      rw [ew, firstK_none (p := fun k => !goodD C (ds.getD k .none)) fun j hj => by rw [Nat.zero_add, hno j (by omega)] <;> rfl]
    rw [e] at q
    have ha2 := sm _ _ ha
    rcases hC with rfl | rfl | rfl
    · refine ⟨_, rfl, _, rfl, a, 288, dx, _, rfl, ha2, cls_Agent w, na_Agent_name w, Nat.le_of_ble_eq_true rfl, ?_⟩
      refine ⟨_, rfl, _, rfl, a, 288, dx, _, rfl, upd_same, cls_Agent w, na_Agent_steps w, Nat.le_of_ble_eq_true rfl, ?_⟩
      refine ⟨_, rfl, a, 288, dx, _, _, _, rfl, upd_same, cls_Agent w, con_Agent_KIND w, rfl, ?_⟩
      refine ⟨_, rfl, _, rfl, Nat.le_of_ble_eq_true rfl, fun z hz => ?_⟩
      refine ⟨_, rfl, a, 288, dx, _, rfl, at_new hz upd_same, cls_Agent w, na_Agent_shape w, Nat.le_of_ble_eq_true rfl, ?_⟩
      exact q _ z (Chg.same sm (((Chg.upd.trans Chg.upd).then (same_new hz)).trans Chg.upd))
    · refine ⟨_, rfl, _, rfl, a, 328, dx, _, rfl, ha2, cls_Through w, na_Through_name w, Nat.le_of_ble_eq_true rfl, ?_⟩
      refine ⟨_, rfl, _, rfl, a, 328, dx, _, rfl, upd_same, cls_Through w, na_Through_steps w, Nat.le_of_ble_eq_true rfl, ?_⟩
      refine ⟨_, rfl, a, 328, dx, _, _, _, rfl, upd_same, cls_Through w, con_Through_KIND w, rfl, ?_⟩
      refine ⟨_, rfl, _, rfl, Nat.le_of_ble_eq_true rfl, fun z hz => ?_⟩
      refine ⟨_, rfl, a, 328, dx, _, rfl, at_new hz upd_same, cls_Through w, na_Through_shape w, Nat.le_of_ble_eq_true rfl, ?_⟩
      exact q _ z (Chg.same sm (((Chg.upd.trans Chg.upd).then (same_new hz)).trans Chg.upd))
    · refine ⟨_, rfl, _, rfl, a, 366, dx, _, rfl, ha2, cls_Back w, na_Back_name w, Nat.le_of_ble_eq_true rfl, ?_⟩
      refine ⟨_, rfl, _, rfl, a, 366, dx, _, rfl, upd_same, cls_Back w, na_Back_steps w, Nat.le_of_ble_eq_true rfl, ?_⟩
      refine ⟨_, rfl, a, 366, dx, _, _, _, rfl, upd_same, cls_Back w, con_Back_KIND w, rfl, ?_⟩
      refine ⟨_, rfl, _, rfl, Nat.le_of_ble_eq_true rfl, fun z hz => ?_⟩
      refine ⟨_, rfl, a, 366, dx, _, rfl, at_new hz upd_same, cls_Back w, na_Back_shape w, Nat.le_of_ble_eq_true rfl, ?_⟩
      exact q _ z (Chg.same sm (((Chg.upd.trans Chg.upd).then (same_new hz)).trans Chg.upd))
  · have h3 := of_decide_eq_false h3
    exact ⟨_, rfl, ifT (b := true) rfl ⟨rfl, fin (by omega)⟩⟩
end
end M04

namespace M04
open PySem PySem.Spec PyProof.Rows L2 StX Uk

local macro_rules | `(tactic| wtm_at "off0") => `(tactic| first | with_reducible assumption | (with_reducible apply Off.mk; wtm_at "pen"; assumption))
local macro_rules | `(tactic| wtm_at "at0") => `(tactic| first | with_reducible assumption | with_reducible exact upd_same | (with_reducible apply Off.at; wtm_at "off0"))
local macro_rules | `(tactic| wtm_at "off1") => `(tactic| first | with_reducible assumption | (with_reducible apply Off.mk; wtm_at "pen"; assumption) | (with_reducible refine Off.new (by assumption) _ _ ?_; wtm_at "off0") | (with_reducible refine at_same (by with_reducible assumption) ?_; wtm_at "off0"))
local macro_rules | `(tactic| wtm_at "at1") => `(tactic| first | with_reducible assumption | with_reducible exact upd_same | (with_reducible refine at_new (by assumption) ?_; wtm_at "at0") | (with_reducible refine at_same (by with_reducible assumption) ?_; wtm_at "at0") | (with_reducible apply Off.at; wtm_at "off1"))
local macro_rules | `(tactic| wtm_at "off2") => `(tactic| first | with_reducible assumption | (with_reducible apply Off.mk; wtm_at "pen"; assumption) | (with_reducible refine Off.new (by assumption) _ _ ?_; wtm_at "off1") | (with_reducible refine at_same (by with_reducible assumption) ?_; wtm_at "off1"))
local macro_rules | `(tactic| wtm_at "at2") => `(tactic| first | with_reducible assumption | with_reducible exact upd_same | (with_reducible refine at_new (by assumption) ?_; wtm_at "at1") | (with_reducible refine at_same (by with_reducible assumption) ?_; wtm_at "at1") | (with_reducible apply Off.at; wtm_at "off2"))
local macro_rules | `(tactic| wtm_at "off3") => `(tactic| first | with_reducible assumption | (with_reducible apply Off.mk; wtm_at "pen"; assumption) | (with_reducible refine Off.new (by assumption) _ _ ?_; wtm_at "off2") | (with_reducible refine at_same (by with_reducible assumption) ?_; wtm_at "off2"))
local macro_rules | `(tactic| wtm_at "at3") => `(tactic| first | with_reducible assumption | with_reducible exact upd_same | (with_reducible refine at_new (by assumption) ?_; wtm_at "at2") | (with_reducible refine at_same (by with_reducible assumption) ?_; wtm_at "at2") | (with_reducible apply Off.at; wtm_at "off3"))
local macro_rules | `(tactic| wtm_at "off4") => `(tactic| first | with_reducible assumption | (with_reducible apply Off.mk; wtm_at "pen"; assumption) | (with_reducible refine Off.new (by assumption) _ _ ?_; wtm_at "off3") | (with_reducible refine at_same (by with_reducible assumption) ?_; wtm_at "off3"))
local macro_rules | `(tactic| wtm_at "at4") => `(tactic| first | with_reducible assumption | with_reducible exact upd_same | (with_reducible refine at_new (by assumption) ?_; wtm_at "at3") | (with_reducible refine at_same (by with_reducible assumption) ?_; wtm_at "at3") | (with_reducible apply Off.at; wtm_at "off4"))
local macro_rules | `(tactic| wtm_at "off5") => `(tactic| first | with_reducible assumption | (with_reducible apply Off.mk; wtm_at "pen"; assumption) | (with_reducible refine Off.new (by assumption) _ _ ?_; wtm_at "off4") | (with_reducible refine at_same (by with_reducible assumption) ?_; wtm_at "off4"))
local macro_rules | `(tactic| wtm_at "at5") => `(tactic| first | with_reducible assumption | with_reducible exact upd_same | (with_reducible refine at_new (by assumption) ?_; wtm_at "at4") | (with_reducible refine at_same (by with_reducible assumption) ?_; wtm_at "at4") | (with_reducible apply Off.at; wtm_at "off5"))
local macro_rules | `(tactic| wtm_at "off6") => `(tactic| first | with_reducible assumption | (with_reducible apply Off.mk; wtm_at "pen"; assumption) | (with_reducible refine Off.new (by assumption) _ _ ?_; wtm_at "off5") | (with_reducible refine at_same (by with_reducible assumption) ?_; wtm_at "off5"))
local macro_rules | `(tactic| wtm_at "at6") => `(tactic| first | with_reducible assumption | with_reducible exact upd_same | (with_reducible refine at_new (by assumption) ?_; wtm_at "at5") | (with_reducible refine at_same (by with_reducible assumption) ?_; wtm_at "at5") | (with_reducible apply Off.at; wtm_at "off6"))
local macro_rules | `(tactic| wtm_at "off7") => `(tactic| first | with_reducible assumption | (with_reducible apply Off.mk; wtm_at "pen"; assumption) | (with_reducible refine Off.new (by assumption) _ _ ?_; wtm_at "off6") | (with_reducible refine at_same (by with_reducible assumption) ?_; wtm_at "off6"))
local macro_rules | `(tactic| wtm_at "at7") => `(tactic| first | with_reducible assumption | with_reducible exact upd_same | (with_reducible refine at_new (by assumption) ?_; wtm_at "at6") | (with_reducible refine at_same (by with_reducible assumption) ?_; wtm_at "at6") | (with_reducible apply Off.at; wtm_at "off7"))
local macro_rules | `(tactic| wtm_at "off8") => `(tactic| first | with_reducible assumption | (with_reducible apply Off.mk; wtm_at "pen"; assumption) | (with_reducible refine Off.new (by assumption) _ _ ?_; wtm_at "off7") | (with_reducible refine at_same (by with_reducible assumption) ?_; wtm_at "off7"))
local macro_rules | `(tactic| wtm_at "at8") => `(tactic| first | with_reducible assumption | with_reducible exact upd_same | (with_reducible refine at_new (by assumption) ?_; wtm_at "at7") | (with_reducible refine at_same (by with_reducible assumption) ?_; wtm_at "at7") | (with_reducible apply Off.at; wtm_at "off8"))
local macro_rules | `(tactic| wtm_at "off9") => `(tactic| first | with_reducible assumption | (with_reducible apply Off.mk; wtm_at "pen"; assumption) | (with_reducible refine Off.new (by assumption) _ _ ?_; wtm_at "off8") | (with_reducible refine at_same (by with_reducible assumption) ?_; wtm_at "off8"))
local macro_rules | `(tactic| wtm_at "at9") => `(tactic| first | with_reducible assumption | with_reducible exact upd_same | (with_reducible refine at_new (by assumption) ?_; wtm_at "at8") | (with_reducible refine at_same (by with_reducible assumption) ?_; wtm_at "at8") | (with_reducible apply Off.at; wtm_at "off9"))
local macro_rules | `(tactic| wtm_at "off10") => `(tactic| first | with_reducible assumption | (with_reducible apply Off.mk; wtm_at "pen"; assumption) | (with_reducible refine Off.new (by assumption) _ _ ?_; wtm_at "off9") | (with_reducible refine at_same (by with_reducible assumption) ?_; wtm_at "off9"))
local macro_rules | `(tactic| wtm_at "at10") => `(tactic| first | with_reducible assumption | with_reducible exact upd_same | (with_reducible refine at_new (by assumption) ?_; wtm_at "at9") | (with_reducible refine at_same (by with_reducible assumption) ?_; wtm_at "at9") | (with_reducible apply Off.at; wtm_at "off10"))
local macro_rules | `(tactic| wtm_at "off11") => `(tactic| first | with_reducible assumption | (with_reducible apply Off.mk; wtm_at "pen"; assumption) | (with_reducible refine Off.new (by assumption) _ _ ?_; wtm_at "off10") | (with_reducible refine at_same (by with_reducible assumption) ?_; wtm_at "off10"))
local macro_rules | `(tactic| wtm_at "at11") => `(tactic| first | with_reducible assumption | with_reducible exact upd_same | (with_reducible refine at_new (by assumption) ?_; wtm_at "at10") | (with_reducible refine at_same (by with_reducible assumption) ?_; wtm_at "at10") | (with_reducible apply Off.at; wtm_at "off11"))
local macro_rules | `(tactic| wtm_at "off12") => `(tactic| first | with_reducible assumption | (with_reducible apply Off.mk; wtm_at "pen"; assumption) | (with_reducible refine Off.new (by assumption) _ _ ?_; wtm_at "off11") | (with_reducible refine at_same (by with_reducible assumption) ?_; wtm_at "off11"))
local macro_rules | `(tactic| wtm_at "at12") => `(tactic| first | with_reducible assumption | with_reducible exact upd_same | (with_reducible refine at_new (by assumption) ?_; wtm_at "at11") | (with_reducible refine at_same (by with_reducible assumption) ?_; wtm_at "at11") | (with_reducible apply Off.at; wtm_at "off12"))
local macro_rules | `(tactic| wtm_at "off13") => `(tactic| first | with_reducible assumption | (with_reducible apply Off.mk; wtm_at "pen"; assumption) | (with_reducible refine Off.new (by assumption) _ _ ?_; wtm_at "off12") | (with_reducible refine at_same (by with_reducible assumption) ?_; wtm_at "off12"))
local macro_rules | `(tactic| wtm_at "at13") => `(tactic| first | with_reducible assumption | with_reducible exact upd_same | (with_reducible refine at_new (by assumption) ?_; wtm_at "at12") | (with_reducible refine at_same (by with_reducible assumption) ?_; wtm_at "at12") | (with_reducible apply Off.at; wtm_at "off13"))
local macro_rules | `(tactic| wtm_at "off14") => `(tactic| first | with_reducible assumption | (with_reducible apply Off.mk; wtm_at "pen"; assumption) | (with_reducible refine Off.new (by assumption) _ _ ?_; wtm_at "off13") | (with_reducible refine at_same (by with_reducible assumption) ?_; wtm_at "off13"))
local macro_rules | `(tactic| wtm_at "at14") => `(tactic| first | with_reducible assumption | with_reducible exact upd_same | (with_reducible refine at_new (by assumption) ?_; wtm_at "at13") | (with_reducible refine at_same (by with_reducible assumption) ?_; wtm_at "at13") | (with_reducible apply Off.at; wtm_at "off14"))
local macro_rules | `(tactic| wtm_at "off15") => `(tactic| first | with_reducible assumption | (with_reducible apply Off.mk; wtm_at "pen"; assumption) | (with_reducible refine Off.new (by assumption) _ _ ?_; wtm_at "off14") | (with_reducible refine at_same (by with_reducible assumption) ?_; wtm_at "off14"))
local macro_rules | `(tactic| wtm_at "at15") => `(tactic| first | with_reducible assumption | with_reducible exact upd_same | (with_reducible refine at_new (by assumption) ?_; wtm_at "at14") | (with_reducible refine at_same (by with_reducible assumption) ?_; wtm_at "at14") | (with_reducible apply Off.at; wtm_at "off15"))
local macro_rules | `(tactic| wtm_at "off16") => `(tactic| first | with_reducible assumption | (with_reducible apply Off.mk; wtm_at "pen"; assumption) | (with_reducible refine Off.new (by assumption) _ _ ?_; wtm_at "off15") | (with_reducible refine at_same (by with_reducible assumption) ?_; wtm_at "off15"))
local macro_rules | `(tactic| wtm_at "at16") => `(tactic| first | with_reducible assumption | with_reducible exact upd_same | (with_reducible refine at_new (by assumption) ?_; wtm_at "at15") | (with_reducible refine at_same (by with_reducible assumption) ?_; wtm_at "at15") | (with_reducible apply Off.at; wtm_at "off16"))
local macro_rules | `(tactic| wtm_at "off17") => `(tactic| first | with_reducible assumption | (with_reducible apply Off.mk; wtm_at "pen"; assumption) | (with_reducible refine Off.new (by assumption) _ _ ?_; wtm_at "off16") | (with_reducible refine at_same (by with_reducible assumption) ?_; wtm_at "off16"))
local macro_rules | `(tactic| wtm_at "at17") => `(tactic| first | with_reducible assumption | with_reducible exact upd_same | (with_reducible refine at_new (by assumption) ?_; wtm_at "at16") | (with_reducible refine at_same (by with_reducible assumption) ?_; wtm_at "at16") | (with_reducible apply Off.at; wtm_at "off17"))
local macro_rules | `(tactic| wtm_at "off18") => `(tactic| first | with_reducible assumption | (with_reducible apply Off.mk; wtm_at "pen"; assumption) | (with_reducible refine Off.new (by assumption) _ _ ?_; wtm_at "off17") | (with_reducible refine at_same (by with_reducible assumption) ?_; wtm_at "off17"))
local macro_rules | `(tactic| wtm_at "at18") => `(tactic| first | with_reducible assumption | with_reducible exact upd_same | (with_reducible refine at_new (by assumption) ?_; wtm_at "at17") | (with_reducible refine at_same (by with_reducible assumption) ?_; wtm_at "at17") | (with_reducible apply Off.at; wtm_at "off18"))
local macro_rules | `(tactic| wtm_at "off19") => `(tactic| first | with_reducible assumption | (with_reducible apply Off.mk; wtm_at "pen"; assumption) | (with_reducible refine Off.new (by assumption) _ _ ?_; wtm_at "off18") | (with_reducible refine at_same (by with_reducible assumption) ?_; wtm_at "off18"))
local macro_rules | `(tactic| wtm_at "at19") => `(tactic| first | with_reducible assumption | with_reducible exact upd_same | (with_reducible refine at_new (by assumption) ?_; wtm_at "at18") | (with_reducible refine at_same (by with_reducible assumption) ?_; wtm_at "at18") | (with_reducible apply Off.at; wtm_at "off19"))
local macro_rules | `(tactic| wtm_at "off20") => `(tactic| first | with_reducible assumption | (with_reducible apply Off.mk; wtm_at "pen"; assumption) | (with_reducible refine Off.new (by assumption) _ _ ?_; wtm_at "off19") | (with_reducible refine at_same (by with_reducible assumption) ?_; wtm_at "off19"))
local macro_rules | `(tactic| wtm_at "at20") => `(tactic| first | with_reducible assumption | with_reducible exact upd_same | (with_reducible refine at_new (by assumption) ?_; wtm_at "at19") | (with_reducible refine at_same (by with_reducible assumption) ?_; wtm_at "at19") | (with_reducible apply Off.at; wtm_at "off20"))
local macro_rules | `(tactic| wtm_at "off21") => `(tactic| first | with_reducible assumption | (with_reducible apply Off.mk; wtm_at "pen"; assumption) | (with_reducible refine Off.new (by assumption) _ _ ?_; wtm_at "off20") | (with_reducible refine at_same (by with_reducible assumption) ?_; wtm_at "off20"))
local macro_rules | `(tactic| wtm_at "at21") => `(tactic| first | with_reducible assumption | with_reducible exact upd_same | (with_reducible refine at_new (by assumption) ?_; wtm_at "at20") | (with_reducible refine at_same (by with_reducible assumption) ?_; wtm_at "at20") | (with_reducible apply Off.at; wtm_at "off21"))
local macro_rules | `(tactic| wtm_at "off22") => `(tactic| first | with_reducible assumption | (with_reducible apply Off.mk; wtm_at "pen"; assumption) | (with_reducible refine Off.new (by assumption) _ _ ?_; wtm_at "off21") | (with_reducible refine at_same (by with_reducible assumption) ?_; wtm_at "off21"))
local macro_rules | `(tactic| wtm_at "at22") => `(tactic| first | with_reducible assumption | with_reducible exact upd_same | (with_reducible refine at_new (by assumption) ?_; wtm_at "at21") | (with_reducible refine at_same (by with_reducible assumption) ?_; wtm_at "at21") | (with_reducible apply Off.at; wtm_at "off22"))
local macro_rules | `(tactic| wtm_at "off23") => `(tactic| first | with_reducible assumption | (with_reducible apply Off.mk; wtm_at "pen"; assumption) | (with_reducible refine Off.new (by assumption) _ _ ?_; wtm_at "off22") | (with_reducible refine at_same (by with_reducible assumption) ?_; wtm_at "off22"))
local macro_rules | `(tactic| wtm_at "at23") => `(tactic| first | with_reducible assumption | with_reducible exact upd_same | (with_reducible refine at_new (by assumption) ?_; wtm_at "at22") | (with_reducible refine at_same (by with_reducible assumption) ?_; wtm_at "at22") | (with_reducible apply Off.at; wtm_at "off23"))
local macro_rules | `(tactic| wtm_at "off24") => `(tactic| first | with_reducible assumption | (with_reducible apply Off.mk; wtm_at "pen"; assumption) | (with_reducible refine Off.new (by assumption) _ _ ?_; wtm_at "off23") | (with_reducible refine at_same (by with_reducible assumption) ?_; wtm_at "off23"))
local macro_rules | `(tactic| wtm_at "at24") => `(tactic| first | with_reducible assumption | with_reducible exact upd_same | (with_reducible refine at_new (by assumption) ?_; wtm_at "at23") | (with_reducible refine at_same (by with_reducible assumption) ?_; wtm_at "at23") | (with_reducible apply Off.at; wtm_at "off24"))
local macro_rules | `(tactic| wtm_at "off25") => `(tactic| first | with_reducible assumption | (with_reducible apply Off.mk; wtm_at "pen"; assumption) | (with_reducible refine Off.new (by assumption) _ _ ?_; wtm_at "off24") | (with_reducible refine at_same (by with_reducible assumption) ?_; wtm_at "off24"))
local macro_rules | `(tactic| wtm_at "at25") => `(tactic| first | with_reducible assumption | with_reducible exact upd_same | (with_reducible refine at_new (by assumption) ?_; wtm_at "at24") | (with_reducible refine at_same (by with_reducible assumption) ?_; wtm_at "at24") | (with_reducible apply Off.at; wtm_at "off25"))
local macro_rules | `(tactic| wtm_at "off26") => `(tactic| first | with_reducible assumption | (with_reducible apply Off.mk; wtm_at "pen"; assumption) | (with_reducible refine Off.new (by assumption) _ _ ?_; wtm_at "off25") | (with_reducible refine at_same (by with_reducible assumption) ?_; wtm_at "off25"))
local macro_rules | `(tactic| wtm_at "at26") => `(tactic| first | with_reducible assumption | with_reducible exact upd_same | (with_reducible refine at_new (by assumption) ?_; wtm_at "at25") | (with_reducible refine at_same (by with_reducible assumption) ?_; wtm_at "at25") | (with_reducible apply Off.at; wtm_at "off26"))
local macro_rules | `(tactic| wtm_at "off27") => `(tactic| first | with_reducible assumption | (with_reducible apply Off.mk; wtm_at "pen"; assumption) | (with_reducible refine Off.new (by assumption) _ _ ?_; wtm_at "off26") | (with_reducible refine at_same (by with_reducible assumption) ?_; wtm_at "off26"))
local macro_rules | `(tactic| wtm_at "at27") => `(tactic| first | with_reducible assumption | with_reducible exact upd_same | (with_reducible refine at_new (by assumption) ?_; wtm_at "at26") | (with_reducible refine at_same (by with_reducible assumption) ?_; wtm_at "at26") | (with_reducible apply Off.at; wtm_at "off27"))
local macro_rules | `(tactic| wtm_at "off28") => `(tactic| first | with_reducible assumption | (with_reducible apply Off.mk; wtm_at "pen"; assumption) | (with_reducible refine Off.new (by assumption) _ _ ?_; wtm_at "off27") | (with_reducible refine at_same (by with_reducible assumption) ?_; wtm_at "off27"))
local macro_rules | `(tactic| wtm_at "at28") => `(tactic| first | with_reducible assumption | with_reducible exact upd_same | (with_reducible refine at_new (by assumption) ?_; wtm_at "at27") | (with_reducible refine at_same (by with_reducible assumption) ?_; wtm_at "at27") | (with_reducible apply Off.at; wtm_at "off28"))
local macro_rules | `(tactic| wtm_at "off29") => `(tactic| first | with_reducible assumption | (with_reducible apply Off.mk; wtm_at "pen"; assumption) | (with_reducible refine Off.new (by assumption) _ _ ?_; wtm_at "off28") | (with_reducible refine at_same (by with_reducible assumption) ?_; wtm_at "off28"))
local macro_rules | `(tactic| wtm_at "at29") => `(tactic| first | with_reducible assumption | with_reducible exact upd_same | (with_reducible refine at_new (by assumption) ?_; wtm_at "at28") | (with_reducible refine at_same (by with_reducible assumption) ?_; wtm_at "at28") | (with_reducible apply Off.at; wtm_at "off29"))
local macro_rules | `(tactic| wtm_at "off30") => `(tactic| first | with_reducible assumption | (with_reducible apply Off.mk; wtm_at "pen"; assumption) | (with_reducible refine Off.new (by assumption) _ _ ?_; wtm_at "off29") | (with_reducible refine at_same (by with_reducible assumption) ?_; wtm_at "off29"))
local macro_rules | `(tactic| wtm_at "at30") => `(tactic| first | with_reducible assumption | with_reducible exact upd_same | (with_reducible refine at_new (by assumption) ?_; wtm_at "at29") | (with_reducible refine at_same (by with_reducible assumption) ?_; wtm_at "at29") | (with_reducible apply Off.at; wtm_at "off30"))
local macro_rules | `(tactic| wtm_at "off31") => `(tactic| first | with_reducible assumption | (with_reducible apply Off.mk; wtm_at "pen"; assumption) | (with_reducible refine Off.new (by assumption) _ _ ?_; wtm_at "off30") | (with_reducible refine at_same (by with_reducible assumption) ?_; wtm_at "off30"))
local macro_rules | `(tactic| wtm_at "at31") => `(tactic| first | with_reducible assumption | with_reducible exact upd_same | (with_reducible refine at_new (by assumption) ?_; wtm_at "at30") | (with_reducible refine at_same (by with_reducible assumption) ?_; wtm_at "at30") | (with_reducible apply Off.at; wtm_at "off31"))
local macro_rules | `(tactic| wtm_at "off32") => `(tactic| first | with_reducible assumption | (with_reducible apply Off.mk; wtm_at "pen"; assumption) | (with_reducible refine Off.new (by assumption) _ _ ?_; wtm_at "off31") | (with_reducible refine at_same (by with_reducible assumption) ?_; wtm_at "off31"))
local macro_rules | `(tactic| wtm_at "at32") => `(tactic| first | with_reducible assumption | with_reducible exact upd_same | (with_reducible refine at_new (by assumption) ?_; wtm_at "at31") | (with_reducible refine at_same (by with_reducible assumption) ?_; wtm_at "at31") | (with_reducible apply Off.at; wtm_at "off32"))
local macro_rules | `(tactic| wtm_at "off33") => `(tactic| first | with_reducible assumption | (with_reducible apply Off.mk; wtm_at "pen"; assumption) | (with_reducible refine Off.new (by assumption) _ _ ?_; wtm_at "off32") | (with_reducible refine at_same (by with_reducible assumption) ?_; wtm_at "off32"))
local macro_rules | `(tactic| wtm_at "at33") => `(tactic| first | with_reducible assumption | with_reducible exact upd_same | (with_reducible refine at_new (by assumption) ?_; wtm_at "at32") | (with_reducible refine at_same (by with_reducible assumption) ?_; wtm_at "at32") | (with_reducible apply Off.at; wtm_at "off33"))
local macro_rules | `(tactic| wtm_at "off34") => `(tactic| first | with_reducible assumption | (with_reducible apply Off.mk; wtm_at "pen"; assumption) | (with_reducible refine Off.new (by assumption) _ _ ?_; wtm_at "off33") | (with_reducible refine at_same (by with_reducible assumption) ?_; wtm_at "off33"))
local macro_rules | `(tactic| wtm_at "at34") => `(tactic| first | with_reducible assumption | with_reducible exact upd_same | (with_reducible refine at_new (by assumption) ?_; wtm_at "at33") | (with_reducible refine at_same (by with_reducible assumption) ?_; wtm_at "at33") | (with_reducible apply Off.at; wtm_at "off34"))
local macro_rules | `(tactic| wtm_at "off35") => `(tactic| first | with_reducible assumption | (with_reducible apply Off.mk; wtm_at "pen"; assumption) | (with_reducible refine Off.new (by assumption) _ _ ?_; wtm_at "off34") | (with_reducible refine at_same (by with_reducible assumption) ?_; wtm_at "off34"))
local macro_rules | `(tactic| wtm_at "at35") => `(tactic| first | with_reducible assumption | with_reducible exact upd_same | (with_reducible refine at_new (by assumption) ?_; wtm_at "at34") | (with_reducible refine at_same (by with_reducible assumption) ?_; wtm_at "at34") | (with_reducible apply Off.at; wtm_at "off35"))
local macro_rules | `(tactic| wtm_at "off36") => `(tactic| first | with_reducible assumption | (with_reducible apply Off.mk; wtm_at "pen"; assumption) | (with_reducible refine Off.new (by assumption) _ _ ?_; wtm_at "off35") | (with_reducible refine at_same (by with_reducible assumption) ?_; wtm_at "off35"))
local macro_rules | `(tactic| wtm_at "at36") => `(tactic| first | with_reducible assumption | with_reducible exact upd_same | (with_reducible refine at_new (by assumption) ?_; wtm_at "at35") | (with_reducible refine at_same (by with_reducible assumption) ?_; wtm_at "at35") | (with_reducible apply Off.at; wtm_at "off36"))
local macro_rules | `(tactic| wtm_at "off37") => `(tactic| first | with_reducible assumption | (with_reducible apply Off.mk; wtm_at "pen"; assumption) | (with_reducible refine Off.new (by assumption) _ _ ?_; wtm_at "off36") | (with_reducible refine at_same (by with_reducible assumption) ?_; wtm_at "off36"))
local macro_rules | `(tactic| wtm_at "at37") => `(tactic| first | with_reducible assumption | with_reducible exact upd_same | (with_reducible refine at_new (by assumption) ?_; wtm_at "at36") | (with_reducible refine at_same (by with_reducible assumption) ?_; wtm_at "at36") | (with_reducible apply Off.at; wtm_at "off37"))
local macro_rules | `(tactic| wtm_at "off38") => `(tactic| first | with_reducible assumption | (with_reducible apply Off.mk; wtm_at "pen"; assumption) | (with_reducible refine Off.new (by assumption) _ _ ?_; wtm_at "off37") | (with_reducible refine at_same (by with_reducible assumption) ?_; wtm_at "off37"))
local macro_rules | `(tactic| wtm_at "at38") => `(tactic| first | with_reducible assumption | with_reducible exact upd_same | (with_reducible refine at_new (by assumption) ?_; wtm_at "at37") | (with_reducible refine at_same (by with_reducible assumption) ?_; wtm_at "at37") | (with_reducible apply Off.at; wtm_at "off38"))
local macro_rules | `(tactic| wtm_at "off39") => `(tactic| first | with_reducible assumption | (with_reducible apply Off.mk; wtm_at "pen"; assumption) | (with_reducible refine Off.new (by assumption) _ _ ?_; wtm_at "off38") | (with_reducible refine at_same (by with_reducible assumption) ?_; wtm_at "off38"))
local macro_rules | `(tactic| wtm_at "at39") => `(tactic| first | with_reducible assumption | with_reducible exact upd_same | (with_reducible refine at_new (by assumption) ?_; wtm_at "at38") | (with_reducible refine at_same (by with_reducible assumption) ?_; wtm_at "at38") | (with_reducible apply Off.at; wtm_at "off39"))
local macro_rules | `(tactic| wtm_at "at") => `(tactic| wtm_at "at39")
local macro_rules | `(tactic| wtm_at "off") => `(tactic| wtm_at "off39")
local macro_rules | `(tactic| wtm_at "pen") => `(tactic| first
  | assumption | (refine Pen.new (by assumption) ?_; wtm_at "pen") | (refine Pen.same (by assumption) ?_; wtm_at "pen"))
local macro_rules | `(tactic| wtm_at "same") => `(tactic| first
  | exact fun _ _ h => h | assumption | exact same_new (by assumption) | (refine same_trans ?_ (same_new (by assumption)); wtm_at "same") | (refine same_trans ?_ (by assumption); wtm_at "same")
  | (refine same_trans ?_ (Off.new (by assumption)); wtm_at "same") | (refine same_trans ?_ (Off.same (by assumption)); wtm_at "same"))
local macro_rules | `(tactic| wtm_at "dps") => `(tactic| first
  | exact .nil | (apply DpAll.cons; wtm_at "dp"; wtm_at "dps") | exact dpAll_ints _)
local macro_rules | `(tactic| wtm_at "dp") => `(tactic| first
  | exact .non | exact .bl _ | exact .int _ | exact .str _ | (fail) | (apply Dp.lst; (apply SqL.of; wtm_at "at"); wtm_at "dps") | (apply Dp.tup; (apply SqT.of; wtm_at "at"); wtm_at "dps"))
local macro_rules | `(tactic| wtm_at "side") => `(tactic| first
  | exact ⟨by decide, by decide⟩ | exact ⟨by decide, by decide, by decide⟩ | exact .inl ⟨by decide, by decide⟩ | exact .inr ⟨by decide, by decide⟩ | (show ¬ _ = _; decide))
local macro_rules | `(tactic| wtm_at "sml") => `(tactic| first
  | exact sml_none (by decide) | exact sml_bool (by decide) | exact sml_int (by decide) (by omega) | (fail) | exact sml_list (n := 19) (k := 0) (by wtm_at "smls") (by decide) (by decide))
local macro_rules | `(tactic| wtm_at "smls") => `(tactic| first | exact smlAll_nil (m := 0) | (apply smlAll_cons; wtm_at "sml"; wtm_at "smls"))
local macro_rules | `(tactic| wtm_at "shw") => `(tactic| exact Sml.shw (n := 10000) (k := 50) (by wtm_at "sml") (by decide) (by decide))
local macro_rules | `(tactic| wtm_at "rd") => `(tactic| first
  | refine ⟨_, rfl, ?_⟩ | refine ⟨_, _, rfl, rfl, ?_⟩ | refine ifT rfl ?_ | refine ifF rfl ?_ | refine ⟨rfl, ?_⟩
  | refine ⟨_, _, by rfl, by wtm_at "dp", by wtm_at "shw", ?_⟩
  | refine ⟨_, _, _, _, _, rfl, by wtm_at "at", by wtm_at "cls", by wtm_at "na", by rfl, ?_⟩
  | refine ⟨_, _, rfl, .inr (SqT.of (by wtm_at "at")), ?_⟩ | refine ⟨_, _, rfl, .inl (SqL.of (by wtm_at "at")), ?_⟩
  | refine ⟨_, _, rfl, .inr (SqT.of (by wtm_at "at")), by rfl, by rfl, ?_⟩ | refine ⟨_, _, rfl, .inl (SqL.of (by wtm_at "at")), by rfl, by rfl, ?_⟩
  | refine ⟨_, _, _, _, rfl, rfl, SqT.of (by wtm_at "at"), by rfl, ?_⟩ | refine ⟨_, _, _, _, rfl, rfl, SqL.of (by wtm_at "at"), by rfl, ?_⟩
  | refine ⟨_, _, rfl, rfl, by wtm_at "side", ?_⟩
  | refine ⟨_, _, by wtm_at "dp", by wtm_at "dp", by first | rfl | decide +kernel, by first | rfl | decide +kernel, ?_⟩
  | refine ⟨_, _, [_, _], [_, _], rfl, rfl, sqI2 (by wtm_at "at"), sqI2 (by wtm_at "at"), ?_⟩
  | refine ⟨_, _, rfl, ?_⟩
  | refine ⟨Nat.le_of_ble_eq_true rfl, fun _ _ => ?_⟩
  | refine ifF (by decide +kernel) ?_ | refine ifF (nd_refl _) ?_ | refine ifT (de_refl _) ?_)
local macro_rules | `(tactic| wtm_at "cls") => `(tactic| first | exact cls_Agent _)
local macro_rules | `(tactic| wtm_at "na") => `(tactic| first | exact na_Agent_name _ | exact na_Agent_steps _ | exact na_Agent_shape _)

theorem ktN (w : World) : PySem.W.kitOne (hd04.heap_39 w.params) (.ref 46) (.ref 46) = some true := by kernel_rfl
theorem ktV (w : World) : PySem.W.kitOne (hd04.heap_39 w.params) (.ref 46) (.type "ValueError") = some true := by kernel_rfl
theorem ktA (w : World) : PySem.W.kitAny (hd04.heap_39 w.params) (.ref 46) (([67, 88, 109, 130, 151, 172] : List Addr).map Value.ref) = some false := by kernel_rfl
def spRefusal : Sp := fun vs H Q _ => ∃ (e d : Addr) (r : Str × Option Nat), vs = [.ref e, .str r.1, plV r.2] ∧ H e = some (exv e (.ref 46) (some d)) ∧ H d = some (.xd (refFs r)) ∧ ∀ H', Same H H' → Q (.bl true) H'
def spAMade (K : PySem.W.Frag) (C : Addr) : Sp := fun vs H Q E => ∃ (v1 : V) (l : Addr) (xs : List V), vs = [.ref C, v1, .ref l] ∧ (SqT K H l xs ∨ SqL K H l xs) ∧ spMkAg K C (v1 :: xs) H Q E
def spWith (K : PySem.W.Frag) (C : Addr) : Sp := fun vs H Q E => ∃ (a dx p q pp : Addr) (v1 : V) (xs : List V), vs = [.ref a, .ref pp] ∧ H a = some (agentO C dx p q v1) ∧ H pp = some (.tup xs) ∧ spMkAg K C (v1 :: xs) H Q E
def clsOf (k : Int) : Addr := if k = 0 then 288 else if k = 1 then 328 else 366
theorem clsOf_ag (k : Int) : isAg (clsOf k) := by
  unfold clsOf
  by_cases h : k = 0
  · rw [if_pos h]; exact .inl rfl
  · rw [if_neg h]
    by_cases h : k = 1
    · rw [if_pos h]; exact .inr (.inl rfl)
    · rw [if_neg h]; exact .inr (.inr rfl)
def spIsStep (K : PySem.W.Frag) : Sp := fun vs H Q _ => ∃ (v : V) (d : PyData) (k : Int), vs = [v, .int k] ∧ Dq K H v d ∧ partsSmall d ∧ 0 ≤ k ∧ k < 3 ∧ ∀ H', Same H H' → Q (.bl (goodD (clsOf k) d)) H'
theorem wordD_sub {A B : List Str} (h : ∀ x ∈ A, x ∈ B) {d : PyData} (e : wordD A d = true) : wordD B d = true := by
  cases d with
  | str x => exact decide_eq_true (h x (of_decide_eq_true (p := x ∈ A) e))
  | _ => exact absurd e (by simp [wordD])
theorem mayWs_cases (k : Int) (hk : k = 0 ∨ k ≠ 0) : mayWs (clsOf k) = if k = 0 then wordsA else wordsA ++ wordsB := by
  unfold clsOf mayWs
  by_cases h : k = 0
  · rw [if_pos h, if_pos rfl, if_pos h]
  · rw [if_neg h, if_neg h]
    by_cases h : k = 1
    · rw [if_pos h, if_neg (by decide)]
    · rw [if_neg h, if_neg (by decide)]
theorem good_two {k : Int} {w n : PyData} (hn : nameD n = true) : goodD (clsOf k) (.tuple [w, n]) = wordD ["post", "wait"] w := by
  have e : stepD (.tuple [w, n]) = wordD ["post", "wait"] w := by show (nameD n && _) = _; rw [hn, Bool.true_and]
  unfold goodD
  rw [e]
  show (_ && wordD (mayWs (clsOf k)) w) = _
  cases h : wordD ["post", "wait"] w with
  | false => rfl
  | true =>
    rw [Bool.true_and, mayWs_cases k (Decidable.em _)]
    refine wordD_sub (A := ["post", "wait"]) (fun x hx => ?_) h
    have : x ∈ wordsA := List.mem_append_right _ hx
    by_cases hk : k = 0
    · rw [if_pos hk]; exact this
    · rw [if_neg hk]; exact List.mem_append_left _ this
abbrev wordsF : List Str := ["read", "write", "get", "put", "clean", "drop", "flush"]
theorem good_five {k : Int} {w n s f l : PyData} (hn : nameD n = true) : goodD (clsOf k) (.tuple [w, n, s, f, l]) = (wordD wordsF w && ((decide (k ≠ 0) || wordD ["read", "write"] w) && (within s 0 3 && (within f 0 7 && within l (intV f) 7)))) := by
  have e : stepD (.tuple [w, n, s, f, l]) = (wordD wordsF w && (within s 0 3 && (within f 0 7 && within l (intV f) 7))) := by
    show (nameD n && (wordD (wAcc ++ wUp) w && _)) = _
    rw [hn, Bool.true_and] <;> rfl
  unfold goodD
  rw [e]
  show (_ && wordD (mayWs (clsOf k)) w) = _
  generalize (within s 0 3 && (within f 0 7 && within l (intV f) 7)) = z
  rw [mayWs_cases k (Decidable.em _)]
  cases h : wordD wordsF w with
  | false => rfl
  | true =>
    by_cases hk : k = 0
    · rw [if_pos hk, decide_eq_false (p := k ≠ 0) (fun h => h hk), Bool.false_or, Bool.true_and, Bool.true_and, Bool.and_comm]
      have : wordD wordsA w = wordD ["read", "write"] w := by
        rw [show wordsA = (["read", "write"] : List Str) ++ (["post", "wait"] : List Str) from rfl, wordD_app]
        cases h2 : wordD ["post", "wait"] w with
        | false => rw [Bool.or_false]
        | true =>
          cases w with
          | str x =>
            have h2 := of_decide_eq_true (p := x ∈ (["post", "wait"] : List Str)) h2
            have h := of_decide_eq_true (p := x ∈ wordsF) h
            simp only [List.mem_cons, List.not_mem_nil, or_false] at h2
            rcases h2 with rfl | rfl <;> exact absurd h (by decide)
          | _ => exact absurd h2 (by simp [wordD])
      rw [this]
    · rw [if_neg hk, decide_eq_true (p := k ≠ 0) hk, Bool.true_or, Bool.true_and, Bool.true_and]
      have : wordD (wordsA ++ wordsB) w = true := wordD_sub (A := wordsF) (by decide) h
      rw [this, Bool.and_true]
theorem good_not {C : Addr} {d : PyData} (h : stepD d = false) : goodD C d = false := by unfold goodD; rw [h] <;> rfl
theorem inVF (x : Str) (ws : List Str) : inV (.str x) (ws.map V.str) = wordD ws (.str x) := inV_strs x ws
section
variable {mg : PySem.Str → Option Value} {base : Heap} {w : World}
theorem bd_Agent_made (M : Mod (hd04.heap_39 w.params) mg base) (cdv : Value) (A : Around) (outer : List Env) (s : Shared) (H : Hp) (vs : List V) (Q : VK) (E : XK) (hr : Room 9 (A.deeper (envOfC "Agent.made" (defScope s_Agent_made) s.heap.objs.size 240 cdv))) (hg : A.guards = some []) (h : spAMade (hd04.heap_39 w.params) 288 vs H Q E) :
    ∃ t, PSs (cxOf (L2.CX PP w) PP w (hd04.heap_39 w.params) mg base ["cls", "name", "steps"] "Agent.made" (defScope s_Agent_made) 240 cdv A outer s H E) (defBody s_Agent_made) t ∧ t { nx := fun _ H' => Q .non H', rt := Q } (start ["cls", "name", "steps"] vs) H := by
  have nd := sc_Agent_made.nd
  obtain ⟨v1, l, xs, rfl, hx, q⟩ := h
  refine ⟨_, (pss_one (ps_ret (pe_mkLS (takes_of rfl rfl rfl rfl) (i := 0) (dom := fun C => C = 288) (fun C h => by subst h; exact mk_Agent w) (ok_Agent___init__ M) (hr.mono (by decide)) hg rfl (.inl rfl) (pa_cons (pv 1) (pa_star (pv 2) pa_nil))))), ?_⟩
  refine ⟨288, rfl, rfl, _, rfl, _, rfl, l, xs, rfl, hx, ?_⟩
  show spMk 288 (spAStar (hd04.heap_39 w.params)) (v1 :: (xs ++ [])) H Q E
  rw [List.append_nil]
  exact mkAg q
def g1 : {α : Type} → List α → List α → List α
  | _, [c], [n, s] => [c, n, s]
  | _, _, _ => []
theorem okk_Agent_made (M : Mod (hd04.heap_39 w.params) mg base) : CallG PP w (hd04.heap_39 w.params) mg base 10 (.ref 240) (kwp 1 ["name", "steps"] g1 (spAMade (hd04.heap_39 w.params) 288)) := by
  obtain ⟨fd, F⟩ := fn_Agent_made w
  refine def_posK (gv := g1) F sc_Agent_made (fun vs us zs ws h1 h2 r1 r2 => ?_) (fun vs zs h1 h2 => ?_) (fun _ _ _ _ _ _ us ws h1 h2 => match us, ws, h1, h2 with | [_], [_, _], _, _ => rfl) (fun cdv A outer s H vs Q E hr hg h => bd_Agent_made M cdv A outer s H vs Q E hr hg h)
  · match vs, zs, h1, h2, us, ws, r1, r2 with
    | [_], [_, _], _, _, [_], [_, _], .cons c .nil, .cons a (.cons b .nil) => exact .cons c (.cons a (.cons b .nil))
  · match vs, zs, h1, h2 with
    | [_], [_, _], _, _ => rfl
theorem bd_Through_made (M : Mod (hd04.heap_39 w.params) mg base) (cdv : Value) (A : Around) (outer : List Env) (s : Shared) (H : Hp) (vs : List V) (Q : VK) (E : XK) (hr : Room 9 (A.deeper (envOfC "Through.made" (defScope s_Through_made) s.heap.objs.size 307 cdv))) (hg : A.guards = some []) (h : spAMade (hd04.heap_39 w.params) 328 vs H Q E) :
    ∃ t, PSs (cxOf (L2.CX PP w) PP w (hd04.heap_39 w.params) mg base ["cls", "name", "steps"] "Through.made" (defScope s_Through_made) 307 cdv A outer s H E) (defBody s_Through_made) t ∧ t { nx := fun _ H' => Q .non H', rt := Q } (start ["cls", "name", "steps"] vs) H := by
  have nd := sc_Through_made.nd
  obtain ⟨v1, l, xs, rfl, hx, q⟩ := h
  refine ⟨_, (pss_one (ps_ret (pe_mkLS (takes_of rfl rfl rfl rfl) (i := 0) (dom := fun C => C = 328) (fun C h => by subst h; exact mk_Through w) (ok_Agent___init__ M) (hr.mono (by decide)) hg rfl (.inl rfl) (pa_cons (pv 1) (pa_star (pv 2) pa_nil))))), ?_⟩
  refine ⟨328, rfl, rfl, _, rfl, _, rfl, l, xs, rfl, hx, ?_⟩
  show spMk 328 (spAStar (hd04.heap_39 w.params)) (v1 :: (xs ++ [])) H Q E
  rw [List.append_nil]
  exact mkAg q
def g2 : {α : Type} → List α → List α → List α
  | _, [c], [s, n] => [c, n, s]
  | _, _, _ => []
theorem okk_Through_made (M : Mod (hd04.heap_39 w.params) mg base) : CallG PP w (hd04.heap_39 w.params) mg base 10 (.ref 307) (kwp 1 ["steps", "name"] g2 (spAMade (hd04.heap_39 w.params) 328)) := by
  obtain ⟨fd, F⟩ := fn_Through_made w
  refine def_posK (gv := g2) F sc_Through_made (fun vs us zs ws h1 h2 r1 r2 => ?_) (fun vs zs h1 h2 => ?_) (fun _ _ _ _ _ _ us ws h1 h2 => match us, ws, h1, h2 with | [_], [_, _], _, _ => rfl) (fun cdv A outer s H vs Q E hr hg h => bd_Through_made M cdv A outer s H vs Q E hr hg h)
  · match vs, zs, h1, h2, us, ws, r1, r2 with
    | [_], [_, _], _, _, [_], [_, _], .cons c .nil, .cons a (.cons b .nil) => exact .cons c (.cons b (.cons a .nil))
  · match vs, zs, h1, h2 with
    | [_], [_, _], _, _ => rfl
theorem bd_Back_made (M : Mod (hd04.heap_39 w.params) mg base) (cdv : Value) (A : Around) (outer : List Env) (s : Shared) (H : Hp) (vs : List V) (Q : VK) (E : XK) (hr : Room 9 (A.deeper (envOfC "Back.made" (defScope s_Back_made) s.heap.objs.size 345 cdv))) (hg : A.guards = some []) (h : spAMade (hd04.heap_39 w.params) 366 vs H Q E) :
    ∃ t, PSs (cxOf (L2.CX PP w) PP w (hd04.heap_39 w.params) mg base ["cls", "name", "steps"] "Back.made" (defScope s_Back_made) 345 cdv A outer s H E) (defBody s_Back_made) t ∧ t { nx := fun _ H' => Q .non H', rt := Q } (start ["cls", "name", "steps"] vs) H := by
  have nd := sc_Back_made.nd
  obtain ⟨v1, l, xs, rfl, hx, q⟩ := h
  refine ⟨_, (pss_one (ps_ret (pe_mkLS (takes_of rfl rfl rfl rfl) (i := 0) (dom := fun C => C = 366) (fun C h => by subst h; exact mk_Back w) (ok_Agent___init__ M) (hr.mono (by decide)) hg rfl (.inl rfl) (pa_cons (pv 1) (pa_star (pv 2) pa_nil))))), ?_⟩
  refine ⟨366, rfl, rfl, _, rfl, _, rfl, l, xs, rfl, hx, ?_⟩
  show spMk 366 (spAStar (hd04.heap_39 w.params)) (v1 :: (xs ++ [])) H Q E
  rw [List.append_nil]
  exact mkAg q
theorem okk_Back_made (M : Mod (hd04.heap_39 w.params) mg base) : CallG PP w (hd04.heap_39 w.params) mg base 10 (.ref 345) (kwp 1 ["name", "steps"] g1 (spAMade (hd04.heap_39 w.params) 366)) := by
  obtain ⟨fd, F⟩ := fn_Back_made w
  refine def_posK (gv := g1) F sc_Back_made (fun vs us zs ws h1 h2 r1 r2 => ?_) (fun vs zs h1 h2 => ?_) (fun _ _ _ _ _ _ us ws h1 h2 => match us, ws, h1, h2 with | [_], [_, _], _, _ => rfl) (fun cdv A outer s H vs Q E hr hg h => bd_Back_made M cdv A outer s H vs Q E hr hg h)
  · match vs, zs, h1, h2, us, ws, r1, r2 with
    | [_], [_, _], _, _, [_], [_, _], .cons c .nil, .cons a (.cons b .nil) => exact .cons c (.cons a (.cons b .nil))
  · match vs, zs, h1, h2 with
    | [_], [_, _], _, _ => rfl
theorem ok__law_refusal (M : Mod (hd04.heap_39 w.params) mg base) : CallG PP w (hd04.heap_39 w.params) mg base 2 (.ref 408) (pos spRefusal) := by
  obtain ⟨fd, F⟩ := fn__law_refusal w
  refine def_pos F sc__law_refusal (fun vs H Q E h => ?_) (fun _ _ _ _ _ _ us hl => match us, hl with | [_, _, _], _ => rfl) (fun cdv A outer s H vs Q E hr hg h => ?_)
  · obtain ⟨e, d, r, rfl, _⟩ := h; rfl
  have nd := sc__law_refusal.nd
  obtain ⟨e, d, r, rfl, he, hd, q⟩ := h
  have xd : ∀ dd, some d = some dd → ∃ fs, H dd = some (.xd fs) := fun dd z => by cases z; exact ⟨_, hd⟩
  refine ⟨_, (pss_cons (ps_if (PW.pt (pw_or (pt_not (pt_val (pe_callB call_isX (by rfl) (mn_isinstance M) (by decide +kernel) (pa_cons (pv 0) (pa_cons (pe_glob (v := .ref 46) rfl (mg_NoPart M) rfl) pa_nil))))) (pw_or1 (pt_not (pt_val (pe_callB call_isX (by rfl) (mn_isinstance M) (by decide +kernel) (pa_cons (pv 0) (pa_cons (pe_bltn (v := .ty "ValueError") (by rfl) (mn_ValueError M) (by decide +kernel) rfl) pa_nil)))))))) (pss_one (ps_ret pe_bl)) pss_nil)
      (pss_cons (ps_if (pt_val (pe_callB call_isXt (by rfl) (mn_isinstance M) (by decide +kernel) (pa_cons (pv 0) (pa_cons (pe_tup (pa_cons (pe_glob (v := .ref 67) rfl (mg_NoNet M) rfl) (pa_cons (pe_glob (v := .ref 88) rfl (mg_NoName M) rfl) (pa_cons (pe_glob (v := .ref 109) rfl (mg_NoStep M) rfl) (pa_cons (pe_glob (v := .ref 130) rfl (mg_NoDeed M) rfl) (pa_cons (pe_glob (v := .ref 151) rfl (mg_NoText M) rfl) (pa_cons (pe_glob (v := .ref 172) rfl (mg_NoRow M) rfl) pa_nil))))))) pa_nil)))) (pss_one (ps_ret pe_bl)) pss_nil)
      (pss_one (ps_ret (pe_and (pe_cmpR op_eq (pe_xfld (pv 0)) (pv 1) (nomark _)) (pe_and (pe_cmpR op_eq (pe_xfld (pv 0)) (pv 2) (nomark _)) (pe_one (pe_cmpR op_is_bl (pe_callB call_isi (by rfl) (mn_isinstance M) (by decide +kernel) (pa_cons (pe_xfld (pv 0)) (pa_cons (pe_bltn (v := .ty "bool") (by rfl) (mn_bool M) (by decide +kernel) rfl) pa_nil))) pe_bl (nomark _))))))))), ?_⟩
  refine ⟨_, rfl, e, 46, some d, _, .ref 46, true, rfl, he, xd, exc_NoPart w, (fun _ r => r), ktN w, _, rfl, ifF rfl ?_⟩
  refine ⟨_, rfl, e, 46, some d, _, .type "ValueError", true, rfl, he, xd, exc_NoPart w, (fun _ r => r), ktV w, _, rfl, ifF rfl ?_⟩
  refine ⟨_, rfl, Nat.le_of_ble_eq_true rfl, fun z hz => ⟨e, 46, z, some d, [67, 88, 109, 130, 151, 172], false, rfl, at_new hz he, (fun dd y => by cases y; exact ⟨_, at_new hz hd⟩), exc_NoPart w, upd_same, ktA w, _, rfl, ifF rfl ?_⟩⟩
  have he := at_new (o := .tup ([67, 88, 109, 130, 151, 172].map V.ref)) hz he
  have hd := at_new (o := .tup ([67, 88, 109, 130, 151, 172].map V.ref)) hz hd
  obtain ⟨sr, k⟩ := r
  refine ⟨_, rfl, e, 46, d, _, _, rfl, he, hd, xf_NoPart w, nf_NoPart_reason w, rfl, ?_⟩
  have fin : Q (.bl true) (upd H z (.tup ([67, 88, 109, 130, 151, 172].map V.ref))) := q _ (same_new hz)
  refine ⟨_, rfl, rfl, _, rfl, ifT (de_refl _) ?_⟩
  cases k with
  | none =>
    refine ⟨_, rfl, e, 46, d, _, _, rfl, he, hd, xf_NoPart w, nf_NoPart_place w, rfl, ?_⟩
    refine ⟨_, rfl, rfl, _, rfl, ifT (de_refl _) ?_⟩
    refine ⟨_, rfl, e, 46, d, _, _, rfl, he, hd, xf_NoPart w, nf_NoPart_place w, rfl, ?_⟩
    exact ⟨_, _, _, _, _, rfl, .ty "bool", .base .non, kit_ty (r := false) (by decide +kernel), _, _, rfl, rfl, fin⟩
  | some k =>
    refine ⟨_, rfl, e, 46, d, _, _, rfl, he, hd, xf_NoPart w, nf_NoPart_place w, rfl, ?_⟩
    refine ⟨_, rfl, rfl, _, rfl, ifT (de_refl _) ?_⟩
    refine ⟨_, rfl, e, 46, d, _, _, rfl, he, hd, xf_NoPart w, nf_NoPart_place w, rfl, ?_⟩
    exact ⟨_, _, _, _, _, rfl, .ty "bool", .base (.int _), kit_ty (r := false) (by decide +kernel), _, _, rfl, rfl, fin⟩
theorem ok__law_is_step (M : Mod (hd04.heap_39 w.params) mg base) : CallG PP w (hd04.heap_39 w.params) mg base 2 (.ref 429) (pos (spIsStep (hd04.heap_39 w.params))) := by
  obtain ⟨fd, F⟩ := fn__law_is_step w
  refine def_pos F sc__law_is_step (fun vs H Q E h => ?_) (fun _ _ _ _ _ _ us hl => match us, hl with | [_, _], _ => rfl) (fun cdv A outer s H vs Q E hr hg h => ?_)
  · obtain ⟨v, d, k, rfl, _⟩ := h; rfl
  have nd := sc__law_is_step.nd
  obtain ⟨v, d, k, rfl, hd, hs, hk0, hk3, q⟩ := h
  refine ⟨_, (pss_cons (ps_if (PW.pt (pw_or (pt_not (pt_val (pe_callB call_isi (by rfl) (mn_isinstance M) (by decide +kernel) (pa_cons (pv 0) (pa_cons (pe_bltn (v := .ty "tuple") (by rfl) (mn_tuple M) (by decide +kernel) rfl) pa_nil))))) (pw_or (pt_cmpR op_notIn_seq (pe_callB call_len_seq (by rfl) (mn_len M) (by decide +kernel) (pa_cons (pv 0) pa_nil)) (pe_tup (pa_cons pe_int (pa_cons pe_int pa_nil))) (by rfl)) (pw_or1 (pt_not (pt_val (pe_callB call_isi (by rfl) (mn_isinstance M) (by decide +kernel) (pa_cons (pe_ix ix_tup (pv 0) pe_int (fun _ _ => rfl)) (pa_cons (pe_bltn (v := .ty "str") (by rfl) (mn_str M) (by decide +kernel) rfl) pa_nil))))))))) (pss_one (ps_ret pe_bl)) pss_nil)
      (pss_cons (ps_if (pt_not (pt_val (pe_cl (takes_of rfl rfl rfl rfl) (ok__law_is_name M) (hr.mono (by decide)) hg rfl (mg__law_is_name M) (kp__law_is_name w) (pa_cons (pe_ix ix_tup (pv 0) pe_int (fun _ _ => rfl)) pa_nil)))) (pss_one (ps_ret pe_bl)) pss_nil)
      (pss_cons (ps_if (pt_cmpR op_eq (pe_callB call_len_seq (by rfl) (mn_len M) (by decide +kernel) (pa_cons (pv 0) pa_nil)) pe_int (nomark _)) (pss_one (ps_ret (pe_cmpR op_in_seq (pe_ix ix_tup (pv 0) pe_int (fun _ _ => rfl)) (pe_tup (pa_cons pe_str (pa_cons pe_str pa_nil))) (by rfl)))) pss_nil)
      (pss_cons (ps_if (pt_cmpR op_notIn_seq (pe_ix ix_tup (pv 0) pe_int (fun _ _ => rfl)) (pe_tup (pa_cons pe_str (pa_cons pe_str (pa_cons pe_str (pa_cons pe_str (pa_cons pe_str (pa_cons pe_str (pa_cons pe_str pa_nil)))))))) (by rfl)) (pss_one (ps_ret pe_bl)) pss_nil)
      (pss_cons (ps_if (PW.pt (pw_and (pt_cmpR op_eq (pv 1) pe_int (nomark _)) (pw_and1 (pt_cmpR op_notIn_seq (pe_ix ix_tup (pv 0) pe_int (fun _ _ => rfl)) (pe_tup (pa_cons pe_str (pa_cons pe_str pa_nil))) (by rfl))))) (pss_one (ps_ret pe_bl)) pss_nil)
      (pss_one (ps_ret (pe_and (pe_cl (takes_of rfl rfl rfl rfl) (ok__law_within M) (hr.mono (by decide)) hg rfl (mg__law_within M) (kp__law_within w) (pa_cons (pe_ix ix_tup (pv 0) pe_int (fun _ _ => rfl)) (pa_cons pe_int (pa_cons pe_int pa_nil)))) (pe_and (pe_cl (takes_of rfl rfl rfl rfl) (ok__law_within M) (hr.mono (by decide)) hg rfl (mg__law_within M) (kp__law_within w) (pa_cons (pe_ix ix_tup (pv 0) pe_int (fun _ _ => rfl)) (pa_cons pe_int (pa_cons pe_int pa_nil)))) (pe_one (pe_cl (takes_of rfl rfl rfl rfl) (ok__law_within M) (hr.mono (by decide)) hg rfl (mg__law_within M) (kp__law_within w) (pa_cons (pe_ix ix_tup (pv 0) pe_int (fun _ _ => rfl)) (pa_cons (pe_ix ix_tup (pv 0) pe_int (fun _ _ => rfl)) (pa_cons pe_int pa_nil)))))))))))))), ?_⟩
  refine ⟨_, rfl, _, _, _, _, _, rfl, .ty "tuple", dq_ty hd, kit_dTup d, _, rfl, ite_b (fun e => ?_) (fun e => ?_)⟩
  · refine ifT (b := true) rfl ?_
    have z := q H Same.rfl
    rw [good_not (stepD_of (by rw [← Bool.not_not (isD "tuple" d), e] <;> rfl))] at z
    exact z
  obtain ⟨a, xs, ds, rfl, rfl, hsq, hall⟩ := dq_tup hd (by rw [← Bool.not_not (isD "tuple" d), e] <;> rfl)
  have hlen := dqAll_len hall
  refine ⟨_, rfl, a, xs, rfl, .inr hsq, Nat.le_of_ble_eq_true rfl, fun z hz => ⟨z, _, rfl, .inr (SqT.of upd_same), rfl, rfl, _, rfl, ite_b (fun e2 => ?_) (fun e2 => ?_)⟩⟩
  · have e2 : (!inV (.int xs.length) [.int 2, .int 5]) = true := e2
    rw [in25] at e2
    have y := q _ (same_new (o := .tup [.int 2, .int 5]) hz)
    rw [good_not (stepD_len (fun h => by rw [hlen, h] at e2; cases e2) (fun h => by rw [hlen, h] at e2; cases e2))] at y
    refine ifT (b := true) rfl ?_
    exact y
  have e2 : (!inV (.int xs.length) [.int 2, .int 5]) = false := e2
  rw [in25] at e2
  have s0 := same_new (o := .tup [.int 2, .int 5]) hz
  have hsq0 := st_mono s0 hsq
  have hall0 := dqAll_mono s0 hall
  have h25 : ds.length = 2 ∨ ds.length = 5 := by
    by_cases h : ds.length = 2
    · exact .inl h
    · by_cases h' : ds.length = 5
      · exact .inr h'
      · rw [hlen, decide_eq_false h, decide_eq_false h'] at e2
        cases e2
  clear hd e2 hsq hall
  rcases h25 with h | h
  · obtain ⟨dw, dn, rfl⟩ := len2 h
    obtain ⟨vw, vn, rfl, hw, hn⟩ := all2 hall0
    refine ⟨_, rfl, a, _, 0, vw, rfl, rfl, hsq0, rfl, _, _, _, _, _, rfl, .ty "str", dq_ty hw, kit_dStr dw, _, rfl, ite_b (fun e => ?_) (fun e => ?_)⟩
    · have y := q _ s0
      have ew : wordD ["post", "wait"] dw = false := wordD_of (by rw [← Bool.not_not (isD "str" dw), e] <;> rfl)
      rw [good_not (by show (nameD dn && wordD ["post", "wait"] dw) = false; rw [ew, Bool.and_false])] at y
      exact y
    obtain ⟨x, rfl, rfl⟩ := dq_str hw (by rw [← Bool.not_not (isD "str" dw), e] <;> rfl)
    refine ⟨_, rfl, a, _, 1, vn, rfl, rfl, hsq0, rfl, rfl, vn, dn, rfl, hn, hs.2 dn (by simp), fun H1 s1 => ⟨_, rfl, ite_b (fun e1 => ?_) (fun e1 => ?_)⟩⟩
    · have e1 : nameD dn = false := by rw [← Bool.not_not (nameD dn), e1] <;> rfl
      have y := q H1 (same_trans s0 s1)
      rw [good_not (by show (nameD dn && _) = false; rw [e1, Bool.false_and])] at y
      exact y
    have e1 : nameD dn = true := by rw [← Bool.not_not (nameD dn), e1] <;> rfl
    have sq1 := st_mono s1 hsq0
    have s1o := s1
    have s1 := same_trans s0 s1
    refine ⟨_, rfl, a, _, rfl, .inr sq1, rfl, _, rfl, ifT rfl ?_⟩
    refine ⟨_, rfl, a, _, 0, _, rfl, rfl, sq1, rfl, Nat.le_of_ble_eq_true rfl, fun z2 hz2 => ?_⟩
    refine ⟨z2, _, rfl, .inr (SqT.of upd_same), rfl, rfl, ?_⟩
    have y := q _ (same_trans s1 (same_new (o := .tup [.str "post", .str "wait"]) hz2))
    rw [good_two e1, ← inVF] at y
    exact y
  · obtain ⟨dw, dn, dsh, df, dl, rfl⟩ := len5 h
    obtain ⟨vw, vn, vs, vf, vl, rfl, hw, hn, hsh, hf, hl⟩ := all5 hall0
    refine ⟨_, rfl, a, _, 0, vw, rfl, rfl, hsq0, rfl, _, _, _, _, _, rfl, .ty "str", dq_ty hw, kit_dStr dw, _, rfl, ite_b (fun e => ?_) (fun e => ?_)⟩
    · have y := q _ s0
      have ew : wordD (wAcc ++ wUp) dw = false := wordD_of (by rw [← Bool.not_not (isD "str" dw), e] <;> rfl)
      rw [good_not (by show (nameD dn && (wordD (wAcc ++ wUp) dw && _)) = false; rw [ew, Bool.false_and, Bool.and_false])] at y
      exact y
    obtain ⟨x, rfl, rfl⟩ := dq_str hw (by rw [← Bool.not_not (isD "str" dw), e] <;> rfl)
    refine ⟨_, rfl, a, _, 1, vn, rfl, rfl, hsq0, rfl, rfl, vn, dn, rfl, hn, hs.2 dn (by simp), fun H1 s1 => ⟨_, rfl, ite_b (fun e1 => ?_) (fun e1 => ?_)⟩⟩
    · have e1 : nameD dn = false := by rw [← Bool.not_not (nameD dn), e1] <;> rfl
      have y := q H1 (same_trans s0 s1)
      rw [good_not (by show (nameD dn && _) = false; rw [e1, Bool.false_and])] at y
      exact y
    have e1 : nameD dn = true := by rw [← Bool.not_not (nameD dn), e1] <;> rfl
    have sq1 := st_mono s1 hsq0
    have s1o := s1
    have s1 := same_trans s0 s1
    refine ⟨_, rfl, a, _, rfl, .inr sq1, rfl, _, rfl, ifF rfl ?_⟩
    refine ⟨_, rfl, a, _, 0, _, rfl, rfl, sq1, rfl, Nat.le_of_ble_eq_true rfl, fun z2 hz2 => ?_⟩
    have s2 := same_trans s1 (same_new (o := .tup (wordsF.map V.str)) hz2)
    have sq2 := st_mono (same_new (o := .tup (wordsF.map V.str)) hz2) sq1
    refine ⟨z2, _, rfl, .inr (SqT.of upd_same), rfl, rfl, _, rfl, ite_b (fun f => ?_) (fun f => ?_)⟩
    · have f : (!inV (.str x) (wordsF.map V.str)) = true := f
      rw [inVF] at f
      have y := q _ s2
      rw [good_five e1, show wordD wordsF (.str x) = false from by rw [← Bool.not_not (wordD wordsF (.str x)), f] <;> rfl, Bool.false_and] at y
      exact y
    have f : (!inV (.str x) (wordsF.map V.str)) = false := f
    rw [inVF] at f
    have f : wordD wordsF (.str x) = true := by rw [← Bool.not_not (wordD wordsF (.str x)), f] <;> rfl
    have q : ∀ H', Same H H' → Q (.bl ((decide (k ≠ 0) || wordD ["read", "write"] (.str x)) && (within dsh 0 3 && (within df 0 7 && within dl (intV df) 7)))) H' := fun H' s => by
      have y := q H' s
      rw [good_five e1, f, Bool.true_and] at y
      exact y
    have hk : k = 0 ∨ k = 1 ∨ k = 2 := by omega
    rcases hk with rfl | rfl | rfl
    · refine ⟨_, rfl, rfl, _, rfl, ifT rfl ?_⟩
      refine ⟨_, rfl, a, _, 0, _, rfl, rfl, sq2, rfl, Nat.le_of_ble_eq_true rfl, fun z3 hz3 => ?_⟩
      refine ⟨z3, _, rfl, .inr (SqT.of upd_same), rfl, rfl, _, rfl, ite_b (fun f4 => ?_) (fun f4 => ?_)⟩
      · have f4 : (!inV (.str x) (([("read" : Str), "write"]).map V.str)) = true := f4
        rw [inVF] at f4
        have y := q _ (same_trans s2 (same_new (o := .tup (([("read" : Str), "write"]).map V.str)) hz3))
        rw [show wordD ["read", "write"] (.str x) = false from by rw [← Bool.not_not (wordD ["read", "write"] (.str x)), f4] <;> rfl] at y
        exact y
      have f4 : (!inV (.str x) (([("read" : Str), "write"]).map V.str)) = false := f4
      rw [inVF] at f4
      have f4 : wordD ["read", "write"] (.str x) = true := by rw [← Bool.not_not (wordD ["read", "write"] (.str x)), f4] <;> rfl
      rw [f4] at q
      have s5 : Same (upd H z (.tup [.int 2, .int 5])) _ := same_trans s1o (same_trans (same_new hz2) (same_new (o := .tup (([("read" : Str), "write"]).map V.str)) hz3))
      have y := q _ (same_trans s0 s5)
      rw [(show (decide ((0 : Int) ≠ 0) || true) = true from rfl), Bool.true_and] at y
      have sq2 := st_mono s5 hsq0
      refine ⟨_, rfl, a, _, 2, vs, rfl, rfl, sq2, rfl, rfl, vs, dsh, 0, 3, rfl, dq_mono s5 hsh, _, rfl, ite_b (fun f2 => ?_) (fun f2 => ?_)⟩
      · rw [f2, Bool.true_and] at y
        refine ⟨_, rfl, a, _, 3, vf, rfl, rfl, sq2, rfl, rfl, vf, df, 0, 7, rfl, dq_mono s5 hf, _, rfl, ite_b (fun f3 => ?_) (fun f3 => ?_)⟩
        · obtain ⟨b, rfl, rfl⟩ := dq_int hf (by cases df <;> first | rfl | exact absurd f3 (by simp [within]))
          rw [f3, Bool.true_and] at y
          exact ⟨_, rfl, a, _, 4, vl, rfl, rfl, sq2, rfl, _, rfl, a, _, 3, .int b, rfl, rfl, sq2, rfl, rfl, vl, dl, b, 7, rfl, dq_mono s5 hl, y⟩
        · rw [f3, Bool.false_and] at y
          exact y
      · rw [f2, Bool.false_and] at y
        exact y
    · refine ⟨_, rfl, rfl, _, rfl, ifF rfl ?_⟩
      have s5 : Same (upd H z (.tup [.int 2, .int 5])) _ := same_trans s1o (same_new (o := .tup (wordsF.map V.str)) hz2)
      have y := q _ (same_trans s0 s5)
      rw [(show ∀ b, (decide ((1 : Int) ≠ 0) || b) = true from fun b => rfl), Bool.true_and] at y
      have sq2 := st_mono s5 hsq0
      refine ⟨_, rfl, a, _, 2, vs, rfl, rfl, sq2, rfl, rfl, vs, dsh, 0, 3, rfl, dq_mono s5 hsh, _, rfl, ite_b (fun f2 => ?_) (fun f2 => ?_)⟩
      · rw [f2, Bool.true_and] at y
        refine ⟨_, rfl, a, _, 3, vf, rfl, rfl, sq2, rfl, rfl, vf, df, 0, 7, rfl, dq_mono s5 hf, _, rfl, ite_b (fun f3 => ?_) (fun f3 => ?_)⟩
        · obtain ⟨b, rfl, rfl⟩ := dq_int hf (by cases df <;> first | rfl | exact absurd f3 (by simp [within]))
          rw [f3, Bool.true_and] at y
          exact ⟨_, rfl, a, _, 4, vl, rfl, rfl, sq2, rfl, _, rfl, a, _, 3, .int b, rfl, rfl, sq2, rfl, rfl, vl, dl, b, 7, rfl, dq_mono s5 hl, y⟩
        · rw [f3, Bool.false_and] at y
          exact y
      · rw [f2, Bool.false_and] at y
        exact y
    · refine ⟨_, rfl, rfl, _, rfl, ifF rfl ?_⟩
      have s5 : Same (upd H z (.tup [.int 2, .int 5])) _ := same_trans s1o (same_new (o := .tup (wordsF.map V.str)) hz2)
      have y := q _ (same_trans s0 s5)
      rw [(show ∀ b, (decide ((2 : Int) ≠ 0) || b) = true from fun b => rfl), Bool.true_and] at y
      have sq2 := st_mono s5 hsq0
      refine ⟨_, rfl, a, _, 2, vs, rfl, rfl, sq2, rfl, rfl, vs, dsh, 0, 3, rfl, dq_mono s5 hsh, _, rfl, ite_b (fun f2 => ?_) (fun f2 => ?_)⟩
      · rw [f2, Bool.true_and] at y
        refine ⟨_, rfl, a, _, 3, vf, rfl, rfl, sq2, rfl, rfl, vf, df, 0, 7, rfl, dq_mono s5 hf, _, rfl, ite_b (fun f3 => ?_) (fun f3 => ?_)⟩
        · obtain ⟨b, rfl, rfl⟩ := dq_int hf (by cases df <;> first | rfl | exact absurd f3 (by simp [within]))
          rw [f3, Bool.true_and] at y
          exact ⟨_, rfl, a, _, 4, vl, rfl, rfl, sq2, rfl, _, rfl, a, _, 3, .int b, rfl, rfl, sq2, rfl, rfl, vl, dl, b, 7, rfl, dq_mono s5 hl, y⟩
        · rw [f3, Bool.false_and] at y
          exact y
      · rw [f2, Bool.false_and] at y
        exact y
theorem ok_Agent_with_steps (M : Mod (hd04.heap_39 w.params) mg base) : CallG PP w (hd04.heap_39 w.params) mg base 10 (.ref 285) (pos fun vs H Q E => ∃ ws rest, vs = ws ++ rest ∧ ws.length = 1 ∧ rest.length ≤ sizeLine ∧ ∀ p, H p = none → spWith (hd04.heap_39 w.params) 288 (ws ++ [.ref p]) (upd H p (.tup rest)) Q E) := by
  obtain ⟨fd, F⟩ := fn_Agent_with_steps w
  refine def_star (ps := ["self"]) (pv := "steps") F sc_Agent_with_steps (fun _ _ _ _ _ _ => bind_star1 (B := fun l => bindArgs _ ⟨l, []⟩) (fun _ => rfl) (fun _ _ _ => rfl)) (fun cdv A outer s H vs Q E hr hg h => ?_)
  have nd := sc_Agent_with_steps.nd
  obtain ⟨b, dx, p, q, pp, v1, xs, rfl, ha, hpp, q⟩ := h
  refine ⟨_, (pss_one (ps_ret (pe_mkGS (takes_of rfl rfl rfl rfl) (mk_Agent w) (ok_Agent___init__ M) (hr.mono (by decide)) hg rfl (mg_Agent M) (pa_cons (pe_fld (pv 0) rfl) (pa_star (pv 1) pa_nil))))), ?_⟩
  refine ⟨_, rfl, b, 288, dx, _, v1, rfl, ha, cls_Agent w, na_Agent_name w, rfl, ?_⟩
  refine ⟨_, rfl, pp, xs, rfl, .inl (SqT.of hpp), rfl, ?_⟩
  show spMk 288 (spAStar (hd04.heap_39 w.params)) (v1 :: (xs ++ [])) H Q E
  rw [List.append_nil]
  exact mkAg q
theorem ok_Through_with_steps (M : Mod (hd04.heap_39 w.params) mg base) : CallG PP w (hd04.heap_39 w.params) mg base 10 (.ref 325) (pos fun vs H Q E => ∃ ws rest, vs = ws ++ rest ∧ ws.length = 1 ∧ rest.length ≤ sizeLine ∧ ∀ p, H p = none → spWith (hd04.heap_39 w.params) 328 (ws ++ [.ref p]) (upd H p (.tup rest)) Q E) := by
  obtain ⟨fd, F⟩ := fn_Through_with_steps w
  refine def_star (ps := ["self"]) (pv := "steps") F sc_Through_with_steps (fun _ _ _ _ _ _ => bind_star1 (B := fun l => bindArgs _ ⟨l, []⟩) (fun _ => rfl) (fun _ _ _ => rfl)) (fun cdv A outer s H vs Q E hr hg h => ?_)
  have nd := sc_Through_with_steps.nd
  obtain ⟨b, dx, p, q, pp, v1, xs, rfl, ha, hpp, q⟩ := h
  refine ⟨_, (pss_one (ps_ret (pe_mkGS (takes_of rfl rfl rfl rfl) (mk_Through w) (ok_Agent___init__ M) (hr.mono (by decide)) hg rfl (mg_Through M) (pa_cons (pe_fld (pv 0) rfl) (pa_star (pv 1) pa_nil))))), ?_⟩
  refine ⟨_, rfl, b, 328, dx, _, v1, rfl, ha, cls_Through w, na_Through_name w, rfl, ?_⟩
  refine ⟨_, rfl, pp, xs, rfl, .inl (SqT.of hpp), rfl, ?_⟩
  show spMk 328 (spAStar (hd04.heap_39 w.params)) (v1 :: (xs ++ [])) H Q E
  rw [List.append_nil]
  exact mkAg q
theorem ok_Back_with_steps (M : Mod (hd04.heap_39 w.params) mg base) : CallG PP w (hd04.heap_39 w.params) mg base 10 (.ref 363) (pos fun vs H Q E => ∃ ws rest, vs = ws ++ rest ∧ ws.length = 1 ∧ rest.length ≤ sizeLine ∧ ∀ p, H p = none → spWith (hd04.heap_39 w.params) 366 (ws ++ [.ref p]) (upd H p (.tup rest)) Q E) := by
  obtain ⟨fd, F⟩ := fn_Back_with_steps w
  refine def_star (ps := ["self"]) (pv := "steps") F sc_Back_with_steps (fun _ _ _ _ _ _ => bind_star1 (B := fun l => bindArgs _ ⟨l, []⟩) (fun _ => rfl) (fun _ _ _ => rfl)) (fun cdv A outer s H vs Q E hr hg h => ?_)
  have nd := sc_Back_with_steps.nd
  obtain ⟨b, dx, p, q, pp, v1, xs, rfl, ha, hpp, q⟩ := h
  refine ⟨_, (pss_one (ps_ret (pe_mkGS (takes_of rfl rfl rfl rfl) (mk_Back w) (ok_Agent___init__ M) (hr.mono (by decide)) hg rfl (mg_Back M) (pa_cons (pe_fld (pv 0) rfl) (pa_star (pv 1) pa_nil))))), ?_⟩
  refine ⟨_, rfl, b, 366, dx, _, v1, rfl, ha, cls_Back w, na_Back_name w, rfl, ?_⟩
  refine ⟨_, rfl, pp, xs, rfl, .inl (SqT.of hpp), rfl, ?_⟩
  show spMk 366 (spAStar (hd04.heap_39 w.params)) (v1 :: (xs ++ [])) H Q E
  rw [List.append_nil]
  exact mkAg q
end
end M04

namespace M04
open PySem PySem.Spec PyProof.Rows L2 StX Uk

local macro_rules | `(tactic| wtm_at "off0") => `(tactic| first | with_reducible assumption | (with_reducible apply Off.mk; wtm_at "pen"; assumption))
local macro_rules | `(tactic| wtm_at "at0") => `(tactic| first | with_reducible assumption | with_reducible exact upd_same | (with_reducible apply Off.at; wtm_at "off0"))
local macro_rules | `(tactic| wtm_at "off1") => `(tactic| first | with_reducible assumption | (with_reducible apply Off.mk; wtm_at "pen"; assumption) | (with_reducible refine Off.new (by assumption) _ _ ?_; wtm_at "off0") | (with_reducible refine at_same (by with_reducible assumption) ?_; wtm_at "off0"))
local macro_rules | `(tactic| wtm_at "at1") => `(tactic| first | with_reducible assumption | with_reducible exact upd_same | (with_reducible refine at_new (by assumption) ?_; wtm_at "at0") | (with_reducible refine at_same (by with_reducible assumption) ?_; wtm_at "at0") | (with_reducible apply Off.at; wtm_at "off1"))
local macro_rules | `(tactic| wtm_at "off2") => `(tactic| first | with_reducible assumption | (with_reducible apply Off.mk; wtm_at "pen"; assumption) | (with_reducible refine Off.new (by assumption) _ _ ?_; wtm_at "off1") | (with_reducible refine at_same (by with_reducible assumption) ?_; wtm_at "off1"))
local macro_rules | `(tactic| wtm_at "at2") => `(tactic| first | with_reducible assumption | with_reducible exact upd_same | (with_reducible refine at_new (by assumption) ?_; wtm_at "at1") | (with_reducible refine at_same (by with_reducible assumption) ?_; wtm_at "at1") | (with_reducible apply Off.at; wtm_at "off2"))
local macro_rules | `(tactic| wtm_at "off3") => `(tactic| first | with_reducible assumption | (with_reducible apply Off.mk; wtm_at "pen"; assumption) | (with_reducible refine Off.new (by assumption) _ _ ?_; wtm_at "off2") | (with_reducible refine at_same (by with_reducible assumption) ?_; wtm_at "off2"))
local macro_rules | `(tactic| wtm_at "at3") => `(tactic| first | with_reducible assumption | with_reducible exact upd_same | (with_reducible refine at_new (by assumption) ?_; wtm_at "at2") | (with_reducible refine at_same (by with_reducible assumption) ?_; wtm_at "at2") | (with_reducible apply Off.at; wtm_at "off3"))
local macro_rules | `(tactic| wtm_at "off4") => `(tactic| first | with_reducible assumption | (with_reducible apply Off.mk; wtm_at "pen"; assumption) | (with_reducible refine Off.new (by assumption) _ _ ?_; wtm_at "off3") | (with_reducible refine at_same (by with_reducible assumption) ?_; wtm_at "off3"))
local macro_rules | `(tactic| wtm_at "at4") => `(tactic| first | with_reducible assumption | with_reducible exact upd_same | (with_reducible refine at_new (by assumption) ?_; wtm_at "at3") | (with_reducible refine at_same (by with_reducible assumption) ?_; wtm_at "at3") | (with_reducible apply Off.at; wtm_at "off4"))
local macro_rules | `(tactic| wtm_at "off5") => `(tactic| first | with_reducible assumption | (with_reducible apply Off.mk; wtm_at "pen"; assumption) | (with_reducible refine Off.new (by assumption) _ _ ?_; wtm_at "off4") | (with_reducible refine at_same (by with_reducible assumption) ?_; wtm_at "off4"))
local macro_rules | `(tactic| wtm_at "at5") => `(tactic| first | with_reducible assumption | with_reducible exact upd_same | (with_reducible refine at_new (by assumption) ?_; wtm_at "at4") | (with_reducible refine at_same (by with_reducible assumption) ?_; wtm_at "at4") | (with_reducible apply Off.at; wtm_at "off5"))
local macro_rules | `(tactic| wtm_at "off6") => `(tactic| first | with_reducible assumption | (with_reducible apply Off.mk; wtm_at "pen"; assumption) | (with_reducible refine Off.new (by assumption) _ _ ?_; wtm_at "off5") | (with_reducible refine at_same (by with_reducible assumption) ?_; wtm_at "off5"))
local macro_rules | `(tactic| wtm_at "at6") => `(tactic| first | with_reducible assumption | with_reducible exact upd_same | (with_reducible refine at_new (by assumption) ?_; wtm_at "at5") | (with_reducible refine at_same (by with_reducible assumption) ?_; wtm_at "at5") | (with_reducible apply Off.at; wtm_at "off6"))
local macro_rules | `(tactic| wtm_at "off7") => `(tactic| first | with_reducible assumption | (with_reducible apply Off.mk; wtm_at "pen"; assumption) | (with_reducible refine Off.new (by assumption) _ _ ?_; wtm_at "off6") | (with_reducible refine at_same (by with_reducible assumption) ?_; wtm_at "off6"))
local macro_rules | `(tactic| wtm_at "at7") => `(tactic| first | with_reducible assumption | with_reducible exact upd_same | (with_reducible refine at_new (by assumption) ?_; wtm_at "at6") | (with_reducible refine at_same (by with_reducible assumption) ?_; wtm_at "at6") | (with_reducible apply Off.at; wtm_at "off7"))
local macro_rules | `(tactic| wtm_at "off8") => `(tactic| first | with_reducible assumption | (with_reducible apply Off.mk; wtm_at "pen"; assumption) | (with_reducible refine Off.new (by assumption) _ _ ?_; wtm_at "off7") | (with_reducible refine at_same (by with_reducible assumption) ?_; wtm_at "off7"))
local macro_rules | `(tactic| wtm_at "at8") => `(tactic| first | with_reducible assumption | with_reducible exact upd_same | (with_reducible refine at_new (by assumption) ?_; wtm_at "at7") | (with_reducible refine at_same (by with_reducible assumption) ?_; wtm_at "at7") | (with_reducible apply Off.at; wtm_at "off8"))
local macro_rules | `(tactic| wtm_at "off9") => `(tactic| first | with_reducible assumption | (with_reducible apply Off.mk; wtm_at "pen"; assumption) | (with_reducible refine Off.new (by assumption) _ _ ?_; wtm_at "off8") | (with_reducible refine at_same (by with_reducible assumption) ?_; wtm_at "off8"))
local macro_rules | `(tactic| wtm_at "at9") => `(tactic| first | with_reducible assumption | with_reducible exact upd_same | (with_reducible refine at_new (by assumption) ?_; wtm_at "at8") | (with_reducible refine at_same (by with_reducible assumption) ?_; wtm_at "at8") | (with_reducible apply Off.at; wtm_at "off9"))
local macro_rules | `(tactic| wtm_at "off10") => `(tactic| first | with_reducible assumption | (with_reducible apply Off.mk; wtm_at "pen"; assumption) | (with_reducible refine Off.new (by assumption) _ _ ?_; wtm_at "off9") | (with_reducible refine at_same (by with_reducible assumption) ?_; wtm_at "off9"))
local macro_rules | `(tactic| wtm_at "at10") => `(tactic| first | with_reducible assumption | with_reducible exact upd_same | (with_reducible refine at_new (by assumption) ?_; wtm_at "at9") | (with_reducible refine at_same (by with_reducible assumption) ?_; wtm_at "at9") | (with_reducible apply Off.at; wtm_at "off10"))
local macro_rules | `(tactic| wtm_at "off11") => `(tactic| first | with_reducible assumption | (with_reducible apply Off.mk; wtm_at "pen"; assumption) | (with_reducible refine Off.new (by assumption) _ _ ?_; wtm_at "off10") | (with_reducible refine at_same (by with_reducible assumption) ?_; wtm_at "off10"))
local macro_rules | `(tactic| wtm_at "at11") => `(tactic| first | with_reducible assumption | with_reducible exact upd_same | (with_reducible refine at_new (by assumption) ?_; wtm_at "at10") | (with_reducible refine at_same (by with_reducible assumption) ?_; wtm_at "at10") | (with_reducible apply Off.at; wtm_at "off11"))
local macro_rules | `(tactic| wtm_at "off12") => `(tactic| first | with_reducible assumption | (with_reducible apply Off.mk; wtm_at "pen"; assumption) | (with_reducible refine Off.new (by assumption) _ _ ?_; wtm_at "off11") | (with_reducible refine at_same (by with_reducible assumption) ?_; wtm_at "off11"))
local macro_rules | `(tactic| wtm_at "at12") => `(tactic| first | with_reducible assumption | with_reducible exact upd_same | (with_reducible refine at_new (by assumption) ?_; wtm_at "at11") | (with_reducible refine at_same (by with_reducible assumption) ?_; wtm_at "at11") | (with_reducible apply Off.at; wtm_at "off12"))
local macro_rules | `(tactic| wtm_at "off13") => `(tactic| first | with_reducible assumption | (with_reducible apply Off.mk; wtm_at "pen"; assumption) | (with_reducible refine Off.new (by assumption) _ _ ?_; wtm_at "off12") | (with_reducible refine at_same (by with_reducible assumption) ?_; wtm_at "off12"))
local macro_rules | `(tactic| wtm_at "at13") => `(tactic| first | with_reducible assumption | with_reducible exact upd_same | (with_reducible refine at_new (by assumption) ?_; wtm_at "at12") | (with_reducible refine at_same (by with_reducible assumption) ?_; wtm_at "at12") | (with_reducible apply Off.at; wtm_at "off13"))
local macro_rules | `(tactic| wtm_at "off14") => `(tactic| first | with_reducible assumption | (with_reducible apply Off.mk; wtm_at "pen"; assumption) | (with_reducible refine Off.new (by assumption) _ _ ?_; wtm_at "off13") | (with_reducible refine at_same (by with_reducible assumption) ?_; wtm_at "off13"))
local macro_rules | `(tactic| wtm_at "at14") => `(tactic| first | with_reducible assumption | with_reducible exact upd_same | (with_reducible refine at_new (by assumption) ?_; wtm_at "at13") | (with_reducible refine at_same (by with_reducible assumption) ?_; wtm_at "at13") | (with_reducible apply Off.at; wtm_at "off14"))
local macro_rules | `(tactic| wtm_at "off15") => `(tactic| first | with_reducible assumption | (with_reducible apply Off.mk; wtm_at "pen"; assumption) | (with_reducible refine Off.new (by assumption) _ _ ?_; wtm_at "off14") | (with_reducible refine at_same (by with_reducible assumption) ?_; wtm_at "off14"))
local macro_rules | `(tactic| wtm_at "at15") => `(tactic| first | with_reducible assumption | with_reducible exact upd_same | (with_reducible refine at_new (by assumption) ?_; wtm_at "at14") | (with_reducible refine at_same (by with_reducible assumption) ?_; wtm_at "at14") | (with_reducible apply Off.at; wtm_at "off15"))
local macro_rules | `(tactic| wtm_at "off16") => `(tactic| first | with_reducible assumption | (with_reducible apply Off.mk; wtm_at "pen"; assumption) | (with_reducible refine Off.new (by assumption) _ _ ?_; wtm_at "off15") | (with_reducible refine at_same (by with_reducible assumption) ?_; wtm_at "off15"))
local macro_rules | `(tactic| wtm_at "at16") => `(tactic| first | with_reducible assumption | with_reducible exact upd_same | (with_reducible refine at_new (by assumption) ?_; wtm_at "at15") | (with_reducible refine at_same (by with_reducible assumption) ?_; wtm_at "at15") | (with_reducible apply Off.at; wtm_at "off16"))
local macro_rules | `(tactic| wtm_at "off17") => `(tactic| first | with_reducible assumption | (with_reducible apply Off.mk; wtm_at "pen"; assumption) | (with_reducible refine Off.new (by assumption) _ _ ?_; wtm_at "off16") | (with_reducible refine at_same (by with_reducible assumption) ?_; wtm_at "off16"))
local macro_rules | `(tactic| wtm_at "at17") => `(tactic| first | with_reducible assumption | with_reducible exact upd_same | (with_reducible refine at_new (by assumption) ?_; wtm_at "at16") | (with_reducible refine at_same (by with_reducible assumption) ?_; wtm_at "at16") | (with_reducible apply Off.at; wtm_at "off17"))
local macro_rules | `(tactic| wtm_at "off18") => `(tactic| first | with_reducible assumption | (with_reducible apply Off.mk; wtm_at "pen"; assumption) | (with_reducible refine Off.new (by assumption) _ _ ?_; wtm_at "off17") | (with_reducible refine at_same (by with_reducible assumption) ?_; wtm_at "off17"))
local macro_rules | `(tactic| wtm_at "at18") => `(tactic| first | with_reducible assumption | with_reducible exact upd_same | (with_reducible refine at_new (by assumption) ?_; wtm_at "at17") | (with_reducible refine at_same (by with_reducible assumption) ?_; wtm_at "at17") | (with_reducible apply Off.at; wtm_at "off18"))
local macro_rules | `(tactic| wtm_at "off19") => `(tactic| first | with_reducible assumption | (with_reducible apply Off.mk; wtm_at "pen"; assumption) | (with_reducible refine Off.new (by assumption) _ _ ?_; wtm_at "off18") | (with_reducible refine at_same (by with_reducible assumption) ?_; wtm_at "off18"))
local macro_rules | `(tactic| wtm_at "at19") => `(tactic| first | with_reducible assumption | with_reducible exact upd_same | (with_reducible refine at_new (by assumption) ?_; wtm_at "at18") | (with_reducible refine at_same (by with_reducible assumption) ?_; wtm_at "at18") | (with_reducible apply Off.at; wtm_at "off19"))
local macro_rules | `(tactic| wtm_at "off20") => `(tactic| first | with_reducible assumption | (with_reducible apply Off.mk; wtm_at "pen"; assumption) | (with_reducible refine Off.new (by assumption) _ _ ?_; wtm_at "off19") | (with_reducible refine at_same (by with_reducible assumption) ?_; wtm_at "off19"))
local macro_rules | `(tactic| wtm_at "at20") => `(tactic| first | with_reducible assumption | with_reducible exact upd_same | (with_reducible refine at_new (by assumption) ?_; wtm_at "at19") | (with_reducible refine at_same (by with_reducible assumption) ?_; wtm_at "at19") | (with_reducible apply Off.at; wtm_at "off20"))
local macro_rules | `(tactic| wtm_at "off21") => `(tactic| first | with_reducible assumption | (with_reducible apply Off.mk; wtm_at "pen"; assumption) | (with_reducible refine Off.new (by assumption) _ _ ?_; wtm_at "off20") | (with_reducible refine at_same (by with_reducible assumption) ?_; wtm_at "off20"))
local macro_rules | `(tactic| wtm_at "at21") => `(tactic| first | with_reducible assumption | with_reducible exact upd_same | (with_reducible refine at_new (by assumption) ?_; wtm_at "at20") | (with_reducible refine at_same (by with_reducible assumption) ?_; wtm_at "at20") | (with_reducible apply Off.at; wtm_at "off21"))
local macro_rules | `(tactic| wtm_at "off22") => `(tactic| first | with_reducible assumption | (with_reducible apply Off.mk; wtm_at "pen"; assumption) | (with_reducible refine Off.new (by assumption) _ _ ?_; wtm_at "off21") | (with_reducible refine at_same (by with_reducible assumption) ?_; wtm_at "off21"))
local macro_rules | `(tactic| wtm_at "at22") => `(tactic| first | with_reducible assumption | with_reducible exact upd_same | (with_reducible refine at_new (by assumption) ?_; wtm_at "at21") | (with_reducible refine at_same (by with_reducible assumption) ?_; wtm_at "at21") | (with_reducible apply Off.at; wtm_at "off22"))
local macro_rules | `(tactic| wtm_at "off23") => `(tactic| first | with_reducible assumption | (with_reducible apply Off.mk; wtm_at "pen"; assumption) | (with_reducible refine Off.new (by assumption) _ _ ?_; wtm_at "off22") | (with_reducible refine at_same (by with_reducible assumption) ?_; wtm_at "off22"))
local macro_rules | `(tactic| wtm_at "at23") => `(tactic| first | with_reducible assumption | with_reducible exact upd_same | (with_reducible refine at_new (by assumption) ?_; wtm_at "at22") | (with_reducible refine at_same (by with_reducible assumption) ?_; wtm_at "at22") | (with_reducible apply Off.at; wtm_at "off23"))
local macro_rules | `(tactic| wtm_at "off24") => `(tactic| first | with_reducible assumption | (with_reducible apply Off.mk; wtm_at "pen"; assumption) | (with_reducible refine Off.new (by assumption) _ _ ?_; wtm_at "off23") | (with_reducible refine at_same (by with_reducible assumption) ?_; wtm_at "off23"))
local macro_rules | `(tactic| wtm_at "at24") => `(tactic| first | with_reducible assumption | with_reducible exact upd_same | (with_reducible refine at_new (by assumption) ?_; wtm_at "at23") | (with_reducible refine at_same (by with_reducible assumption) ?_; wtm_at "at23") | (with_reducible apply Off.at; wtm_at "off24"))
local macro_rules | `(tactic| wtm_at "off25") => `(tactic| first | with_reducible assumption | (with_reducible apply Off.mk; wtm_at "pen"; assumption) | (with_reducible refine Off.new (by assumption) _ _ ?_; wtm_at "off24") | (with_reducible refine at_same (by with_reducible assumption) ?_; wtm_at "off24"))
local macro_rules | `(tactic| wtm_at "at25") => `(tactic| first | with_reducible assumption | with_reducible exact upd_same | (with_reducible refine at_new (by assumption) ?_; wtm_at "at24") | (with_reducible refine at_same (by with_reducible assumption) ?_; wtm_at "at24") | (with_reducible apply Off.at; wtm_at "off25"))
local macro_rules | `(tactic| wtm_at "off26") => `(tactic| first | with_reducible assumption | (with_reducible apply Off.mk; wtm_at "pen"; assumption) | (with_reducible refine Off.new (by assumption) _ _ ?_; wtm_at "off25") | (with_reducible refine at_same (by with_reducible assumption) ?_; wtm_at "off25"))
local macro_rules | `(tactic| wtm_at "at26") => `(tactic| first | with_reducible assumption | with_reducible exact upd_same | (with_reducible refine at_new (by assumption) ?_; wtm_at "at25") | (with_reducible refine at_same (by with_reducible assumption) ?_; wtm_at "at25") | (with_reducible apply Off.at; wtm_at "off26"))
local macro_rules | `(tactic| wtm_at "off27") => `(tactic| first | with_reducible assumption | (with_reducible apply Off.mk; wtm_at "pen"; assumption) | (with_reducible refine Off.new (by assumption) _ _ ?_; wtm_at "off26") | (with_reducible refine at_same (by with_reducible assumption) ?_; wtm_at "off26"))
local macro_rules | `(tactic| wtm_at "at27") => `(tactic| first | with_reducible assumption | with_reducible exact upd_same | (with_reducible refine at_new (by assumption) ?_; wtm_at "at26") | (with_reducible refine at_same (by with_reducible assumption) ?_; wtm_at "at26") | (with_reducible apply Off.at; wtm_at "off27"))
local macro_rules | `(tactic| wtm_at "off28") => `(tactic| first | with_reducible assumption | (with_reducible apply Off.mk; wtm_at "pen"; assumption) | (with_reducible refine Off.new (by assumption) _ _ ?_; wtm_at "off27") | (with_reducible refine at_same (by with_reducible assumption) ?_; wtm_at "off27"))
local macro_rules | `(tactic| wtm_at "at28") => `(tactic| first | with_reducible assumption | with_reducible exact upd_same | (with_reducible refine at_new (by assumption) ?_; wtm_at "at27") | (with_reducible refine at_same (by with_reducible assumption) ?_; wtm_at "at27") | (with_reducible apply Off.at; wtm_at "off28"))
local macro_rules | `(tactic| wtm_at "off29") => `(tactic| first | with_reducible assumption | (with_reducible apply Off.mk; wtm_at "pen"; assumption) | (with_reducible refine Off.new (by assumption) _ _ ?_; wtm_at "off28") | (with_reducible refine at_same (by with_reducible assumption) ?_; wtm_at "off28"))
local macro_rules | `(tactic| wtm_at "at29") => `(tactic| first | with_reducible assumption | with_reducible exact upd_same | (with_reducible refine at_new (by assumption) ?_; wtm_at "at28") | (with_reducible refine at_same (by with_reducible assumption) ?_; wtm_at "at28") | (with_reducible apply Off.at; wtm_at "off29"))
local macro_rules | `(tactic| wtm_at "off30") => `(tactic| first | with_reducible assumption | (with_reducible apply Off.mk; wtm_at "pen"; assumption) | (with_reducible refine Off.new (by assumption) _ _ ?_; wtm_at "off29") | (with_reducible refine at_same (by with_reducible assumption) ?_; wtm_at "off29"))
local macro_rules | `(tactic| wtm_at "at30") => `(tactic| first | with_reducible assumption | with_reducible exact upd_same | (with_reducible refine at_new (by assumption) ?_; wtm_at "at29") | (with_reducible refine at_same (by with_reducible assumption) ?_; wtm_at "at29") | (with_reducible apply Off.at; wtm_at "off30"))
local macro_rules | `(tactic| wtm_at "off31") => `(tactic| first | with_reducible assumption | (with_reducible apply Off.mk; wtm_at "pen"; assumption) | (with_reducible refine Off.new (by assumption) _ _ ?_; wtm_at "off30") | (with_reducible refine at_same (by with_reducible assumption) ?_; wtm_at "off30"))
local macro_rules | `(tactic| wtm_at "at31") => `(tactic| first | with_reducible assumption | with_reducible exact upd_same | (with_reducible refine at_new (by assumption) ?_; wtm_at "at30") | (with_reducible refine at_same (by with_reducible assumption) ?_; wtm_at "at30") | (with_reducible apply Off.at; wtm_at "off31"))
local macro_rules | `(tactic| wtm_at "off32") => `(tactic| first | with_reducible assumption | (with_reducible apply Off.mk; wtm_at "pen"; assumption) | (with_reducible refine Off.new (by assumption) _ _ ?_; wtm_at "off31") | (with_reducible refine at_same (by with_reducible assumption) ?_; wtm_at "off31"))
local macro_rules | `(tactic| wtm_at "at32") => `(tactic| first | with_reducible assumption | with_reducible exact upd_same | (with_reducible refine at_new (by assumption) ?_; wtm_at "at31") | (with_reducible refine at_same (by with_reducible assumption) ?_; wtm_at "at31") | (with_reducible apply Off.at; wtm_at "off32"))
local macro_rules | `(tactic| wtm_at "off33") => `(tactic| first | with_reducible assumption | (with_reducible apply Off.mk; wtm_at "pen"; assumption) | (with_reducible refine Off.new (by assumption) _ _ ?_; wtm_at "off32") | (with_reducible refine at_same (by with_reducible assumption) ?_; wtm_at "off32"))
local macro_rules | `(tactic| wtm_at "at33") => `(tactic| first | with_reducible assumption | with_reducible exact upd_same | (with_reducible refine at_new (by assumption) ?_; wtm_at "at32") | (with_reducible refine at_same (by with_reducible assumption) ?_; wtm_at "at32") | (with_reducible apply Off.at; wtm_at "off33"))
local macro_rules | `(tactic| wtm_at "off34") => `(tactic| first | with_reducible assumption | (with_reducible apply Off.mk; wtm_at "pen"; assumption) | (with_reducible refine Off.new (by assumption) _ _ ?_; wtm_at "off33") | (with_reducible refine at_same (by with_reducible assumption) ?_; wtm_at "off33"))
local macro_rules | `(tactic| wtm_at "at34") => `(tactic| first | with_reducible assumption | with_reducible exact upd_same | (with_reducible refine at_new (by assumption) ?_; wtm_at "at33") | (with_reducible refine at_same (by with_reducible assumption) ?_; wtm_at "at33") | (with_reducible apply Off.at; wtm_at "off34"))
local macro_rules | `(tactic| wtm_at "off35") => `(tactic| first | with_reducible assumption | (with_reducible apply Off.mk; wtm_at "pen"; assumption) | (with_reducible refine Off.new (by assumption) _ _ ?_; wtm_at "off34") | (with_reducible refine at_same (by with_reducible assumption) ?_; wtm_at "off34"))
local macro_rules | `(tactic| wtm_at "at35") => `(tactic| first | with_reducible assumption | with_reducible exact upd_same | (with_reducible refine at_new (by assumption) ?_; wtm_at "at34") | (with_reducible refine at_same (by with_reducible assumption) ?_; wtm_at "at34") | (with_reducible apply Off.at; wtm_at "off35"))
local macro_rules | `(tactic| wtm_at "off36") => `(tactic| first | with_reducible assumption | (with_reducible apply Off.mk; wtm_at "pen"; assumption) | (with_reducible refine Off.new (by assumption) _ _ ?_; wtm_at "off35") | (with_reducible refine at_same (by with_reducible assumption) ?_; wtm_at "off35"))
local macro_rules | `(tactic| wtm_at "at36") => `(tactic| first | with_reducible assumption | with_reducible exact upd_same | (with_reducible refine at_new (by assumption) ?_; wtm_at "at35") | (with_reducible refine at_same (by with_reducible assumption) ?_; wtm_at "at35") | (with_reducible apply Off.at; wtm_at "off36"))
local macro_rules | `(tactic| wtm_at "off37") => `(tactic| first | with_reducible assumption | (with_reducible apply Off.mk; wtm_at "pen"; assumption) | (with_reducible refine Off.new (by assumption) _ _ ?_; wtm_at "off36") | (with_reducible refine at_same (by with_reducible assumption) ?_; wtm_at "off36"))
local macro_rules | `(tactic| wtm_at "at37") => `(tactic| first | with_reducible assumption | with_reducible exact upd_same | (with_reducible refine at_new (by assumption) ?_; wtm_at "at36") | (with_reducible refine at_same (by with_reducible assumption) ?_; wtm_at "at36") | (with_reducible apply Off.at; wtm_at "off37"))
local macro_rules | `(tactic| wtm_at "off38") => `(tactic| first | with_reducible assumption | (with_reducible apply Off.mk; wtm_at "pen"; assumption) | (with_reducible refine Off.new (by assumption) _ _ ?_; wtm_at "off37") | (with_reducible refine at_same (by with_reducible assumption) ?_; wtm_at "off37"))
local macro_rules | `(tactic| wtm_at "at38") => `(tactic| first | with_reducible assumption | with_reducible exact upd_same | (with_reducible refine at_new (by assumption) ?_; wtm_at "at37") | (with_reducible refine at_same (by with_reducible assumption) ?_; wtm_at "at37") | (with_reducible apply Off.at; wtm_at "off38"))
local macro_rules | `(tactic| wtm_at "off39") => `(tactic| first | with_reducible assumption | (with_reducible apply Off.mk; wtm_at "pen"; assumption) | (with_reducible refine Off.new (by assumption) _ _ ?_; wtm_at "off38") | (with_reducible refine at_same (by with_reducible assumption) ?_; wtm_at "off38"))
local macro_rules | `(tactic| wtm_at "at39") => `(tactic| first | with_reducible assumption | with_reducible exact upd_same | (with_reducible refine at_new (by assumption) ?_; wtm_at "at38") | (with_reducible refine at_same (by with_reducible assumption) ?_; wtm_at "at38") | (with_reducible apply Off.at; wtm_at "off39"))
local macro_rules | `(tactic| wtm_at "at") => `(tactic| wtm_at "at39")
local macro_rules | `(tactic| wtm_at "off") => `(tactic| wtm_at "off39")
local macro_rules | `(tactic| wtm_at "pen") => `(tactic| first
  | assumption | (refine Pen.new (by assumption) ?_; wtm_at "pen") | (refine Pen.same (by assumption) ?_; wtm_at "pen"))
local macro_rules | `(tactic| wtm_at "same") => `(tactic| first
  | exact fun _ _ h => h | assumption | exact same_new (by assumption) | (refine same_trans ?_ (same_new (by assumption)); wtm_at "same") | (refine same_trans ?_ (by assumption); wtm_at "same")
  | (refine same_trans ?_ (Off.new (by assumption)); wtm_at "same") | (refine same_trans ?_ (Off.same (by assumption)); wtm_at "same"))
local macro_rules | `(tactic| wtm_at "dps") => `(tactic| first
  | exact .nil | (apply DpAll.cons; wtm_at "dp"; wtm_at "dps") | exact dpAll_ints _)
local macro_rules | `(tactic| wtm_at "dp") => `(tactic| first
  | exact .non | exact .bl _ | exact .int _ | exact .str _ | (fail) | (apply Dp.lst; (apply SqL.of; wtm_at "at"); wtm_at "dps") | (apply Dp.tup; (apply SqT.of; wtm_at "at"); wtm_at "dps"))
local macro_rules | `(tactic| wtm_at "side") => `(tactic| first
  | exact ⟨by decide, by decide⟩ | exact ⟨by decide, by decide, by decide⟩ | exact .inl ⟨by decide, by decide⟩ | exact .inr ⟨by decide, by decide⟩ | (show ¬ _ = _; decide))
local macro_rules | `(tactic| wtm_at "sml") => `(tactic| first
  | exact sml_none (by decide) | exact sml_bool (by decide) | exact sml_int (by decide) (by omega) | (fail) | exact sml_list (n := 19) (k := 0) (by wtm_at "smls") (by decide) (by decide))
local macro_rules | `(tactic| wtm_at "smls") => `(tactic| first | exact smlAll_nil (m := 0) | (apply smlAll_cons; wtm_at "sml"; wtm_at "smls"))
local macro_rules | `(tactic| wtm_at "shw") => `(tactic| exact Sml.shw (n := 10000) (k := 50) (by wtm_at "sml") (by decide) (by decide))
local macro_rules | `(tactic| wtm_at "rd") => `(tactic| first
  | refine ⟨_, rfl, ?_⟩ | refine ⟨_, _, rfl, rfl, ?_⟩ | refine ifT rfl ?_ | refine ifF rfl ?_ | refine ⟨rfl, ?_⟩
  | refine ⟨_, _, by rfl, by wtm_at "dp", by wtm_at "shw", ?_⟩
  | refine ⟨_, _, _, _, _, rfl, by wtm_at "at", by wtm_at "cls", by wtm_at "na", by rfl, ?_⟩
  | refine ⟨_, _, rfl, .inr (SqT.of (by wtm_at "at")), ?_⟩ | refine ⟨_, _, rfl, .inl (SqL.of (by wtm_at "at")), ?_⟩
  | refine ⟨_, _, rfl, .inr (SqT.of (by wtm_at "at")), by rfl, by rfl, ?_⟩ | refine ⟨_, _, rfl, .inl (SqL.of (by wtm_at "at")), by rfl, by rfl, ?_⟩
  | refine ⟨_, _, _, _, rfl, rfl, SqT.of (by wtm_at "at"), by rfl, ?_⟩ | refine ⟨_, _, _, _, rfl, rfl, SqL.of (by wtm_at "at"), by rfl, ?_⟩
  | refine ⟨_, _, rfl, rfl, by wtm_at "side", ?_⟩
  | refine ⟨_, _, by wtm_at "dp", by wtm_at "dp", by first | rfl | decide +kernel, by first | rfl | decide +kernel, ?_⟩
  | refine ⟨_, _, [_, _], [_, _], rfl, rfl, sqI2 (by wtm_at "at"), sqI2 (by wtm_at "at"), ?_⟩
  | refine ⟨_, _, rfl, ?_⟩
  | refine ⟨Nat.le_of_ble_eq_true rfl, fun _ _ => ?_⟩
  | refine ifF (by decide +kernel) ?_ | refine ifF (nd_refl _) ?_ | refine ifT (de_refl _) ?_)
local macro_rules | `(tactic| wtm_at "cls") => `(tactic| first | exact cls_Agent _)
local macro_rules | `(tactic| wtm_at "na") => `(tactic| first | exact na_Agent_name _ | exact na_Agent_steps _ | exact na_Agent_shape _)

theorem cutS_len (z : Str) (lo hi : Option Int) : (cutS z lo hi).length ≤ z.length := by
  unfold cutS
  show (List.toArray _).size ≤ _
  rw [List.size_toArray, List.length_take, List.length_drop]
  have : z.cps.toList.length = z.length := by rw [Array.length_toList]; rfl
  omega
theorem strApp_len (x y : Str) : (x ++ y).length = x.length + y.length := by rw [TL.len_tl, TL.tl_append, List.length_append, ← TL.len_tl, ← TL.len_tl]
/-- whole numbers and short texts -/
def FlatS (xs : List V) : Prop := ∀ v ∈ xs, (∃ i, v = .int i) ∨ ∃ x : Str, v = .str x ∧ x.length ≤ 1000
def flD : V → PyData
  | .int i => .int i
  | .str x => .str x
  | _ => .none
theorem flat_dq {K : PySem.W.Frag} {H : Hp} : ∀ {xs : List V}, FlatS xs → DqAll K H xs (xs.map flD)
  | [], _ => .nil
  | v :: xs, h => by
    refine .cons ?_ (flat_dq fun y hy => h y (List.mem_cons_of_mem _ hy))
    rcases h v List.mem_cons_self with ⟨i, rfl⟩ | ⟨x, rfl, _⟩
    · exact .int i
    · exact .str x
theorem flat_small {xs : List V} (h : FlatS xs) : ∀ d ∈ xs.map flD, smallD d := fun d hd => by
  obtain ⟨v, hv, rfl⟩ := List.mem_map.mp hd
  rcases h v hv with ⟨i, rfl⟩ | ⟨x, rfl, hx⟩
  · exact True.intro
  · exact hx
theorem flat_cut {xs : List V} (h : FlatS xs) (lo hi : Option Int) : FlatS (cutV xs lo hi) := fun v hv => h v (List.drop_subset _ _ (List.take_subset _ _ hv))
theorem flat_app {xs ys : List V} (h : FlatS xs) (h2 : FlatS ys) : FlatS (xs ++ ys) := fun v hv => (List.mem_append.mp hv).elim (h v) (h2 v)
theorem dqAll_app {K : PySem.W.Frag} {H : Hp} : ∀ {xs : List V} {ds : List PyData} {ys : List V} {es : List PyData}, DqAll K H xs ds → DqAll K H ys es → DqAll K H (xs ++ ys) (ds ++ es)
  | [], [], _, _, .nil, h => h
  | _ :: _, _ :: _, _, _, .cons a r, h => .cons a (dqAll_app r h)
def bentData : List PyData := [.tuple [], .none, .str "read", .tuple [.str "read"], .int 7, .tuple [.str "flush", .str "buf"], .tuple [.str "post", .str "buf", .int 0, .int 0, .int 0], .tuple [.bool true, .str "buf"]]
def smallB : PyData → Bool
  | .str x => decide (x.length ≤ 1000)
  | _ => true
theorem smallB_of {d : PyData} (h : smallB d = true) : smallD d := by
  cases d with
  | str x => exact of_decide_eq_true (p := x.length ≤ 1000) h
  | _ => exact True.intro
def partsB : PyData → Bool
  | .tuple ds => decide (ds.length ≤ 1000) && ds.all smallB
  | .list ds => decide (ds.length ≤ 1000)
  | _ => true
theorem partsB_of {d : PyData} (h : partsB d = true) : partsSmall d := by
  cases d with
  | tuple ds =>
    have h : (decide (ds.length ≤ 1000) && ds.all smallB) = true := h
    rw [Bool.and_eq_true, decide_eq_true_eq] at h
    exact ⟨h.1, fun d hd => smallB_of (List.all_eq_true.mp h.2 d hd)⟩
  | list ds => exact of_decide_eq_true (p := ds.length ≤ 1000) h
  | _ => exact True.intro
theorem bent_small {d : PyData} (h : d ∈ bentData) : partsSmall d := partsB_of (List.all_eq_true.mp (show bentData.all partsB = true by decide +kernel) d h)
theorem thing_small {d : PyData} (h : d ∈ thingData) : smallD d := smallB_of (List.all_eq_true.mp (show thingData.all smallB = true by decide +kernel) d h)
theorem nw_old {p c : Addr} {m : Int} {H H1 H2 : Hp} (s : Same (Off p H) (Off p H1)) (P : Pen H1 p c m) : Same (Nw H1 H2) (Nw H H2) := fun b u e => by
  obtain ⟨x, y⟩ := Nw.at e
  exact Nw.of (old_none s P y) x
theorem cat_any {K : PySem.W.Frag} {H : Hp} {a b : Addr} {xs ys : List V} {Q : VK} (ha : H a = some (.tup xs)) (hb : H b = some (.tup ys)) (h : xs.length + ys.length ≤ sizeLine)
    (q : ∀ y H', H' y = some (.tup (xs ++ ys)) → Same H H' → (y = a ∨ y = b ∨ H y = none) → (∀ p c m, Pen H p c m → Pen H' p c m) → Q (.ref y) H') : rCatTa K (.ref a) (.ref b) H Q :=
  ⟨a, b, xs, ys, rfl, rfl, SqT.of ha, SqT.of hb, h, (fun e => q b H (by rw [e]; exact hb) Same.rfl (.inr (.inl rfl)) (fun _ _ _ P => P)), (fun _ e => q a H (by rw [e, List.append_nil]; exact ha) Same.rfl (.inl rfl) (fun _ _ _ P => P)),
    fun _ _ y hy => q y _ upd_same (same_new hy) (.inr (.inr hy)) (fun _ _ _ P => P.new hy)⟩
theorem nw_mono {H H4 H6 : Hp} (s : Same H4 H6) : Same (Nw H H4) (Nw H H6) := fun b u e => by
  obtain ⟨x, y⟩ := Nw.at e
  exact Nw.of y (s _ _ x)
def spGood : Sp := fun vs H Q _ => ∃ (p c : Addr) (m k : Int), vs = [.ref p, .int k] ∧ Pen H p c m ∧ m ≤ 90000 ∧ ∀ t xs H', FlatS xs → 2 ≤ xs.length → xs.length ≤ 5 → H t = none → H' t = some (.tup xs) → Same (Off p H) (Off p H') → Pen H' p c (m + 5) → Q (.ref t) H'
def spBent (K : PySem.W.Frag) : Sp := fun vs H Q _ => ∃ (p c : Addr) (m k : Int), vs = [.ref p, .int k] ∧ Pen H p c m ∧ m ≤ 80000 ∧ ∀ v d H', Dq K (Nw H H') v d → partsSmall d → Same (Off p H) (Off p H') → Pen H' p c (m + 9) → Q v H'
section
variable {mg : PySem.Str → Option Value} {base : Heap} {w : World}
theorem ok__law_good_step (M : Mod (hd04.heap_39 w.params) mg base) : CallG PP w (hd04.heap_39 w.params) mg base 3 (.ref 415) (pos spGood) := by
  obtain ⟨fd, F⟩ := fn__law_good_step w
  refine def_pos F sc__law_good_step (fun vs H Q E h => ?_) (fun _ _ _ _ _ _ us hl => match us, hl with | [_, _], _ => rfl) (fun cdv A outer s H vs Q E hr hg h => ?_)
  · obtain ⟨p, c, m, k, rfl, _⟩ := h; rfl
  have nd := sc__law_good_step.nd
  obtain ⟨p, c, m, k, rfl, P, hm, q⟩ := h
  refine ⟨_, (pss_cons (ps_set (i := 2) nd rfl (.inl rfl) (pe_lst (pa_cons pe_str (pa_cons pe_str (pa_cons pe_str (pa_cons pe_str (pa_cons pe_str (pa_cons pe_str (pa_cons pe_str (pa_cons pe_str (pa_cons pe_str (pa_cons pe_str (pa_cons pe_str pa_nil)))))))))))))
      (pss_cons (ps_set (i := 3) nd rfl (.inl rfl) (pe_ix ix_list (pv 2) (pe_cl (takes_of rfl rfl rfl rfl) (ok_drawP M) (hr.mono (by decide)) hg rfl (mg__law_draw M) (kp__law_draw w) (pa_cons (pv 0) (pa_cons (pe_op op_sub pe_int (pe_op op_mul pe_int (pe_callTy call_int1 (by rfl) (mn_int M) (by decide +kernel) (pa_cons (pe_cmpR op_eq (pv 1) pe_int (nomark _)) pa_nil)))) pa_nil))) (fun _ _ => rfl)))
      (pss_cons (ps_set (i := 4) nd rfl (.inl rfl) (pe_op op_add_str pe_str (pe_slice sl_str pe_str po_none (po_some (pe_cl (takes_of rfl rfl rfl rfl) (ok_drawP M) (hr.mono (by decide)) hg rfl (mg__law_draw M) (kp__law_draw w) (pa_cons (pv 0) (pa_cons pe_int pa_nil)))))))
      (pss_cons (ps_if (pt_cmpR op_in_seq (pv 3) (pe_tup (pa_cons pe_str (pa_cons pe_str pa_nil))) (by rfl)) (pss_one (ps_ret (pe_tup (pa_cons (pv 3) (pa_cons (pv 4) pa_nil))))) pss_nil)
      (pss_cons (ps_set (i := 5) nd rfl (.inl rfl) (pe_cl (takes_of rfl rfl rfl rfl) (ok_drawP M) (hr.mono (by decide)) hg rfl (mg__law_draw M) (kp__law_draw w) (pa_cons (pv 0) (pa_cons pe_int pa_nil))))
      (pss_one (ps_ret (pe_tup (pa_cons (pv 3) (pa_cons (pv 4) (pa_cons (pe_cl (takes_of rfl rfl rfl rfl) (ok_drawP M) (hr.mono (by decide)) hg rfl (mg__law_draw M) (kp__law_draw w) (pa_cons (pv 0) (pa_cons pe_int pa_nil))) (pa_cons (pv 5) (pa_cons (pe_op op_add (pv 5) (pe_cl (takes_of rfl rfl rfl rfl) (ok_drawP M) (hr.mono (by decide)) hg rfl (mg__law_draw M) (kp__law_draw w) (pa_cons (pv 0) (pa_cons (pe_op op_sub pe_int (pv 5)) pa_nil)))) pa_nil))))))))))))), ?_⟩
  refine ⟨Nat.le_of_ble_eq_true rfl, fun z1 hz1 => ?_⟩
  refine ⟨_, rfl, _, rfl, _, rfl, rfl, .inr ⟨_, rfl, ?_⟩⟩
  refine ⟨_, _, rfl, rfl, .inl ⟨by decide, by decide⟩, _, _, rfl, rfl, ?_⟩
  have hmn : 1 ≤ 11 - 5 * (if decide (V.int k = V.int 0) = true then (1 : Int) else 0) ∧ 11 - 5 * (if decide (V.int k = V.int 0) = true then (1 : Int) else 0) ≤ 11 := by split <;> decide
  refine ⟨rfl, p, c, m, 11 - 5 * (if decide (V.int k = V.int 0) = true then (1 : Int) else 0), rfl, P.new hz1, by omega, hmn.1, by omega, fun a1 H1 a10 a11 s1 P1 => ?_⟩
  obtain ⟨v1, hv1, hm1⟩ := atI_mem (xs := [V.str "read", V.str "write", V.str "post", V.str "wait", V.str "read", V.str "write", V.str "clean", V.str "drop", V.str "flush", V.str "get", V.str "put"]) a10 (by show a1 < 11; omega)
  obtain ⟨wd, rfl, hwd⟩ : ∃ x : Str, v1 = .str x ∧ x.length ≤ 1000 := by
    have z : ([V.str "read", V.str "write", V.str "post", V.str "wait", V.str "read", V.str "write", V.str "clean", V.str "drop", V.str "flush", V.str "get", V.str "put"]).all (fun v => match v with | .str x => decide (x.length ≤ 1000) | _ => false) = true := by decide +kernel
    have y := List.all_eq_true.mp z v1 hm1
    cases v1 <;> first | exact ⟨_, rfl, of_decide_eq_true y⟩ | exact absurd y (by simp)
  refine ⟨z1, _, a1, _, rfl, rfl, SqL.of (Uk.Off.at (s1 _ _ (Uk.Off.of upd_same (P.ne hz1)))), hv1, ?_⟩
  refine ⟨_, rfl, rfl, p, c, m + 1, 4, rfl, P1, by omega, by decide, by decide, fun a2 H2 a20 a21 s2 P2 => ?_⟩
  refine ⟨a2, rfl, "abz", rfl, by decide, "buf", _, rfl, rfl, Nat.le_trans (Nat.add_le_add_left (cutS_len "abz" _ _) _) (by decide), ?_⟩
  have hcl : (("buf" : Str) ++ cutS "abz" none (some a2)).length ≤ 1000 := by
    rw [strApp_len]
    exact Nat.le_trans (Nat.add_le_add_left (cutS_len "abz" _ _) _) (by decide)
  revert hcl
  generalize (("buf" : Str) ++ cutS "abz" none (some a2)) = cl
  intro hcl
  have sA : Same (Off p H) (Off p H2) := same_trans (Uk.Off.new hz1) (same_trans s1 s2)
  refine ⟨_, rfl, Nat.le_of_ble_eq_true rfl, fun z2 hz2 => ⟨z2, _, rfl, .inr (SqT.of upd_same), rfl, rfl, _, rfl, ite_b (fun e => ?_) (fun e => ?_)⟩⟩
  · refine ⟨_, rfl, _, rfl, Nat.le_of_ble_eq_true rfl, fun t ht => ?_⟩
    refine q t _ _ ?_ (by simp) (by simp) (old_none (same_trans sA (Uk.Off.new hz2)) (P2.new hz2) ht) upd_same (same_trans sA (same_trans (Uk.Off.new hz2) (Uk.Off.new ht))) (((P2.new hz2).new ht).mono (by omega))
    intro v hv
    simp only [List.mem_cons, List.not_mem_nil, or_false] at hv
    rcases hv with rfl | rfl
    · exact .inr ⟨_, rfl, hwd⟩
    · exact .inr ⟨_, rfl, hcl⟩
  · refine ⟨_, rfl, rfl, p, c, m + 1 + 1, 8, rfl, P2.new hz2, by omega, by decide, by decide, fun a3 H3 a30 a31 s3 P3 => ?_⟩
    refine ⟨_, rfl, _, rfl, _, rfl, rfl, p, c, m + 1 + 1 + 1, 4, rfl, P3, by omega, by decide, by decide, fun a4 H4 a40 a41 s4 P4 => ?_⟩
    refine ⟨_, rfl, _, rfl, _, rfl, _, rfl, _, _, rfl, rfl, rfl, p, c, m + 1 + 1 + 1 + 1, 8 - a3, rfl, P4, by omega, by omega, by omega, fun a5 H5 a50 a51 s5 P5 => ?_⟩
    have sB : Same (Off p H) (Off p H5) := same_trans sA (same_trans (Uk.Off.new hz2) (same_trans s3 (same_trans s4 s5)))
    refine ⟨_, _, rfl, rfl, Nat.le_of_ble_eq_true rfl, fun t ht => ?_⟩
    refine q t _ _ ?_ (by simp) (by simp) (old_none sB P5 ht) upd_same (same_trans sB (Uk.Off.new ht)) ((P5.new ht).mono (by omega))
    intro v hv
    simp only [List.mem_cons, List.not_mem_nil, or_false] at hv
    rcases hv with rfl | rfl | rfl | rfl | rfl
    · exact .inr ⟨_, rfl, hwd⟩
    · exact .inr ⟨_, rfl, hcl⟩
    · exact .inl ⟨_, rfl⟩
    · exact .inl ⟨_, rfl⟩
    · exact .inl ⟨_, rfl⟩
theorem ok__law_bent_step (M : Mod (hd04.heap_39 w.params) mg base) : CallG PP w (hd04.heap_39 w.params) mg base 4 (.ref 422) (pos (spBent (hd04.heap_39 w.params))) := by
  obtain ⟨fd, F⟩ := fn__law_bent_step w
  refine def_pos F sc__law_bent_step (fun vs H Q E h => ?_) (fun _ _ _ _ _ _ us hl => match us, hl with | [_, _], _ => rfl) (fun cdv A outer s H vs Q E hr hg h => ?_)
  · obtain ⟨p, c, m, k, rfl, _⟩ := h; rfl
  have nd := sc__law_bent_step.nd
  obtain ⟨p, c, m, k, rfl, P, hm, q⟩ := h
  refine ⟨_, (pss_cons (ps_set (i := 2) nd rfl (.inl rfl) (pe_cl (takes_of rfl rfl rfl rfl) (ok__law_good_step M) (hr.mono (by decide)) hg rfl (mg__law_good_step M) (kp__law_good_step w) (pa_cons (pv 0) (pa_cons (pv 1) pa_nil))))
      (pss_cons (ps_set (i := 3) nd rfl (.inl rfl) (pe_cl (takes_of rfl rfl rfl rfl) (ok_drawP M) (hr.mono (by decide)) hg rfl (mg__law_draw M) (kp__law_draw w) (pa_cons (pv 0) (pa_cons pe_int pa_nil))))
      (pss_cons (ps_if (pt_cmpR op_eq (pv 3) pe_int (nomark _)) (pss_one (ps_ret (pe_callTy call_list_of (by rfl) (mn_list M) (by decide +kernel) (pa_cons (pv 2) pa_nil)))) pss_nil)
      (pss_cons (ps_if (pt_cmpR op_eq (pv 3) pe_int (nomark _)) (pss_one (ps_ret (pe_op op_catT (pv 2) (pe_tup (pa_cons pe_int pa_nil))))) pss_nil)
      (pss_cons (ps_if (pt_cmpR op_eq (pv 3) pe_int (nomark _)) (pss_one (ps_ret (pe_slice sl_tup (pv 2) po_none (po_some (pe_op op_sub (pe_callB call_len_seq (by rfl) (mn_len M) (by decide +kernel) (pa_cons (pv 2) pa_nil)) pe_int))))) pss_nil)
      (pss_cons (ps_if (pt_cmpR op_eq (pv 3) pe_int (nomark _)) (pss_cons (ps_set (i := 4) nd rfl (.inl rfl) (pe_lst (pa_cons (pe_tup pa_nil) (pa_cons pe_non (pa_cons pe_str (pa_cons (pe_tup (pa_cons pe_str pa_nil)) (pa_cons pe_int (pa_cons (pe_tup (pa_cons pe_str (pa_cons pe_str pa_nil))) (pa_cons (pe_tup (pa_cons pe_str (pa_cons pe_str (pa_cons pe_int (pa_cons pe_int (pa_cons pe_int pa_nil)))))) (pa_cons (pe_tup (pa_cons pe_bl (pa_cons pe_str pa_nil))) pa_nil))))))))))
      (pss_one (ps_ret (pe_ix ix_list (pv 4) (pe_cl (takes_of rfl rfl rfl rfl) (ok_drawP M) (hr.mono (by decide)) hg rfl (mg__law_draw M) (kp__law_draw w) (pa_cons (pv 0) (pa_cons pe_int pa_nil))) (fun _ _ => rfl))))) pss_nil)
      (pss_cons (ps_if (pt_cmpR op_eq (pv 3) pe_int (nomark _)) (pss_one (ps_ret (pe_op op_catTa (pe_tup (pa_cons (pe_ix ix_list (pe_lst (pa_cons pe_str (pa_cons pe_str (pa_cons pe_str (pa_cons pe_str (pa_cons pe_str (pa_cons pe_str (pa_cons pe_str (pa_cons pe_str pa_nil))))))))) (pe_cl (takes_of rfl rfl rfl rfl) (ok_drawP M) (hr.mono (by decide)) hg rfl (mg__law_draw M) (kp__law_draw w) (pa_cons (pv 0) (pa_cons pe_int pa_nil))) (fun _ _ => rfl)) pa_nil)) (pe_slice sl_tup (pv 2) (po_some pe_int) po_none)))) pss_nil)
      (pss_cons (ps_set (i := 5) nd rfl (.inl rfl) (pe_cl (takes_of rfl rfl rfl rfl) (ok_drawP M) (hr.mono (by decide)) hg rfl (mg__law_draw M) (kp__law_draw w) (pa_cons (pv 0) (pa_cons (pe_callB call_len_seq (by rfl) (mn_len M) (by decide +kernel) (pa_cons (pv 2) pa_nil)) pa_nil))))
      (pss_one (ps_ret (pe_op op_catTa (pe_op op_catTa (pe_slice sl_tup (pv 2) po_none (po_some (pv 5))) (pe_tup (pa_cons (pe_cl (takes_of rfl rfl rfl rfl) (ok__law_thing M) (hr.mono (by decide)) hg rfl (mg__law_thing M) (kp__law_thing w) (pa_cons (pv 0) pa_nil)) pa_nil))) (pe_slice sl_tup (pv 2) (po_some (pe_op op_add (pv 5) pe_int)) po_none)))))))))))), ?_⟩
  refine ⟨_, rfl, _, rfl, rfl, p, c, m, k, rfl, P, by omega, fun t xs H1 hf h2 h5 nt ht s1 P1 => ?_⟩
  refine ⟨_, rfl, rfl, p, c, m + 5, 6, rfl, P1, by omega, by decide, by decide, fun a H2 a0 a6 s2 P2 => ?_⟩
  have hta : H2 t = some (.tup xs) := Uk.Off.at (s2 _ _ (Uk.Off.of ht (P.ne nt)))
  have sA : Same (Off p H) (Off p H2) := same_trans s1 s2
  have tup : ∀ (z : Addr) (H3 : Hp) (ys : List V), FlatS ys → ys.length ≤ 1000 → H3 z = some (.tup ys) → H z = none → Same (Off p H) (Off p H3) → Pen H3 p c (m + 9) → Q (.ref z) H3 := fun z H3 ys fl hl e nz s P3 =>
    q _ (.tuple (ys.map flD)) H3 (.tup (SqT.of (Nw.of nz e)) (flat_dq fl)) ⟨by rw [List.length_map]; exact hl, flat_small fl⟩ s P3
  refine ⟨_, rfl, rfl, _, rfl, ite_b (fun e => ?_) (fun e => ?_)⟩
  · refine ⟨_, rfl, t, xs, rfl, .inr (SqT.of hta), fun z hz => ?_⟩
    refine q _ (.list (xs.map flD)) _ (.lst (Nw.of (old_none sA P2 hz) upd_same) (flat_dq hf)) ?_ (same_trans sA (Uk.Off.new hz)) ((P2.new hz).mono (by omega))
    show (xs.map flD).length ≤ 1000
    rw [List.length_map]
    omega
  refine ⟨_, rfl, rfl, _, rfl, ite_b (fun e => ?_) (fun e => ?_)⟩
  · refine ⟨_, rfl, Nat.le_of_ble_eq_true rfl, fun z hz => ?_⟩
    refine ⟨t, z, xs, _, rfl, rfl, SqT.of (at_new hz hta), SqT.of upd_same, fun e => by rw [e] at h2; exact absurd h2 (by decide), by rw [sizeLine_eq]; simp; omega, (fun e => nomatch e), fun _ y hy => ?_⟩
    refine tup y _ _ (flat_app hf (fun v hv => by simp only [List.mem_cons, List.not_mem_nil, or_false] at hv; exact .inl ⟨_, hv⟩)) (by simp; omega) upd_same (old_none (same_trans sA (Uk.Off.new hz)) (P2.new hz) hy) (same_trans sA (same_trans (Uk.Off.new hz) (Uk.Off.new hy))) (((P2.new hz).new hy).mono (by omega))
  refine ⟨_, rfl, rfl, _, rfl, ite_b (fun e => ?_) (fun e => ?_)⟩
  · have ew : ((xs.length : Int) - 1) = ((xs.length - 1 : Nat) : Int) := by omega
    refine ⟨_, rfl, _, rfl, t, xs, rfl, .inr (SqT.of hta), _, _, rfl, rfl, _, rfl, t, xs, rfl, SqT.of hta, ?_, fun z hz => ?_⟩
    · show ¬ (_ ∧ HT.sIx xs.length xs.length (some ((xs.length : Int) - 1)) = xs.length)
      rw [ew, HT.sIx_nat]
      omega
    · exact tup z _ _ (flat_cut hf _ _) (Nat.le_trans (cutV_length _ _ _) (by omega)) upd_same (old_none sA P2 hz) (same_trans sA (Uk.Off.new hz)) ((P2.new hz).mono (by omega))
  refine ⟨_, rfl, rfl, _, rfl, ite_b (fun e => ?_) (fun e => ?_)⟩
  · refine ⟨Nat.le_of_ble_eq_true rfl, fun t1 g1 => ⟨Nat.le_of_ble_eq_true rfl, fun t2 g2 => ⟨Nat.le_of_ble_eq_true rfl, fun t3 g3 => ⟨Nat.le_of_ble_eq_true rfl, fun t4 g4 => ⟨Nat.le_of_ble_eq_true rfl, fun t5 g5 => ⟨Nat.le_of_ble_eq_true rfl, fun z hz => ?_⟩⟩⟩⟩⟩⟩
    refine ⟨_, rfl, _, rfl, rfl, p, c, m + 5 + 1, 8, rfl, (((((P2.new g1).new g2).new g3).new g4).new g5).new hz, by omega, by decide, by decide, fun a3 H3 a30 a31 s3 P3 => ?_⟩
    have n1 : H t1 = none := by
      have h := g1
      repeat (replace h := upd_none h)
      exact old_none sA P2 h
    have f1 : Nw H H3 t1 = some (.tup []) := Nw.of n1 (Uk.Off.at (s3 _ _ (Uk.Off.of (by wtm_at "at") (P.ne n1))))
    have n2 : H t2 = none := by
      have h := g2
      repeat (replace h := upd_none h)
      exact old_none sA P2 h
    have f2 : Nw H H3 t2 = some (.tup [.str "read"]) := Nw.of n2 (Uk.Off.at (s3 _ _ (Uk.Off.of (by wtm_at "at") (P.ne n2))))
    have n3 : H t3 = none := by
      have h := g3
      repeat (replace h := upd_none h)
      exact old_none sA P2 h
    have f3 : Nw H H3 t3 = some (.tup [.str "flush", .str "buf"]) := Nw.of n3 (Uk.Off.at (s3 _ _ (Uk.Off.of (by wtm_at "at") (P.ne n3))))
    have n4 : H t4 = none := by
      have h := g4
      repeat (replace h := upd_none h)
      exact old_none sA P2 h
    have f4 : Nw H H3 t4 = some (.tup [.str "post", .str "buf", .int 0, .int 0, .int 0]) := Nw.of n4 (Uk.Off.at (s3 _ _ (Uk.Off.of (by wtm_at "at") (P.ne n4))))
    have n5 : H t5 = none := by
      have h := g5
      repeat (replace h := upd_none h)
      exact old_none sA P2 h
    have f5 : Nw H H3 t5 = some (.tup [.bl true, .str "buf"]) := Nw.of n5 (Uk.Off.at (s3 _ _ (Uk.Off.of (by wtm_at "at") (P.ne n5))))
    have all : DqAll (hd04.heap_39 w.params) (Nw H H3) [V.ref t1, V.non, V.str "read", V.ref t2, V.int 7, V.ref t3, V.ref t4, V.ref t5] bentData := .cons (.tup (SqT.of f1) .nil) (.cons .non (.cons (.str _) (.cons (.tup (SqT.of f2) (.cons (.str _) .nil)) (.cons (.int _) (.cons (.tup (SqT.of f3) (.cons (.str _) (.cons (.str _) .nil))) (.cons (.tup (SqT.of f4) (.cons (.str _) (.cons (.str _) (.cons (.int _) (.cons (.int _) (.cons (.int _) .nil)))))) (.cons (.tup (SqT.of f5) (.cons (.bl _) (.cons (.str _) .nil))) .nil)))))))
    obtain ⟨v, hv, hmv⟩ := atI_mem (xs := [V.ref t1, V.non, V.str "read", V.ref t2, V.int 7, V.ref t3, V.ref t4, V.ref t5]) a30 a31
    have nz : H z = none := by
      have h := hz
      repeat (replace h := upd_none h)
      exact old_none sA P2 h
    obtain ⟨d, md, qd⟩ := dqAll_mem all hmv
    refine ⟨z, _, a3, v, rfl, rfl, SqL.of (Uk.Off.at (s3 _ _ (Uk.Off.of upd_same (P.ne nz)))), hv, ?_⟩
    exact q v d H3 qd (bent_small md) (same_trans sA (same_trans (Uk.Off.same (by wtm_at "same")) s3)) (P3.mono (by omega))
  refine ⟨_, rfl, rfl, _, rfl, ite_b (fun e => ?_) (fun e => ?_)⟩
  · refine ⟨Nat.le_of_ble_eq_true rfl, fun z hz => ⟨_, rfl, rfl, p, c, m + 5 + 1, 8, rfl, P2.new hz, by omega, by decide, by decide, fun a3 H3 a30 a31 s3 P3 => ?_⟩⟩
    obtain ⟨v, hv, hmv⟩ := atI_mem (xs := [V.str "clean", V.str "drop", V.str "flush", V.str "get", V.str "put", V.str "Read", V.str "writes", V.str ""]) a30 a31
    have hfl : FlatS [v] := fun u hu => by
      rw [List.mem_singleton.mp hu]
      simp only [List.mem_cons, List.not_mem_nil, or_false] at hmv
      rcases hmv with rfl | rfl | rfl | rfl | rfl | rfl | rfl | rfl <;> exact .inr ⟨_, rfl, by decide⟩
    have nz := old_none sA P2 hz
    have sB : Same (Off p H) (Off p H3) := same_trans sA (same_trans (Uk.Off.new hz) s3)
    have ht3 : H3 t = some (.tup xs) := Uk.Off.at (s3 _ _ (Uk.Off.of (at_new hz hta) (P.ne nt)))
    refine ⟨z, _, a3, v, rfl, rfl, SqL.of (Uk.Off.at (s3 _ _ (Uk.Off.of upd_same (P.ne nz)))), hv, Nat.le_of_ble_eq_true rfl, fun t1 h1 => ?_⟩
    refine ⟨_, rfl, 1, rfl, t, xs, rfl, SqT.of (at_new h1 ht3), ?_, fun t2 h2' => ?_⟩
    · show ¬ (HT.sIx xs.length 0 (some ((1 : Nat) : Int)) = 0 ∧ _)
      rw [HT.sIx_nat]
      omega
    · refine cat_any (at_new h2' upd_same) upd_same (by rw [sizeLine_eq]; have := cutV_length xs (some 1) none; show 1 + _ ≤ _; omega) fun y H' e s hy hp => ?_
      have n1 := old_none sB P3 h1
      have n2 := old_none sB P3 (upd_none h2')
      refine tup y H' _ (flat_app hfl (flat_cut hf _ _)) (by rw [List.length_append]; have := cutV_length xs (some 1) none; show 1 + _ ≤ _; omega) e ?_ (same_trans sB (same_trans (Uk.Off.new h1) (same_trans (Uk.Off.new h2') (Uk.Off.same s)))) ((hp _ _ _ ((P3.new h1).new h2')).mono (by omega))
      rcases hy with rfl | rfl | h
      · exact n1
      · exact n2
      · exact old_none sB P3 (upd_none (upd_none h))
  · refine ⟨_, rfl, _, rfl, t, xs, rfl, .inr (SqT.of hta), rfl, p, c, m + 5 + 1, xs.length, rfl, P2, by omega, by omega, by omega, fun a3 H3 a30 a31 s3 P3 => ?_⟩
    have sB : Same (Off p H) (Off p H3) := same_trans sA s3
    have ht3 : H3 t = some (.tup xs) := Uk.Off.at (s3 _ _ (Uk.Off.of hta (P.ne nt)))
    refine ⟨_, rfl, _, rfl, a3, rfl, t, xs, rfl, SqT.of ht3, ?_, fun t1 h1 => ?_⟩
    · show ¬ (_ ∧ HT.sIx xs.length xs.length (some a3) = xs.length)
      rw [show a3 = ((a3.toNat : Nat) : Int) by omega, HT.sIx_nat]
      omega
    have n1 := old_none sB P3 h1
    refine ⟨_, rfl, rfl, p, c, m + 5 + 1 + 1, rfl, P3.new h1, by omega, fun v H4 tg s4 P4 => ?_⟩
    obtain ⟨d, md, qd⟩ := tg
    have sC : Same (Off p H) (Off p H4) := same_trans sB (same_trans (Uk.Off.new h1) s4)
    have qd := dq_mono (nw_old (same_trans sB (Uk.Off.new h1)) (P3.new h1)) qd
    have e1 : H4 t1 = some (.tup (cutV xs none (some a3))) := Uk.Off.at (s4 _ _ (Uk.Off.of upd_same (P.ne n1)))
    have ht4 : H4 t = some (.tup xs) := Uk.Off.at (s4 _ _ (Uk.Off.of (at_new h1 ht3) (P.ne nt)))
    have c1 := cutV_length xs none (some a3)
    have c2 := cutV_length xs (some (a3 + 1)) none
    refine ⟨Nat.le_of_ble_eq_true rfl, fun t2 h2' => ?_⟩
    have n2 := old_none sC P4 h2'
    refine cat_any (at_new h2' e1) upd_same (by rw [sizeLine_eq]; show _ + 1 ≤ _; omega) fun y H5 e s hy hp => ?_
    have P5 := hp _ _ _ (P4.new h2')
    have sD : Same (Off p H) (Off p H5) := same_trans sC (same_trans (Uk.Off.new h2') (Uk.Off.same s))
    have ny : H y = none := by
      rcases hy with rfl | rfl | h
      · exact n1
      · exact n2
      · exact old_none sC P4 (upd_none h)
    refine ⟨_, rfl, _, rfl, _, _, rfl, rfl, a3 + 1, rfl, t, xs, rfl, SqT.of (s _ _ (at_new h2' ht4)), ?_, fun t3 h3 => ?_⟩
    · show ¬ (HT.sIx xs.length 0 (some (a3 + 1)) = 0 ∧ _)
      rw [show a3 + 1 = ((a3.toNat + 1 : Nat) : Int) by omega, HT.sIx_nat]
      omega
    refine cat_any (at_new h3 e) upd_same (by rw [sizeLine_eq, List.length_append]; show _ + 1 + _ ≤ _; omega) fun y2 H6 e6 s6 hy2 hp2 => ?_
    have P6 := hp2 _ _ _ (P5.new h3)
    have n3 : H y2 = none := by
      rcases hy2 with rfl | rfl | h
      · exact ny
      · exact old_none sD P5 h3
      · exact old_none sD P5 (upd_none h)
    refine q (.ref y2) (.tuple ((cutV xs none (some a3)).map flD ++ [d] ++ (cutV xs (some (a3 + 1)) none).map flD)) H6 (.tup (SqT.of (Nw.of n3 e6)) (dqAll_app (dqAll_app (flat_dq (flat_cut hf _ _)) (.cons (dq_mono (nw_mono (same_trans (same_trans (same_new h2') s) (same_trans (same_new h3) s6))) qd) .nil)) (flat_dq (flat_cut hf _ _)))) ⟨?_, ?_⟩ (same_trans sD (same_trans (Uk.Off.new h3) (Uk.Off.same s6))) (P6.mono (by omega))
    · rw [List.length_append, List.length_append, List.length_map, List.length_map]
      show _ + 1 + _ ≤ 1000
      omega
    · intro d2 hd2
      rcases List.mem_append.mp hd2 with h | h
      · rcases List.mem_append.mp h with h | h
        · exact flat_small (flat_cut hf _ _) d2 h
        · rw [List.mem_singleton.mp h]
          exact thing_small md
      · exact flat_small (flat_cut hf _ _) d2 h
end
end M04

namespace M04
open PySem PySem.Spec PyProof.Rows L2 StX Uk

local macro_rules | `(tactic| wtm_at "off0") => `(tactic| first | with_reducible assumption | (with_reducible apply Off.mk; wtm_at "pen"; assumption))
local macro_rules | `(tactic| wtm_at "at0") => `(tactic| first | with_reducible assumption | with_reducible exact upd_same | (with_reducible apply Off.at; wtm_at "off0"))
local macro_rules | `(tactic| wtm_at "off1") => `(tactic| first | with_reducible assumption | (with_reducible apply Off.mk; wtm_at "pen"; assumption) | (with_reducible refine Off.new (by assumption) _ _ ?_; wtm_at "off0") | (with_reducible refine at_same (by with_reducible assumption) ?_; wtm_at "off0"))
local macro_rules | `(tactic| wtm_at "at1") => `(tactic| first | with_reducible assumption | with_reducible exact upd_same | (with_reducible refine at_new (by assumption) ?_; wtm_at "at0") | (with_reducible refine at_same (by with_reducible assumption) ?_; wtm_at "at0") | (with_reducible apply Off.at; wtm_at "off1"))
local macro_rules | `(tactic| wtm_at "off2") => `(tactic| first | with_reducible assumption | (with_reducible apply Off.mk; wtm_at "pen"; assumption) | (with_reducible refine Off.new (by assumption) _ _ ?_; wtm_at "off1") | (with_reducible refine at_same (by with_reducible assumption) ?_; wtm_at "off1"))
local macro_rules | `(tactic| wtm_at "at2") => `(tactic| first | with_reducible assumption | with_reducible exact upd_same | (with_reducible refine at_new (by assumption) ?_; wtm_at "at1") | (with_reducible refine at_same (by with_reducible assumption) ?_; wtm_at "at1") | (with_reducible apply Off.at; wtm_at "off2"))
local macro_rules | `(tactic| wtm_at "off3") => `(tactic| first | with_reducible assumption | (with_reducible apply Off.mk; wtm_at "pen"; assumption) | (with_reducible refine Off.new (by assumption) _ _ ?_; wtm_at "off2") | (with_reducible refine at_same (by with_reducible assumption) ?_; wtm_at "off2"))
local macro_rules | `(tactic| wtm_at "at3") => `(tactic| first | with_reducible assumption | with_reducible exact upd_same | (with_reducible refine at_new (by assumption) ?_; wtm_at "at2") | (with_reducible refine at_same (by with_reducible assumption) ?_; wtm_at "at2") | (with_reducible apply Off.at; wtm_at "off3"))
local macro_rules | `(tactic| wtm_at "off4") => `(tactic| first | with_reducible assumption | (with_reducible apply Off.mk; wtm_at "pen"; assumption) | (with_reducible refine Off.new (by assumption) _ _ ?_; wtm_at "off3") | (with_reducible refine at_same (by with_reducible assumption) ?_; wtm_at "off3"))
local macro_rules | `(tactic| wtm_at "at4") => `(tactic| first | with_reducible assumption | with_reducible exact upd_same | (with_reducible refine at_new (by assumption) ?_; wtm_at "at3") | (with_reducible refine at_same (by with_reducible assumption) ?_; wtm_at "at3") | (with_reducible apply Off.at; wtm_at "off4"))
local macro_rules | `(tactic| wtm_at "off5") => `(tactic| first | with_reducible assumption | (with_reducible apply Off.mk; wtm_at "pen"; assumption) | (with_reducible refine Off.new (by assumption) _ _ ?_; wtm_at "off4") | (with_reducible refine at_same (by with_reducible assumption) ?_; wtm_at "off4"))
local macro_rules | `(tactic| wtm_at "at5") => `(tactic| first | with_reducible assumption | with_reducible exact upd_same | (with_reducible refine at_new (by assumption) ?_; wtm_at "at4") | (with_reducible refine at_same (by with_reducible assumption) ?_; wtm_at "at4") | (with_reducible apply Off.at; wtm_at "off5"))
local macro_rules | `(tactic| wtm_at "off6") => `(tactic| first | with_reducible assumption | (with_reducible apply Off.mk; wtm_at "pen"; assumption) | (with_reducible refine Off.new (by assumption) _ _ ?_; wtm_at "off5") | (with_reducible refine at_same (by with_reducible assumption) ?_; wtm_at "off5"))
local macro_rules | `(tactic| wtm_at "at6") => `(tactic| first | with_reducible assumption | with_reducible exact upd_same | (with_reducible refine at_new (by assumption) ?_; wtm_at "at5") | (with_reducible refine at_same (by with_reducible assumption) ?_; wtm_at "at5") | (with_reducible apply Off.at; wtm_at "off6"))
local macro_rules | `(tactic| wtm_at "off7") => `(tactic| first | with_reducible assumption | (with_reducible apply Off.mk; wtm_at "pen"; assumption) | (with_reducible refine Off.new (by assumption) _ _ ?_; wtm_at "off6") | (with_reducible refine at_same (by with_reducible assumption) ?_; wtm_at "off6"))
local macro_rules | `(tactic| wtm_at "at7") => `(tactic| first | with_reducible assumption | with_reducible exact upd_same | (with_reducible refine at_new (by assumption) ?_; wtm_at "at6") | (with_reducible refine at_same (by with_reducible assumption) ?_; wtm_at "at6") | (with_reducible apply Off.at; wtm_at "off7"))
local macro_rules | `(tactic| wtm_at "off8") => `(tactic| first | with_reducible assumption | (with_reducible apply Off.mk; wtm_at "pen"; assumption) | (with_reducible refine Off.new (by assumption) _ _ ?_; wtm_at "off7") | (with_reducible refine at_same (by with_reducible assumption) ?_; wtm_at "off7"))
local macro_rules | `(tactic| wtm_at "at8") => `(tactic| first | with_reducible assumption | with_reducible exact upd_same | (with_reducible refine at_new (by assumption) ?_; wtm_at "at7") | (with_reducible refine at_same (by with_reducible assumption) ?_; wtm_at "at7") | (with_reducible apply Off.at; wtm_at "off8"))
local macro_rules | `(tactic| wtm_at "off9") => `(tactic| first | with_reducible assumption | (with_reducible apply Off.mk; wtm_at "pen"; assumption) | (with_reducible refine Off.new (by assumption) _ _ ?_; wtm_at "off8") | (with_reducible refine at_same (by with_reducible assumption) ?_; wtm_at "off8"))
local macro_rules | `(tactic| wtm_at "at9") => `(tactic| first | with_reducible assumption | with_reducible exact upd_same | (with_reducible refine at_new (by assumption) ?_; wtm_at "at8") | (with_reducible refine at_same (by with_reducible assumption) ?_; wtm_at "at8") | (with_reducible apply Off.at; wtm_at "off9"))
local macro_rules | `(tactic| wtm_at "off10") => `(tactic| first | with_reducible assumption | (with_reducible apply Off.mk; wtm_at "pen"; assumption) | (with_reducible refine Off.new (by assumption) _ _ ?_; wtm_at "off9") | (with_reducible refine at_same (by with_reducible assumption) ?_; wtm_at "off9"))
local macro_rules | `(tactic| wtm_at "at10") => `(tactic| first | with_reducible assumption | with_reducible exact upd_same | (with_reducible refine at_new (by assumption) ?_; wtm_at "at9") | (with_reducible refine at_same (by with_reducible assumption) ?_; wtm_at "at9") | (with_reducible apply Off.at; wtm_at "off10"))
local macro_rules | `(tactic| wtm_at "off11") => `(tactic| first | with_reducible assumption | (with_reducible apply Off.mk; wtm_at "pen"; assumption) | (with_reducible refine Off.new (by assumption) _ _ ?_; wtm_at "off10") | (with_reducible refine at_same (by with_reducible assumption) ?_; wtm_at "off10"))
local macro_rules | `(tactic| wtm_at "at11") => `(tactic| first | with_reducible assumption | with_reducible exact upd_same | (with_reducible refine at_new (by assumption) ?_; wtm_at "at10") | (with_reducible refine at_same (by with_reducible assumption) ?_; wtm_at "at10") | (with_reducible apply Off.at; wtm_at "off11"))
local macro_rules | `(tactic| wtm_at "off12") => `(tactic| first | with_reducible assumption | (with_reducible apply Off.mk; wtm_at "pen"; assumption) | (with_reducible refine Off.new (by assumption) _ _ ?_; wtm_at "off11") | (with_reducible refine at_same (by with_reducible assumption) ?_; wtm_at "off11"))
local macro_rules | `(tactic| wtm_at "at12") => `(tactic| first | with_reducible assumption | with_reducible exact upd_same | (with_reducible refine at_new (by assumption) ?_; wtm_at "at11") | (with_reducible refine at_same (by with_reducible assumption) ?_; wtm_at "at11") | (with_reducible apply Off.at; wtm_at "off12"))
local macro_rules | `(tactic| wtm_at "off13") => `(tactic| first | with_reducible assumption | (with_reducible apply Off.mk; wtm_at "pen"; assumption) | (with_reducible refine Off.new (by assumption) _ _ ?_; wtm_at "off12") | (with_reducible refine at_same (by with_reducible assumption) ?_; wtm_at "off12"))
local macro_rules | `(tactic| wtm_at "at13") => `(tactic| first | with_reducible assumption | with_reducible exact upd_same | (with_reducible refine at_new (by assumption) ?_; wtm_at "at12") | (with_reducible refine at_same (by with_reducible assumption) ?_; wtm_at "at12") | (with_reducible apply Off.at; wtm_at "off13"))
local macro_rules | `(tactic| wtm_at "off14") => `(tactic| first | with_reducible assumption | (with_reducible apply Off.mk; wtm_at "pen"; assumption) | (with_reducible refine Off.new (by assumption) _ _ ?_; wtm_at "off13") | (with_reducible refine at_same (by with_reducible assumption) ?_; wtm_at "off13"))
local macro_rules | `(tactic| wtm_at "at14") => `(tactic| first | with_reducible assumption | with_reducible exact upd_same | (with_reducible refine at_new (by assumption) ?_; wtm_at "at13") | (with_reducible refine at_same (by with_reducible assumption) ?_; wtm_at "at13") | (with_reducible apply Off.at; wtm_at "off14"))
local macro_rules | `(tactic| wtm_at "off15") => `(tactic| first | with_reducible assumption | (with_reducible apply Off.mk; wtm_at "pen"; assumption) | (with_reducible refine Off.new (by assumption) _ _ ?_; wtm_at "off14") | (with_reducible refine at_same (by with_reducible assumption) ?_; wtm_at "off14"))
local macro_rules | `(tactic| wtm_at "at15") => `(tactic| first | with_reducible assumption | with_reducible exact upd_same | (with_reducible refine at_new (by assumption) ?_; wtm_at "at14") | (with_reducible refine at_same (by with_reducible assumption) ?_; wtm_at "at14") | (with_reducible apply Off.at; wtm_at "off15"))
local macro_rules | `(tactic| wtm_at "off16") => `(tactic| first | with_reducible assumption | (with_reducible apply Off.mk; wtm_at "pen"; assumption) | (with_reducible refine Off.new (by assumption) _ _ ?_; wtm_at "off15") | (with_reducible refine at_same (by with_reducible assumption) ?_; wtm_at "off15"))
local macro_rules | `(tactic| wtm_at "at16") => `(tactic| first | with_reducible assumption | with_reducible exact upd_same | (with_reducible refine at_new (by assumption) ?_; wtm_at "at15") | (with_reducible refine at_same (by with_reducible assumption) ?_; wtm_at "at15") | (with_reducible apply Off.at; wtm_at "off16"))
local macro_rules | `(tactic| wtm_at "off17") => `(tactic| first | with_reducible assumption | (with_reducible apply Off.mk; wtm_at "pen"; assumption) | (with_reducible refine Off.new (by assumption) _ _ ?_; wtm_at "off16") | (with_reducible refine at_same (by with_reducible assumption) ?_; wtm_at "off16"))
local macro_rules | `(tactic| wtm_at "at17") => `(tactic| first | with_reducible assumption | with_reducible exact upd_same | (with_reducible refine at_new (by assumption) ?_; wtm_at "at16") | (with_reducible refine at_same (by with_reducible assumption) ?_; wtm_at "at16") | (with_reducible apply Off.at; wtm_at "off17"))
local macro_rules | `(tactic| wtm_at "off18") => `(tactic| first | with_reducible assumption | (with_reducible apply Off.mk; wtm_at "pen"; assumption) | (with_reducible refine Off.new (by assumption) _ _ ?_; wtm_at "off17") | (with_reducible refine at_same (by with_reducible assumption) ?_; wtm_at "off17"))
local macro_rules | `(tactic| wtm_at "at18") => `(tactic| first | with_reducible assumption | with_reducible exact upd_same | (with_reducible refine at_new (by assumption) ?_; wtm_at "at17") | (with_reducible refine at_same (by with_reducible assumption) ?_; wtm_at "at17") | (with_reducible apply Off.at; wtm_at "off18"))
local macro_rules | `(tactic| wtm_at "off19") => `(tactic| first | with_reducible assumption | (with_reducible apply Off.mk; wtm_at "pen"; assumption) | (with_reducible refine Off.new (by assumption) _ _ ?_; wtm_at "off18") | (with_reducible refine at_same (by with_reducible assumption) ?_; wtm_at "off18"))
local macro_rules | `(tactic| wtm_at "at19") => `(tactic| first | with_reducible assumption | with_reducible exact upd_same | (with_reducible refine at_new (by assumption) ?_; wtm_at "at18") | (with_reducible refine at_same (by with_reducible assumption) ?_; wtm_at "at18") | (with_reducible apply Off.at; wtm_at "off19"))
local macro_rules | `(tactic| wtm_at "off20") => `(tactic| first | with_reducible assumption | (with_reducible apply Off.mk; wtm_at "pen"; assumption) | (with_reducible refine Off.new (by assumption) _ _ ?_; wtm_at "off19") | (with_reducible refine at_same (by with_reducible assumption) ?_; wtm_at "off19"))
local macro_rules | `(tactic| wtm_at "at20") => `(tactic| first | with_reducible assumption | with_reducible exact upd_same | (with_reducible refine at_new (by assumption) ?_; wtm_at "at19") | (with_reducible refine at_same (by with_reducible assumption) ?_; wtm_at "at19") | (with_reducible apply Off.at; wtm_at "off20"))
local macro_rules | `(tactic| wtm_at "off21") => `(tactic| first | with_reducible assumption | (with_reducible apply Off.mk; wtm_at "pen"; assumption) | (with_reducible refine Off.new (by assumption) _ _ ?_; wtm_at "off20") | (with_reducible refine at_same (by with_reducible assumption) ?_; wtm_at "off20"))
local macro_rules | `(tactic| wtm_at "at21") => `(tactic| first | with_reducible assumption | with_reducible exact upd_same | (with_reducible refine at_new (by assumption) ?_; wtm_at "at20") | (with_reducible refine at_same (by with_reducible assumption) ?_; wtm_at "at20") | (with_reducible apply Off.at; wtm_at "off21"))
local macro_rules | `(tactic| wtm_at "off22") => `(tactic| first | with_reducible assumption | (with_reducible apply Off.mk; wtm_at "pen"; assumption) | (with_reducible refine Off.new (by assumption) _ _ ?_; wtm_at "off21") | (with_reducible refine at_same (by with_reducible assumption) ?_; wtm_at "off21"))
local macro_rules | `(tactic| wtm_at "at22") => `(tactic| first | with_reducible assumption | with_reducible exact upd_same | (with_reducible refine at_new (by assumption) ?_; wtm_at "at21") | (with_reducible refine at_same (by with_reducible assumption) ?_; wtm_at "at21") | (with_reducible apply Off.at; wtm_at "off22"))
local macro_rules | `(tactic| wtm_at "off23") => `(tactic| first | with_reducible assumption | (with_reducible apply Off.mk; wtm_at "pen"; assumption) | (with_reducible refine Off.new (by assumption) _ _ ?_; wtm_at "off22") | (with_reducible refine at_same (by with_reducible assumption) ?_; wtm_at "off22"))
local macro_rules | `(tactic| wtm_at "at23") => `(tactic| first | with_reducible assumption | with_reducible exact upd_same | (with_reducible refine at_new (by assumption) ?_; wtm_at "at22") | (with_reducible refine at_same (by with_reducible assumption) ?_; wtm_at "at22") | (with_reducible apply Off.at; wtm_at "off23"))
local macro_rules | `(tactic| wtm_at "off24") => `(tactic| first | with_reducible assumption | (with_reducible apply Off.mk; wtm_at "pen"; assumption) | (with_reducible refine Off.new (by assumption) _ _ ?_; wtm_at "off23") | (with_reducible refine at_same (by with_reducible assumption) ?_; wtm_at "off23"))
local macro_rules | `(tactic| wtm_at "at24") => `(tactic| first | with_reducible assumption | with_reducible exact upd_same | (with_reducible refine at_new (by assumption) ?_; wtm_at "at23") | (with_reducible refine at_same (by with_reducible assumption) ?_; wtm_at "at23") | (with_reducible apply Off.at; wtm_at "off24"))
local macro_rules | `(tactic| wtm_at "off25") => `(tactic| first | with_reducible assumption | (with_reducible apply Off.mk; wtm_at "pen"; assumption) | (with_reducible refine Off.new (by assumption) _ _ ?_; wtm_at "off24") | (with_reducible refine at_same (by with_reducible assumption) ?_; wtm_at "off24"))
local macro_rules | `(tactic| wtm_at "at25") => `(tactic| first | with_reducible assumption | with_reducible exact upd_same | (with_reducible refine at_new (by assumption) ?_; wtm_at "at24") | (with_reducible refine at_same (by with_reducible assumption) ?_; wtm_at "at24") | (with_reducible apply Off.at; wtm_at "off25"))
local macro_rules | `(tactic| wtm_at "off26") => `(tactic| first | with_reducible assumption | (with_reducible apply Off.mk; wtm_at "pen"; assumption) | (with_reducible refine Off.new (by assumption) _ _ ?_; wtm_at "off25") | (with_reducible refine at_same (by with_reducible assumption) ?_; wtm_at "off25"))
local macro_rules | `(tactic| wtm_at "at26") => `(tactic| first | with_reducible assumption | with_reducible exact upd_same | (with_reducible refine at_new (by assumption) ?_; wtm_at "at25") | (with_reducible refine at_same (by with_reducible assumption) ?_; wtm_at "at25") | (with_reducible apply Off.at; wtm_at "off26"))
local macro_rules | `(tactic| wtm_at "off27") => `(tactic| first | with_reducible assumption | (with_reducible apply Off.mk; wtm_at "pen"; assumption) | (with_reducible refine Off.new (by assumption) _ _ ?_; wtm_at "off26") | (with_reducible refine at_same (by with_reducible assumption) ?_; wtm_at "off26"))
local macro_rules | `(tactic| wtm_at "at27") => `(tactic| first | with_reducible assumption | with_reducible exact upd_same | (with_reducible refine at_new (by assumption) ?_; wtm_at "at26") | (with_reducible refine at_same (by with_reducible assumption) ?_; wtm_at "at26") | (with_reducible apply Off.at; wtm_at "off27"))
local macro_rules | `(tactic| wtm_at "off28") => `(tactic| first | with_reducible assumption | (with_reducible apply Off.mk; wtm_at "pen"; assumption) | (with_reducible refine Off.new (by assumption) _ _ ?_; wtm_at "off27") | (with_reducible refine at_same (by with_reducible assumption) ?_; wtm_at "off27"))
local macro_rules | `(tactic| wtm_at "at28") => `(tactic| first | with_reducible assumption | with_reducible exact upd_same | (with_reducible refine at_new (by assumption) ?_; wtm_at "at27") | (with_reducible refine at_same (by with_reducible assumption) ?_; wtm_at "at27") | (with_reducible apply Off.at; wtm_at "off28"))
local macro_rules | `(tactic| wtm_at "off29") => `(tactic| first | with_reducible assumption | (with_reducible apply Off.mk; wtm_at "pen"; assumption) | (with_reducible refine Off.new (by assumption) _ _ ?_; wtm_at "off28") | (with_reducible refine at_same (by with_reducible assumption) ?_; wtm_at "off28"))
local macro_rules | `(tactic| wtm_at "at29") => `(tactic| first | with_reducible assumption | with_reducible exact upd_same | (with_reducible refine at_new (by assumption) ?_; wtm_at "at28") | (with_reducible refine at_same (by with_reducible assumption) ?_; wtm_at "at28") | (with_reducible apply Off.at; wtm_at "off29"))
local macro_rules | `(tactic| wtm_at "off30") => `(tactic| first | with_reducible assumption | (with_reducible apply Off.mk; wtm_at "pen"; assumption) | (with_reducible refine Off.new (by assumption) _ _ ?_; wtm_at "off29") | (with_reducible refine at_same (by with_reducible assumption) ?_; wtm_at "off29"))
local macro_rules | `(tactic| wtm_at "at30") => `(tactic| first | with_reducible assumption | with_reducible exact upd_same | (with_reducible refine at_new (by assumption) ?_; wtm_at "at29") | (with_reducible refine at_same (by with_reducible assumption) ?_; wtm_at "at29") | (with_reducible apply Off.at; wtm_at "off30"))
local macro_rules | `(tactic| wtm_at "off31") => `(tactic| first | with_reducible assumption | (with_reducible apply Off.mk; wtm_at "pen"; assumption) | (with_reducible refine Off.new (by assumption) _ _ ?_; wtm_at "off30") | (with_reducible refine at_same (by with_reducible assumption) ?_; wtm_at "off30"))
local macro_rules | `(tactic| wtm_at "at31") => `(tactic| first | with_reducible assumption | with_reducible exact upd_same | (with_reducible refine at_new (by assumption) ?_; wtm_at "at30") | (with_reducible refine at_same (by with_reducible assumption) ?_; wtm_at "at30") | (with_reducible apply Off.at; wtm_at "off31"))
local macro_rules | `(tactic| wtm_at "off32") => `(tactic| first | with_reducible assumption | (with_reducible apply Off.mk; wtm_at "pen"; assumption) | (with_reducible refine Off.new (by assumption) _ _ ?_; wtm_at "off31") | (with_reducible refine at_same (by with_reducible assumption) ?_; wtm_at "off31"))
local macro_rules | `(tactic| wtm_at "at32") => `(tactic| first | with_reducible assumption | with_reducible exact upd_same | (with_reducible refine at_new (by assumption) ?_; wtm_at "at31") | (with_reducible refine at_same (by with_reducible assumption) ?_; wtm_at "at31") | (with_reducible apply Off.at; wtm_at "off32"))
local macro_rules | `(tactic| wtm_at "off33") => `(tactic| first | with_reducible assumption | (with_reducible apply Off.mk; wtm_at "pen"; assumption) | (with_reducible refine Off.new (by assumption) _ _ ?_; wtm_at "off32") | (with_reducible refine at_same (by with_reducible assumption) ?_; wtm_at "off32"))
local macro_rules | `(tactic| wtm_at "at33") => `(tactic| first | with_reducible assumption | with_reducible exact upd_same | (with_reducible refine at_new (by assumption) ?_; wtm_at "at32") | (with_reducible refine at_same (by with_reducible assumption) ?_; wtm_at "at32") | (with_reducible apply Off.at; wtm_at "off33"))
local macro_rules | `(tactic| wtm_at "off34") => `(tactic| first | with_reducible assumption | (with_reducible apply Off.mk; wtm_at "pen"; assumption) | (with_reducible refine Off.new (by assumption) _ _ ?_; wtm_at "off33") | (with_reducible refine at_same (by with_reducible assumption) ?_; wtm_at "off33"))
local macro_rules | `(tactic| wtm_at "at34") => `(tactic| first | with_reducible assumption | with_reducible exact upd_same | (with_reducible refine at_new (by assumption) ?_; wtm_at "at33") | (with_reducible refine at_same (by with_reducible assumption) ?_; wtm_at "at33") | (with_reducible apply Off.at; wtm_at "off34"))
local macro_rules | `(tactic| wtm_at "off35") => `(tactic| first | with_reducible assumption | (with_reducible apply Off.mk; wtm_at "pen"; assumption) | (with_reducible refine Off.new (by assumption) _ _ ?_; wtm_at "off34") | (with_reducible refine at_same (by with_reducible assumption) ?_; wtm_at "off34"))
local macro_rules | `(tactic| wtm_at "at35") => `(tactic| first | with_reducible assumption | with_reducible exact upd_same | (with_reducible refine at_new (by assumption) ?_; wtm_at "at34") | (with_reducible refine at_same (by with_reducible assumption) ?_; wtm_at "at34") | (with_reducible apply Off.at; wtm_at "off35"))
local macro_rules | `(tactic| wtm_at "off36") => `(tactic| first | with_reducible assumption | (with_reducible apply Off.mk; wtm_at "pen"; assumption) | (with_reducible refine Off.new (by assumption) _ _ ?_; wtm_at "off35") | (with_reducible refine at_same (by with_reducible assumption) ?_; wtm_at "off35"))
local macro_rules | `(tactic| wtm_at "at36") => `(tactic| first | with_reducible assumption | with_reducible exact upd_same | (with_reducible refine at_new (by assumption) ?_; wtm_at "at35") | (with_reducible refine at_same (by with_reducible assumption) ?_; wtm_at "at35") | (with_reducible apply Off.at; wtm_at "off36"))
local macro_rules | `(tactic| wtm_at "off37") => `(tactic| first | with_reducible assumption | (with_reducible apply Off.mk; wtm_at "pen"; assumption) | (with_reducible refine Off.new (by assumption) _ _ ?_; wtm_at "off36") | (with_reducible refine at_same (by with_reducible assumption) ?_; wtm_at "off36"))
local macro_rules | `(tactic| wtm_at "at37") => `(tactic| first | with_reducible assumption | with_reducible exact upd_same | (with_reducible refine at_new (by assumption) ?_; wtm_at "at36") | (with_reducible refine at_same (by with_reducible assumption) ?_; wtm_at "at36") | (with_reducible apply Off.at; wtm_at "off37"))
local macro_rules | `(tactic| wtm_at "off38") => `(tactic| first | with_reducible assumption | (with_reducible apply Off.mk; wtm_at "pen"; assumption) | (with_reducible refine Off.new (by assumption) _ _ ?_; wtm_at "off37") | (with_reducible refine at_same (by with_reducible assumption) ?_; wtm_at "off37"))
local macro_rules | `(tactic| wtm_at "at38") => `(tactic| first | with_reducible assumption | with_reducible exact upd_same | (with_reducible refine at_new (by assumption) ?_; wtm_at "at37") | (with_reducible refine at_same (by with_reducible assumption) ?_; wtm_at "at37") | (with_reducible apply Off.at; wtm_at "off38"))
local macro_rules | `(tactic| wtm_at "off39") => `(tactic| first | with_reducible assumption | (with_reducible apply Off.mk; wtm_at "pen"; assumption) | (with_reducible refine Off.new (by assumption) _ _ ?_; wtm_at "off38") | (with_reducible refine at_same (by with_reducible assumption) ?_; wtm_at "off38"))
local macro_rules | `(tactic| wtm_at "at39") => `(tactic| first | with_reducible assumption | with_reducible exact upd_same | (with_reducible refine at_new (by assumption) ?_; wtm_at "at38") | (with_reducible refine at_same (by with_reducible assumption) ?_; wtm_at "at38") | (with_reducible apply Off.at; wtm_at "off39"))
local macro_rules | `(tactic| wtm_at "at") => `(tactic| wtm_at "at39")
local macro_rules | `(tactic| wtm_at "off") => `(tactic| wtm_at "off39")
local macro_rules | `(tactic| wtm_at "pen") => `(tactic| first
  | assumption | (refine Pen.new (by assumption) ?_; wtm_at "pen") | (refine Pen.same (by assumption) ?_; wtm_at "pen"))
local macro_rules | `(tactic| wtm_at "same") => `(tactic| first
  | exact fun _ _ h => h | assumption | exact same_new (by assumption) | (refine same_trans ?_ (same_new (by assumption)); wtm_at "same") | (refine same_trans ?_ (by assumption); wtm_at "same")
  | (refine same_trans ?_ (Off.new (by assumption)); wtm_at "same") | (refine same_trans ?_ (Off.same (by assumption)); wtm_at "same"))
local macro_rules | `(tactic| wtm_at "dps") => `(tactic| first
  | exact .nil | (apply DpAll.cons; wtm_at "dp"; wtm_at "dps") | exact dpAll_ints _)
local macro_rules | `(tactic| wtm_at "dp") => `(tactic| first
  | exact .non | exact .bl _ | exact .int _ | exact .str _ | (fail) | (apply Dp.lst; (apply SqL.of; wtm_at "at"); wtm_at "dps") | (apply Dp.tup; (apply SqT.of; wtm_at "at"); wtm_at "dps"))
local macro_rules | `(tactic| wtm_at "side") => `(tactic| first
  | exact ⟨by decide, by decide⟩ | exact ⟨by decide, by decide, by decide⟩ | exact .inl ⟨by decide, by decide⟩ | exact .inr ⟨by decide, by decide⟩ | (show ¬ _ = _; decide))
local macro_rules | `(tactic| wtm_at "sml") => `(tactic| first
  | exact sml_none (by decide) | exact sml_bool (by decide) | exact sml_int (by decide) (by omega) | (fail) | exact sml_list (n := 19) (k := 0) (by wtm_at "smls") (by decide) (by decide))
local macro_rules | `(tactic| wtm_at "smls") => `(tactic| first | exact smlAll_nil (m := 0) | (apply smlAll_cons; wtm_at "sml"; wtm_at "smls"))
local macro_rules | `(tactic| wtm_at "shw") => `(tactic| exact Sml.shw (n := 10000) (k := 50) (by wtm_at "sml") (by decide) (by decide))
local macro_rules | `(tactic| wtm_at "rd") => `(tactic| first
  | refine ⟨_, rfl, ?_⟩ | refine ⟨_, _, rfl, rfl, ?_⟩ | refine ifT rfl ?_ | refine ifF rfl ?_ | refine ⟨rfl, ?_⟩
  | refine ⟨_, _, by rfl, by wtm_at "dp", by wtm_at "shw", ?_⟩
  | refine ⟨_, _, _, _, _, rfl, by wtm_at "at", by wtm_at "cls", by wtm_at "na", by rfl, ?_⟩
  | refine ⟨_, _, rfl, .inr (SqT.of (by wtm_at "at")), ?_⟩ | refine ⟨_, _, rfl, .inl (SqL.of (by wtm_at "at")), ?_⟩
  | refine ⟨_, _, rfl, .inr (SqT.of (by wtm_at "at")), by rfl, by rfl, ?_⟩ | refine ⟨_, _, rfl, .inl (SqL.of (by wtm_at "at")), by rfl, by rfl, ?_⟩
  | refine ⟨_, _, _, _, rfl, rfl, SqT.of (by wtm_at "at"), by rfl, ?_⟩ | refine ⟨_, _, _, _, rfl, rfl, SqL.of (by wtm_at "at"), by rfl, ?_⟩
  | refine ⟨_, _, rfl, rfl, by wtm_at "side", ?_⟩
  | refine ⟨_, _, by wtm_at "dp", by wtm_at "dp", by first | rfl | decide +kernel, by first | rfl | decide +kernel, ?_⟩
  | refine ⟨_, _, [_, _], [_, _], rfl, rfl, sqI2 (by wtm_at "at"), sqI2 (by wtm_at "at"), ?_⟩
  | refine ⟨_, _, rfl, ?_⟩
  | refine ⟨Nat.le_of_ble_eq_true rfl, fun _ _ => ?_⟩
  | refine ifF (by decide +kernel) ?_ | refine ifF (nd_refl _) ?_ | refine ifT (de_refl _) ?_)
local macro_rules | `(tactic| wtm_at "cls") => `(tactic| first | exact cls_Agent _)
local macro_rules | `(tactic| wtm_at "na") => `(tactic| first | exact na_Agent_name _ | exact na_Agent_steps _ | exact na_Agent_shape _)

def withOf (C : Addr) : Addr := if C = 288 then 285 else if C = 328 then 325 else 363
def spWithS (K : PySem.W.Frag) (C : Addr) : Sp := fun vs H Q E => ∃ ws rest, vs = ws ++ rest ∧ ws.length = 1 ∧ rest.length ≤ sizeLine ∧ ∀ p, H p = none → spWith K C (ws ++ [.ref p]) (upd H p (.tup rest)) Q E
theorem exm (w : World) : PySem.W.exmOne (hd04.heap_39 w.params) (.ref 46) (.ref 24) = some true := by kernel_rfl
def spMadeL (K : PySem.W.Frag) : Sp := fun vs H Q E => ∃ (k : Int) (v1 : V) (l : Addr) (xs : List V), vs = [.int k, v1, .ref l] ∧ 0 ≤ k ∧ k < 3 ∧ H l = some (.lst xs) ∧ spMkAg K (clsOf k) (v1 :: xs) H Q E
def spDirect (K : PySem.W.Frag) : Sp := fun vs H Q E => ∃ (k : Int) (v1 : V) (l : Addr) (xs : List V), vs = [.int k, v1, .ref l] ∧ 0 ≤ k ∧ k < 3 ∧ H l = some (.lst xs) ∧ (xs.length = 1 ∨ xs.length = 2) ∧ spMkAg K (clsOf k) (v1 :: xs) H Q E
/-- what is found: the agent, or the error -/
def Fd (H : Hp) (C : Addr) (v1 : V) (xs : List V) (v : V) : Option (Str × Option Nat) → Prop
  | none => ∃ x dx p q, v = .ref x ∧ H x = some (agentO C dx p q v1) ∧ H p = some (.tup xs)
  | some r => ∃ e d, v = .ref e ∧ H e = some (exv e (.ref 46) (some d)) ∧ H d = some (.xd (refFs r))
def spAsked (K : PySem.W.Frag) : Sp := fun vs H Q _ => ∃ (k : Int) (v1 : V) (l : Addr) (b : Bool) (d1 : PyData) (xs : List V) (ds : List PyData), vs = [.int k, v1, .ref l, .bl b] ∧ 0 ≤ k ∧ k < 3 ∧ H l = some (.lst xs) ∧ Dq K H v1 d1 ∧ smallD d1 ∧ DqAll K H xs ds ∧ (∀ d ∈ ds, partsSmall d) ∧ ds.length ≤ 1000 ∧ (b = true → xs.length = 1 ∨ xs.length = 2) ∧
  ∀ v H', Same H H' → Fd H' (clsOf k) v1 xs v (wantA (clsOf k) d1 ds) → Q v H'
def spAgain (K : PySem.W.Frag) : Sp := fun vs H Q _ => ∃ (k : Int) (l : Addr) (x0 x1 : V) (ds : List PyData), vs = [.int k, .ref l] ∧ 0 ≤ k ∧ k < 3 ∧ H l = some (.lst [x0, x1]) ∧ DqAll K H [x0, x1] ds ∧ (∀ d ∈ ds, partsSmall d) ∧
  ∀ v H', Same H H' → Fd H' (clsOf k) (.str "good") [x0, x1] v (wantA (clsOf k) (.str "good") ds) → Q v H'
def spNoSteps : Sp := fun vs H Q _ => ∃ (k : Int), vs = [.int k] ∧ 0 ≤ k ∧ k < 3 ∧ ∀ e d H', Same H H' → H' e = some (exv e (.ref 46) (some d)) → H' d = some (.xd (refFs ("steps", none))) → Q (.ref e) H'
def spRight (K : PySem.W.Frag) : Sp := fun vs H Q _ => ∃ (v v1 : V) (k : Int) (l : Addr) (d1 : PyData) (xs : List V) (ds : List PyData), vs = [v, .int k, v1, .ref l] ∧ 0 ≤ k ∧ k < 3 ∧ H l = some (.lst xs) ∧ Dq K H v1 d1 ∧ smallD d1 ∧ DqAll K H xs ds ∧ (∀ d ∈ ds, partsSmall d) ∧ ds.length ≤ 1000 ∧ Fd H (clsOf k) v1 xs v (wantA (clsOf k) d1 ds) ∧ ∀ H', Same H H' → Q (.bl true) H'
theorem good_post (C : Addr) (h : isAg C) (x : Str) (hx : x = "post" ∨ x = "wait") : wantA C (.str "good") [.tuple [.str x, .str "s"]] = none := by
  rcases h with rfl | rfl | rfl <;> rcases hx with rfl | rfl <;> decide +kernel
theorem no_steps (C : Addr) : wantA C (.str "good") [] = some (("steps" : Str), none) := by
  unfold wantA
  rw [if_neg (by decide +kernel), if_pos (by simp)]
section
variable {mg : PySem.Str → Option Value} {base : Heap} {w : World}
theorem with_cls (w : World) (C : Addr) (h : isAg C) : Cls (hd04.heap_39 w.params) C ∧ Meth (hd04.heap_39 w.params) C "with_steps" (withOf C) := by
  rcases h with rfl | rfl | rfl
  · exact ⟨cls_Agent w, me_Agent_with_steps w⟩
  · exact ⟨cls_Through w, me_Through_with_steps w⟩
  · exact ⟨cls_Back w, me_Back_with_steps w⟩
theorem with_ok (M : Mod (hd04.heap_39 w.params) mg base) (C : Addr) (h : isAg C) : CallG PP w (hd04.heap_39 w.params) mg base 10 (.ref (withOf C)) (pos (spWithS (hd04.heap_39 w.params) C)) := by
  rcases h with rfl | rfl | rfl
  · exact ok_Agent_with_steps M
  · exact ok_Through_with_steps M
  · exact ok_Back_with_steps M
theorem ok__law_made (M : Mod (hd04.heap_39 w.params) mg base) : CallG PP w (hd04.heap_39 w.params) mg base 11 (.ref 443) (pos (spMadeL (hd04.heap_39 w.params))) := by
  obtain ⟨fd, F⟩ := fn__law_made w
  refine def_pos F sc__law_made (fun vs H Q E h => ?_) (fun _ _ _ _ _ _ us hl => match us, hl with | [_, _, _], _ => rfl) (fun cdv A outer s H vs Q E hr hg h => ?_)
  · obtain ⟨k, v1, l, xs, rfl, _⟩ := h; rfl
  have nd := sc__law_made.nd
  obtain ⟨k, v1, l, xs, rfl, hk0, hk3, hl, q⟩ := h
  refine ⟨_, (pss_cons (ps_if (pt_cmpR op_eq (pv 0) pe_int (nomark _)) (pss_one (ps_ret (pe_cmGk (ns := ["name", "steps"]) (takes_of rfl rfl rfl rfl) (pe_glob (v := .ref 288) rfl (mg_Agent M) rfl) (crd_Agent w) (cm_Agent_made w) (okk_Agent_made M) (hr.mono (by decide)) hg (pk_cons (pv 1) (pk_cons (pv 2) pk_nil))))) pss_nil)
      (pss_cons (ps_if (pt_cmpR op_eq (pv 0) pe_int (nomark _)) (pss_one (ps_ret (pe_cmGk (ns := ["steps", "name"]) (takes_of rfl rfl rfl rfl) (pe_glob (v := .ref 328) rfl (mg_Through M) rfl) (crd_Through w) (cm_Through_made w) (okk_Through_made M) (hr.mono (by decide)) hg (pk_cons (pv 2) (pk_cons (pv 1) pk_nil))))) pss_nil)
      (pss_one (ps_ret (pe_cmGk (ns := ["name", "steps"]) (takes_of rfl rfl rfl rfl) (pe_glob (v := .ref 366) rfl (mg_Back M) rfl) (crd_Back w) (cm_Back_made w) (okk_Back_made M) (hr.mono (by decide)) hg (pk_cons (pv 1) (pk_cons (pv 2) pk_nil))))))), ?_⟩
  have hk : k = 0 ∨ k = 1 ∨ k = 2 := by omega
  rcases hk with rfl | rfl | rfl
  · refine ⟨_, rfl, rfl, _, rfl, ifT rfl ?_⟩
    exact ⟨rfl, _, rfl, _, rfl, rfl, rfl, rfl, v1, l, xs, rfl, .inr (SqL.of hl), q⟩
  · refine ⟨_, rfl, rfl, _, rfl, ifF rfl ?_⟩
    refine ⟨_, rfl, rfl, _, rfl, ifT rfl ?_⟩
    exact ⟨rfl, _, rfl, _, rfl, rfl, rfl, rfl, v1, l, xs, rfl, .inr (SqL.of hl), q⟩
  · refine ⟨_, rfl, rfl, _, rfl, ifF rfl ?_⟩
    refine ⟨_, rfl, rfl, _, rfl, ifF rfl ?_⟩
    exact ⟨rfl, _, rfl, _, rfl, rfl, rfl, rfl, v1, l, xs, rfl, .inr (SqL.of hl), q⟩
theorem ok__law_direct (M : Mod (hd04.heap_39 w.params) mg base) : CallG PP w (hd04.heap_39 w.params) mg base 10 (.ref 436) (pos (spDirect (hd04.heap_39 w.params))) := by
  obtain ⟨fd, F⟩ := fn__law_direct w
  refine def_pos F sc__law_direct (fun vs H Q E h => ?_) (fun _ _ _ _ _ _ us hl => match us, hl with | [_, _, _], _ => rfl) (fun cdv A outer s H vs Q E hr hg h => ?_)
  · obtain ⟨k, v1, l, xs, rfl, _⟩ := h; rfl
  have nd := sc__law_direct.nd
  obtain ⟨k, v1, l, xs, rfl, hk0, hk3, hl, hn, q⟩ := h
  refine ⟨_, (pss_cons (ps_if (PW.pt (pw_and (pt_cmpR op_eq (pe_callB call_len_seq (by rfl) (mn_len M) (by decide +kernel) (pa_cons (pv 2) pa_nil)) pe_int (nomark _)) (pw_and1 (pt_cmpR op_eq (pv 0) pe_int (nomark _))))) (pss_one (ps_ret (pe_mkG (takes_of rfl rfl rfl rfl) (mk_Agent w) (ok_Agent___init__ M) (hr.mono (by decide)) hg rfl (mg_Agent M) (pa_cons (pv 1) (pa_cons (pe_ix ix_list (pv 2) pe_int (fun _ _ => rfl)) pa_nil))))) pss_nil)
      (pss_cons (ps_if (PW.pt (pw_and (pt_cmpR op_eq (pe_callB call_len_seq (by rfl) (mn_len M) (by decide +kernel) (pa_cons (pv 2) pa_nil)) pe_int (nomark _)) (pw_and1 (pt_cmpR op_eq (pv 0) pe_int (nomark _))))) (pss_one (ps_ret (pe_mkG (takes_of rfl rfl rfl rfl) (mk_Through w) (ok_Agent___init__ M) (hr.mono (by decide)) hg rfl (mg_Through M) (pa_cons (pv 1) (pa_cons (pe_ix ix_list (pv 2) pe_int (fun _ _ => rfl)) pa_nil))))) pss_nil)
      (pss_cons (ps_if (pt_cmpR op_eq (pe_callB call_len_seq (by rfl) (mn_len M) (by decide +kernel) (pa_cons (pv 2) pa_nil)) pe_int (nomark _)) (pss_one (ps_ret (pe_mkG (takes_of rfl rfl rfl rfl) (mk_Back w) (ok_Agent___init__ M) (hr.mono (by decide)) hg rfl (mg_Back M) (pa_cons (pv 1) (pa_cons (pe_ix ix_list (pv 2) pe_int (fun _ _ => rfl)) pa_nil))))) pss_nil)
      (pss_cons (ps_if (pt_cmpR op_eq (pv 0) pe_int (nomark _)) (pss_one (ps_ret (pe_mkG (takes_of rfl rfl rfl rfl) (mk_Agent w) (ok_Agent___init__ M) (hr.mono (by decide)) hg rfl (mg_Agent M) (pa_cons (pv 1) (pa_cons (pe_ix ix_list (pv 2) pe_int (fun _ _ => rfl)) (pa_cons (pe_ix ix_list (pv 2) pe_int (fun _ _ => rfl)) pa_nil)))))) pss_nil)
      (pss_cons (ps_if (pt_cmpR op_eq (pv 0) pe_int (nomark _)) (pss_one (ps_ret (pe_mkG (takes_of rfl rfl rfl rfl) (mk_Through w) (ok_Agent___init__ M) (hr.mono (by decide)) hg rfl (mg_Through M) (pa_cons (pv 1) (pa_cons (pe_ix ix_list (pv 2) pe_int (fun _ _ => rfl)) (pa_cons (pe_ix ix_list (pv 2) pe_int (fun _ _ => rfl)) pa_nil)))))) pss_nil)
      (pss_one (ps_ret (pe_mkG (takes_of rfl rfl rfl rfl) (mk_Back w) (ok_Agent___init__ M) (hr.mono (by decide)) hg rfl (mg_Back M) (pa_cons (pv 1) (pa_cons (pe_ix ix_list (pv 2) pe_int (fun _ _ => rfl)) (pa_cons (pe_ix ix_list (pv 2) pe_int (fun _ _ => rfl)) pa_nil))))))))))), ?_⟩
  have hk : k = 0 ∨ k = 1 ∨ k = 2 := by omega
  have q := mkAg q
  have hx : (∃ x0, xs = [x0]) ∨ ∃ x0 x1, xs = [x0, x1] := by
    rcases hn with h | h
    · match xs, h with
      | [x0], _ => exact .inl ⟨x0, rfl⟩
    · exact .inr (len2 h)
  rcases hx with ⟨x0, rfl⟩ | ⟨x0, x1, rfl⟩
  · rcases hk with rfl | rfl | rfl
    · refine ⟨_, rfl, l, _, rfl, .inl (SqL.of hl), rfl, _, rfl, ifT rfl ?_⟩
      refine ⟨_, rfl, rfl, _, rfl, ifT rfl ?_⟩
      exact ⟨_, rfl, _, rfl, l, _, 0, x0, rfl, rfl, SqL.of hl, rfl, rfl, q⟩
    · refine ⟨_, rfl, l, _, rfl, .inl (SqL.of hl), rfl, _, rfl, ifT rfl ?_⟩
      refine ⟨_, rfl, rfl, _, rfl, ifF rfl ?_⟩
      refine ⟨_, rfl, l, _, rfl, .inl (SqL.of hl), rfl, _, rfl, ifT rfl ?_⟩
      refine ⟨_, rfl, rfl, _, rfl, ifT rfl ?_⟩
      exact ⟨_, rfl, _, rfl, l, _, 0, x0, rfl, rfl, SqL.of hl, rfl, rfl, q⟩
    · refine ⟨_, rfl, l, _, rfl, .inl (SqL.of hl), rfl, _, rfl, ifT rfl ?_⟩
      refine ⟨_, rfl, rfl, _, rfl, ifF rfl ?_⟩
      refine ⟨_, rfl, l, _, rfl, .inl (SqL.of hl), rfl, _, rfl, ifT rfl ?_⟩
      refine ⟨_, rfl, rfl, _, rfl, ifF rfl ?_⟩
      refine ⟨_, rfl, l, _, rfl, .inl (SqL.of hl), rfl, _, rfl, ifT rfl ?_⟩
      exact ⟨_, rfl, _, rfl, l, _, 0, x0, rfl, rfl, SqL.of hl, rfl, rfl, q⟩
  · rcases hk with rfl | rfl | rfl
    · refine ⟨_, rfl, l, _, rfl, .inl (SqL.of hl), rfl, _, rfl, ifF rfl ?_⟩
      refine ⟨_, rfl, l, _, rfl, .inl (SqL.of hl), rfl, _, rfl, ifF rfl ?_⟩
      refine ⟨_, rfl, l, _, rfl, .inl (SqL.of hl), rfl, _, rfl, ifF rfl ?_⟩
      refine ⟨_, rfl, rfl, _, rfl, ifT rfl ?_⟩
      exact ⟨_, rfl, _, rfl, l, _, 0, x0, rfl, rfl, SqL.of hl, rfl, _, rfl, l, _, 1, x1, rfl, rfl, SqL.of hl, rfl, rfl, q⟩
    · refine ⟨_, rfl, l, _, rfl, .inl (SqL.of hl), rfl, _, rfl, ifF rfl ?_⟩
      refine ⟨_, rfl, l, _, rfl, .inl (SqL.of hl), rfl, _, rfl, ifF rfl ?_⟩
      refine ⟨_, rfl, l, _, rfl, .inl (SqL.of hl), rfl, _, rfl, ifF rfl ?_⟩
      refine ⟨_, rfl, rfl, _, rfl, ifF rfl ?_⟩
      refine ⟨_, rfl, rfl, _, rfl, ifT rfl ?_⟩
      exact ⟨_, rfl, _, rfl, l, _, 0, x0, rfl, rfl, SqL.of hl, rfl, _, rfl, l, _, 1, x1, rfl, rfl, SqL.of hl, rfl, rfl, q⟩
    · refine ⟨_, rfl, l, _, rfl, .inl (SqL.of hl), rfl, _, rfl, ifF rfl ?_⟩
      refine ⟨_, rfl, l, _, rfl, .inl (SqL.of hl), rfl, _, rfl, ifF rfl ?_⟩
      refine ⟨_, rfl, l, _, rfl, .inl (SqL.of hl), rfl, _, rfl, ifF rfl ?_⟩
      refine ⟨_, rfl, rfl, _, rfl, ifF rfl ?_⟩
      refine ⟨_, rfl, rfl, _, rfl, ifF rfl ?_⟩
      exact ⟨_, rfl, _, rfl, l, _, 0, x0, rfl, rfl, SqL.of hl, rfl, _, rfl, l, _, 1, x1, rfl, rfl, SqL.of hl, rfl, rfl, q⟩
theorem ok__law_asked (M : Mod (hd04.heap_39 w.params) mg base) : CallG PP w (hd04.heap_39 w.params) mg base 13 (.ref 450) (pos (spAsked (hd04.heap_39 w.params))) := by
  obtain ⟨fd, F⟩ := fn__law_asked w
  refine def_pos F sc__law_asked (fun vs H Q E h => ?_) (fun _ _ _ _ _ _ us hl => match us, hl with | [_, _, _, _], _ => rfl) (fun cdv A outer s H vs Q E hr hg h => ?_)
  · obtain ⟨k, v1, l, b, d1, xs, ds, rfl, _⟩ := h; rfl
  have nd := sc__law_asked.nd
  obtain ⟨k, v1, l, b, d1, xs, ds, rfl, hk0, hk3, hl, h1, hs, hd, hps, hlen, hb, q⟩ := h
  refine ⟨_, (pss_cons (ps_set (i := 4) nd rfl (.inl rfl) pe_non)
      (pss_cons (ps_try_keep rfl rfl rfl nd (i := 5) rfl rfl ⟨rfl, rfl, .inl (mg_UnkeptError M)⟩ (takes_of rfl rfl rfl rfl) (fun W pn xe tk2 _ => (pss_one (ps_if (pt_val (pv 3)) (pss_one (ps_set (i := 4) nd rfl (.inl rfl) (pe_cl tk2 (ok__law_direct M) (hr.mono (by decide)) hg rfl (mg__law_direct M) (kp__law_direct w) (pa_cons (pv 0) (pa_cons (pv 1) (pa_cons (pv 2) pa_nil)))))) (pss_one (ps_set (i := 4) nd rfl (.inl rfl) (pe_cl tk2 (ok__law_made M) (hr.mono (by decide)) hg rfl (mg__law_made M) (kp__law_made w) (pa_cons (pv 0) (pa_cons (pv 1) (pa_cons (pv 2) pa_nil))))))))) (fun a oe cls d pn _ _ => (pss_one (ps_set (i := 4) nd rfl (.inl rfl) (pv 5)))))
      (pss_one (ps_ret (pv 4))))), ?_⟩
  intro pn xe
  refine ⟨_, rfl, b, rfl, ite_b (fun e => ?_) (fun e => ?_)⟩
  · refine ⟨_, rfl, _, rfl, _, rfl, rfl, k, v1, l, xs, rfl, hk0, hk3, hl, hb e, v1, d1, xs, ds, rfl, clsOf_ag k, h1, hs, hd, hps, hlen, ?_⟩
    split
    · rename_i e2
      rw [e2] at q
      intro x dx p z H' s hx hpz
      exact ⟨_, rfl, q _ _ (s) ⟨x, dx, p, z, rfl, hx, hpz⟩⟩
    · rename_i r e2
      rw [e2] at q
      intro H' d s hdd
      refine ⟨true, exm w, fun _ a ha => ?_, fun z => nomatch z⟩
      exact ⟨_, rfl, _, rfl, q _ _ ((same_trans s (same_new ha))) ⟨a, d, rfl, upd_same, at_new ha hdd⟩⟩
  · refine ⟨_, rfl, _, rfl, _, rfl, rfl, k, v1, l, xs, rfl, hk0, hk3, hl, v1, d1, xs, ds, rfl, clsOf_ag k, h1, hs, hd, hps, hlen, ?_⟩
    split
    · rename_i e2
      rw [e2] at q
      intro x dx p z H' s hx hpz
      exact ⟨_, rfl, q _ _ (s) ⟨x, dx, p, z, rfl, hx, hpz⟩⟩
    · rename_i r e2
      rw [e2] at q
      intro H' d s hdd
      refine ⟨true, exm w, fun _ a ha => ?_, fun z => nomatch z⟩
      exact ⟨_, rfl, _, rfl, q _ _ ((same_trans s (same_new ha))) ⟨a, d, rfl, upd_same, at_new ha hdd⟩⟩
theorem ok__law_again (M : Mod (hd04.heap_39 w.params) mg base) : CallG PP w (hd04.heap_39 w.params) mg base 13 (.ref 457) (pos (spAgain (hd04.heap_39 w.params))) := by
  obtain ⟨fd, F⟩ := fn__law_again w
  refine def_pos F sc__law_again (fun vs H Q E h => ?_) (fun _ _ _ _ _ _ us hl => match us, hl with | [_, _], _ => rfl) (fun cdv A outer s H vs Q E hr hg h => ?_)
  · obtain ⟨k, l, x0, x1, ds, rfl, _⟩ := h; rfl
  have nd := sc__law_again.nd
  obtain ⟨k, l, x0, x1, ds, rfl, hk0, hk3, hl, hd, hps, q⟩ := h
  refine ⟨_, (pss_cons (ps_set (i := 2) nd rfl (.inl rfl) pe_non)
      (pss_cons (ps_set (i := 3) nd rfl (.inl rfl) (pe_cl (takes_of rfl rfl rfl rfl) (ok__law_made M) (hr.mono (by decide)) hg rfl (mg__law_made M) (kp__law_made w) (pa_cons (pv 0) (pa_cons pe_str (pa_cons (pe_lst (pa_cons (pe_tup (pa_cons pe_str (pa_cons pe_str pa_nil))) pa_nil)) pa_nil)))))
      (pss_cons (ps_try_keep rfl rfl rfl nd (i := 4) rfl rfl ⟨rfl, rfl, .inl (mg_UnkeptError M)⟩ (takes_of rfl rfl rfl rfl) (fun W pn xe tk2 _ => (pss_one (ps_set (i := 2) nd rfl (.inl rfl) (pe_meV tk2 (pv 3) (hm := fun C h => with_cls w C h) (with_ok M) (hr.mono (by decide)) hg (pa_cons (pe_ix ix_list (pv 1) pe_int (fun _ _ => rfl)) (pa_cons (pe_ix ix_list (pv 1) pe_int (fun _ _ => rfl)) pa_nil)))))) (fun a oe cls d pn _ _ => (pss_one (ps_set (i := 2) nd rfl (.inl rfl) (pv 4)))))
      (pss_one (ps_ret (pv 2)))))), ?_⟩
  refine ⟨_, rfl, Nat.le_of_ble_eq_true rfl, fun t ht => ⟨Nat.le_of_ble_eq_true rfl, fun z hz => ⟨rfl, k, .str "good", z, [.ref t], rfl, hk0, hk3, upd_same, .str "good", .str "good", [.ref t], [.tuple [.str "post", .str "s"]], rfl, clsOf_ag k, .str _, (show (4 : Nat) ≤ 1000 by decide), .cons (.tup (SqT.of (at_new hz upd_same)) (.cons (.str _) (.cons (.str _) .nil))) .nil, (fun d hd => by rw [List.mem_singleton.mp hd]; exact ⟨by decide, fun d2 h2 => by simp only [List.mem_cons, List.not_mem_nil, or_false] at h2; rcases h2 with rfl | rfl <;> (show Str.length _ ≤ 1000; decide)⟩), by decide, ?_⟩⟩⟩
  rw [good_post (clsOf k) (clsOf_ag k) "post" (.inl rfl)]
  intro x dx p y H1 s1 hx hp
  have sA := same_trans (same_new (o := .tup [.str "post", .str "s"]) ht) (same_trans (same_new (o := .lst [.ref t]) hz) s1)
  have hl1 := sA _ _ hl
  intro pn xe
  refine ⟨_, rfl, x, clsOf k, dx, _, rfl, clsOf_ag k, hx, rfl, _, rfl, l, _, 0, x0, rfl, rfl, SqL.of hl1, rfl, _, rfl, l, _, 1, x1, rfl, rfl, SqL.of hl1, rfl, rfl, [.ref x], [x0, x1], rfl, rfl, Nat.le_of_ble_eq_true rfl, fun pp hpp => ?_⟩
  have sB := same_trans sA (same_new (o := .tup [x0, x1]) hpp)
  refine ⟨x, dx, p, y, pp, .str "good", [x0, x1], rfl, at_new hpp hx, upd_same, .str "good", .str "good", [x0, x1], ds, rfl, clsOf_ag k, .str _, (show (4 : Nat) ≤ 1000 by decide), dqAll_mono sB hd, hps, by rw [← dqAll_len hd]; exact Nat.le_of_ble_eq_true rfl, ?_⟩
  split
  · rename_i e2
    rw [e2] at q
    intro x dx p z H' s hx hpz
    exact ⟨_, rfl, q _ _ (same_trans sB s) ⟨x, dx, p, z, rfl, hx, hpz⟩⟩
  · rename_i r e2
    rw [e2] at q
    intro H' d s hdd
    refine ⟨true, exm w, fun _ a ha => ?_, fun z => nomatch z⟩
    exact ⟨_, rfl, _, rfl, q _ _ (same_trans sB (same_trans s (same_new ha))) ⟨a, d, rfl, upd_same, at_new ha hdd⟩⟩
theorem ok__law_no_steps (M : Mod (hd04.heap_39 w.params) mg base) : CallG PP w (hd04.heap_39 w.params) mg base 13 (.ref 464) (pos spNoSteps) := by
  obtain ⟨fd, F⟩ := fn__law_no_steps w
  refine def_pos F sc__law_no_steps (fun vs H Q E h => ?_) (fun _ _ _ _ _ _ us hl => match us, hl with | [_], _ => rfl) (fun cdv A outer s H vs Q E hr hg h => ?_)
  · obtain ⟨k, rfl, _⟩ := h; rfl
  have nd := sc__law_no_steps.nd
  obtain ⟨k, rfl, hk0, hk3, q⟩ := h
  refine ⟨_, (pss_cons (ps_set (i := 1) nd rfl (.inl rfl) pe_non)
      (pss_cons (ps_try_keep rfl rfl rfl nd (i := 2) rfl rfl ⟨rfl, rfl, .inl (mg_UnkeptError M)⟩ (takes_of rfl rfl rfl rfl) (fun W pn xe tk2 _ => (pss_one (ps_set (i := 1) nd rfl (.inl rfl) (pe_meV0 tk2 (pe_cl tk2 (ok__law_made M) (hr.mono (by decide)) hg rfl (mg__law_made M) (kp__law_made w) (pa_cons (pv 0) (pa_cons pe_str (pa_cons (pe_lst (pa_cons (pe_tup (pa_cons pe_str (pa_cons pe_str pa_nil))) pa_nil)) pa_nil)))) (hm := fun C h => with_cls w C h) (with_ok M) (hr.mono (by decide)) hg)))) (fun a oe cls d pn _ _ => (pss_one (ps_set (i := 1) nd rfl (.inl rfl) (pv 2)))))
      (pss_one (ps_ret (pv 1))))), ?_⟩
  intro pn xe
  refine ⟨_, rfl, Nat.le_of_ble_eq_true rfl, fun t ht => ⟨Nat.le_of_ble_eq_true rfl, fun z hz => ⟨rfl, k, .str "good", z, [.ref t], rfl, hk0, hk3, upd_same, .str "good", .str "good", [.ref t], [.tuple [.str "wait", .str "s"]], rfl, clsOf_ag k, .str _, (show (4 : Nat) ≤ 1000 by decide), .cons (.tup (SqT.of (at_new hz upd_same)) (.cons (.str _) (.cons (.str _) .nil))) .nil, (fun d hd => by rw [List.mem_singleton.mp hd]; exact ⟨by decide, fun d2 h2 => by simp only [List.mem_cons, List.not_mem_nil, or_false] at h2; rcases h2 with rfl | rfl <;> (show Str.length _ ≤ 1000; decide)⟩), by decide, ?_⟩⟩⟩
  rw [good_post (clsOf k) (clsOf_ag k) "wait" (.inr rfl)]
  intro x dx p y H1 s1 hx hp
  have sA := same_trans (same_new (o := .tup [.str "wait", .str "s"]) ht) (same_trans (same_new (o := .lst [.ref t]) hz) s1)
  refine ⟨x, clsOf k, dx, _, rfl, clsOf_ag k, hx, rfl, rfl, [.ref x], [], rfl, rfl, Nat.zero_le _, fun pp hpp => ?_⟩
  have sB := same_trans sA (same_new (o := .tup []) hpp)
  refine ⟨x, dx, p, y, pp, .str "good", [], rfl, at_new hpp hx, upd_same, .str "good", .str "good", [], [], rfl, clsOf_ag k, .str _, (show (4 : Nat) ≤ 1000 by decide), .nil, (fun d hd => nomatch hd), Nat.zero_le _, ?_⟩
  rw [no_steps]
  intro H' d s hdd
  refine ⟨true, exm w, fun _ a ha => ?_, fun z => nomatch z⟩
  exact ⟨_, rfl, _, rfl, q a d _ (same_trans sB (same_trans s (same_new ha))) upd_same (at_new ha hdd)⟩
theorem ok__law_right (M : Mod (hd04.heap_39 w.params) mg base) : CallG PP w (hd04.heap_39 w.params) mg base 4 (.ref 471) (pos (spRight (hd04.heap_39 w.params))) := by
  obtain ⟨fd, F⟩ := fn__law_right w
  refine def_pos F sc__law_right (fun vs H Q E h => ?_) (fun _ _ _ _ _ _ us hl => match us, hl with | [_, _, _, _], _ => rfl) (fun cdv A outer s H vs Q E hr hg h => ?_)
  · obtain ⟨v, v1, k, l, d1, xs, ds, rfl, _⟩ := h; rfl
  have nd := sc__law_right.nd
  obtain ⟨v, v1, k, l, d1, xs, ds, rfl, hk0, hk3, hl, h1, hs, hd, hps, hlen, hf, q⟩ := h
  refine ⟨_, (pss_cons (ps_if (pt_not (pt_val (pe_cl (takes_of rfl rfl rfl rfl) (ok__law_is_name M) (hr.mono (by decide)) hg rfl (mg__law_is_name M) (kp__law_is_name w) (pa_cons (pv 2) pa_nil)))) (pss_one (ps_ret (pe_cl (takes_of rfl rfl rfl rfl) (ok__law_refusal M) (hr.mono (by decide)) hg rfl (mg__law_refusal M) (kp__law_refusal w) (pa_cons (pv 0) (pa_cons pe_str (pa_cons pe_non pa_nil)))))) pss_nil)
      (pss_cons (ps_if (pt_not (pt_chain op_le op_le pe_int (pe_callB call_len_seq (by rfl) (mn_len M) (by decide +kernel) (pa_cons (pv 3) pa_nil)) pe_int)) (pss_one (ps_ret (pe_cl (takes_of rfl rfl rfl rfl) (ok__law_refusal M) (hr.mono (by decide)) hg rfl (mg__law_refusal M) (kp__law_refusal w) (pa_cons (pv 0) (pa_cons pe_str (pa_cons pe_non pa_nil)))))) pss_nil)
      (pss_cons (ps_for (passes_of rfl) rfl (pi_range1 (by rfl) (mn_range M) (pa_cons (pe_callB call_len_seq (by rfl) (mn_len M) (by decide +kernel) (pa_cons (pv 3) pa_nil)) pa_nil)) (pg_name (i := 4) nd rfl (.inl rfl)) (pss_one (ps_if (pt_not (pt_val (pe_cl (takes_of rfl rfl rfl rfl) (ok__law_is_step M) (hr.mono (by decide)) hg rfl (mg__law_is_step M) (kp__law_is_step w) (pa_cons (pe_ix ix_list (pv 3) (pv 4) (fun _ _ => rfl)) (pa_cons (pv 1) pa_nil))))) (pss_one (ps_ret (pe_cl (takes_of rfl rfl rfl rfl) (ok__law_refusal M) (hr.mono (by decide)) hg rfl (mg__law_refusal M) (kp__law_refusal w) (pa_cons (pv 0) (pa_cons pe_str (pa_cons (pv 4) pa_nil)))))) pss_nil)))
      (pss_cons (ps_if (PW.pt (pw_or (pt_not (pt_val (pe_callB call_isi (by rfl) (mn_isinstance M) (by decide +kernel) (pa_cons (pv 0) (pa_cons (pe_glob (v := .ref 288) rfl (mg_Agent M) rfl) pa_nil))))) (pw_or (pt_cmpR op_ne (pe_con (pv 0) rfl) (pe_ix ix_list (pe_lst (pa_cons pe_str (pa_cons pe_str (pa_cons pe_str pa_nil)))) (pv 1) (fun _ _ => rfl)) (nomark _)) (pw_or1 (pt_cmpR op_ne (pe_fld (pv 0) rfl) (pv 2) (nomark _)))))) (pss_one (ps_ret pe_bl)) pss_nil)
      (pss_one (ps_ret (pe_cmpR (op_eqTs (hu_big hr)) (pe_fld (pv 0) rfl) (pe_callTy call_tuple_of (by rfl) (mn_tuple M) (by decide +kernel) (pa_cons (pv 3) pa_nil)) (nomark _)))))))), ?_⟩
  have hlx := dqAll_len hd
  refine ⟨_, rfl, rfl, v1, d1, rfl, h1, hs, fun H1 s1 => ⟨_, rfl, ite_b (fun e1 => ?_) (fun e1 => ?_)⟩⟩
  · have e1 : nameD d1 = false := by rw [← Bool.not_not (nameD d1), e1] <;> rfl
    have ew : wantA (clsOf k) d1 ds = some (("name" : Str), none) := by unfold wantA; rw [if_pos e1]
    rw [ew] at hf
    obtain ⟨e, d, rfl, he, hdd⟩ := hf
    exact ⟨_, rfl, rfl, e, d, ("name", none), rfl, s1 _ _ he, s1 _ _ hdd, fun H2 s2 => q _ (same_trans s1 s2)⟩
  have e1 : nameD d1 = true := by rw [← Bool.not_not (nameD d1), e1] <;> rfl
  have hl1 := s1 _ _ hl
  have fin : ¬ (1 ≤ ds.length ∧ ds.length ≤ 24) → ∃ e d, v = .ref e ∧ H e = some (exv e (.ref 46) (some d)) ∧ H d = some (.xd (refFs ("steps", none))) := fun hn => by
    have e : wantA (clsOf k) d1 ds = some (("steps" : Str), none) := by unfold wantA; rw [if_neg (by rw [e1]; exact Bool.noConfusion), if_pos hn]
    rw [e] at hf
    exact hf
  refine ⟨_, rfl, l, xs, rfl, .inl (SqL.of hl1), _, _, rfl, rfl, _, rfl, ite_b (fun h3 => ?_) (fun h3 => ?_)⟩
  · have h3 := of_decide_eq_true h3
    refine ⟨_, _, rfl, rfl, _, rfl, ite_b (fun h4 => ?_) (fun h4 => ?_)⟩
    · obtain ⟨e, d, rfl, he, hdd⟩ := fin (by have h4 : decide ((xs.length : Int) ≤ 24) = false := by rw [← Bool.not_not (decide ((xs.length : Int) ≤ 24)), h4] <;> rfl
                                             have h4 := of_decide_eq_false h4
                                             omega)
      exact ⟨_, rfl, rfl, e, d, ("steps", none), rfl, s1 _ _ he, s1 _ _ hdd, fun H2 s2 => q _ (same_trans s1 s2)⟩
    have h4 : decide ((xs.length : Int) ≤ 24) = true := by rw [← Bool.not_not (decide ((xs.length : Int) ≤ 24)), h4] <;> rfl
    have h4 := of_decide_eq_true h4
    have ew : wantA (clsOf k) d1 ds = match firstK (fun j => !goodD (clsOf k) (ds.getD j .none)) 0 ds.length with
        | some j => some (("step" : Str), some j)
        | none => none := by
      unfold wantA
      rw [if_neg (by rw [e1]; exact Bool.noConfusion), if_neg (by omega)]
      try (cases firstK (fun j => !goodD (clsOf k) (ds.getD j .none)) 0 ds.length <;> rfl)
    refine ⟨_, rfl, l, xs, rfl, .inl (SqL.of hl1), xs.length, rfl, by omega, by omega, ?_⟩
    refine for_range (lo := 0) (n := xs.length) (fun i σ H' => (∃ o4, σ = [some v, some (.int k), some v1, some (.ref l), o4]) ∧ Same H H' ∧ ∀ j, j < i → goodD (clsOf k) (ds.getD j .none) = true) ⟨⟨_, rfl⟩, s1, fun j hj => absurd hj (Nat.not_lt_zero j)⟩ (fun i σ H2 hi h => ?_) (fun σ H2 h => ?_)
    · obtain ⟨⟨o4, rfl⟩, sm, hno⟩ := h
      have e := List.getElem?_eq_getElem hi
      obtain ⟨d, hdi, hdv⟩ := dqAll_get hd e
      have eb : goodD (clsOf k) (ds.getD i .none) = goodD (clsOf k) d := by
        rw [List.getD_eq_getElem?_getD, hdi] <;> rfl
      refine ⟨_, rfl, _, rfl, l, xs, _, _, rfl, rfl, SqL.of (sm _ _ hl), (by rw [Int.zero_add]; exact atI_nat e), _, rfl, rfl, _, d, k, rfl, dq_mono sm hdv, hps d (List.mem_of_getElem? hdi), hk0, hk3, fun H3 s3 => ⟨_, rfl, ite_b (fun e2 => ?_) (fun e2 => ?_)⟩⟩
      · have e2 : goodD (clsOf k) d = false := by rw [← Bool.not_not (goodD (clsOf k) d), e2] <;> rfl
        have e3 : wantA (clsOf k) d1 ds = some (("step" : Str), some i) := by
          rw [ew, firstK_some (p := fun j => !goodD (clsOf k) (ds.getD j .none)) (k := 0) (i := i) (fun j hj => by rw [Nat.zero_add, hno j hj] <;> rfl) (by rw [Nat.zero_add, eb, e2] <;> rfl) (by omega), Nat.zero_add]
        rw [e3] at hf
        obtain ⟨e, d2, rfl, he, hdd⟩ := hf
        have s4 := same_trans sm s3
        exact ⟨_, rfl, _, rfl, rfl, e, d2, ("step", some i), by rw [Int.zero_add] <;> rfl, s4 _ _ he, s4 _ _ hdd, fun H5 s5 => q _ (same_trans s4 s5)⟩
      · have e2 : goodD (clsOf k) d = true := by rw [← Bool.not_not (goodD (clsOf k) d), e2] <;> rfl
        refine ⟨⟨_, rfl⟩, same_trans sm s3, fun j hj => ?_⟩
        rcases Nat.lt_or_eq_of_le (Nat.le_of_lt_succ hj) with h | rfl
        · exact hno j h
        · rw [eb, e2]
    · obtain ⟨⟨o4, rfl⟩, sm, hno⟩ := h
      have e : wantA (clsOf k) d1 ds = none := by
        rw [ew, firstK_none (p := fun j => !goodD (clsOf k) (ds.getD j .none)) fun j hj => by rw [Nat.zero_add, hno j (by omega)] <;> rfl]
      rw [e] at hf
      obtain ⟨x, dx, p, q', rfl, hx, hpx⟩ := hf
      obtain ⟨sn, rfl⟩ : ∃ y, d1 = .str y := by
        cases d1 <;> first | exact ⟨_, rfl⟩ | exact absurd e1 (by simp [nameD])
      cases h1
      have hx := sm _ _ hx
      have hpx := sm _ _ hpx
      have hl2 := sm _ _ hl
      have hk : k = 0 ∨ k = 1 ∨ k = 2 := by omega
      rcases hk with rfl | rfl | rfl
      · have hx : H2 x = some (agentO 288 dx p q' (.str sn)) := hx
        refine ⟨_, rfl, _, _, _, _, _, rfl, .own 288, (tyc_Agent w).ty hx, kt_288_Agent w, _, rfl, ifF rfl ?_⟩
        refine ⟨_, rfl, x, 288, dx, _, _, _, rfl, hx, cls_Agent w, con_Agent_KIND w, rfl, Nat.le_of_ble_eq_true rfl, fun z hz => ?_⟩
        have hx := at_new (o := .lst [.str "plain", .str "through", .str "back"]) hz hx
        have hpx := at_new (o := .lst [.str "plain", .str "through", .str "back"]) hz hpx
        have hl2 := at_new (o := .lst [.str "plain", .str "through", .str "back"]) hz hl2
        refine ⟨_, rfl, z, _, 0, _, rfl, rfl, SqL.of upd_same, rfl, rfl, _, rfl, ifF (nd_refl _) ?_⟩
        refine ⟨_, rfl, x, 288, dx, _, _, rfl, hx, cls_Agent w, na_Agent_name w, rfl, _, rfl, rfl, _, rfl, ifF (nd_refl _) ?_⟩
        refine ⟨_, rfl, x, 288, dx, _, _, rfl, hx, cls_Agent w, na_Agent_steps w, rfl, _, rfl, l, xs, rfl, .inl ⟨SqL.of hl2, fun t ht => ⟨p, t, xs, rfl, rfl, SqT.of (at_new ht hpx), SqT.of upd_same, dqAll_idV hd, ?_⟩⟩⟩
        exact q _ (same_trans sm (same_trans (same_new hz) (same_new ht)))
      · have hx : H2 x = some (agentO 328 dx p q' (.str sn)) := hx
        refine ⟨_, rfl, _, _, _, _, _, rfl, .own 288, (tyc_Through w).ty hx, kt_328_Agent w, _, rfl, ifF rfl ?_⟩
        refine ⟨_, rfl, x, 328, dx, _, _, _, rfl, hx, cls_Through w, con_Through_KIND w, rfl, Nat.le_of_ble_eq_true rfl, fun z hz => ?_⟩
        have hx := at_new (o := .lst [.str "plain", .str "through", .str "back"]) hz hx
        have hpx := at_new (o := .lst [.str "plain", .str "through", .str "back"]) hz hpx
        have hl2 := at_new (o := .lst [.str "plain", .str "through", .str "back"]) hz hl2
        refine ⟨_, rfl, z, _, 1, _, rfl, rfl, SqL.of upd_same, rfl, rfl, _, rfl, ifF (nd_refl _) ?_⟩
        refine ⟨_, rfl, x, 328, dx, _, _, rfl, hx, cls_Through w, na_Through_name w, rfl, _, rfl, rfl, _, rfl, ifF (nd_refl _) ?_⟩
        refine ⟨_, rfl, x, 328, dx, _, _, rfl, hx, cls_Through w, na_Through_steps w, rfl, _, rfl, l, xs, rfl, .inl ⟨SqL.of hl2, fun t ht => ⟨p, t, xs, rfl, rfl, SqT.of (at_new ht hpx), SqT.of upd_same, dqAll_idV hd, ?_⟩⟩⟩
        exact q _ (same_trans sm (same_trans (same_new hz) (same_new ht)))
      · have hx : H2 x = some (agentO 366 dx p q' (.str sn)) := hx
        refine ⟨_, rfl, _, _, _, _, _, rfl, .own 288, (tyc_Back w).ty hx, kt_366_Agent w, _, rfl, ifF rfl ?_⟩
        refine ⟨_, rfl, x, 366, dx, _, _, _, rfl, hx, cls_Back w, con_Back_KIND w, rfl, Nat.le_of_ble_eq_true rfl, fun z hz => ?_⟩
        have hx := at_new (o := .lst [.str "plain", .str "through", .str "back"]) hz hx
        have hpx := at_new (o := .lst [.str "plain", .str "through", .str "back"]) hz hpx
        have hl2 := at_new (o := .lst [.str "plain", .str "through", .str "back"]) hz hl2
        refine ⟨_, rfl, z, _, 2, _, rfl, rfl, SqL.of upd_same, rfl, rfl, _, rfl, ifF (nd_refl _) ?_⟩
        refine ⟨_, rfl, x, 366, dx, _, _, rfl, hx, cls_Back w, na_Back_name w, rfl, _, rfl, rfl, _, rfl, ifF (nd_refl _) ?_⟩
        refine ⟨_, rfl, x, 366, dx, _, _, rfl, hx, cls_Back w, na_Back_steps w, rfl, _, rfl, l, xs, rfl, .inl ⟨SqL.of hl2, fun t ht => ⟨p, t, xs, rfl, rfl, SqT.of (at_new ht hpx), SqT.of upd_same, dqAll_idV hd, ?_⟩⟩⟩
        exact q _ (same_trans sm (same_trans (same_new hz) (same_new ht)))
  · have h3 := of_decide_eq_false h3
    obtain ⟨e, d, rfl, he, hdd⟩ := fin (by omega)
    refine ⟨_, rfl, ifT (b := true) rfl ?_⟩
    exact ⟨_, rfl, rfl, e, d, ("steps", none), rfl, s1 _ _ he, s1 _ _ hdd, fun H2 s2 => q _ (same_trans s1 s2)⟩
end
end M04

namespace M04
open PySem PySem.Spec PyProof.Rows L2 StX Uk

local macro_rules | `(tactic| wtm_at "off0") => `(tactic| first | with_reducible assumption | (with_reducible apply Off.mk; wtm_at "pen"; assumption))
local macro_rules | `(tactic| wtm_at "at0") => `(tactic| first | with_reducible assumption | with_reducible exact upd_same | (with_reducible apply Off.at; wtm_at "off0"))
local macro_rules | `(tactic| wtm_at "off1") => `(tactic| first | with_reducible assumption | (with_reducible apply Off.mk; wtm_at "pen"; assumption) | (with_reducible refine Off.new (by assumption) _ _ ?_; wtm_at "off0") | (with_reducible refine at_same (by with_reducible assumption) ?_; wtm_at "off0"))
local macro_rules | `(tactic| wtm_at "at1") => `(tactic| first | with_reducible assumption | with_reducible exact upd_same | (with_reducible refine at_new (by assumption) ?_; wtm_at "at0") | (with_reducible refine at_same (by with_reducible assumption) ?_; wtm_at "at0") | (with_reducible apply Off.at; wtm_at "off1"))
local macro_rules | `(tactic| wtm_at "off2") => `(tactic| first | with_reducible assumption | (with_reducible apply Off.mk; wtm_at "pen"; assumption) | (with_reducible refine Off.new (by assumption) _ _ ?_; wtm_at "off1") | (with_reducible refine at_same (by with_reducible assumption) ?_; wtm_at "off1"))
local macro_rules | `(tactic| wtm_at "at2") => `(tactic| first | with_reducible assumption | with_reducible exact upd_same | (with_reducible refine at_new (by assumption) ?_; wtm_at "at1") | (with_reducible refine at_same (by with_reducible assumption) ?_; wtm_at "at1") | (with_reducible apply Off.at; wtm_at "off2"))
local macro_rules | `(tactic| wtm_at "off3") => `(tactic| first | with_reducible assumption | (with_reducible apply Off.mk; wtm_at "pen"; assumption) | (with_reducible refine Off.new (by assumption) _ _ ?_; wtm_at "off2") | (with_reducible refine at_same (by with_reducible assumption) ?_; wtm_at "off2"))
local macro_rules | `(tactic| wtm_at "at3") => `(tactic| first | with_reducible assumption | with_reducible exact upd_same | (with_reducible refine at_new (by assumption) ?_; wtm_at "at2") | (with_reducible refine at_same (by with_reducible assumption) ?_; wtm_at "at2") | (with_reducible apply Off.at; wtm_at "off3"))
local macro_rules | `(tactic| wtm_at "off4") => `(tactic| first | with_reducible assumption | (with_reducible apply Off.mk; wtm_at "pen"; assumption) | (with_reducible refine Off.new (by assumption) _ _ ?_; wtm_at "off3") | (with_reducible refine at_same (by with_reducible assumption) ?_; wtm_at "off3"))
local macro_rules | `(tactic| wtm_at "at4") => `(tactic| first | with_reducible assumption | with_reducible exact upd_same | (with_reducible refine at_new (by assumption) ?_; wtm_at "at3") | (with_reducible refine at_same (by with_reducible assumption) ?_; wtm_at "at3") | (with_reducible apply Off.at; wtm_at "off4"))
local macro_rules | `(tactic| wtm_at "off5") => `(tactic| first | with_reducible assumption | (with_reducible apply Off.mk; wtm_at "pen"; assumption) | (with_reducible refine Off.new (by assumption) _ _ ?_; wtm_at "off4") | (with_reducible refine at_same (by with_reducible assumption) ?_; wtm_at "off4"))
local macro_rules | `(tactic| wtm_at "at5") => `(tactic| first | with_reducible assumption | with_reducible exact upd_same | (with_reducible refine at_new (by assumption) ?_; wtm_at "at4") | (with_reducible refine at_same (by with_reducible assumption) ?_; wtm_at "at4") | (with_reducible apply Off.at; wtm_at "off5"))
local macro_rules | `(tactic| wtm_at "off6") => `(tactic| first | with_reducible assumption | (with_reducible apply Off.mk; wtm_at "pen"; assumption) | (with_reducible refine Off.new (by assumption) _ _ ?_; wtm_at "off5") | (with_reducible refine at_same (by with_reducible assumption) ?_; wtm_at "off5"))
local macro_rules | `(tactic| wtm_at "at6") => `(tactic| first | with_reducible assumption | with_reducible exact upd_same | (with_reducible refine at_new (by assumption) ?_; wtm_at "at5") | (with_reducible refine at_same (by with_reducible assumption) ?_; wtm_at "at5") | (with_reducible apply Off.at; wtm_at "off6"))
local macro_rules | `(tactic| wtm_at "off7") => `(tactic| first | with_reducible assumption | (with_reducible apply Off.mk; wtm_at "pen"; assumption) | (with_reducible refine Off.new (by assumption) _ _ ?_; wtm_at "off6") | (with_reducible refine at_same (by with_reducible assumption) ?_; wtm_at "off6"))
local macro_rules | `(tactic| wtm_at "at7") => `(tactic| first | with_reducible assumption | with_reducible exact upd_same | (with_reducible refine at_new (by assumption) ?_; wtm_at "at6") | (with_reducible refine at_same (by with_reducible assumption) ?_; wtm_at "at6") | (with_reducible apply Off.at; wtm_at "off7"))
local macro_rules | `(tactic| wtm_at "off8") => `(tactic| first | with_reducible assumption | (with_reducible apply Off.mk; wtm_at "pen"; assumption) | (with_reducible refine Off.new (by assumption) _ _ ?_; wtm_at "off7") | (with_reducible refine at_same (by with_reducible assumption) ?_; wtm_at "off7"))
local macro_rules | `(tactic| wtm_at "at8") => `(tactic| first | with_reducible assumption | with_reducible exact upd_same | (with_reducible refine at_new (by assumption) ?_; wtm_at "at7") | (with_reducible refine at_same (by with_reducible assumption) ?_; wtm_at "at7") | (with_reducible apply Off.at; wtm_at "off8"))
local macro_rules | `(tactic| wtm_at "off9") => `(tactic| first | with_reducible assumption | (with_reducible apply Off.mk; wtm_at "pen"; assumption) | (with_reducible refine Off.new (by assumption) _ _ ?_; wtm_at "off8") | (with_reducible refine at_same (by with_reducible assumption) ?_; wtm_at "off8"))
local macro_rules | `(tactic| wtm_at "at9") => `(tactic| first | with_reducible assumption | with_reducible exact upd_same | (with_reducible refine at_new (by assumption) ?_; wtm_at "at8") | (with_reducible refine at_same (by with_reducible assumption) ?_; wtm_at "at8") | (with_reducible apply Off.at; wtm_at "off9"))
local macro_rules | `(tactic| wtm_at "off10") => `(tactic| first | with_reducible assumption | (with_reducible apply Off.mk; wtm_at "pen"; assumption) | (with_reducible refine Off.new (by assumption) _ _ ?_; wtm_at "off9") | (with_reducible refine at_same (by with_reducible assumption) ?_; wtm_at "off9"))
local macro_rules | `(tactic| wtm_at "at10") => `(tactic| first | with_reducible assumption | with_reducible exact upd_same | (with_reducible refine at_new (by assumption) ?_; wtm_at "at9") | (with_reducible refine at_same (by with_reducible assumption) ?_; wtm_at "at9") | (with_reducible apply Off.at; wtm_at "off10"))
local macro_rules | `(tactic| wtm_at "off11") => `(tactic| first | with_reducible assumption | (with_reducible apply Off.mk; wtm_at "pen"; assumption) | (with_reducible refine Off.new (by assumption) _ _ ?_; wtm_at "off10") | (with_reducible refine at_same (by with_reducible assumption) ?_; wtm_at "off10"))
local macro_rules | `(tactic| wtm_at "at11") => `(tactic| first | with_reducible assumption | with_reducible exact upd_same | (with_reducible refine at_new (by assumption) ?_; wtm_at "at10") | (with_reducible refine at_same (by with_reducible assumption) ?_; wtm_at "at10") | (with_reducible apply Off.at; wtm_at "off11"))
local macro_rules | `(tactic| wtm_at "off12") => `(tactic| first | with_reducible assumption | (with_reducible apply Off.mk; wtm_at "pen"; assumption) | (with_reducible refine Off.new (by assumption) _ _ ?_; wtm_at "off11") | (with_reducible refine at_same (by with_reducible assumption) ?_; wtm_at "off11"))
local macro_rules | `(tactic| wtm_at "at12") => `(tactic| first | with_reducible assumption | with_reducible exact upd_same | (with_reducible refine at_new (by assumption) ?_; wtm_at "at11") | (with_reducible refine at_same (by with_reducible assumption) ?_; wtm_at "at11") | (with_reducible apply Off.at; wtm_at "off12"))
local macro_rules | `(tactic| wtm_at "off13") => `(tactic| first | with_reducible assumption | (with_reducible apply Off.mk; wtm_at "pen"; assumption) | (with_reducible refine Off.new (by assumption) _ _ ?_; wtm_at "off12") | (with_reducible refine at_same (by with_reducible assumption) ?_; wtm_at "off12"))
local macro_rules | `(tactic| wtm_at "at13") => `(tactic| first | with_reducible assumption | with_reducible exact upd_same | (with_reducible refine at_new (by assumption) ?_; wtm_at "at12") | (with_reducible refine at_same (by with_reducible assumption) ?_; wtm_at "at12") | (with_reducible apply Off.at; wtm_at "off13"))
local macro_rules | `(tactic| wtm_at "off14") => `(tactic| first | with_reducible assumption | (with_reducible apply Off.mk; wtm_at "pen"; assumption) | (with_reducible refine Off.new (by assumption) _ _ ?_; wtm_at "off13") | (with_reducible refine at_same (by with_reducible assumption) ?_; wtm_at "off13"))
local macro_rules | `(tactic| wtm_at "at14") => `(tactic| first | with_reducible assumption | with_reducible exact upd_same | (with_reducible refine at_new (by assumption) ?_; wtm_at "at13") | (with_reducible refine at_same (by with_reducible assumption) ?_; wtm_at "at13") | (with_reducible apply Off.at; wtm_at "off14"))
local macro_rules | `(tactic| wtm_at "off15") => `(tactic| first | with_reducible assumption | (with_reducible apply Off.mk; wtm_at "pen"; assumption) | (with_reducible refine Off.new (by assumption) _ _ ?_; wtm_at "off14") | (with_reducible refine at_same (by with_reducible assumption) ?_; wtm_at "off14"))
local macro_rules | `(tactic| wtm_at "at15") => `(tactic| first | with_reducible assumption | with_reducible exact upd_same | (with_reducible refine at_new (by assumption) ?_; wtm_at "at14") | (with_reducible refine at_same (by with_reducible assumption) ?_; wtm_at "at14") | (with_reducible apply Off.at; wtm_at "off15"))
local macro_rules | `(tactic| wtm_at "off16") => `(tactic| first | with_reducible assumption | (with_reducible apply Off.mk; wtm_at "pen"; assumption) | (with_reducible refine Off.new (by assumption) _ _ ?_; wtm_at "off15") | (with_reducible refine at_same (by with_reducible assumption) ?_; wtm_at "off15"))
local macro_rules | `(tactic| wtm_at "at16") => `(tactic| first | with_reducible assumption | with_reducible exact upd_same | (with_reducible refine at_new (by assumption) ?_; wtm_at "at15") | (with_reducible refine at_same (by with_reducible assumption) ?_; wtm_at "at15") | (with_reducible apply Off.at; wtm_at "off16"))
local macro_rules | `(tactic| wtm_at "off17") => `(tactic| first | with_reducible assumption | (with_reducible apply Off.mk; wtm_at "pen"; assumption) | (with_reducible refine Off.new (by assumption) _ _ ?_; wtm_at "off16") | (with_reducible refine at_same (by with_reducible assumption) ?_; wtm_at "off16"))
local macro_rules | `(tactic| wtm_at "at17") => `(tactic| first | with_reducible assumption | with_reducible exact upd_same | (with_reducible refine at_new (by assumption) ?_; wtm_at "at16") | (with_reducible refine at_same (by with_reducible assumption) ?_; wtm_at "at16") | (with_reducible apply Off.at; wtm_at "off17"))
local macro_rules | `(tactic| wtm_at "off18") => `(tactic| first | with_reducible assumption | (with_reducible apply Off.mk; wtm_at "pen"; assumption) | (with_reducible refine Off.new (by assumption) _ _ ?_; wtm_at "off17") | (with_reducible refine at_same (by with_reducible assumption) ?_; wtm_at "off17"))
local macro_rules | `(tactic| wtm_at "at18") => `(tactic| first | with_reducible assumption | with_reducible exact upd_same | (with_reducible refine at_new (by assumption) ?_; wtm_at "at17") | (with_reducible refine at_same (by with_reducible assumption) ?_; wtm_at "at17") | (with_reducible apply Off.at; wtm_at "off18"))
local macro_rules | `(tactic| wtm_at "off19") => `(tactic| first | with_reducible assumption | (with_reducible apply Off.mk; wtm_at "pen"; assumption) | (with_reducible refine Off.new (by assumption) _ _ ?_; wtm_at "off18") | (with_reducible refine at_same (by with_reducible assumption) ?_; wtm_at "off18"))
local macro_rules | `(tactic| wtm_at "at19") => `(tactic| first | with_reducible assumption | with_reducible exact upd_same | (with_reducible refine at_new (by assumption) ?_; wtm_at "at18") | (with_reducible refine at_same (by with_reducible assumption) ?_; wtm_at "at18") | (with_reducible apply Off.at; wtm_at "off19"))
local macro_rules | `(tactic| wtm_at "off20") => `(tactic| first | with_reducible assumption | (with_reducible apply Off.mk; wtm_at "pen"; assumption) | (with_reducible refine Off.new (by assumption) _ _ ?_; wtm_at "off19") | (with_reducible refine at_same (by with_reducible assumption) ?_; wtm_at "off19"))
local macro_rules | `(tactic| wtm_at "at20") => `(tactic| first | with_reducible assumption | with_reducible exact upd_same | (with_reducible refine at_new (by assumption) ?_; wtm_at "at19") | (with_reducible refine at_same (by with_reducible assumption) ?_; wtm_at "at19") | (with_reducible apply Off.at; wtm_at "off20"))
local macro_rules | `(tactic| wtm_at "off21") => `(tactic| first | with_reducible assumption | (with_reducible apply Off.mk; wtm_at "pen"; assumption) | (with_reducible refine Off.new (by assumption) _ _ ?_; wtm_at "off20") | (with_reducible refine at_same (by with_reducible assumption) ?_; wtm_at "off20"))
local macro_rules | `(tactic| wtm_at "at21") => `(tactic| first | with_reducible assumption | with_reducible exact upd_same | (with_reducible refine at_new (by assumption) ?_; wtm_at "at20") | (with_reducible refine at_same (by with_reducible assumption) ?_; wtm_at "at20") | (with_reducible apply Off.at; wtm_at "off21"))
local macro_rules | `(tactic| wtm_at "off22") => `(tactic| first | with_reducible assumption | (with_reducible apply Off.mk; wtm_at "pen"; assumption) | (with_reducible refine Off.new (by assumption) _ _ ?_; wtm_at "off21") | (with_reducible refine at_same (by with_reducible assumption) ?_; wtm_at "off21"))
local macro_rules | `(tactic| wtm_at "at22") => `(tactic| first | with_reducible assumption | with_reducible exact upd_same | (with_reducible refine at_new (by assumption) ?_; wtm_at "at21") | (with_reducible refine at_same (by with_reducible assumption) ?_; wtm_at "at21") | (with_reducible apply Off.at; wtm_at "off22"))
local macro_rules | `(tactic| wtm_at "off23") => `(tactic| first | with_reducible assumption | (with_reducible apply Off.mk; wtm_at "pen"; assumption) | (with_reducible refine Off.new (by assumption) _ _ ?_; wtm_at "off22") | (with_reducible refine at_same (by with_reducible assumption) ?_; wtm_at "off22"))
local macro_rules | `(tactic| wtm_at "at23") => `(tactic| first | with_reducible assumption | with_reducible exact upd_same | (with_reducible refine at_new (by assumption) ?_; wtm_at "at22") | (with_reducible refine at_same (by with_reducible assumption) ?_; wtm_at "at22") | (with_reducible apply Off.at; wtm_at "off23"))
local macro_rules | `(tactic| wtm_at "off24") => `(tactic| first | with_reducible assumption | (with_reducible apply Off.mk; wtm_at "pen"; assumption) | (with_reducible refine Off.new (by assumption) _ _ ?_; wtm_at "off23") | (with_reducible refine at_same (by with_reducible assumption) ?_; wtm_at "off23"))
local macro_rules | `(tactic| wtm_at "at24") => `(tactic| first | with_reducible assumption | with_reducible exact upd_same | (with_reducible refine at_new (by assumption) ?_; wtm_at "at23") | (with_reducible refine at_same (by with_reducible assumption) ?_; wtm_at "at23") | (with_reducible apply Off.at; wtm_at "off24"))
local macro_rules | `(tactic| wtm_at "off25") => `(tactic| first | with_reducible assumption | (with_reducible apply Off.mk; wtm_at "pen"; assumption) | (with_reducible refine Off.new (by assumption) _ _ ?_; wtm_at "off24") | (with_reducible refine at_same (by with_reducible assumption) ?_; wtm_at "off24"))
local macro_rules | `(tactic| wtm_at "at25") => `(tactic| first | with_reducible assumption | with_reducible exact upd_same | (with_reducible refine at_new (by assumption) ?_; wtm_at "at24") | (with_reducible refine at_same (by with_reducible assumption) ?_; wtm_at "at24") | (with_reducible apply Off.at; wtm_at "off25"))
local macro_rules | `(tactic| wtm_at "off26") => `(tactic| first | with_reducible assumption | (with_reducible apply Off.mk; wtm_at "pen"; assumption) | (with_reducible refine Off.new (by assumption) _ _ ?_; wtm_at "off25") | (with_reducible refine at_same (by with_reducible assumption) ?_; wtm_at "off25"))
local macro_rules | `(tactic| wtm_at "at26") => `(tactic| first | with_reducible assumption | with_reducible exact upd_same | (with_reducible refine at_new (by assumption) ?_; wtm_at "at25") | (with_reducible refine at_same (by with_reducible assumption) ?_; wtm_at "at25") | (with_reducible apply Off.at; wtm_at "off26"))
local macro_rules | `(tactic| wtm_at "off27") => `(tactic| first | with_reducible assumption | (with_reducible apply Off.mk; wtm_at "pen"; assumption) | (with_reducible refine Off.new (by assumption) _ _ ?_; wtm_at "off26") | (with_reducible refine at_same (by with_reducible assumption) ?_; wtm_at "off26"))
local macro_rules | `(tactic| wtm_at "at27") => `(tactic| first | with_reducible assumption | with_reducible exact upd_same | (with_reducible refine at_new (by assumption) ?_; wtm_at "at26") | (with_reducible refine at_same (by with_reducible assumption) ?_; wtm_at "at26") | (with_reducible apply Off.at; wtm_at "off27"))
local macro_rules | `(tactic| wtm_at "off28") => `(tactic| first | with_reducible assumption | (with_reducible apply Off.mk; wtm_at "pen"; assumption) | (with_reducible refine Off.new (by assumption) _ _ ?_; wtm_at "off27") | (with_reducible refine at_same (by with_reducible assumption) ?_; wtm_at "off27"))
local macro_rules | `(tactic| wtm_at "at28") => `(tactic| first | with_reducible assumption | with_reducible exact upd_same | (with_reducible refine at_new (by assumption) ?_; wtm_at "at27") | (with_reducible refine at_same (by with_reducible assumption) ?_; wtm_at "at27") | (with_reducible apply Off.at; wtm_at "off28"))
local macro_rules | `(tactic| wtm_at "off29") => `(tactic| first | with_reducible assumption | (with_reducible apply Off.mk; wtm_at "pen"; assumption) | (with_reducible refine Off.new (by assumption) _ _ ?_; wtm_at "off28") | (with_reducible refine at_same (by with_reducible assumption) ?_; wtm_at "off28"))
local macro_rules | `(tactic| wtm_at "at29") => `(tactic| first | with_reducible assumption | with_reducible exact upd_same | (with_reducible refine at_new (by assumption) ?_; wtm_at "at28") | (with_reducible refine at_same (by with_reducible assumption) ?_; wtm_at "at28") | (with_reducible apply Off.at; wtm_at "off29"))
local macro_rules | `(tactic| wtm_at "off30") => `(tactic| first | with_reducible assumption | (with_reducible apply Off.mk; wtm_at "pen"; assumption) | (with_reducible refine Off.new (by assumption) _ _ ?_; wtm_at "off29") | (with_reducible refine at_same (by with_reducible assumption) ?_; wtm_at "off29"))
local macro_rules | `(tactic| wtm_at "at30") => `(tactic| first | with_reducible assumption | with_reducible exact upd_same | (with_reducible refine at_new (by assumption) ?_; wtm_at "at29") | (with_reducible refine at_same (by with_reducible assumption) ?_; wtm_at "at29") | (with_reducible apply Off.at; wtm_at "off30"))
local macro_rules | `(tactic| wtm_at "off31") => `(tactic| first | with_reducible assumption | (with_reducible apply Off.mk; wtm_at "pen"; assumption) | (with_reducible refine Off.new (by assumption) _ _ ?_; wtm_at "off30") | (with_reducible refine at_same (by with_reducible assumption) ?_; wtm_at "off30"))
local macro_rules | `(tactic| wtm_at "at31") => `(tactic| first | with_reducible assumption | with_reducible exact upd_same | (with_reducible refine at_new (by assumption) ?_; wtm_at "at30") | (with_reducible refine at_same (by with_reducible assumption) ?_; wtm_at "at30") | (with_reducible apply Off.at; wtm_at "off31"))
local macro_rules | `(tactic| wtm_at "off32") => `(tactic| first | with_reducible assumption | (with_reducible apply Off.mk; wtm_at "pen"; assumption) | (with_reducible refine Off.new (by assumption) _ _ ?_; wtm_at "off31") | (with_reducible refine at_same (by with_reducible assumption) ?_; wtm_at "off31"))
local macro_rules | `(tactic| wtm_at "at32") => `(tactic| first | with_reducible assumption | with_reducible exact upd_same | (with_reducible refine at_new (by assumption) ?_; wtm_at "at31") | (with_reducible refine at_same (by with_reducible assumption) ?_; wtm_at "at31") | (with_reducible apply Off.at; wtm_at "off32"))
local macro_rules | `(tactic| wtm_at "off33") => `(tactic| first | with_reducible assumption | (with_reducible apply Off.mk; wtm_at "pen"; assumption) | (with_reducible refine Off.new (by assumption) _ _ ?_; wtm_at "off32") | (with_reducible refine at_same (by with_reducible assumption) ?_; wtm_at "off32"))
local macro_rules | `(tactic| wtm_at "at33") => `(tactic| first | with_reducible assumption | with_reducible exact upd_same | (with_reducible refine at_new (by assumption) ?_; wtm_at "at32") | (with_reducible refine at_same (by with_reducible assumption) ?_; wtm_at "at32") | (with_reducible apply Off.at; wtm_at "off33"))
local macro_rules | `(tactic| wtm_at "off34") => `(tactic| first | with_reducible assumption | (with_reducible apply Off.mk; wtm_at "pen"; assumption) | (with_reducible refine Off.new (by assumption) _ _ ?_; wtm_at "off33") | (with_reducible refine at_same (by with_reducible assumption) ?_; wtm_at "off33"))
local macro_rules | `(tactic| wtm_at "at34") => `(tactic| first | with_reducible assumption | with_reducible exact upd_same | (with_reducible refine at_new (by assumption) ?_; wtm_at "at33") | (with_reducible refine at_same (by with_reducible assumption) ?_; wtm_at "at33") | (with_reducible apply Off.at; wtm_at "off34"))
local macro_rules | `(tactic| wtm_at "off35") => `(tactic| first | with_reducible assumption | (with_reducible apply Off.mk; wtm_at "pen"; assumption) | (with_reducible refine Off.new (by assumption) _ _ ?_; wtm_at "off34") | (with_reducible refine at_same (by with_reducible assumption) ?_; wtm_at "off34"))
local macro_rules | `(tactic| wtm_at "at35") => `(tactic| first | with_reducible assumption | with_reducible exact upd_same | (with_reducible refine at_new (by assumption) ?_; wtm_at "at34") | (with_reducible refine at_same (by with_reducible assumption) ?_; wtm_at "at34") | (with_reducible apply Off.at; wtm_at "off35"))
local macro_rules | `(tactic| wtm_at "off36") => `(tactic| first | with_reducible assumption | (with_reducible apply Off.mk; wtm_at "pen"; assumption) | (with_reducible refine Off.new (by assumption) _ _ ?_; wtm_at "off35") | (with_reducible refine at_same (by with_reducible assumption) ?_; wtm_at "off35"))
local macro_rules | `(tactic| wtm_at "at36") => `(tactic| first | with_reducible assumption | with_reducible exact upd_same | (with_reducible refine at_new (by assumption) ?_; wtm_at "at35") | (with_reducible refine at_same (by with_reducible assumption) ?_; wtm_at "at35") | (with_reducible apply Off.at; wtm_at "off36"))
local macro_rules | `(tactic| wtm_at "off37") => `(tactic| first | with_reducible assumption | (with_reducible apply Off.mk; wtm_at "pen"; assumption) | (with_reducible refine Off.new (by assumption) _ _ ?_; wtm_at "off36") | (with_reducible refine at_same (by with_reducible assumption) ?_; wtm_at "off36"))
local macro_rules | `(tactic| wtm_at "at37") => `(tactic| first | with_reducible assumption | with_reducible exact upd_same | (with_reducible refine at_new (by assumption) ?_; wtm_at "at36") | (with_reducible refine at_same (by with_reducible assumption) ?_; wtm_at "at36") | (with_reducible apply Off.at; wtm_at "off37"))
local macro_rules | `(tactic| wtm_at "off38") => `(tactic| first | with_reducible assumption | (with_reducible apply Off.mk; wtm_at "pen"; assumption) | (with_reducible refine Off.new (by assumption) _ _ ?_; wtm_at "off37") | (with_reducible refine at_same (by with_reducible assumption) ?_; wtm_at "off37"))
local macro_rules | `(tactic| wtm_at "at38") => `(tactic| first | with_reducible assumption | with_reducible exact upd_same | (with_reducible refine at_new (by assumption) ?_; wtm_at "at37") | (with_reducible refine at_same (by with_reducible assumption) ?_; wtm_at "at37") | (with_reducible apply Off.at; wtm_at "off38"))
local macro_rules | `(tactic| wtm_at "off39") => `(tactic| first | with_reducible assumption | (with_reducible apply Off.mk; wtm_at "pen"; assumption) | (with_reducible refine Off.new (by assumption) _ _ ?_; wtm_at "off38") | (with_reducible refine at_same (by with_reducible assumption) ?_; wtm_at "off38"))
local macro_rules | `(tactic| wtm_at "at39") => `(tactic| first | with_reducible assumption | with_reducible exact upd_same | (with_reducible refine at_new (by assumption) ?_; wtm_at "at38") | (with_reducible refine at_same (by with_reducible assumption) ?_; wtm_at "at38") | (with_reducible apply Off.at; wtm_at "off39"))
local macro_rules | `(tactic| wtm_at "at") => `(tactic| wtm_at "at39")
local macro_rules | `(tactic| wtm_at "off") => `(tactic| wtm_at "off39")
local macro_rules | `(tactic| wtm_at "pen") => `(tactic| first
  | assumption | (refine Pen.new (by assumption) ?_; wtm_at "pen") | (refine Pen.same (by assumption) ?_; wtm_at "pen"))
local macro_rules | `(tactic| wtm_at "same") => `(tactic| first
  | exact fun _ _ h => h | assumption | exact same_new (by assumption) | (refine same_trans ?_ (same_new (by assumption)); wtm_at "same") | (refine same_trans ?_ (by assumption); wtm_at "same")
  | (refine same_trans ?_ (Off.new (by assumption)); wtm_at "same") | (refine same_trans ?_ (Off.same (by assumption)); wtm_at "same"))
local macro_rules | `(tactic| wtm_at "dps") => `(tactic| first
  | exact .nil | (apply DpAll.cons; wtm_at "dp"; wtm_at "dps") | exact dpAll_ints _)
local macro_rules | `(tactic| wtm_at "dp") => `(tactic| first
  | exact .non | exact .bl _ | exact .int _ | exact .str _ | (fail) | (apply Dp.lst; (apply SqL.of; wtm_at "at"); wtm_at "dps") | (apply Dp.tup; (apply SqT.of; wtm_at "at"); wtm_at "dps"))
local macro_rules | `(tactic| wtm_at "side") => `(tactic| first
  | exact ⟨by decide, by decide⟩ | exact ⟨by decide, by decide, by decide⟩ | exact .inl ⟨by decide, by decide⟩ | exact .inr ⟨by decide, by decide⟩ | (show ¬ _ = _; decide))
local macro_rules | `(tactic| wtm_at "sml") => `(tactic| first
  | exact sml_none (by decide) | exact sml_bool (by decide) | exact sml_int (by decide) (by omega) | (fail) | exact sml_list (n := 19) (k := 0) (by wtm_at "smls") (by decide) (by decide))
local macro_rules | `(tactic| wtm_at "smls") => `(tactic| first | exact smlAll_nil (m := 0) | (apply smlAll_cons; wtm_at "sml"; wtm_at "smls"))
local macro_rules | `(tactic| wtm_at "shw") => `(tactic| exact Sml.shw (n := 10000) (k := 50) (by wtm_at "sml") (by decide) (by decide))
local macro_rules | `(tactic| wtm_at "rd") => `(tactic| first
  | refine ⟨_, rfl, ?_⟩ | refine ⟨_, _, rfl, rfl, ?_⟩ | refine ifT rfl ?_ | refine ifF rfl ?_ | refine ⟨rfl, ?_⟩
  | refine ⟨_, _, by rfl, by wtm_at "dp", by wtm_at "shw", ?_⟩
  | refine ⟨_, _, _, _, _, rfl, by wtm_at "at", by wtm_at "cls", by wtm_at "na", by rfl, ?_⟩
  | refine ⟨_, _, rfl, .inr (SqT.of (by wtm_at "at")), ?_⟩ | refine ⟨_, _, rfl, .inl (SqL.of (by wtm_at "at")), ?_⟩
  | refine ⟨_, _, rfl, .inr (SqT.of (by wtm_at "at")), by rfl, by rfl, ?_⟩ | refine ⟨_, _, rfl, .inl (SqL.of (by wtm_at "at")), by rfl, by rfl, ?_⟩
  | refine ⟨_, _, _, _, rfl, rfl, SqT.of (by wtm_at "at"), by rfl, ?_⟩ | refine ⟨_, _, _, _, rfl, rfl, SqL.of (by wtm_at "at"), by rfl, ?_⟩
  | refine ⟨_, _, rfl, rfl, by wtm_at "side", ?_⟩
  | refine ⟨_, _, by wtm_at "dp", by wtm_at "dp", by first | rfl | decide +kernel, by first | rfl | decide +kernel, ?_⟩
  | refine ⟨_, _, [_, _], [_, _], rfl, rfl, sqI2 (by wtm_at "at"), sqI2 (by wtm_at "at"), ?_⟩
  | refine ⟨_, _, rfl, ?_⟩
  | refine ⟨Nat.le_of_ble_eq_true rfl, fun _ _ => ?_⟩
  | refine ifF (by decide +kernel) ?_ | refine ifF (nd_refl _) ?_ | refine ifT (de_refl _) ?_)
local macro_rules | `(tactic| wtm_at "cls") => `(tactic| first | exact cls_Agent _)
local macro_rules | `(tactic| wtm_at "na") => `(tactic| first | exact na_Agent_name _ | exact na_Agent_steps _ | exact na_Agent_shape _)

def spRound (K : PySem.W.Frag) : Sp := fun vs H Q _ => ∃ (p c : Addr) (m : Int), vs = [.ref p] ∧ Pen H p c m ∧ m ≤ 50000 ∧ ∀ H', Same (Off p H) (Off p H') → Pen H' p c (m + 100) → Q (.bl true) H'
/-- the list of steps, which may still be changed -/
structure LS (K : PySem.W.Frag) (p c : Addr) (H : Hp) (m : Int) (l : Addr) (xs : List V) (ds : List PyData) (H' : Hp) : Prop where
  e : H' l = some (.lst xs)
  n : H l = none
  s : Same (Off p H) (Off p H')
  P : Pen H' p c m
  q : DqAll K (Off l (Off p H')) xs ds
  t : ∀ d ∈ ds, partsSmall d
  b : ds.length ≤ 25
theorem LS.to {K : PySem.W.Frag} {p c : Addr} {H H1 H2 : Hp} {m0 m m' : Int} {l : Addr} {xs : List V} {ds : List PyData} (L : LS K p c H m l xs ds H1) (P0 : Pen H p c m0) (s : Same (Off p H1) (Off p H2)) (P : Pen H2 p c m') : LS K p c H m' l xs ds H2 :=
  ⟨Uk.Off.at (s _ _ (Uk.Off.of L.e (P0.ne L.n))), L.n, same_trans L.s s, P, dqAll_mono (Uk.Off.same (p := l) s) L.q, L.t, L.b⟩
theorem in12 (n : Nat) : inV (.int n) [.int 1, .int 2] = (decide (n = 1) || decide (n = 2)) := by
  show (((1 : Int) == (n : Int)) || (((2 : Int) == (n : Int)) || false)) = _
  rw [Bool.or_false]
  have e1 : ((1 : Int) == (n : Int)) = decide (n = 1) := by
    by_cases h : n = 1
    · subst h; rfl
    · rw [decide_eq_false h]; exact beq_eq_false_iff_ne.mpr (by omega)
  have e2 : ((2 : Int) == (n : Int)) = decide (n = 2) := by
    by_cases h : n = 2
    · subst h; rfl
    · rw [decide_eq_false h]; exact beq_eq_false_iff_ne.mpr (by omega)
  rw [e1, e2]
theorem dqAll_rep {K : PySem.W.Frag} {H : Hp} {v : V} {d : PyData} (h : Dq K H v d) : ∀ n, DqAll K H (List.replicate n [v]).flatten (List.replicate n d)
  | 0 => .nil
  | n + 1 => .cons h (dqAll_rep h n)
theorem rep_len (v : V) (n : Nat) : (List.replicate n [v]).flatten.length = n := by simp
theorem len1 {α : Type} : ∀ {l : List α}, l.length = 1 → ∃ a, l = [a]
  | [a], _ => ⟨a, rfl⟩
section
variable {mg : PySem.Str → Option Value} {base : Heap} {w : World}
theorem ok__law_round (M : Mod (hd04.heap_39 w.params) mg base) : CallG PP w (hd04.heap_39 w.params) mg base 15 (.ref 476) (pos (spRound (hd04.heap_39 w.params))) := by
  obtain ⟨fd, F⟩ := fn__law_round w
  refine def_pos F sc__law_round (fun vs H Q E h => ?_) (fun _ _ _ _ _ _ us hl => match us, hl with | [_], _ => rfl) (fun cdv A outer s H vs Q E hr hg h => ?_)
  · obtain ⟨p, c, m, rfl, _⟩ := h; rfl
  have nd := sc__law_round.nd
  obtain ⟨p, c, m, rfl, P, hm, q⟩ := h
  refine ⟨_, (pss_cons (ps_set (i := 1) nd rfl (.inr rfl) (pe_cl (takes_of rfl rfl rfl rfl) (ok_drawP M) (hr.mono (by decide)) hg rfl (mg__law_draw M) (kp__law_draw w) (pa_cons (pv 0) (pa_cons pe_int pa_nil))))
      (pss_cons (ps_setLc (i := 2) (own := [("k", 3)]) (g := gName 3) (by rfl) nd rfl rfl (sw_true rfl rfl rfl (by decide +kernel)) (pi_range1 (by rfl) (mn_range M) (pa_cons (pe_op op_add pe_int (pe_cl (takes_of rfl rfl rfl rfl) (ok_drawP M) (hr.mono (by decide)) hg rfl (mg__law_draw M) (kp__law_draw w) (pa_cons (pv 0) (pa_cons pe_int pa_nil)))) pa_nil)) (blkOk_by (own := [("k", 3)]) (N := ["pen", "kind", "handed", "k", "size_choice", "called", "kept", "found"]) (sc := defScope s__law_round) (by decide +kernel)) (fun _ _ _ _ _ => pg_name (i := 3) nd rfl (Or.inl rfl)) (fun _ _ _ _ _ => pts_nil) (fun _ _ _ _ _ => (pe_cl takes_no (ok__law_good_step M) (hr.mono (by decide)) hg rfl (mg__law_good_step M) (kp__law_good_step w) (pa_cons (pv 0) (pa_cons (pv 1) pa_nil)))))
      (pss_cons (ps_set (i := 4) nd rfl (.inl rfl) (pe_cl (takes_of rfl rfl rfl rfl) (ok_drawP M) (hr.mono (by decide)) hg rfl (mg__law_draw M) (kp__law_draw w) (pa_cons (pv 0) (pa_cons pe_int pa_nil))))
      (pss_cons (ps_if (pt_cmpR op_lt (pv 4) pe_int (nomark _)) (pss_one (ps_set (i := 2) nd rfl (.inl rfl) (pe_op op_rep (pe_lst (pa_cons (pe_cl (takes_of rfl rfl rfl rfl) (ok__law_good_step M) (hr.mono (by decide)) hg rfl (mg__law_good_step M) (kp__law_good_step w) (pa_cons (pv 0) (pa_cons (pv 1) pa_nil))) pa_nil)) (pe_op op_add pe_int (pv 4))))) (pss_one (ps_if (pt_cmpR op_eq (pv 4) pe_int (nomark _)) (pss_one (ps_set (i := 2) nd rfl (.inl rfl) (pe_lst pa_nil))) pss_nil)))
      (pss_cons (ps_for (passes_of rfl) rfl (pi_range1 (by rfl) (mn_range M) (pa_cons (pe_ix ix_list (pe_lst (pa_cons pe_int (pa_cons pe_int (pa_cons pe_int (pa_cons pe_int pa_nil))))) (pe_cl (takes_of rfl rfl rfl rfl) (ok_drawP M) (hr.mono (by decide)) hg rfl (mg__law_draw M) (kp__law_draw w) (pa_cons (pv 0) (pa_cons pe_int pa_nil))) (fun _ _ => rfl)) pa_nil)) (pg_name (i := 3) nd rfl (.inl rfl)) (pss_one (ps_if (pt_cmpR (op_neLs (hu_big hr)) (pv 2) (pe_lst pa_nil) (nomark _)) (pss_one (ps_asg (pe_cl (takes_of rfl rfl rfl rfl) (ok__law_bent_step M) (hr.mono (by decide)) hg rfl (mg__law_bent_step M) (kp__law_bent_step w) (pa_cons (pv 0) (pa_cons (pv 1) pa_nil))) (pg_sub (pv 2) (pe_cl (takes_of rfl rfl rfl rfl) (ok_drawP M) (hr.mono (by decide)) hg rfl (mg__law_draw M) (kp__law_draw w) (pa_cons (pv 0) (pa_cons (pe_callB call_len_seq (by rfl) (mn_len M) (by decide +kernel) (pa_cons (pv 2) pa_nil)) pa_nil))) set_list))) pss_nil)))
      (pss_cons (ps_set (i := 5) nd rfl (.inl rfl) (pe_slice sl_str pe_str po_none (po_some (pe_op op_add pe_int (pe_cl (takes_of rfl rfl rfl rfl) (ok_drawP M) (hr.mono (by decide)) hg rfl (mg__law_draw M) (kp__law_draw w) (pa_cons (pv 0) (pa_cons pe_int pa_nil)))))))
      (pss_cons (ps_if (pt_cmpR op_eq (pe_cl (takes_of rfl rfl rfl rfl) (ok_drawP M) (hr.mono (by decide)) hg rfl (mg__law_draw M) (kp__law_draw w) (pa_cons (pv 0) (pa_cons pe_int pa_nil))) pe_int (nomark _)) (pss_one (ps_set (i := 5) nd rfl (.inl rfl) (pe_cl (takes_of rfl rfl rfl rfl) (ok__law_thing M) (hr.mono (by decide)) hg rfl (mg__law_thing M) (kp__law_thing w) (pa_cons (pv 0) pa_nil)))) pss_nil)
      (pss_cons (ps_set (i := 6) nd rfl (.inl rfl) (pe_callTy call_list_of (by rfl) (mn_list M) (by decide +kernel) (pa_cons (pv 2) pa_nil)))
      (pss_cons (ps_set (i := 7) nd rfl (.inl rfl) (pe_cl (takes_of rfl rfl rfl rfl) (ok__law_asked M) (hr.mono (by decide)) hg rfl (mg__law_asked M) (kp__law_asked w) (pa_cons (pv 1) (pa_cons (pv 5) (pa_cons (pv 2) (pa_cons pe_bl pa_nil))))))
      (pss_cons (ps_if (PW.pt (pw_or (pt_not (pt_val (pe_cl (takes_of rfl rfl rfl rfl) (ok__law_right M) (hr.mono (by decide)) hg rfl (mg__law_right M) (kp__law_right w) (pa_cons (pv 7) (pa_cons (pv 1) (pa_cons (pv 5) (pa_cons (pv 6) pa_nil))))))) (pw_or1 (pt_cmpR (op_neLs (hu_big hr)) (pv 2) (pv 6) (nomark _))))) (pss_one (ps_ret pe_bl)) pss_nil)
      (pss_cons (ps_if (pt_cmpR op_in_seq (pe_callB call_len_seq (by rfl) (mn_len M) (by decide +kernel) (pa_cons (pv 2) pa_nil)) (pe_tup (pa_cons pe_int (pa_cons pe_int pa_nil))) (by rfl)) (pss_cons (ps_set (i := 7) nd rfl (.inl rfl) (pe_cl (takes_of rfl rfl rfl rfl) (ok__law_asked M) (hr.mono (by decide)) hg rfl (mg__law_asked M) (kp__law_asked w) (pa_cons (pv 1) (pa_cons (pv 5) (pa_cons (pv 2) (pa_cons pe_bl pa_nil))))))
      (pss_one (ps_if (pt_not (pt_val (pe_cl (takes_of rfl rfl rfl rfl) (ok__law_right M) (hr.mono (by decide)) hg rfl (mg__law_right M) (kp__law_right w) (pa_cons (pv 7) (pa_cons (pv 1) (pa_cons (pv 5) (pa_cons (pv 6) pa_nil))))))) (pss_one (ps_ret pe_bl)) pss_nil))) pss_nil)
      (pss_cons (ps_if (pt_not (pt_val (pe_cl (takes_of rfl rfl rfl rfl) (ok__law_refusal M) (hr.mono (by decide)) hg rfl (mg__law_refusal M) (kp__law_refusal w) (pa_cons (pe_cl (takes_of rfl rfl rfl rfl) (ok__law_no_steps M) (hr.mono (by decide)) hg rfl (mg__law_no_steps M) (kp__law_no_steps w) (pa_cons (pv 1) pa_nil)) (pa_cons pe_str (pa_cons pe_non pa_nil)))))) (pss_one (ps_ret pe_bl)) pss_nil)
      (pss_cons (ps_if (PW.pt (pw_and (pt_cmpR op_eq (pe_callB call_len_seq (by rfl) (mn_len M) (by decide +kernel) (pa_cons (pv 2) pa_nil)) pe_int (nomark _)) (pw_and1 (pt_not (pt_val (pe_cl (takes_of rfl rfl rfl rfl) (ok__law_right M) (hr.mono (by decide)) hg rfl (mg__law_right M) (kp__law_right w) (pa_cons (pe_cl (takes_of rfl rfl rfl rfl) (ok__law_again M) (hr.mono (by decide)) hg rfl (mg__law_again M) (kp__law_again w) (pa_cons (pv 1) (pa_cons (pv 2) pa_nil))) (pa_cons (pv 1) (pa_cons pe_str (pa_cons (pv 6) pa_nil)))))))))) (pss_one (ps_ret pe_bl)) pss_nil)
      (pss_one (ps_ret pe_bl))))))))))))))), ?_⟩
  refine ⟨_, rfl, rfl, p, c, m, 3, rfl, P, by omega, by decide, by decide, fun k H1 hk0 hk3 s1 P1 => ?_⟩
  refine ⟨_, rfl, rfl, p, c, m + 1, 7, rfl, P1, by omega, by decide, by decide, fun a2 H2 a20 a21 s2 P2 => ⟨_, _, rfl, rfl, ?_⟩⟩
  have sA : Same (Off p H) (Off p H2) := same_trans s1 s2
  refine ⟨1 + a2, rfl, by omega, by omega, fun D hD => ?_⟩
  have nD : H D = none := old_none sA P2 hD
  have Dp : D ≠ p := P.ne nD
  have Dc : D ≠ c := P.ne2 nD
  refine lc_range (lo := 0) (n := (1 + a2).toNat) (fun i H' => ∃ xs ds, LS (hd04.heap_39 w.params) p c H (m + 2 + 5 * i) D xs ds H' ∧ ds.length = i) ⟨[], [], ⟨upd_same, nD, same_trans sA (Uk.Off.new hD), (P2.new hD).mono (by omega), .nil, (fun d hd => nomatch hd), Nat.zero_le _⟩, rfl⟩ (fun i H' hi h => ?_) (fun H' h => ?_)
  · obtain ⟨xs, ds, L, hl⟩ := h
    refine ⟨rfl, ?_⟩
    refine ⟨_, rfl, _, rfl, rfl, p, c, _, k, rfl, L.P, by omega, fun t ys H4 hf h2 h5 nt ht s4 P4 => ?_⟩
    have eD := Uk.Off.at (s4 _ _ (Uk.Off.of L.e Dp))
    have tD : t ≠ D := fun e => by rw [e, L.e] at nt; cases nt
    have tp : t ≠ p := L.P.ne nt
    have mu : Same (Uk.Off D (Uk.Off p H4)) (Uk.Off D (Uk.Off p (upd H4 D (.lst (xs ++ [V.ref t]))))) := fun b u e => Uk.Off.of (Uk.Off.of (by rw [upd_ne (Uk.Off.ne e)]; exact Uk.Off.at (Uk.Off.at e)) (Uk.Off.ne (Uk.Off.at e))) (Uk.Off.ne e)
    refine ⟨_, eD, ?_, ?_⟩
    · rw [dqAll_len L.q, sizeLine_eq]
      omega
    · refine ⟨xs ++ [V.ref t], ds ++ [.tuple (ys.map flD)], ⟨upd_same, nD, ?_, (P4.upd Dp Dc).mono (by omega), ?_, ?_, ?_⟩, by rw [List.length_append, hl] <;> rfl⟩
      · exact fun b u e => Uk.Off.of (by rw [upd_ne (ne_of_none (Uk.Off.at e) nD)]; exact Uk.Off.at (s4 _ _ (L.s _ _ e))) (Uk.Off.ne e)
      · exact dqAll_app (dqAll_mono (same_trans (Uk.Off.same (p := D) s4) mu) L.q) (.cons (.tup (SqT.of (mu _ _ (Uk.Off.of (Uk.Off.of ht tp) tD))) (flat_dq hf)) .nil)
      · intro d hd
        rcases List.mem_append.mp hd with h | h
        · exact L.t d h
        · rw [List.mem_singleton.mp h]
          exact ⟨by rw [List.length_map]; omega, flat_small hf⟩
      · rw [List.length_append]
        show ds.length + 1 ≤ 25
        omega
  obtain ⟨xs, ds, L, hl⟩ := h
  refine ⟨_, rfl, rfl, p, c, _, 8, rfl, L.P, by omega, by decide, by decide, fun a3 H3 a30 a31 s3 P3 => ?_⟩
  have e3 := Uk.Off.at (s3 _ _ (Uk.Off.of L.e Dp))
  have L3 : LS (hd04.heap_39 w.params) p c H (m + 45) D xs ds H3 := ⟨e3, nD, same_trans L.s s3, P3.mono (by omega), dqAll_mono (Uk.Off.same (p := D) s3) L.q, L.t, L.b⟩
  refine ⟨_, rfl, _, _, rfl, rfl, _, rfl, ?_⟩
  refine split_rest (R := ?R) (C := fun σ Hx => ∃ (l : Addr) (xs : List V) (ds : List PyData), (∃ o3 o4 o5 o6 o7, σ = [some (.ref p), some (.int k), some (.ref l), o3, o4, o5, o6, o7]) ∧ LS (hd04.heap_39 w.params) p c H (m + 60) l xs ds Hx) ?main ?rest
  case main =>
    intro rest
    refine ite_b (fun e => ?b1) (fun e => ?b2)
    case b2 =>
      refine ⟨_, rfl, rfl, _, rfl, ite_b (fun e => ?c1) (fun e => ?c2)⟩
      case c2 =>
        exact rest _ _ ⟨D, xs, ds, ⟨_, _, _, _, _, rfl⟩, L3.to P Same.rfl (L3.P.mono (by omega))⟩
      case c1 =>
        exact ⟨Nat.le_of_ble_eq_true rfl, fun y hy => rest _ _ ⟨y, [], [], ⟨_, _, _, _, _, rfl⟩, upd_same, old_none L3.s L3.P hy, same_trans L3.s (Uk.Off.new hy), (L3.P.new hy).mono (by omega), .nil, (fun d hd => nomatch hd), Nat.zero_le _⟩⟩
    case b1 =>
      have e := of_decide_eq_true e
      refine ⟨_, rfl, _, rfl, rfl, p, c, _, k, rfl, P3, by omega, fun t ys H4 hf h2 h5 nt ht s4 P4 => ⟨Nat.le_of_ble_eq_true rfl, fun z hz => ⟨_, rfl, _, _, rfl, rfl, z, 24 + a3, _, rfl, rfl, upd_same, by omega, by omega, ?_, fun y hy => ?_⟩⟩⟩
      · rw [sizeLine_eq]
        show 1 * (24 + a3).toNat ≤ _
        omega
      have tp : t ≠ p := L3.P.ne nt
      have s34 : Same (Off p H) (Off p H4) := same_trans L3.s s4
      have ty : t ≠ y := fun e => by rw [← e] at hy; have := upd_none hy; rw [ht] at this; cases this
      refine rest _ _ ⟨y, _, List.replicate (24 + a3).toNat (.tuple (ys.map flD)), ⟨_, _, _, _, _, rfl⟩, upd_same, old_none s34 P4 (upd_none hy), same_trans s34 (same_trans (Uk.Off.new hz) (Uk.Off.new hy)), ((P4.new hz).new hy).mono (by omega), dqAll_rep (.tup (SqT.of (Uk.Off.of (Uk.Off.of (at_new hy (at_new hz ht)) tp) ty)) (flat_dq hf)) _, fun d hd => ?_, by rw [List.length_replicate]; omega⟩
      rw [(List.mem_replicate.mp hd).2]
      exact ⟨by rw [List.length_map]; omega, flat_small hf⟩
  case rest =>
    clear L L3 e3 hl s3 P3 nD Dp Dc hD
    rintro σ Hx ⟨l, xs, ds, ⟨o3, o4, o5, o6, o7, rfl⟩, L⟩
    refine ⟨Nat.le_of_ble_eq_true rfl, fun z hz => ⟨_, rfl, rfl, p, c, m + 60, 4, rfl, L.P.new hz, by omega, by decide, by decide, fun a H4 a0 a4 s4 P4 => ?_⟩⟩
    obtain ⟨v, hv, hmv⟩ := atI_mem (xs := [V.int 0, .int 1, .int 1, .int 2]) a0 a4
    obtain ⟨n, rfl, hn0, hn2⟩ : ∃ n : Int, v = .int n ∧ 0 ≤ n ∧ n ≤ 2 := by
      simp only [List.mem_cons, List.not_mem_nil, or_false] at hmv
      rcases hmv with rfl | rfl | rfl | rfl <;> exact ⟨_, rfl, by decide, by decide⟩
    have nz := old_none L.s L.P hz
    have L := L.to P (same_trans (Uk.Off.new hz) s4) P4
    refine ⟨z, _, a, _, rfl, rfl, SqL.of (Uk.Off.at (s4 _ _ (Uk.Off.of upd_same (P.ne nz)))), hv, n, rfl, by omega, by omega, ?_⟩
    refine for_range (lo := 0) (n := n.toNat) (fun i σ H' => ∃ (l : Addr) (xs : List V) (ds : List PyData), (∃ o3 o4 o5 o6 o7, σ = [some (.ref p), some (.int k), some (.ref l), o3, o4, o5, o6, o7]) ∧ LS (hd04.heap_39 w.params) p c H (m + 61 + 12 * i) l xs ds H') ⟨l, xs, ds, ⟨_, _, _, _, _, rfl⟩, L.to P Same.rfl (L.P.mono (by omega))⟩ (fun i σ H' hi h => ?_) (fun σ H' h => ?_)
    · clear L s4 P4 hz nz
      obtain ⟨l, xs, ds, ⟨o3, o4, o5, o6, o7, rfl⟩, L⟩ := h
      refine ⟨_, rfl, Nat.le_of_ble_eq_true rfl, fun z hz => ?_⟩
      have lp : l ≠ p := P.ne L.n
      have lc : l ≠ c := P.ne2 L.n
      have hlx := dqAll_len L.q
      refine ⟨l, z, xs, [], rfl, rfl, SqL.of (at_new hz L.e), SqL.of upd_same, ?_⟩
      by_cases hx : xs = []
      · exact .inr ⟨hx, dqAll_idV L.q, _, rfl, ifF rfl ⟨l, xs, ds, ⟨_, _, _, _, _, rfl⟩, L.to P (Uk.Off.new hz) ((L.P.new hz).mono (by omega))⟩⟩
      · have hxl : 1 ≤ xs.length := Nat.pos_of_ne_zero fun h => hx (List.eq_nil_of_length_eq_zero h)
        refine .inl ⟨fun h => hx (List.eq_nil_of_length_eq_zero h), _, rfl, ifT rfl ?_⟩
        refine ⟨_, rfl, _, rfl, rfl, p, c, _, k, rfl, L.P.new hz, by omega, fun v d H5 qd hps s5 P5 => ?_⟩
        have L1 := L.to P (same_trans (Uk.Off.new hz) s5) P5
        have hb := L.b
        have qd : Dq (hd04.heap_39 w.params) (Uk.Off l (Uk.Off p H5)) v d := dq_mono (fun b u e => by
          obtain ⟨x, y⟩ := Nw.at e
          exact Uk.Off.of (Uk.Off.of x ((L.P.new hz).ne y)) (fun h => by rw [h, at_new hz L.e] at y; cases y)) qd
        refine ⟨_, rfl, _, rfl, _, rfl, l, xs, rfl, .inl (SqL.of L1.e), rfl, p, c, _, xs.length, rfl, P5, by omega, by omega, by omega, fun a3 H6 b0 b1 s6 P6 => ?_⟩
        have L2 := L1.to P s6 P6
        refine ⟨l, xs, a3, a3.toNat, rfl, rfl, L2.e, ixN_lit b0 (by omega), ?_⟩
        have mu : Same (Uk.Off l (Uk.Off p H6)) (Uk.Off l (Uk.Off p (upd H6 l (.lst (xs.set a3.toNat v))))) := fun b u e => Uk.Off.of (Uk.Off.of (by rw [upd_ne (Uk.Off.ne e)]; exact Uk.Off.at (Uk.Off.at e)) (Uk.Off.ne (Uk.Off.at e))) (Uk.Off.ne e)
        refine ⟨l, xs.set a3.toNat v, ds.set a3.toNat d, ⟨_, _, _, _, _, rfl⟩, upd_same, L.n, fun b u e => Uk.Off.of (by rw [upd_ne (ne_of_none (Uk.Off.at e) L.n)]; exact Uk.Off.at (L2.s _ _ e)) (Uk.Off.ne e), (P6.upd lp lc).mono (by omega), dqAll_set (dqAll_mono mu L2.q) (dq_mono (same_trans (Uk.Off.same (p := l) s6) mu) qd) _, fun d2 hd2 => ?_, by rw [List.length_set]; exact L.b⟩
        rcases List.mem_or_eq_of_mem_set hd2 with h | h
        · exact L.t d2 h
        · rw [h]; exact hps
    · clear L s4 P4 hz nz
      obtain ⟨l, xs, ds, ⟨o3, o4, o5, o6, o7, rfl⟩, L⟩ := h
      refine ⟨_, rfl, rfl, p, c, _, 6, rfl, L.P, by omega, by decide, by decide, fun a5 H5 b0 b1 s5 P5 => ⟨_, _, rfl, rfl, _, rfl, "devcpu", rfl, by decide, ?_⟩⟩
      have hsm : smallD (.str (cutS "devcpu" none (some (1 + a5)))) := Nat.le_trans (cutS_len _ _ _) (by decide)
      revert hsm
      generalize cutS "devcpu" none (some (1 + a5)) = nm
      intro hsm
      have L := L.to P s5 P5
      refine ⟨_, rfl, rfl, p, c, _, 5, rfl, L.P, by omega, by decide, by decide, fun a6 H6 b2 b3 s6 P6 => ⟨rfl, _, rfl, ?_⟩⟩
      have L := L.to P s6 P6
      refine split_rest (R := ?R2) (C := fun σ Hx => ∃ (v1 : V) (d1 : PyData), (∃ o3 o4 o6 o7, σ = [some (.ref p), some (.int k), some (.ref l), o3, o4, some v1, o6, o7]) ∧ LS (hd04.heap_39 w.params) p c H (m + 90) l xs ds Hx ∧ Dq (hd04.heap_39 w.params) (Uk.Off l (Uk.Off p Hx)) v1 d1 ∧ smallD d1) ?main2 ?rest2
      case main2 =>
        intro rest
        refine ite_b (fun e => ?_) (fun e => ?_)
        · refine ⟨_, rfl, rfl, p, c, _, rfl, P6, by omega, fun v H7 t s7 P7 => ?_⟩
          obtain ⟨d, md, qd⟩ := t
          exact rest _ _ ⟨v, d, ⟨_, _, _, _, rfl⟩, L.to P s7 (P7.mono (by omega)), dq_mono (fun b u e => by
            obtain ⟨x, y⟩ := Nw.at e
            exact Uk.Off.of (Uk.Off.of x (L.P.ne y)) (fun h => by rw [h, L.e] at y; cases y)) qd, thing_small md⟩
        · exact rest _ _ ⟨_, _, ⟨_, _, _, _, rfl⟩, L.to P Same.rfl (P6.mono (by omega)), .str nm, hsm⟩
      case rest2 =>
        clear L s5 P5 s6 P6
        rintro σ Hx ⟨v1, d1, ⟨o3, o4, o6, o7, rfl⟩, L, q1, hs1⟩
        have mo : Same (Uk.Off l (Uk.Off p Hx)) Hx := fun b u e => Uk.Off.at (Uk.Off.at e)
        have q1 := dq_mono mo q1
        have qs := dqAll_mono mo L.q
        have hlx := dqAll_len qs
        have hl := L.b
        refine ⟨_, rfl, l, xs, rfl, .inl (SqL.of L.e), fun y hy => ?_⟩
        have sy := same_new (o := .lst xs) hy
        refine ⟨_, rfl, _, rfl, _, rfl, rfl, k, v1, l, false, d1, xs, ds, rfl, hk0, hk3, sy _ _ L.e, dq_mono sy q1, hs1, dqAll_mono sy qs, L.t, by omega, (fun h => nomatch h), fun fv H2 s2 hf => ?_⟩
        have sB := same_trans sy s2
        have ey := s2 _ _ (upd_same (H := Hx) (a := y) (o := .lst xs))
        refine ⟨_, rfl, _, rfl, _, rfl, _, rfl, rfl, fv, v1, k, y, d1, xs, ds, rfl, hk0, hk3, ey, dq_mono sB q1, hs1, dqAll_mono sB qs, L.t, by omega, hf, fun H3 s3 => ⟨_, rfl, ifF rfl ?_⟩⟩
        have sC := same_trans sB s3
        refine ⟨_, rfl, _, rfl, l, y, xs, xs, rfl, rfl, SqL.of (sC _ _ L.e), SqL.of (s3 _ _ ey), .inr ⟨rfl, dqAll_idV qs, _, rfl, ifF rfl ?_⟩⟩
        refine ⟨_, rfl, l, xs, rfl, .inl (SqL.of (sC _ _ L.e)), Nat.le_of_ble_eq_true rfl, fun z hz => ⟨z, _, rfl, .inr (SqT.of upd_same), rfl, rfl, _, rfl, ?_⟩⟩
        have sD := same_trans sC (same_new (o := .tup [.int 1, .int 2]) hz)
        have ey3 := at_new (o := .tup [.int 1, .int 2]) hz (s3 _ _ ey)
        refine split_rest (R := ?R3) (C := fun σ Hy => (∃ o3 o4 o7, σ = [some (.ref p), some (.int k), some (.ref l), o3, o4, some v1, some (.ref y), o7]) ∧ Same Hx Hy ∧ Hy y = some (.lst xs)) ?main3 ?rest3
        case main3 =>
          intro rest
          refine ite_b (fun e => ?_) (fun e => ?_)
          · have e : inV (.int xs.length) [.int 1, .int 2] = true := e
            rw [in12, Bool.or_eq_true, decide_eq_true_eq, decide_eq_true_eq] at e
            refine ⟨_, rfl, _, rfl, _, rfl, rfl, k, v1, l, true, d1, xs, ds, rfl, hk0, hk3, sD _ _ L.e, dq_mono sD q1, hs1, dqAll_mono sD qs, L.t, by omega, (fun _ => e), fun fv2 H5 s5 hf2 => ?_⟩
            have sE := same_trans sD s5
            refine ⟨_, rfl, _, rfl, _, rfl, _, rfl, rfl, fv2, v1, k, y, d1, xs, ds, rfl, hk0, hk3, s5 _ _ ey3, dq_mono sE q1, hs1, dqAll_mono sE qs, L.t, by omega, hf2, fun H6 s6 => ⟨_, rfl, ifF rfl ?_⟩⟩
            exact rest _ _ ⟨⟨_, _, _, rfl⟩, same_trans sE s6, s6 _ _ (s5 _ _ ey3)⟩
          · exact rest _ _ ⟨⟨_, _, _, rfl⟩, sD, ey3⟩
        case rest3 =>
          clear sB sC sD ey3 ey s2 s3 hf hz
          rintro σ Hy ⟨⟨o3, o4, o7, rfl⟩, sy, ey⟩
          refine ⟨_, rfl, rfl, k, rfl, hk0, hk3, fun e d H6 s6 he hd => ⟨rfl, e, d, ("steps", none), rfl, he, hd, fun H7 s7 => ⟨_, rfl, ifF rfl ?_⟩⟩⟩
          have sF := same_trans sy (same_trans s6 s7)
          have fin : ∀ H8, Same H7 H8 → Q (.bl true) H8 := fun H8 s8 => q _ (same_trans L.s (Uk.Off.same (same_trans sF s8))) ((L.P.same (same_trans sF s8)).mono (by omega))
          refine ⟨_, rfl, l, xs, rfl, .inl (SqL.of (sF _ _ L.e)), rfl, _, rfl, ?_⟩
          by_cases h2 : xs.length = 2
          · obtain ⟨x0, x1, rfl⟩ := len2 h2
            refine ifT rfl ?_
            refine ⟨_, rfl, _, rfl, rfl, k, l, x0, x1, ds, rfl, hk0, hk3, sF _ _ L.e, dqAll_mono sF qs, L.t, fun v H8 s8 hf => ?_⟩
            have sG := same_trans sF s8
            refine ⟨_, rfl, _, rfl, rfl, v, .str "good", k, y, .str "good", [x0, x1], ds, rfl, hk0, hk3, s8 _ _ (s7 _ _ (s6 _ _ ey)), .str _, (show (4 : Nat) ≤ 1000 by decide), dqAll_mono sG qs, L.t, by omega, hf, fun H9 s9 => ⟨_, rfl, ifF rfl ?_⟩⟩
            exact fin _ (same_trans s8 s9)
          · exact ifF (decide_eq_false fun h => h2 (by simp at h; omega)) (fin _ Same.rfl)
end
end M04

namespace M04
open PySem PySem.Spec PyProof.Rows L2 StX Uk

local macro_rules | `(tactic| wtm_at "off0") => `(tactic| first | with_reducible assumption | (with_reducible apply Off.mk; wtm_at "pen"; assumption))
local macro_rules | `(tactic| wtm_at "at0") => `(tactic| first | with_reducible assumption | with_reducible exact upd_same | (with_reducible apply Off.at; wtm_at "off0"))
local macro_rules | `(tactic| wtm_at "off1") => `(tactic| first | with_reducible assumption | (with_reducible apply Off.mk; wtm_at "pen"; assumption) | (with_reducible refine Off.new (by assumption) _ _ ?_; wtm_at "off0") | (with_reducible refine at_same (by with_reducible assumption) ?_; wtm_at "off0"))
local macro_rules | `(tactic| wtm_at "at1") => `(tactic| first | with_reducible assumption | with_reducible exact upd_same | (with_reducible refine at_new (by assumption) ?_; wtm_at "at0") | (with_reducible refine at_same (by with_reducible assumption) ?_; wtm_at "at0") | (with_reducible apply Off.at; wtm_at "off1"))
local macro_rules | `(tactic| wtm_at "off2") => `(tactic| first | with_reducible assumption | (with_reducible apply Off.mk; wtm_at "pen"; assumption) | (with_reducible refine Off.new (by assumption) _ _ ?_; wtm_at "off1") | (with_reducible refine at_same (by with_reducible assumption) ?_; wtm_at "off1"))
local macro_rules | `(tactic| wtm_at "at2") => `(tactic| first | with_reducible assumption | with_reducible exact upd_same | (with_reducible refine at_new (by assumption) ?_; wtm_at "at1") | (with_reducible refine at_same (by with_reducible assumption) ?_; wtm_at "at1") | (with_reducible apply Off.at; wtm_at "off2"))
local macro_rules | `(tactic| wtm_at "off3") => `(tactic| first | with_reducible assumption | (with_reducible apply Off.mk; wtm_at "pen"; assumption) | (with_reducible refine Off.new (by assumption) _ _ ?_; wtm_at "off2") | (with_reducible refine at_same (by with_reducible assumption) ?_; wtm_at "off2"))
local macro_rules | `(tactic| wtm_at "at3") => `(tactic| first | with_reducible assumption | with_reducible exact upd_same | (with_reducible refine at_new (by assumption) ?_; wtm_at "at2") | (with_reducible refine at_same (by with_reducible assumption) ?_; wtm_at "at2") | (with_reducible apply Off.at; wtm_at "off3"))
local macro_rules | `(tactic| wtm_at "off4") => `(tactic| first | with_reducible assumption | (with_reducible apply Off.mk; wtm_at "pen"; assumption) | (with_reducible refine Off.new (by assumption) _ _ ?_; wtm_at "off3") | (with_reducible refine at_same (by with_reducible assumption) ?_; wtm_at "off3"))
local macro_rules | `(tactic| wtm_at "at4") => `(tactic| first | with_reducible assumption | with_reducible exact upd_same | (with_reducible refine at_new (by assumption) ?_; wtm_at "at3") | (with_reducible refine at_same (by with_reducible assumption) ?_; wtm_at "at3") | (with_reducible apply Off.at; wtm_at "off4"))
local macro_rules | `(tactic| wtm_at "off5") => `(tactic| first | with_reducible assumption | (with_reducible apply Off.mk; wtm_at "pen"; assumption) | (with_reducible refine Off.new (by assumption) _ _ ?_; wtm_at "off4") | (with_reducible refine at_same (by with_reducible assumption) ?_; wtm_at "off4"))
local macro_rules | `(tactic| wtm_at "at5") => `(tactic| first | with_reducible assumption | with_reducible exact upd_same | (with_reducible refine at_new (by assumption) ?_; wtm_at "at4") | (with_reducible refine at_same (by with_reducible assumption) ?_; wtm_at "at4") | (with_reducible apply Off.at; wtm_at "off5"))
local macro_rules | `(tactic| wtm_at "off6") => `(tactic| first | with_reducible assumption | (with_reducible apply Off.mk; wtm_at "pen"; assumption) | (with_reducible refine Off.new (by assumption) _ _ ?_; wtm_at "off5") | (with_reducible refine at_same (by with_reducible assumption) ?_; wtm_at "off5"))
local macro_rules | `(tactic| wtm_at "at6") => `(tactic| first | with_reducible assumption | with_reducible exact upd_same | (with_reducible refine at_new (by assumption) ?_; wtm_at "at5") | (with_reducible refine at_same (by with_reducible assumption) ?_; wtm_at "at5") | (with_reducible apply Off.at; wtm_at "off6"))
local macro_rules | `(tactic| wtm_at "off7") => `(tactic| first | with_reducible assumption | (with_reducible apply Off.mk; wtm_at "pen"; assumption) | (with_reducible refine Off.new (by assumption) _ _ ?_; wtm_at "off6") | (with_reducible refine at_same (by with_reducible assumption) ?_; wtm_at "off6"))
local macro_rules | `(tactic| wtm_at "at7") => `(tactic| first | with_reducible assumption | with_reducible exact upd_same | (with_reducible refine at_new (by assumption) ?_; wtm_at "at6") | (with_reducible refine at_same (by with_reducible assumption) ?_; wtm_at "at6") | (with_reducible apply Off.at; wtm_at "off7"))
local macro_rules | `(tactic| wtm_at "off8") => `(tactic| first | with_reducible assumption | (with_reducible apply Off.mk; wtm_at "pen"; assumption) | (with_reducible refine Off.new (by assumption) _ _ ?_; wtm_at "off7") | (with_reducible refine at_same (by with_reducible assumption) ?_; wtm_at "off7"))
local macro_rules | `(tactic| wtm_at "at8") => `(tactic| first | with_reducible assumption | with_reducible exact upd_same | (with_reducible refine at_new (by assumption) ?_; wtm_at "at7") | (with_reducible refine at_same (by with_reducible assumption) ?_; wtm_at "at7") | (with_reducible apply Off.at; wtm_at "off8"))
local macro_rules | `(tactic| wtm_at "off9") => `(tactic| first | with_reducible assumption | (with_reducible apply Off.mk; wtm_at "pen"; assumption) | (with_reducible refine Off.new (by assumption) _ _ ?_; wtm_at "off8") | (with_reducible refine at_same (by with_reducible assumption) ?_; wtm_at "off8"))
local macro_rules | `(tactic| wtm_at "at9") => `(tactic| first | with_reducible assumption | with_reducible exact upd_same | (with_reducible refine at_new (by assumption) ?_; wtm_at "at8") | (with_reducible refine at_same (by with_reducible assumption) ?_; wtm_at "at8") | (with_reducible apply Off.at; wtm_at "off9"))
local macro_rules | `(tactic| wtm_at "off10") => `(tactic| first | with_reducible assumption | (with_reducible apply Off.mk; wtm_at "pen"; assumption) | (with_reducible refine Off.new (by assumption) _ _ ?_; wtm_at "off9") | (with_reducible refine at_same (by with_reducible assumption) ?_; wtm_at "off9"))
local macro_rules | `(tactic| wtm_at "at10") => `(tactic| first | with_reducible assumption | with_reducible exact upd_same | (with_reducible refine at_new (by assumption) ?_; wtm_at "at9") | (with_reducible refine at_same (by with_reducible assumption) ?_; wtm_at "at9") | (with_reducible apply Off.at; wtm_at "off10"))
local macro_rules | `(tactic| wtm_at "off11") => `(tactic| first | with_reducible assumption | (with_reducible apply Off.mk; wtm_at "pen"; assumption) | (with_reducible refine Off.new (by assumption) _ _ ?_; wtm_at "off10") | (with_reducible refine at_same (by with_reducible assumption) ?_; wtm_at "off10"))
local macro_rules | `(tactic| wtm_at "at11") => `(tactic| first | with_reducible assumption | with_reducible exact upd_same | (with_reducible refine at_new (by assumption) ?_; wtm_at "at10") | (with_reducible refine at_same (by with_reducible assumption) ?_; wtm_at "at10") | (with_reducible apply Off.at; wtm_at "off11"))
local macro_rules | `(tactic| wtm_at "off12") => `(tactic| first | with_reducible assumption | (with_reducible apply Off.mk; wtm_at "pen"; assumption) | (with_reducible refine Off.new (by assumption) _ _ ?_; wtm_at "off11") | (with_reducible refine at_same (by with_reducible assumption) ?_; wtm_at "off11"))
local macro_rules | `(tactic| wtm_at "at12") => `(tactic| first | with_reducible assumption | with_reducible exact upd_same | (with_reducible refine at_new (by assumption) ?_; wtm_at "at11") | (with_reducible refine at_same (by with_reducible assumption) ?_; wtm_at "at11") | (with_reducible apply Off.at; wtm_at "off12"))
local macro_rules | `(tactic| wtm_at "off13") => `(tactic| first | with_reducible assumption | (with_reducible apply Off.mk; wtm_at "pen"; assumption) | (with_reducible refine Off.new (by assumption) _ _ ?_; wtm_at "off12") | (with_reducible refine at_same (by with_reducible assumption) ?_; wtm_at "off12"))
local macro_rules | `(tactic| wtm_at "at13") => `(tactic| first | with_reducible assumption | with_reducible exact upd_same | (with_reducible refine at_new (by assumption) ?_; wtm_at "at12") | (with_reducible refine at_same (by with_reducible assumption) ?_; wtm_at "at12") | (with_reducible apply Off.at; wtm_at "off13"))
local macro_rules | `(tactic| wtm_at "off14") => `(tactic| first | with_reducible assumption | (with_reducible apply Off.mk; wtm_at "pen"; assumption) | (with_reducible refine Off.new (by assumption) _ _ ?_; wtm_at "off13") | (with_reducible refine at_same (by with_reducible assumption) ?_; wtm_at "off13"))
local macro_rules | `(tactic| wtm_at "at14") => `(tactic| first | with_reducible assumption | with_reducible exact upd_same | (with_reducible refine at_new (by assumption) ?_; wtm_at "at13") | (with_reducible refine at_same (by with_reducible assumption) ?_; wtm_at "at13") | (with_reducible apply Off.at; wtm_at "off14"))
local macro_rules | `(tactic| wtm_at "off15") => `(tactic| first | with_reducible assumption | (with_reducible apply Off.mk; wtm_at "pen"; assumption) | (with_reducible refine Off.new (by assumption) _ _ ?_; wtm_at "off14") | (with_reducible refine at_same (by with_reducible assumption) ?_; wtm_at "off14"))
local macro_rules | `(tactic| wtm_at "at15") => `(tactic| first | with_reducible assumption | with_reducible exact upd_same | (with_reducible refine at_new (by assumption) ?_; wtm_at "at14") | (with_reducible refine at_same (by with_reducible assumption) ?_; wtm_at "at14") | (with_reducible apply Off.at; wtm_at "off15"))
local macro_rules | `(tactic| wtm_at "off16") => `(tactic| first | with_reducible assumption | (with_reducible apply Off.mk; wtm_at "pen"; assumption) | (with_reducible refine Off.new (by assumption) _ _ ?_; wtm_at "off15") | (with_reducible refine at_same (by with_reducible assumption) ?_; wtm_at "off15"))
local macro_rules | `(tactic| wtm_at "at16") => `(tactic| first | with_reducible assumption | with_reducible exact upd_same | (with_reducible refine at_new (by assumption) ?_; wtm_at "at15") | (with_reducible refine at_same (by with_reducible assumption) ?_; wtm_at "at15") | (with_reducible apply Off.at; wtm_at "off16"))
local macro_rules | `(tactic| wtm_at "off17") => `(tactic| first | with_reducible assumption | (with_reducible apply Off.mk; wtm_at "pen"; assumption) | (with_reducible refine Off.new (by assumption) _ _ ?_; wtm_at "off16") | (with_reducible refine at_same (by with_reducible assumption) ?_; wtm_at "off16"))
local macro_rules | `(tactic| wtm_at "at17") => `(tactic| first | with_reducible assumption | with_reducible exact upd_same | (with_reducible refine at_new (by assumption) ?_; wtm_at "at16") | (with_reducible refine at_same (by with_reducible assumption) ?_; wtm_at "at16") | (with_reducible apply Off.at; wtm_at "off17"))
local macro_rules | `(tactic| wtm_at "off18") => `(tactic| first | with_reducible assumption | (with_reducible apply Off.mk; wtm_at "pen"; assumption) | (with_reducible refine Off.new (by assumption) _ _ ?_; wtm_at "off17") | (with_reducible refine at_same (by with_reducible assumption) ?_; wtm_at "off17"))
local macro_rules | `(tactic| wtm_at "at18") => `(tactic| first | with_reducible assumption | with_reducible exact upd_same | (with_reducible refine at_new (by assumption) ?_; wtm_at "at17") | (with_reducible refine at_same (by with_reducible assumption) ?_; wtm_at "at17") | (with_reducible apply Off.at; wtm_at "off18"))
local macro_rules | `(tactic| wtm_at "off19") => `(tactic| first | with_reducible assumption | (with_reducible apply Off.mk; wtm_at "pen"; assumption) | (with_reducible refine Off.new (by assumption) _ _ ?_; wtm_at "off18") | (with_reducible refine at_same (by with_reducible assumption) ?_; wtm_at "off18"))
local macro_rules | `(tactic| wtm_at "at19") => `(tactic| first | with_reducible assumption | with_reducible exact upd_same | (with_reducible refine at_new (by assumption) ?_; wtm_at "at18") | (with_reducible refine at_same (by with_reducible assumption) ?_; wtm_at "at18") | (with_reducible apply Off.at; wtm_at "off19"))
local macro_rules | `(tactic| wtm_at "off20") => `(tactic| first | with_reducible assumption | (with_reducible apply Off.mk; wtm_at "pen"; assumption) | (with_reducible refine Off.new (by assumption) _ _ ?_; wtm_at "off19") | (with_reducible refine at_same (by with_reducible assumption) ?_; wtm_at "off19"))
local macro_rules | `(tactic| wtm_at "at20") => `(tactic| first | with_reducible assumption | with_reducible exact upd_same | (with_reducible refine at_new (by assumption) ?_; wtm_at "at19") | (with_reducible refine at_same (by with_reducible assumption) ?_; wtm_at "at19") | (with_reducible apply Off.at; wtm_at "off20"))
local macro_rules | `(tactic| wtm_at "off21") => `(tactic| first | with_reducible assumption | (with_reducible apply Off.mk; wtm_at "pen"; assumption) | (with_reducible refine Off.new (by assumption) _ _ ?_; wtm_at "off20") | (with_reducible refine at_same (by with_reducible assumption) ?_; wtm_at "off20"))
local macro_rules | `(tactic| wtm_at "at21") => `(tactic| first | with_reducible assumption | with_reducible exact upd_same | (with_reducible refine at_new (by assumption) ?_; wtm_at "at20") | (with_reducible refine at_same (by with_reducible assumption) ?_; wtm_at "at20") | (with_reducible apply Off.at; wtm_at "off21"))
local macro_rules | `(tactic| wtm_at "off22") => `(tactic| first | with_reducible assumption | (with_reducible apply Off.mk; wtm_at "pen"; assumption) | (with_reducible refine Off.new (by assumption) _ _ ?_; wtm_at "off21") | (with_reducible refine at_same (by with_reducible assumption) ?_; wtm_at "off21"))
local macro_rules | `(tactic| wtm_at "at22") => `(tactic| first | with_reducible assumption | with_reducible exact upd_same | (with_reducible refine at_new (by assumption) ?_; wtm_at "at21") | (with_reducible refine at_same (by with_reducible assumption) ?_; wtm_at "at21") | (with_reducible apply Off.at; wtm_at "off22"))
local macro_rules | `(tactic| wtm_at "off23") => `(tactic| first | with_reducible assumption | (with_reducible apply Off.mk; wtm_at "pen"; assumption) | (with_reducible refine Off.new (by assumption) _ _ ?_; wtm_at "off22") | (with_reducible refine at_same (by with_reducible assumption) ?_; wtm_at "off22"))
local macro_rules | `(tactic| wtm_at "at23") => `(tactic| first | with_reducible assumption | with_reducible exact upd_same | (with_reducible refine at_new (by assumption) ?_; wtm_at "at22") | (with_reducible refine at_same (by with_reducible assumption) ?_; wtm_at "at22") | (with_reducible apply Off.at; wtm_at "off23"))
local macro_rules | `(tactic| wtm_at "off24") => `(tactic| first | with_reducible assumption | (with_reducible apply Off.mk; wtm_at "pen"; assumption) | (with_reducible refine Off.new (by assumption) _ _ ?_; wtm_at "off23") | (with_reducible refine at_same (by with_reducible assumption) ?_; wtm_at "off23"))
local macro_rules | `(tactic| wtm_at "at24") => `(tactic| first | with_reducible assumption | with_reducible exact upd_same | (with_reducible refine at_new (by assumption) ?_; wtm_at "at23") | (with_reducible refine at_same (by with_reducible assumption) ?_; wtm_at "at23") | (with_reducible apply Off.at; wtm_at "off24"))
local macro_rules | `(tactic| wtm_at "off25") => `(tactic| first | with_reducible assumption | (with_reducible apply Off.mk; wtm_at "pen"; assumption) | (with_reducible refine Off.new (by assumption) _ _ ?_; wtm_at "off24") | (with_reducible refine at_same (by with_reducible assumption) ?_; wtm_at "off24"))
local macro_rules | `(tactic| wtm_at "at25") => `(tactic| first | with_reducible assumption | with_reducible exact upd_same | (with_reducible refine at_new (by assumption) ?_; wtm_at "at24") | (with_reducible refine at_same (by with_reducible assumption) ?_; wtm_at "at24") | (with_reducible apply Off.at; wtm_at "off25"))
local macro_rules | `(tactic| wtm_at "off26") => `(tactic| first | with_reducible assumption | (with_reducible apply Off.mk; wtm_at "pen"; assumption) | (with_reducible refine Off.new (by assumption) _ _ ?_; wtm_at "off25") | (with_reducible refine at_same (by with_reducible assumption) ?_; wtm_at "off25"))
local macro_rules | `(tactic| wtm_at "at26") => `(tactic| first | with_reducible assumption | with_reducible exact upd_same | (with_reducible refine at_new (by assumption) ?_; wtm_at "at25") | (with_reducible refine at_same (by with_reducible assumption) ?_; wtm_at "at25") | (with_reducible apply Off.at; wtm_at "off26"))
local macro_rules | `(tactic| wtm_at "off27") => `(tactic| first | with_reducible assumption | (with_reducible apply Off.mk; wtm_at "pen"; assumption) | (with_reducible refine Off.new (by assumption) _ _ ?_; wtm_at "off26") | (with_reducible refine at_same (by with_reducible assumption) ?_; wtm_at "off26"))
local macro_rules | `(tactic| wtm_at "at27") => `(tactic| first | with_reducible assumption | with_reducible exact upd_same | (with_reducible refine at_new (by assumption) ?_; wtm_at "at26") | (with_reducible refine at_same (by with_reducible assumption) ?_; wtm_at "at26") | (with_reducible apply Off.at; wtm_at "off27"))
local macro_rules | `(tactic| wtm_at "off28") => `(tactic| first | with_reducible assumption | (with_reducible apply Off.mk; wtm_at "pen"; assumption) | (with_reducible refine Off.new (by assumption) _ _ ?_; wtm_at "off27") | (with_reducible refine at_same (by with_reducible assumption) ?_; wtm_at "off27"))
local macro_rules | `(tactic| wtm_at "at28") => `(tactic| first | with_reducible assumption | with_reducible exact upd_same | (with_reducible refine at_new (by assumption) ?_; wtm_at "at27") | (with_reducible refine at_same (by with_reducible assumption) ?_; wtm_at "at27") | (with_reducible apply Off.at; wtm_at "off28"))
local macro_rules | `(tactic| wtm_at "off29") => `(tactic| first | with_reducible assumption | (with_reducible apply Off.mk; wtm_at "pen"; assumption) | (with_reducible refine Off.new (by assumption) _ _ ?_; wtm_at "off28") | (with_reducible refine at_same (by with_reducible assumption) ?_; wtm_at "off28"))
local macro_rules | `(tactic| wtm_at "at29") => `(tactic| first | with_reducible assumption | with_reducible exact upd_same | (with_reducible refine at_new (by assumption) ?_; wtm_at "at28") | (with_reducible refine at_same (by with_reducible assumption) ?_; wtm_at "at28") | (with_reducible apply Off.at; wtm_at "off29"))
local macro_rules | `(tactic| wtm_at "off30") => `(tactic| first | with_reducible assumption | (with_reducible apply Off.mk; wtm_at "pen"; assumption) | (with_reducible refine Off.new (by assumption) _ _ ?_; wtm_at "off29") | (with_reducible refine at_same (by with_reducible assumption) ?_; wtm_at "off29"))
local macro_rules | `(tactic| wtm_at "at30") => `(tactic| first | with_reducible assumption | with_reducible exact upd_same | (with_reducible refine at_new (by assumption) ?_; wtm_at "at29") | (with_reducible refine at_same (by with_reducible assumption) ?_; wtm_at "at29") | (with_reducible apply Off.at; wtm_at "off30"))
local macro_rules | `(tactic| wtm_at "off31") => `(tactic| first | with_reducible assumption | (with_reducible apply Off.mk; wtm_at "pen"; assumption) | (with_reducible refine Off.new (by assumption) _ _ ?_; wtm_at "off30") | (with_reducible refine at_same (by with_reducible assumption) ?_; wtm_at "off30"))
local macro_rules | `(tactic| wtm_at "at31") => `(tactic| first | with_reducible assumption | with_reducible exact upd_same | (with_reducible refine at_new (by assumption) ?_; wtm_at "at30") | (with_reducible refine at_same (by with_reducible assumption) ?_; wtm_at "at30") | (with_reducible apply Off.at; wtm_at "off31"))
local macro_rules | `(tactic| wtm_at "off32") => `(tactic| first | with_reducible assumption | (with_reducible apply Off.mk; wtm_at "pen"; assumption) | (with_reducible refine Off.new (by assumption) _ _ ?_; wtm_at "off31") | (with_reducible refine at_same (by with_reducible assumption) ?_; wtm_at "off31"))
local macro_rules | `(tactic| wtm_at "at32") => `(tactic| first | with_reducible assumption | with_reducible exact upd_same | (with_reducible refine at_new (by assumption) ?_; wtm_at "at31") | (with_reducible refine at_same (by with_reducible assumption) ?_; wtm_at "at31") | (with_reducible apply Off.at; wtm_at "off32"))
local macro_rules | `(tactic| wtm_at "off33") => `(tactic| first | with_reducible assumption | (with_reducible apply Off.mk; wtm_at "pen"; assumption) | (with_reducible refine Off.new (by assumption) _ _ ?_; wtm_at "off32") | (with_reducible refine at_same (by with_reducible assumption) ?_; wtm_at "off32"))
local macro_rules | `(tactic| wtm_at "at33") => `(tactic| first | with_reducible assumption | with_reducible exact upd_same | (with_reducible refine at_new (by assumption) ?_; wtm_at "at32") | (with_reducible refine at_same (by with_reducible assumption) ?_; wtm_at "at32") | (with_reducible apply Off.at; wtm_at "off33"))
local macro_rules | `(tactic| wtm_at "off34") => `(tactic| first | with_reducible assumption | (with_reducible apply Off.mk; wtm_at "pen"; assumption) | (with_reducible refine Off.new (by assumption) _ _ ?_; wtm_at "off33") | (with_reducible refine at_same (by with_reducible assumption) ?_; wtm_at "off33"))
local macro_rules | `(tactic| wtm_at "at34") => `(tactic| first | with_reducible assumption | with_reducible exact upd_same | (with_reducible refine at_new (by assumption) ?_; wtm_at "at33") | (with_reducible refine at_same (by with_reducible assumption) ?_; wtm_at "at33") | (with_reducible apply Off.at; wtm_at "off34"))
local macro_rules | `(tactic| wtm_at "off35") => `(tactic| first | with_reducible assumption | (with_reducible apply Off.mk; wtm_at "pen"; assumption) | (with_reducible refine Off.new (by assumption) _ _ ?_; wtm_at "off34") | (with_reducible refine at_same (by with_reducible assumption) ?_; wtm_at "off34"))
local macro_rules | `(tactic| wtm_at "at35") => `(tactic| first | with_reducible assumption | with_reducible exact upd_same | (with_reducible refine at_new (by assumption) ?_; wtm_at "at34") | (with_reducible refine at_same (by with_reducible assumption) ?_; wtm_at "at34") | (with_reducible apply Off.at; wtm_at "off35"))
local macro_rules | `(tactic| wtm_at "off36") => `(tactic| first | with_reducible assumption | (with_reducible apply Off.mk; wtm_at "pen"; assumption) | (with_reducible refine Off.new (by assumption) _ _ ?_; wtm_at "off35") | (with_reducible refine at_same (by with_reducible assumption) ?_; wtm_at "off35"))
local macro_rules | `(tactic| wtm_at "at36") => `(tactic| first | with_reducible assumption | with_reducible exact upd_same | (with_reducible refine at_new (by assumption) ?_; wtm_at "at35") | (with_reducible refine at_same (by with_reducible assumption) ?_; wtm_at "at35") | (with_reducible apply Off.at; wtm_at "off36"))
local macro_rules | `(tactic| wtm_at "off37") => `(tactic| first | with_reducible assumption | (with_reducible apply Off.mk; wtm_at "pen"; assumption) | (with_reducible refine Off.new (by assumption) _ _ ?_; wtm_at "off36") | (with_reducible refine at_same (by with_reducible assumption) ?_; wtm_at "off36"))
local macro_rules | `(tactic| wtm_at "at37") => `(tactic| first | with_reducible assumption | with_reducible exact upd_same | (with_reducible refine at_new (by assumption) ?_; wtm_at "at36") | (with_reducible refine at_same (by with_reducible assumption) ?_; wtm_at "at36") | (with_reducible apply Off.at; wtm_at "off37"))
local macro_rules | `(tactic| wtm_at "off38") => `(tactic| first | with_reducible assumption | (with_reducible apply Off.mk; wtm_at "pen"; assumption) | (with_reducible refine Off.new (by assumption) _ _ ?_; wtm_at "off37") | (with_reducible refine at_same (by with_reducible assumption) ?_; wtm_at "off37"))
local macro_rules | `(tactic| wtm_at "at38") => `(tactic| first | with_reducible assumption | with_reducible exact upd_same | (with_reducible refine at_new (by assumption) ?_; wtm_at "at37") | (with_reducible refine at_same (by with_reducible assumption) ?_; wtm_at "at37") | (with_reducible apply Off.at; wtm_at "off38"))
local macro_rules | `(tactic| wtm_at "off39") => `(tactic| first | with_reducible assumption | (with_reducible apply Off.mk; wtm_at "pen"; assumption) | (with_reducible refine Off.new (by assumption) _ _ ?_; wtm_at "off38") | (with_reducible refine at_same (by with_reducible assumption) ?_; wtm_at "off38"))
local macro_rules | `(tactic| wtm_at "at39") => `(tactic| first | with_reducible assumption | with_reducible exact upd_same | (with_reducible refine at_new (by assumption) ?_; wtm_at "at38") | (with_reducible refine at_same (by with_reducible assumption) ?_; wtm_at "at38") | (with_reducible apply Off.at; wtm_at "off39"))
local macro_rules | `(tactic| wtm_at "at") => `(tactic| wtm_at "at39")
local macro_rules | `(tactic| wtm_at "off") => `(tactic| wtm_at "off39")
local macro_rules | `(tactic| wtm_at "pen") => `(tactic| first
  | assumption | (refine Pen.new (by assumption) ?_; wtm_at "pen") | (refine Pen.same (by assumption) ?_; wtm_at "pen"))
local macro_rules | `(tactic| wtm_at "same") => `(tactic| first
  | exact fun _ _ h => h | assumption | exact same_new (by assumption) | (refine same_trans ?_ (same_new (by assumption)); wtm_at "same") | (refine same_trans ?_ (by assumption); wtm_at "same")
  | (refine same_trans ?_ (Off.new (by assumption)); wtm_at "same") | (refine same_trans ?_ (Off.same (by assumption)); wtm_at "same"))
local macro_rules | `(tactic| wtm_at "dps") => `(tactic| first
  | exact .nil | (apply DpAll.cons; wtm_at "dp"; wtm_at "dps") | exact dpAll_ints _)
local macro_rules | `(tactic| wtm_at "dp") => `(tactic| first
  | exact .non | exact .bl _ | exact .int _ | exact .str _ | (fail) | (apply Dp.lst; (apply SqL.of; wtm_at "at"); wtm_at "dps") | (apply Dp.tup; (apply SqT.of; wtm_at "at"); wtm_at "dps"))
local macro_rules | `(tactic| wtm_at "side") => `(tactic| first
  | exact ⟨by decide, by decide⟩ | exact ⟨by decide, by decide, by decide⟩ | exact .inl ⟨by decide, by decide⟩ | exact .inr ⟨by decide, by decide⟩ | (show ¬ _ = _; decide))
local macro_rules | `(tactic| wtm_at "sml") => `(tactic| first
  | exact sml_none (by decide) | exact sml_bool (by decide) | exact sml_int (by decide) (by omega) | (fail) | exact sml_list (n := 19) (k := 0) (by wtm_at "smls") (by decide) (by decide))
local macro_rules | `(tactic| wtm_at "smls") => `(tactic| first | exact smlAll_nil (m := 0) | (apply smlAll_cons; wtm_at "sml"; wtm_at "smls"))
local macro_rules | `(tactic| wtm_at "shw") => `(tactic| exact Sml.shw (n := 10000) (k := 50) (by wtm_at "sml") (by decide) (by decide))
local macro_rules | `(tactic| wtm_at "rd") => `(tactic| first
  | refine ⟨_, rfl, ?_⟩ | refine ⟨_, _, rfl, rfl, ?_⟩ | refine ifT rfl ?_ | refine ifF rfl ?_ | refine ⟨rfl, ?_⟩
  | refine ⟨_, _, by rfl, by wtm_at "dp", by wtm_at "shw", ?_⟩
  | refine ⟨_, _, _, _, _, rfl, by wtm_at "at", by wtm_at "cls", by wtm_at "na", by rfl, ?_⟩
  | refine ⟨_, _, rfl, .inr (SqT.of (by wtm_at "at")), ?_⟩ | refine ⟨_, _, rfl, .inl (SqL.of (by wtm_at "at")), ?_⟩
  | refine ⟨_, _, rfl, .inr (SqT.of (by wtm_at "at")), by rfl, by rfl, ?_⟩ | refine ⟨_, _, rfl, .inl (SqL.of (by wtm_at "at")), by rfl, by rfl, ?_⟩
  | refine ⟨_, _, _, _, rfl, rfl, SqT.of (by wtm_at "at"), by rfl, ?_⟩ | refine ⟨_, _, _, _, rfl, rfl, SqL.of (by wtm_at "at"), by rfl, ?_⟩
  | refine ⟨_, _, rfl, rfl, by wtm_at "side", ?_⟩
  | refine ⟨_, _, by wtm_at "dp", by wtm_at "dp", by first | rfl | decide +kernel, by first | rfl | decide +kernel, ?_⟩
  | refine ⟨_, _, [_, _], [_, _], rfl, rfl, sqI2 (by wtm_at "at"), sqI2 (by wtm_at "at"), ?_⟩
  | refine ⟨_, _, rfl, ?_⟩
  | refine ⟨Nat.le_of_ble_eq_true rfl, fun _ _ => ?_⟩
  | refine ifF (by decide +kernel) ?_ | refine ifF (nd_refl _) ?_ | refine ifT (de_refl _) ?_)

def spLaw (K : PySem.W.Frag) : Sp := fun vs H Q _ => ∃ (a : Addr) (ns : List Int), vs = [.ref a] ∧ SqL K H a (ns.map V.int) ∧ ∀ H', Q (.bl true) H'
section
variable {mg : PySem.Str → Option Value} {base : Heap} {w : World}
theorem ok_law (M : Mod (hd04.heap_39 w.params) mg base) : CallG PP w (hd04.heap_39 w.params) mg base 17 (.ref 481) (pos (spLaw (hd04.heap_39 w.params))) := by
  obtain ⟨fd, F⟩ := fn_law w
  refine def_pos F sc_law (fun vs H Q E h => ?_) (fun _ _ _ _ _ _ us hl => match us, hl with | [_], _ => rfl) (fun cdv A outer s H vs Q E hr hg h => ?_)
  · obtain ⟨a, ns, rfl, _⟩ := h; rfl
  have nd := sc_law.nd
  obtain ⟨a, ns, rfl, ha, q⟩ := h
  refine ⟨_, (pss_cons (ps_set (i := 1) nd rfl (.inr rfl) (pe_cl (takes_of rfl rfl rfl rfl) (ok__law_pen M) (hr.mono (by decide)) hg rfl (mg__law_pen M) (kp__law_pen w) (pa_cons (pv 0) pa_nil)))
      (pss_one (ps_ret (pe_callB (cr_all rfl) (by rfl) (mn_all M) (by decide +kernel) (pa_cons (pe_lc (own := [("k", 2)]) (g := gName 2) (by rfl) nd (pi_range1 (by rfl) (mn_range M) (pa_cons pe_int pa_nil)) (blkOk_by (own := [("k", 2)]) (N := ["script", "pen", "k"]) (sc := defScope s_law) (by decide +kernel)) (fun _ _ _ _ _ => pg_name (i := 2) nd rfl (Or.inl rfl)) (fun _ _ _ _ _ => pts_nil) (fun _ _ _ _ _ => (pe_cl takes_no (ok__law_round M) (hr.mono (by decide)) hg rfl (mg__law_round M) (kp__law_round w) (pa_cons (pv 1) pa_nil)))) pa_nil))))), ?_⟩
  wtm_at "rd"
  refine ⟨rfl, a, ns, rfl, ha, fun p c H1 s1 P1 => ?_⟩
  refine ⟨5, rfl, by decide, by decide, fun D hD => ?_⟩
  have Dp : D ≠ p := P1.ne hD
  have Dc : D ≠ c := P1.ne2 hD
  refine lc_range (lo := 0) (n := 5) (fun i H' => H' D = some (.lst ((List.replicate i true).map V.bl)) ∧ Pen H' p c (100 * i)) ⟨upd_same, (P1.new hD).mono (by decide)⟩ (fun i H' hi h => ?_) (fun H' h => ?_)
  · obtain ⟨e1, P2⟩ := h
    refine ⟨rfl, ?_⟩
    wtm_at "rd"
    refine ⟨rfl, p, c, 100 * i, rfl, P2, by omega, fun H4 s4 P4 => ?_⟩
    have e3 := Uk.Off.at (s4 _ _ (Uk.Off.of e1 Dp))
    refine ⟨_, e3, ?_, ?_, (P4.upd Dp Dc).mono (by omega)⟩
    · rw [List.length_map, List.length_replicate]
      exact Nat.lt_of_lt_of_le hi (by decide)
    · rw [upd_same, List.replicate_succ', List.map_append]
      rfl
  · obtain ⟨e1, P2⟩ := h
    exact ⟨D, _, rfl, SqL.of e1, q _⟩
end
theorem done : PySem.Challenge.rw_unkeptlines_k04_agents_refused.Holds := by
  refine hd04 ?_
  refine walkG (K := hd04.heap_39) (sp := fun w => spLaw (hd04.heap_39 w.params)) (k := 17) (by rfl) (by decide) (by rfl) ?_ (fun w h Y => PySem.W.kIn_of Y) (fun w mg fa h KX hns hm base M => ?_) fun w H a ns hl hs => ⟨a, ns, rfl, hs, fun _ => rfl⟩
  · exact ⟨by decide, by decide, by decide⟩
  · have e : fa = 481 := by
      have h1 : some (Value.ref fa) = some (.ref 481) := hm.symm.trans (mg_law M)
      cases h1
      rfl
    subst e
    exact ok_law M
end M04

theorem PySem.Challenge.cw_unkeptlines_k04_agents_refused_holds : PySem.Challenge.rw_unkeptlines_k04_agents_refused.Holds := by
  exact M04.done
