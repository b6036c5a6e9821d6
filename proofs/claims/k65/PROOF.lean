import PyProof.Rows.All
import Wide.All
import OpenK.AllK
import Wide.FinOn
import PySem.Challenge.RW_unkeptlines_k65_findings_as_values
import KE.KStar
import HandS.ForMost
import HandS.ForExc
import HandS.Star
import HandS.IsInst
import HandS.ClsMeth
import PyProof.Conv_bool
import PyProof.MeetsIn
import PyProof.Rows.Range3
import HandS.Ends
import KE.KSuper
import KE.GoesEnum
import KE.GoesMore
import HandS.Iter
import HandS.Walk
import HandS.ExcInit
import HandS.ExcIs
import HandS.ExcField
import KE.KExcSuper
import KE.KExcIs
import KE.KEqNest
import HandS.CallLocal
import OpenK.KOps
import HandS.RevTup
import HandS.Rev
import PyProof.ListNew
import PyProof.StrOps2
import PyProof.NeData
import PyProof.EqKinds
import HandS.TupLe
set_option Elab.async false
set_option linter.all false
set_option maxRecDepth 100000
set_option maxHeartbeats 0
section
open PySem PySem.W PyProof.Rows
open_top hd65 for PySem.Challenge.rw_unkeptlines_k65_findings_as_values

end

/-! UkA: promises of whatever is called (defs, classes), with the stack's guards told; calls by them -/
namespace Uk
open PySem PySem.Spec PyProof.Rows L2 StX

abbrev SpK := List V → List (Str × V) → Hp → VK → XK → Prop
abbrev KVs (zs : List (Str × V)) (ks : List (Str × Value)) : Prop := Paired (fun (p : Str × V) (q : Str × Value) => p.1 = q.1 ∧ RelV p.2 q.2) zs ks

/-- a promise of what stands at fv, however it is called -/
def CallG (P : Program) (w : World) (K : PySem.W.Frag) (mg : Str → Option Value) (base : Heap) (k : Nat) (fv : Value) (sp : SpK) : Prop :=
  ∀ (A : Around) (outer : List Env) (s : Shared) (H : Hp) (us : List Value) (kws : List (Str × Value)) (vs : List V) (zs : List (Str × V)) (Q : VK) (E : XK),
    Room k A → A.guards = some [] → Env0 P w K mg base A outer s H → Vals vs us → KVs zs kws → sp vs zs H Q E →
    codeAny (model P w) A (.call fv ⟨us, kws⟩) (CR (L2.CX P w) outer P w H s Q E) s
/-- positional arguments alone -/
def pos (sp : Sp) : SpK := fun vs zs H Q E => zs = [] ∧ sp vs H Q E

section
variable {P : Program} {w : World} {K : PySem.W.Frag} {mg : Str → Option Value} {base : Heap} {j k : Nat} {fv : Value} {sp sp' : SpK}
theorem CallG.mono (F : CallG P w K mg base j fv sp) (h : j ≤ k) : CallG P w K mg base k fv sp := fun A o s H us kws vs zs Q E hr => F A o s H us kws vs zs Q E (hr.mono h)
theorem CallG.imp (F : CallG P w K mg base k fv sp) (h : ∀ vs zs H Q E, sp' vs zs H Q E → sp vs zs H Q E) : CallG P w K mg base k fv sp' :=
  fun A o s H us kws vs zs Q E hr hg e0 r rk q => F A o s H us kws vs zs Q E hr hg e0 r rk (h _ _ _ _ _ q)
end

section
variable {P : Program} {w : World} {K : PySem.W.Frag} {mg : Str → Option Value} {base : Heap} {k : Nat}
/-- a def without defaults, by its body -/
theorem def_pos {x qual : Str} {st : Stmt} {f : Addr} {fd : FuncData} {N ps : List Str} {sp : Sp} (F : Fun K x qual st f fd) (S : FnScope N ps (defScope st)) (len : ∀ vs H Q E, sp vs H Q E → vs.length = ps.length)
    (hb : ∀ (kV doc pm : Value) (an : Option Addr) (cdv ct : Value) (us : List Value), us.length = ps.length → bindArgs (PySem.W.fnOf x qual (defArgs st) (defBody st) (defScope st) .none kV doc pm an cdv ct) ⟨us, []⟩ = pure (ps.zip us))
    (hbody : ∀ (cdv : Value) (A : Around) (outer : List Env) (s : Shared) (H : Hp) (vs : List V) (Q : VK) (E : XK), Room k (A.deeper (envOfC qual (defScope st) s.heap.objs.size f cdv)) → A.guards = some [] → sp vs H Q E →
      ∃ t, PSs (cxOf (L2.CX P w) P w K mg base N qual (defScope st) f cdv A outer s H E) (defBody st) t ∧ t { nx := fun _ H' => Q .non H', rt := Q } (start N vs) H) : CallG P w K mg base (k + 1) (.ref f) (pos sp) := by
  obtain ⟨oc, od, kV, doc, pm, an, cdv, ct, osl, rfl, lk, hcd⟩ := F.ex
  rintro A outer s H us kws vs zs Q E hr hg e0 r rk ⟨rfl, hsp⟩
  cases rk
  refine run_bnd lk hcd S hr e0 (G := fun xs H2 => xs = vs ∧ H2 = H) (fun A' Ex Q' h => ?_) fun s2 H2 xs ⟨ex, eH⟩ hr' => ?_
  · have hl : us.length = ps.length := by rw [← r.length]; exact len _ _ _ _ hsp
    rw [hb kV doc pm an cdv ct us hl]
    exact wpAny_pure (h s H vs us e0 Un.refl rfl (fun _ _ z => z) r (len _ _ _ _ hsp) ⟨rfl, rfl⟩)
  · subst ex eH
    exact hbody cdv A outer s2 _ _ Q E hr' hg hsp
/-- a def with a star behind its parameters -/
theorem def_star {x qual : Str} {st : Stmt} {f : Addr} {fd : FuncData} {N ps : List Str} {pv : Str} {sp : Sp} (F : Fun K x qual st f fd) (S : FnScope N (ps ++ [pv]) (defScope st))
    (hb : ∀ (kV doc pm : Value) (an : Option Addr) (cdv ct : Value) (us rest : List Value), us.length = ps.length → bindArgs (PySem.W.fnOf x qual (defArgs st) (defBody st) (defScope st) .none kV doc pm an cdv ct) ⟨us ++ rest, []⟩ = (newTuple rest >>= fun t => pure (ps.zip us ++ [(pv, t)])))
    (hbody : ∀ (cdv : Value) (A : Around) (outer : List Env) (s : Shared) (H : Hp) (vs : List V) (Q : VK) (E : XK), Room k (A.deeper (envOfC qual (defScope st) s.heap.objs.size f cdv)) → A.guards = some [] → sp vs H Q E →
      ∃ t, PSs (cxOf (L2.CX P w) P w K mg base N qual (defScope st) f cdv A outer s H E) (defBody st) t ∧ t { nx := fun _ H' => Q .non H', rt := Q } (start N vs) H) :
    CallG P w K mg base (k + 1) (.ref f) (pos fun vs H Q E => ∃ ws rest, vs = ws ++ rest ∧ ws.length = ps.length ∧ rest.length ≤ sizeLine ∧ ∀ p, H p = none → sp (ws ++ [.ref p]) (upd H p (.tup rest)) Q E) := by
  obtain ⟨oc, od, kV, doc, pm, an, cdv, ct, osl, rfl, lk, hcd⟩ := F.ex
  rintro A outer s H us kws vs zs Q E hr hg e0 r rk ⟨rfl, ws, rest, rfl, hl, hz, hq⟩
  cases rk
  obtain ⟨u1, u2, rfl, r1, r2⟩ := vals_split r
  have hn : H s.heap.objs.size = none := e0.hok.fresh (Nat.le_refl _)
  have hl1 : u1.length = ps.length := by rw [← r1.length]; exact hl
  have hl2 : u2.length ≤ sizeLine := by rw [← r2.length]; exact hz
  refine run_bnd lk hcd S hr e0 (G := fun xs H2 => ∃ p, H p = none ∧ xs = ws ++ [V.ref p] ∧ H2 = upd H p (.tup rest)) (fun A' Ex Q' h => ?_) fun s2 H2 xs ⟨p, hp, ex, eH⟩ hr' => ?_
  · rw [hb kV doc pm an cdv ct u1 u2 hl1]
    refine wpAny_bind (wpAny_newTuple (wpAny_pure ?_) hl2)
    have new : ObjOk P w (upd H s.heap.objs.size (.tup rest)) (s.heap.push ({ cls := .type "tuple", data := .seq u2.toArray } : Obj)) s.heap.objs.size (.tup rest) :=
      ⟨hz, u2, r2, ⟨_, Heap.get?_push_size _ rfl, rfl, _, rfl⟩⟩
    have un := un_laid (fs := frs outer) (s := s) (o := ({ cls := .type "tuple", data := .seq u2.toArray } : Obj)) (u := .tup rest) hn
    have z := h _ _ (ws ++ [V.ref s.heap.objs.size]) (u1 ++ [Value.ref s.heap.objs.size]) (env0_laid e0 new) un rfl
      (fun e s' => cxUp outer s H _ _ E e s' un (fun b o q => Heap.get?_push_of_some _ q) rfl) (r1.append (.cons rfl .nil)) (by rw [List.length_append, List.length_append, hl] <;> rfl) ⟨_, hn, rfl, rfl⟩
    rw [List.zip_append hl1.symm] at z
    exact z
  · subst ex eH
    exact hbody cdv A outer s2 _ _ Q E hr' hg (hq p hp)
end

section
variable {X : Cx} {W : WX} {k : Nat} {fv : Value} {sp : SpK} {pins : List (Addr × Obj)} {σ : L2.St} {H : Hp} {s : Shared} {Q : VK}
/-- the callee runs, from a body -/
theorem run_call {us : List Value} {kws : List (Str × Value)} {vs : List V} {zs : List (Str × V)} (tk : Takes X W) (F : CallG X.prog X.w X.K X.mg X.base k fv sp) (hr : Room k X.A) (hg : X.A.guards = some []) (I : Inv X pins σ H s) (r : Vals vs us) (rk : KVs zs kws)
    (h : sp vs zs H Q (WE W σ)) : wpAny (model X.prog X.w) X.A (call fv us kws) (EP X pins σ Q) X.xe s := by
  refine wpAny_call (codeAny_mono (F X.A X.stack s H us kws vs zs Q _ hr hg I.env0 r rk h) fun r s' hq => ?_)
  cases r with
  | error e => exact passAt tk σ pins H s e s' I hq
  | ok fl =>
    cases fl with
    | ret u => exact I.after hq
    | next => exact False.elim hq
    | brk => exact False.elim hq
    | cont => exact False.elim hq
def tCl (W : WX) (sp : SpK) (t : TA) : TE := fun σ H Q => t σ H fun vs H1 => sp vs [] H1 Q (WE W σ)
variable {x : Str} {p qs : Pos} {e : Expr} {es : List Expr} {t : TA}
/-- x(e, ..) -/
theorem pe_cl (tk : Takes X W) (F : CallG X.prog X.w X.K X.mg X.base k fv sp) (hr : Room k X.A) (hg : X.A.guards = some []) (hx : Gl X x) (hm : X.mg x = some fv) (hk : PySem.W.keepIn X.K fv = true) (ha : PA X (e :: es) t)
    (hdb : (x == ("__debug__" : Str)) = false := by decide) (he : starEach (e :: es) X.env = (false, eval e X.env) :: starEach es X.env := by rfl) (hpl : (backTo qs (starEach es X.env)).any (·.1) = false := by rfl) :
    PE X (.Call (.Name x p) (e :: es) [] qs) (tCl W sp t) := by
  refine ⟨fun pins s σ H Q I h => ?_⟩
  refine wpAny_Call_Name_kw (ld_glob I hx hm ?_ hdb)
  refine PySem.W.callWith_K (h₀ := X.base) I.ok.mod.kin hk (thn (ha.run qs pins s σ H _ I h) fun us s1 ⟨vs, H1, I1, r, q⟩ => ⟨I1.kIn, ?_⟩) he hpl
  exact run_call tk F hr hg I1 r .nil q
theorem pe_cl0 (tk : Takes X W) (F : CallG X.prog X.w X.K X.mg X.base k fv sp) (hr : Room k X.A) (hg : X.A.guards = some []) (hx : Gl X x) (hm : X.mg x = some fv) (hk : PySem.W.keepIn X.K fv = true)
    (hdb : (x == ("__debug__" : Str)) = false := by decide) : PE X (.Call (.Name x p) [] [] qs) (tCl W sp tNil) := by
  refine ⟨fun pins s σ H Q I h => ?_⟩
  refine wpAny_Call_Name_kw (ld_glob I hx hm ?_ hdb)
  exact PySem.W.callWith_K0 I.kIn hk (run_call (us := []) tk F hr hg I .nil .nil h)
end
end Uk

/-! UkB: from the layer into the walk: a def's promise shown by the walker -/
namespace Uk
open PySem PySem.Spec PyProof.Rows L2 StX

/-- the surroundings as the walk wants them -/
abbrev wideA (outer : List Env) : Around := { handled := none, depth := 395, frames := some outer, guards := some [], units := 6500 }
theorem below_wide {A : Around} {outer : List Env} {k : Nat} (hr : Room k A) (hk : 200 ≤ k) (hg : A.guards = some []) (hf : A.frames = some outer) {Γ : PySem.Ctx} (h : Γ.Below A) : Γ.Below (wideA outer) := by
  obtain ⟨h1, h2, h3, h4, h5⟩ := h
  have d := hr.dp
  have u := hr.un
  have e1 : recursionLimit = 1000 := rfl
  have e2 : cLine = 9900 := rfl
  rw [e1] at d
  rw [e2] at u
  refine ⟨h1.trans hr.hd, ?_, fun l hl => ?_, fun g hl => ?_, ?_⟩
  · show _ ≤ 395
    omega
  · cases hl
    exact h3 _ hf
  · cases hl
    exact h4 _ hg
  · show _ ≤ 6500
    omega
theorem code_wide {M : Model} {A : Around} {outer : List Env} {k : Nat} (hr : Room k A) (hk : 200 ≤ k) (hg : A.guards = some []) (hf : A.frames = some outer) {c : Code} {R : Result → Shared → Prop} {s : Shared} (h : codeAny M (wideA outer) c R s) : codeAny M A c R s :=
  fun Γ p hc hb => h Γ p hc (below_wide hr hk hg hf hb)

section
variable {P : Program} {w : World} {K : PySem.W.Frag} {mg : Str → Option Value} {base : Heap} {A : Around} {outer : List Env} {s : Shared} {H : Hp} {Q : VK} {E : XK} {k : Nat}
theorem Env0.kIn (e0 : Env0 P w K mg base A outer s H) : K.In s.heap := e0.mod.kin.keeps fun b o e => (e0.bs b o e).1
theorem Env0.keep (e0 : Env0 P w K mg base A outer s H) : ∀ b o, base.get? b = some o → s.heap.get? b = some o := fun b o e => (e0.bs b o e).1
/-- back from the walk: all that stood stands -/
theorem leave_same {v : V} {u : Value} {h' : Heap} {tk : Nat} {g : Array GenState} {d : Drawn} {os : OsState} (e0 : Env0 P w K mg base A outer s H) (kp : ∀ b o, s.heap.get? b = some o → h'.get? b = some o) (rv : RelV v u) (q : Q v H)
    (hg : AllBare g := by first | assumption | exact Env0.bare (by assumption)) (ho : os = s.os := by rfl) :
    CR (L2.CX P w) outer P w H s Q E (.ok (.ret u)) ⟨h', g, d, tk, os⟩ := ⟨v, H, ho, hg, Un.kept kp, e0.hok.kept kp, rv, q⟩
/-- a def entered, for the walk -/
theorem enter_W {p : Program} {loose : List Str} {mean : ExcName → Option Value} {mb : Str → Option Value} {R : Result → Shared → Prop} {name qual : Str} {params : Arguments} {body : List Stmt} {scope : Scope} {dV kV doc pm cdv ct oc : Value} {an od : Option Addr} {osl : Array (Option Value)}
    {f : Addr} {args : Args} {binds : List (Str × Value)} (hr : Room k A) (hk : 200 ≤ k) (hg : A.guards = some []) (e0 : Env0 P w K mg base A outer s H) (T : Top p loose mean mg mb base)
    (ho : K.lookup f = some ⟨oc, od, .func (PySem.W.fnOf name qual params body scope dV kV doc pm an cdv ct), osl⟩) (hcd : PySem.W.codeIn K cdv qual = true)
    (hbind : BindsTo s (PySem.W.fnOf name qual params body scope dV kV doc pm an cdv ct) args binds) (hloc : ∀ y ∈ binds, scope.names.lookup y.1 = some .local)
    (h : ∀ L' h₁, Fr s.heap L' h₁ (fun y => binds.reverse.lookup y) → News s.heap L' h₁ [] → Below (wideA outer) base outer s.heap → K.In s.heap → Top p loose mean mg mb s.heap →
      wpAny (model P w) ((wideA outer).deeper (envOf qual scope L' f cdv)) (execs body (envOf qual scope L' f cdv))
        (fun fl s' => R (.ok (.ret (match fl with | .ret v => v | _ => .none))) s')
        (fun e s' => wpAny (model P w) ((wideA outer).deeper (envOf qual scope L' f cdv)) (leaving (envOf qual scope L' f cdv) e) (fun _ s'' => R (.error e) s'') (fun e' s'' => R (.error e') s'') s')
        { s with heap := h₁, toks := s.toks + binds.length })
    (hco : scope.isCoroutine = false) (hgen : scope.isGenerator = false) (hkd : scope.kind = .function) (hcell : ∀ x ∈ scope.names, x.2 ≠ .cell) :
    codeAny (model P w) A (.call (.ref f) args) R s := by
  have KX := Env0.kIn e0
  refine code_wide hr hk hg e0.frames ?_
  refine codeAny_call_def (fd := PySem.W.fnOf name qual params body scope dV kV doc pm an cdv ct) (body := body) (binds := binds) (by show 395 < recursionLimit; decide) (KX _ _ ho) rfl (T.nolimit.keeps (Env0.keep e0))
    (PySem.W.codeRec_of KX hcd) rfl hbind hcell hloc (fun h₁ hns hk₁ => ?_) hco hgen hkd
  exact h s.heap.objs.size h₁ ⟨hns, hk₁, Nat.le_refl _⟩ (fun _ hp => nomatch hp) ⟨rfl, Env0.keep e0, e0.funs⟩ KX (T.keeps (Env0.keep e0))
end
end Uk

/-! UkC: != of an instance whose class has its own == and no != -/
namespace Uk
open PySem PySem.W PySem.Spec PySem.Calls PyProof.Rows

section
variable {prog : Program} {w : World} {A : Around} {E : Value → Shared → Prop} {s : Shared} {K : Frag} {x C L f : Addr} {h₀ : Heap} {m : PySem.Str → Option Value} {ox : Obj} {od : Option Obj} {b tb : Value}
/-- a built-in of object's, bound to the instance -/
theorem ifBound_bi {M : Model} {name : PySem.Str} {id T : String} {args : List Value} {Q : Option Value → Shared → Prop} (X : K.In s.heap) (I : InstAt s.heap x ox C od) (hs : findIn K (.ref C) name = some (some (.builtin id))) (S : Slot T name id)
    (h : wpAny M A (call (.builtin id) (.ref x :: args)) (fun v => Q (some v)) E s) : wpAny M A (callSpecialIfBound? (.ref x) name args) Q E s := by
  simp only [callSpecialIfBound?, bindSpecialIfBound?]
  refine wpAny_holding (wpAny_bind (wpAny_bind (wpAny_bind (I.type.here ((looks_findIn X hs).here ?_)))))
  simp only [S.bind]
  refine wpAny_bind (wpAny_askSetting (wpAny_ite ?_))
  have fin : wpAny M A (call (.builtin id) ([.ref x] ++ args) >>= fun v => pure (some v)) Q E s := wpAny_bind (wpAny_mono h (fun v s' h' => wpAny_pure h') fun _ _ h' => h')
  split
  · exact wpAny_bind (wpAny_pure (wpAny_pure fin))
  · exact wpAny_tryCatch (wpAny_bind (wpAny_pure (wpAny_pure fin)))

theorem objNe_K {Q : Fin → Shared → Prop} (hu : A.units < cLine) (X : K.In s.heap) (I : InstAt s.heap x ox C od) (hs : findIn K (.ref C) "__eq__" = some (some (.ref f))) (hf : isFn K (.ref f) = true)
    (h : wpAny (model prog w) A (call (.ref f) [.ref x, b]) (fun v s' => ∃ c, v = .bool c ∧ Q (.done (.ret (.bool (!c)))) s') E s) :
    wpAny (model prog w) A (Builtin.«object.__ne__» ⟨[.ref x, b], []⟩) Q E s := by
  obtain ⟨hp, g, d, t, os⟩ := s
  unfold Builtin.«object.__ne__»
  repeat (first
    | with_reducible refine wpAny_cRoomFor hu ?_
    | (refine wpAny_bind (m := callSpecialIfBound? (.ref x) (PySem.Str.ofString "__eq__") [b])
        (ifBound_K X I hs hf (wpAny_mono h (fun r s' hr => by
          obtain ⟨c, rfl, hq⟩ := hr
          repeat (first | exact hq | exact wpAny_pure hq | exact wpAny_truthy_bool hq | (refine wpAny_bind (m := truthy (.bool _)) (wpAny_truthy_bool ?_)) | wp_step)) fun _ _ e => e)))
    | wp_step)

theorem ne_K {Q : Value → Shared → Prop} (hu : A.units + 1 < cLine) (F : Fr h₀ L s.heap m) (X₀ : K.In h₀) (I : InstAt s.heap x ox C od) (hb : Looks (model prog w) s.heap (typeOf b) tb) (hn : notFirst K C tb = true)
    (hne : findIn K (.ref C) "__ne__" = some (some (.builtin "object.__ne__"))) (hs : findIn K (.ref C) "__eq__" = some (some (.ref f))) (hf : isFn K (.ref f) = true) (ho : mroIn K C (.type "object") = some true)
    (h : wpAny (model prog w) A.in1 (call (.ref f) [.ref x, b]) (fun v s' => ∃ c, v = .bool c ∧ Q (.bool (!c)) s') E s) : wpAny (model prog w) A (richCompare .NotEq (.ref x) b) Q E s := by
  have X := X₀.keeps F.keep
  have sub : Looks (model prog w) s.heap (isInstance (.ref x) (.type "object")) true := I.type.andThen (looks_mroIn X ho)
  have one : wpAny (model prog w) A (tryCompare (.ref x) "__ne__" b) (fun r s' => ∃ v, r = some v ∧ Q v s') E s := by
    unfold tryCompare
    refine wpAny_bind (ifBound_bi X I hne PySem.F.cmp_object.ne (wpAny_call (codeAny_call_builtin PySem.F.cmp_object.ne.plain PySem.F.cmpEntry_ne (check_slot PySem.F.cmpKind_ne PySem.F.cmpSplit_ne sub (PySem.F.cmpArgs_ne _ _) ?_))))
    refine objNe_K (A := A.in1) (by show A.units + 1 < cLine; exact hu) X I hs hf (wpAny_mono h (fun v s' hv => ?_) fun _ _ e => e)
    obtain ⟨c, rfl, hq⟩ := hv
    exact ⟨c, rfl, wpAny_pure ⟨_, rfl, hq⟩⟩
  unfold richCompare
  simp only [oneThing_ref]
  refine wpAny_holding (wpAny_bind (wpAny_cRoomFor (Nat.lt_of_succ_lt hu) ?_))
  rw [cmpInfo_NotEq]
  dsimp only
  refine wpAny_bind (I.type.here (wpAny_bind (hb.here ?_)))
  split
  · rename_i q
    have e : subIn K tb (.ref C) = some false := by
      rcases Bool.or_eq_true_iff.mp hn with e | e
      · rw [beq_iff_eq.mp e] at q; simp at q
      · exact beq_iff_eq.mp e
    refine wpAny_bind ((looks_subIn X e).here ?_)
    simp only [Bool.false_eq_true, if_false]
    refine wpAny_bind (wpAny_mono one (fun r s' z => ?_) fun _ _ e => e)
    obtain ⟨v, rfl, hq⟩ := z
    exact wpAny_pure hq
  · refine wpAny_bind (wpAny_pure ?_)
    simp only [Bool.false_eq_true, if_false]
    refine wpAny_bind (wpAny_mono one (fun r s' z => ?_) fun _ _ e => e)
    obtain ⟨v, rfl, hq⟩ := z
    exact wpAny_pure hq
def BoolNot (Q : Value → Shared → Prop) (v : Value) (s' : Shared) : Prop := match v with
  | .bool c => Q (.bool (!c)) s'
  | _ => False
theorem ne_K' {Q : Value → Shared → Prop} (hu : A.units + 1 < cLine) (F : Fr h₀ L s.heap m) (X₀ : K.In h₀) (I : InstAt s.heap x ox C od) (hb : Looks (model prog w) s.heap (typeOf b) tb) (hn : notFirst K C tb = true)
    (hne : findIn K (.ref C) "__ne__" = some (some (.builtin "object.__ne__"))) (hs : findIn K (.ref C) "__eq__" = some (some (.ref f))) (hf : isFn K (.ref f) = true) (ho : mroIn K C (.type "object") = some true)
    (h : wpAny (model prog w) A.in1 (call (.ref f) [.ref x, b]) (BoolNot Q) E s) : wpAny (model prog w) A (compareOp .NotEq (.ref x) b) Q E s :=
  ne_K hu F X₀ I hb hn hne hs hf ho (wpAny_mono h (fun v s' hv => by
    cases v <;> first | exact False.elim hv | exact ⟨_, rfl, hv⟩) fun _ _ e => e)
end
end Uk

/-! UkD: operators that a class of the program defines -/
namespace Uk
open PySem PySem.Spec PyProof.Rows L2 StX

/-- nothing is raised -/
abbrev NoE : XK := fun _ _ _ => False
section
variable {X : Cx} {W : WX} {k : Nat} {fv : Value} {sp : SpK} {pins : List (Addr × Obj)} {σ : L2.St} {H : Hp} {s : Shared} {Q : VK}
theorem cx_no {P : Program} {w : World} {outer : List Env} {u : Value} {s' : Shared} (h : L2.CX P w outer H s NoE u s') : False := by
  obtain ⟨a, B, H', cls, d, ea, fl, hok, ub, na, os, ag, he⟩ := h
  exact he
/-- the callee runs in the body's surroundings, or in ones like them, and raises nothing -/
theorem run_callN {A' : Around} {E₁ : Value → Shared → Prop} {us : List Value} {vs : List V} (F : CallG X.prog X.w X.K X.mg X.base k fv sp) (hr : Room k A') (hg : A'.guards = some []) (hf : A'.frames = X.A.frames) (I : Inv X pins σ H s) (r : Vals vs us)
    (h : sp vs [] H Q NoE) : wpAny (model X.prog X.w) A' (call fv us) (EP X pins σ Q) E₁ s := by
  have e := I.env0
  have e0 : Env0 X.prog X.w X.K X.mg X.base A' X.stack s H := ⟨hf.trans e.frames, e.mod, e.bs, e.bsz, e.funs, e.frf, e.hok, e.bare⟩
  refine wpAny_call (codeAny_mono (F A' X.stack s H us [] vs [] Q NoE hr hg e0 r .nil h) fun r s' hq => ?_)
  cases r with
  | error e => exact (cx_no hq).elim
  | ok fl =>
    cases fl with
    | ret u => exact I.after hq
    | next => exact False.elim hq
    | brk => exact False.elim hq
    | cont => exact False.elim hq
theorem rel_ne {v : V} {u : Value} (r : RelV v u) : u ≠ .notImplemented := by
  intro e
  subst e
  cases v <;> first | (cases r; done) | (obtain ⟨_, e⟩ := r; cases e)
/-- a method of the class by its special name -/
structure Own (K : PySem.W.Frag) (C : Addr) (m : PySem.Str) (f : Addr) : Prop where
  at_ : PySem.W.findIn K (.ref C) m = some (some (.ref f))
  fn : PySem.W.isFn K (.ref f) = true
theorem ins_at {P : Program} {w : World} {h : Heap} {a C dx : Addr} {fs : List (Str × V)} (hok : HOk P w H h) (e : H a = some (.ins C dx fs)) : ∃ od, PySem.W.InstAt h a (PySem.W.instObj C dx) C (some od) := by
  obtain ⟨mA, O, _⟩ := ins_get hok e
  obtain ⟨od, J, _⟩ := O.look
  exact ⟨od, J⟩
theorem looks_ty {x : V} {u t : Value} (I : Inv X pins σ H s) (rx : RelV x u) (ty : TyX X.K H x t) {M : Model} : PySem.W.Looks M s.heap (typeOf u) t := by
  obtain ⟨P, Z, p, _⟩ := kit_of I rx ty
  exact Z.ty M s.heap I.kIn p
/-- one own, the other any -/
def rOw (K : PySem.W.Frag) (D : Addr → Prop) (sp : SpK) (g : V → V) : R2 := fun x y H Q => ∃ (a C dx : Addr) (fs : List (Str × V)) (t : Value), x = .ref a ∧ D C ∧ H a = some (.ins C dx fs) ∧ TyX K H y t ∧ PySem.W.notFirst K C t = true ∧ sp [x, y] [] H (fun v H' => Q (g v) H') NoE
theorem op_eqO {D : Addr → Prop} {f : Addr} (F : CallG X.prog X.w X.K X.mg X.base k (.ref f) sp) (hr : Room k X.A) (hg : X.A.guards = some []) (hD : ∀ C, D C → Own X.K C "__eq__" f) : OpR X (compareOp .Eq) (rOw X.K D sp id) := by
  intro pins s σ H x y u v Q I rx ry h
  obtain ⟨a, C, dx, fs, t, rfl, d, e, ty, nf, q⟩ := h
  obtain rfl : u = Value.ref a := rx
  obtain ⟨od, J⟩ := ins_at I.hok e
  obtain ⟨m, fr⟩ := I.fr
  refine PySem.W.cmp_ofEq (PySem.W.cmp_K hr.units0 fr I.ok.mod.kin J (looks_ty I ry ty) nf (hD C d).at_ (hD C d).fn (wpAny_mono (run_callN F hr hg rfl I (vs := [.ref a, y]) (us := [.ref a, v]) (.cons rfl (.cons ry .nil)) q) (fun z s' hz => ?_) fun _ _ y => y))
  obtain ⟨v', H', I', rv, q'⟩ := hz
  have hn := rel_ne rv
  cases z <;> first | exact absurd rfl hn | exact ⟨v', H', I', rv, q'⟩
theorem op_ltO {D : Addr → Prop} {f : Addr} (F : CallG X.prog X.w X.K X.mg X.base k (.ref f) sp) (hr : Room k X.A) (hg : X.A.guards = some []) (hD : ∀ C, D C → Own X.K C "__lt__" f) : OpR X (compareOp .Lt) (rOw X.K D sp id) := by
  intro pins s σ H x y u v Q I rx ry h
  obtain ⟨a, C, dx, fs, t, rfl, d, e, ty, nf, q⟩ := h
  obtain rfl : u = Value.ref a := rx
  obtain ⟨od, J⟩ := ins_at I.hok e
  obtain ⟨m, fr⟩ := I.fr
  refine PySem.W.cmp_ofLt (PySem.W.cmp_K hr.units0 fr I.ok.mod.kin J (looks_ty I ry ty) nf (hD C d).at_ (hD C d).fn (wpAny_mono (run_callN F hr hg rfl I (vs := [.ref a, y]) (us := [.ref a, v]) (.cons rfl (.cons ry .nil)) q) (fun z s' hz => ?_) fun _ _ y => y))
  obtain ⟨v', H', I', rv, q'⟩ := hz
  have hn := rel_ne rv
  cases z <;> first | exact absurd rfl hn | exact ⟨v', H', I', rv, q'⟩
def notV : V → V
  | .bl b => .bl (!b)
  | v => v
/-- != by an own == -/
def rNeOw (K : PySem.W.Frag) (D : Addr → Prop) (sp : SpK) : R2 := fun x y H Q => ∃ (a C dx : Addr) (fs : List (Str × V)) (t : Value), x = .ref a ∧ D C ∧ H a = some (.ins C dx fs) ∧ TyX K H y t ∧ PySem.W.notFirst K C t = true ∧ sp [x, y] [] H (fun v H' => ∃ b, v = .bl b ∧ Q (.bl (!b)) H') NoE
structure OwnNe (K : PySem.W.Frag) (C : Addr) (f : Addr) : Prop where
  eq : Own K C "__eq__" f
  ne : PySem.W.findIn K (.ref C) "__ne__" = some (some (.builtin "object.__ne__"))
  ob : PySem.W.mroIn K C (.type "object") = some true
theorem op_neO {D : Addr → Prop} {f : Addr} (F : CallG X.prog X.w X.K X.mg X.base k (.ref f) sp) (hr : Room (k + 1) X.A) (hg : X.A.guards = some []) (hD : ∀ C, D C → OwnNe X.K C f) : OpR X (compareOp .NotEq) (rNeOw X.K D sp) := by
  intro pins s σ H x y u v Q I rx ry h
  obtain ⟨a, C, dx, fs, t, rfl, d, e, ty, nf, q⟩ := h
  obtain rfl : u = Value.ref a := rx
  obtain ⟨od, J⟩ := ins_at I.hok e
  obtain ⟨m, fr⟩ := I.fr
  refine ne_K' (by have := hr.units; omega) fr I.ok.mod.kin J (looks_ty I ry ty) nf (hD C d).ne (hD C d).eq.at_ (hD C d).eq.fn (hD C d).ob (wpAny_mono (run_callN F hr.in1 hg rfl I (vs := [.ref a, y]) (us := [.ref a, v]) (.cons rfl (.cons ry .nil)) q) (fun z s' hz => ?_) fun _ _ y => y)
  obtain ⟨v', H', I', rv, b, rfl, q'⟩ := hz
  obtain rfl : z = Value.bool b := rv
  exact ⟨.bl (!b), H', I', rfl, q'⟩
/-- a + b, both of one class -/
def rBinO (D : Addr → Prop) (sp : SpK) : R2 := fun x y H Q => ∃ (a b C dx dy : Addr) (fs gs : List (Str × V)), x = .ref a ∧ y = .ref b ∧ D C ∧ H a = some (.ins C dx fs) ∧ H b = some (.ins C dy gs) ∧ sp [x, y] [] H Q NoE
structure OwnBin (K : PySem.W.Frag) (C : Addr) (m : PySem.Str) (f : Addr) : Prop where
  at_ : PySem.W.findIn K (.ref C) m = some (some (.ref f))
  fn : PySem.W.isFn K (.ref f) = true
  first : PySem.W.selfFirst K C = true
theorem op_binO {op : Operator} {D : Addr → Prop} {f : Addr} (F : CallG X.prog X.w X.K X.mg X.base k (.ref f) sp) (hr : Room k X.A) (hg : X.A.guards = some []) (hD : ∀ C, D C → OwnBin X.K C (PySem.dunder op.info.2) f) : OpR X (binaryOp op) (rBinO D sp) := by
  intro pins s σ H x y u v Q I rx ry h
  obtain ⟨a, b, C, dx, dy, fs, gs, rfl, rfl, d, e1, e2, q⟩ := h
  obtain rfl : u = Value.ref a := rx
  obtain rfl : v = Value.ref b := ry
  obtain ⟨od, J⟩ := ins_at I.hok e1
  obtain ⟨od2, J2⟩ := ins_at I.hok e2
  obtain ⟨m, fr⟩ := I.fr
  refine PySem.W.binop_K fr I.ok.mod.kin J J2.type (hD C d).first (hD C d).at_ (hD C d).fn (wpAny_mono (run_callN F hr hg rfl I (vs := [.ref a, .ref b]) (us := [.ref a, .ref b]) (.cons rfl (.cons rfl .nil)) q) (fun z s' hz => ?_) fun _ _ y => y)
  obtain ⟨v', H', I', rv, q'⟩ := hz
  have hn := rel_ne rv
  cases z <;> first | exact absurd rfl hn | exact ⟨v', H', I', rv, q'⟩
/-- an instance's truth by its own __bool__ -/
def rTruO (D : Addr → Prop) (sp : SpK) : V → Hp → (Bool → Hp → Prop) → Prop := fun x H Q => ∃ (a C dx : Addr) (fs : List (Str × V)), x = .ref a ∧ D C ∧ H a = some (.ins C dx fs) ∧ sp [x] [] H (fun v H' => ∃ b, v = .bl b ∧ Q b H') NoE
theorem tru_O {D : Addr → Prop} {f : Addr} (F : CallG X.prog X.w X.K X.mg X.base k (.ref f) sp) (hr : Room k X.A) (hg : X.A.guards = some []) (hD : ∀ C, D C → Own X.K C "__bool__" f) : TruR X (rTruO D sp) := by
  intro pins s σ H x u Q I rx h
  obtain ⟨a, C, dx, fs, rfl, d, e, q⟩ := h
  obtain rfl : u = Value.ref a := rx
  obtain ⟨od, J⟩ := ins_at I.hok e
  obtain ⟨m, fr⟩ := I.fr
  refine PySem.W.truthy_K fr I.ok.mod.kin J (hD C d).at_ (hD C d).fn (wpAny_mono (run_callN F hr hg rfl I (vs := [.ref a]) (us := [.ref a]) (.cons rfl .nil) q) (fun z s' hz => ?_) fun _ _ y => y)
  obtain ⟨v', H', I', rv, b, rfl, q'⟩ := hz
  obtain rfl : z = Value.bool b := rv
  exact ⟨H', I', q'⟩
end
end Uk

/-! UkE: repr of data -/
namespace Uk
open PySem PySem.Spec PyProof.Rows L2 StX

section
variable {K : PySem.W.Frag} {H H' : Hp}
mutual
theorem dp_noDict : ∀ {d : PyData} {v : V}, Dp K H v d → d.hasDict = false
  | .none, _, _ => rfl
  | .bool _, _, _ => rfl
  | .int _, _, _ => rfl
  | .str _, _, _ => rfl
  | .list ds, _, h => by
    cases h with
    | lst _ r => exact dpAll_noDict r
  | .tuple ds, _, h => by
    cases h with
    | tup _ r => exact dpAll_noDict r
  | .dict _, _, h => nomatch h
theorem dpAll_noDict : ∀ {ds : List PyData} {vs : List V}, DpAll K H vs ds → PyData.hasDictAll ds = false
  | [], _, _ => rfl
  | d :: ds, _, h => by
    cases h with
    | cons a r =>
      show (PyData.hasDict d || PyData.hasDictAll ds) = false
      rw [dp_noDict a, dpAll_noDict r] <;> rfl
end
theorem sq_mono {a : Addr} {xs : List V} (e : Same H H') (h : SqL K H a xs) : SqL K H' a xs := e.seq h
theorem st_mono {a : Addr} {xs : List V} (e : Same H H') (h : SqT K H a xs) : SqT K H' a xs := by
  rcases h with (h | ⟨o, h⟩) | h
  · exact .inl (.inl (e _ _ h))
  · exact .inl (.inr ⟨o, e _ _ h⟩)
  · exact .inr h
mutual
theorem dp_mono (e : Same H H') : ∀ {d : PyData} {v : V}, Dp K H v d → Dp K H' v d
  | .none, _, h => by cases h; exact .non
  | .bool b, _, h => by cases h; exact .bl b
  | .int i, _, h => by cases h; exact .int i
  | .str x, _, h => by cases h; exact .str x
  | .list ds, _, h => by
    cases h with
    | lst a r => exact .lst (sq_mono e a) (dpAll_mono e r)
  | .tuple ds, _, h => by
    cases h with
    | tup a r => exact .tup (st_mono e a) (dpAll_mono e r)
  | .dict _, _, h => nomatch h
theorem dpAll_mono (e : Same H H') : ∀ {ds : List PyData} {vs : List V}, DpAll K H vs ds → DpAll K H' vs ds
  | [], _, h => by cases h; exact .nil
  | d :: ds, _, h => by
    cases h with
    | cons a r => exact .cons (dp_mono e a) (dpAll_mono e r)
end
end

/-- what may be shown -/
structure Shw (d : PyData) : Prop where
  sh : d.showable = true
  sz : d.shown.length ≤ sizeLine
  dp : d.depth ≤ 60
def rRepr (K : PySem.W.Frag) : List V → Hp → VK → Prop := fun xs H Q => ∃ v d, xs = [v] ∧ Dp K H v d ∧ Shw d ∧ Q (.str d.shown) H
section
variable {X : Cx}
theorem call_repr (hg : X.A.guards = some []) (hu : X.A.units + 64 < cLine) : CallR X (.builtin "repr") (rRepr X.K) := by
  intro pins s σ H xs us Q I r h
  obtain ⟨v, d, rfl, hd, ⟨h1, h2, h3⟩, q⟩ := h
  obtain ⟨u, rfl, rv⟩ := vals1 r
  cases hd with
  | non => cases (show u = Value.none from rv); exact PySem.P.repr_of_none ⟨.str _, H, I.tok _, ⟨_, rfl⟩, q⟩
  | bl b =>
    cases (show u = Value.bool b from rv)
    refine PySem.P.repr_of_bool ⟨.str _, H, I.tok _, ⟨_, rfl⟩, ?_⟩
    cases b <;> exact q
  | int i =>
    obtain ⟨t, rfl⟩ := (show ∃ t, u = Value.int i t from rv)
    exact PySem.P.repr_of_int (of_decide_eq_true h1) ⟨.str _, H, I.tok _, ⟨_, rfl⟩, q⟩
  | str x =>
    obtain ⟨t, rfl⟩ := (show ∃ t, u = Value.str x t from rv)
    exact PySem.P.repr_of_str ⟨.str _, H, I.tok _, ⟨_, rfl⟩, q⟩ h2
  | @lst a xs ds hl hr =>
    have hd := Dp.lst hl hr
    obtain ⟨as, rd⟩ := Dp.reads I _ _ u hd rv
    obtain rfl : u = Value.ref a := rv
    refine repr_of_reads' (h₀ := s.heap) rd h1 (fun z => by rw [dp_noDict hd] at z; cases z) hg (by omega) (fun _ _ e => e) (fun h' t tk kp => ?_) h2
    exact ⟨.str _, H, I.kept kp, ⟨_, rfl⟩, q⟩
  | @tup a xs ds hl hr =>
    have hd := Dp.tup hl hr
    obtain ⟨as, rd⟩ := Dp.reads I _ _ u hd rv
    obtain rfl : u = Value.ref a := rv
    refine repr_of_reads' (h₀ := s.heap) rd h1 (fun z => by rw [dp_noDict hd] at z; cases z) hg (by omega) (fun _ _ e => e) (fun h' t tk kp => ?_) h2
    exact ⟨.str _, H, I.kept kp, ⟨_, rfl⟩, q⟩
end
end Uk

/-! UkF: small words for readings; the pen -/
namespace Uk
open PySem PySem.Spec PyProof.Rows L2 StX

theorem hu_big {A : Around} {k : Nat} (hr : Room k A) : A.units + 64 < cLine := hr.units
/-- one object was changed (or made), all else that was told stands -/
structure Chg (p : Addr) (o : HO) (H H' : Hp) : Prop where
  at_ : H' p = some o
  ne : ∀ a u, a ≠ p → H a = some u → H' a = some u
theorem Chg.upd {p : Addr} {o : HO} {H : Hp} : Chg p o H (upd H p o) := ⟨upd_same, fun a u n e => by rw [upd_ne n]; exact e⟩
theorem Chg.same {p : Addr} {o : HO} {H H1 H2 : Hp} (e : Same H H1) (c : Chg p o H1 H2) : Chg p o H H2 := ⟨c.at_, fun a u n h => c.ne a u n (e a u h)⟩
theorem Chg.trans {p : Addr} {o u : HO} {H H1 H2 : Hp} (a : Chg p o H H1) (b : Chg p u H1 H2) : Chg p u H H2 := ⟨b.at_, fun x y n e => b.ne x y n (a.ne x y n e)⟩
theorem Chg.then {p : Addr} {o : HO} {H H1 H2 : Hp} (a : Chg p o H H1) (b : Same H1 H2) : Chg p o H H2 := ⟨b _ _ a.at_, fun x y n e => b _ _ (a.ne x y n e)⟩
theorem same_new {H : Hp} {p : Addr} {o : HO} (h : H p = none) : Same H (upd H p o) := fun b x e => by rw [upd_ne (ne_of_none e h)]; exact e
/-- an item of a list at a written place -/
theorem atI_lit {α : Type} {xs : List α} {i : Int} {v : α} (h0 : 0 ≤ i) (h : xs[i.toNat]? = some v) : atI xs i = some v := by
  have := atI_nat h
  rwa [Int.toNat_of_nonneg h0] at this
theorem ixN_lit {n : Nat} {i : Int} (h0 : 0 ≤ i) (h1 : i < n) : ixN n i = some i.toNat := by unfold ixN; rw [if_pos h0, if_pos h1]
theorem atI_mem {α : Type} {xs : List α} {i : Int} (h0 : 0 ≤ i) (h1 : i < xs.length) : ∃ v, atI xs i = some v ∧ v ∈ xs := by
  have hl : i.toNat < xs.length := by omega
  exact ⟨xs[i.toNat], atI_lit h0 (List.getElem?_eq_getElem hl), List.getElem_mem hl⟩
theorem ite_b {b : Bool} {A B : Prop} (h1 : b = true → A) (h2 : b = false → B) : if b = true then A else B := by
  cases b with
  | true => exact iteT (h1 rfl)
  | false => exact iteF (h2 rfl)

/-- the pen at p: its cells at c, how many were begun, what is left -/
abbrev penO (c : Addr) (b l : Int) : HO := .lst [.ref c, .int b, .int l]
/-- the promise of what draws -/
def spDraw : Sp := fun vs H Q _ => ∃ (p c : Addr) (b l many : Int) (ns : List Int), vs = [.ref p, .int many] ∧ H p = some (penO c b l) ∧ H c = some (.lst (ns.map .int)) ∧ ns.length ≤ 63 ∧ 0 ≤ b ∧ b ≤ 100000 ∧ 1 ≤ many ∧ many ≤ 100000 ∧
  ∀ (d b' l' : Int) (H' : Hp), 0 ≤ d → d < many → b ≤ b' → b' ≤ b + 1 → Chg p (penO c b' l') H H' → Q (.int d) H'
theorem fmod_range {i j : Int} (h : 0 < j) : 0 ≤ i.fmod j ∧ i.fmod j < j := by
  rw [Int.fmod_eq_emod_of_nonneg _ (Int.le_of_lt h)]
  exact ⟨Int.emod_nonneg _ (Int.ne_of_gt h), Int.emod_lt_of_pos _ h⟩
theorem fmod_ex {C : Int} (h : 0 < C) (i : Int) : ∃ m, i.fmod C = m ∧ 0 ≤ m ∧ m < C := ⟨_, rfl, (fmod_range h).1, (fmod_range h).2⟩
theorem lay_ints : ∀ ns : List Int, PyData.canLayAll0 (ns.map PyData.int) = true
  | [] => rfl
  | n :: r => by
    show (PyData.canLay0 (.int n) && PyData.canLayAll0 (r.map PyData.int)) = true
    rw [lay_ints r]
    rfl
theorem dep_ints : ∀ ns : List Int, PyData.depthAll (ns.map PyData.int) = 0
  | [] => rfl
  | n :: r => by
    show max (PyData.depth (.int n)) (PyData.depthAll (r.map PyData.int)) = 0
    rw [dep_ints r]
    rfl
theorem shaped_ints (ns : List Int) : SeqAt.shaped (.list (ns.map PyData.int)) = true := by
  unfold SeqAt.shaped
  rw [show PyData.canLay0 (.list (ns.map PyData.int)) = true from lay_ints ns, show PyData.depth (.list (ns.map PyData.int)) = 1 by show PyData.depthAll (ns.map PyData.int) + 1 = 1; rw [dep_ints]]
  rfl
theorem dpAll_ints {K : PySem.W.Frag} {H : Hp} : ∀ ns : List Int, DpAll K H (ns.map V.int) (ns.map PyData.int)
  | [] => .nil
  | n :: r => .cons (.int n) (dpAll_ints r)
end Uk

/-! UkG: making instances, static methods and own methods by the promises of UkA -/
namespace Uk
open PySem PySem.Spec PyProof.Rows L2 StX
theorem under_guards {A : Around} {C : Addr} {us : List Value} {kw : List (Str × Value)} (h : A.guards = some []) : (A.under (.builtin "type.__call__" ⟨.ref C :: us, kw⟩)).guards = some [] := by
  first | exact h | (simpa [Around.under, Code.envs, Code.isFrame, pushEnvs] using h)
section
variable {X : Cx} {W : WX} {k : Nat} {C f : Addr} {sp : Sp} {pins : List (Addr × Obj)} {σ : L2.St} {H : Hp} {s : Shared} {Q : VK}
/-- what the making of an instance asks of its __init__ -/
def spMk (C : Addr) (sp : Sp) : Sp := fun vs H Q E => ∀ x dx, H x = none → H dx = none → dx ≠ x → sp (.ref x :: vs) (upd (upd H dx (.own x)) x (.ins C dx [])) (fun v H2 => v = .non ∧ Q (.ref x) H2) E
theorem run_makeG {us : List Value} {vs : List V} (tk : Takes X W) (M : Mk X.K C f) (F : CallG X.prog X.w X.K X.mg X.base k (.ref f) (pos sp)) (hr : Room (k + 1) X.A) (hg : X.A.guards = some []) (I : Inv X pins σ H s) (r : Vals vs us)
    (h : spMk C sp vs H Q (WE W σ)) : wpAny (model X.prog X.w) X.A (call (.ref C) us) (EP X pins σ Q) X.xe s := by
  have hq := h (s.heap.objs.size + 1) s.heap.objs.size (I.hok.fresh (Nat.le_succ _)) (I.hok.fresh (Nat.le_refl _)) (Nat.ne_of_lt (Nat.lt_succ_self _))
  have I2 := Inv.made (C := C) I
  have r2 : Vals (V.ref (s.heap.objs.size + 1) :: vs) (Value.ref (s.heap.objs.size + 1) :: us) := .cons rfl r
  refine wpAny_call (make_map (f := f) I.kIn M.makes M.init (beq_iff_eq.mp M.fn) (codeAny_mono (F _ X.stack _ _ (Value.ref (s.heap.objs.size + 1) :: us) [] _ [] _ _ (hr.make C us []) (under_guards hg) (I2.env0.make C us []) r2 .nil ⟨rfl, hq⟩) fun r s' hq' => ?_))
  cases r with
  | error e => exact passAt tk σ pins _ _ e s' I2 hq'
  | ok fl =>
    cases fl with
    | ret u =>
      obtain ⟨v, H', I3, rv, ev, q3⟩ := I2.after hq'
      subst ev
      exact ⟨rv, ⟨V.ref (s.heap.objs.size + 1), H', I3, rfl, q3⟩⟩
    | next => exact False.elim hq'
    | brk => exact False.elim hq'
    | cont => exact False.elim hq'
variable {x : Str} {p qs : Pos} {e : Expr} {es : List Expr} {t : TA}
/-- C(e, ..) -/
theorem pe_mkG (tk : Takes X W) (M : Mk X.K C f) (F : CallG X.prog X.w X.K X.mg X.base k (.ref f) (pos sp)) (hr : Room (k + 1) X.A) (hg : X.A.guards = some []) (hx : Gl X x) (hm : X.mg x = some (.ref C)) (ha : PA X (e :: es) t)
    (hdb : (x == ("__debug__" : Str)) = false := by decide) (he : starEach (e :: es) X.env = (false, eval e X.env) :: starEach es X.env := by rfl) (hpl : (backTo qs (starEach es X.env)).any (·.1) = false := by rfl) :
    PE X (.Call (.Name x p) (e :: es) [] qs) (tCl W (pos (spMk C sp)) t) := by
  refine ⟨fun pins s σ H Q I h => ?_⟩
  refine wpAny_Call_Name_kw (ld_glob I hx hm ?_ hdb)
  refine PySem.W.callWith_K (h₀ := X.base) I.ok.mod.kin M.kp (thn (ha.run qs pins s σ H _ I h) fun us s1 ⟨vs, H1, I1, r, q⟩ => ⟨I1.kIn, ?_⟩) he hpl
  exact run_makeG tk M F hr hg I1 r q.2
theorem pe_mkG0 (tk : Takes X W) (M : Mk X.K C f) (F : CallG X.prog X.w X.K X.mg X.base k (.ref f) (pos sp)) (hr : Room (k + 1) X.A) (hg : X.A.guards = some []) (hx : Gl X x) (hm : X.mg x = some (.ref C))
    (hdb : (x == ("__debug__" : Str)) = false := by decide) : PE X (.Call (.Name x p) [] [] qs) (tCl W (pos (spMk C sp)) tNil) := by
  refine ⟨fun pins s σ H Q I h => ?_⟩
  refine wpAny_Call_Name_kw (ld_glob I hx hm ?_ hdb)
  exact PySem.W.callWith_K0 I.kIn M.kp (run_makeG (us := []) tk M F hr hg I .nil h.2)
end

/-- C.m is a staticmethod: its record at p, its def at g -/
structure SMet (K : PySem.W.Frag) (C : Addr) (mc : Value) (m : Str) (p g : Addr) : Prop where
  rd : PySem.W.readsIn K C mc = true
  ga : PySem.W.specialIn K (.ref C) "__getattribute__" = some (some (.builtin "type.__getattribute__"))
  at_ : PySem.W.findCls K (.ref C) mc m = some (.get (.builtin "staticmethod.__get__") (.ref p) .none (.ref C))
  rc : ∃ rest, PySem.W.recIn K p "staticmethod" = some (.ref g :: rest)
  kp : PySem.W.keepIn K (.ref g) = true
section
variable {X : Cx} {W : WX} {k : Nat} {C f p g : Addr} {mc : Value} {sp : SpK} {m x : Str} {o e : Expr} {es : List Expr} {qs apos : Pos} {ta : TE} {t : TA} {pl : Sem Bool} {pins : List (Addr × Obj)} {σ : L2.St} {H : Hp} {s : Shared} {A : Around} {E : Value → Shared → Prop}
theorem getmethsm_ok {pl : Sem Bool} {Q : Value × List Value → Shared → Prop} (I : Inv X pins σ H s) (k : SMet X.K C mc m p g)
    (h : ∀ s', Inv X pins σ H s' → Q (.ref g, []) s') : wpAny (model X.prog X.w) A (getMethod (.ref C) m pl) Q E s := by
  obtain ⟨rest, hp⟩ := k.rc
  refine PySem.W.method_cls I.kIn k.ga (PySem.W.cls_bind I.kIn k.rd k.at_ ?_)
  exact wpAny_call (PySem.W.sm_get (s := { s with toks := s.toks + 1 }) I.kIn hp (PySem.W.handed_on rfl (h _ (I.tok _))))
/-- C.m(e, ..), m a staticmethod -/
def tSm (W : WX) (C : Addr) (sp : SpK) (ta : TE) (t : TA) : TE := fun σ H Q => ta σ H fun x H1 => x = .ref C ∧ t σ H1 fun vs H2 => sp vs [] H2 Q (WE W σ)
theorem pe_sm (tk : Takes X W) (he : PE X o ta) (c : SMet X.K C mc m p g) (F : CallG X.prog X.w X.K X.mg X.base k (.ref g) sp) (hr : Room k X.A) (hg : X.A.guards = some []) (ha : PA X (e :: es) t)
    (hst : starEach (e :: es) X.env = (false, eval e X.env) :: starEach es X.env := by rfl) (hpl : (backTo qs (starEach es X.env)).any (·.1) = false := by rfl)
    (ht : eval (.Call (.Attribute o m apos) (e :: es) [] qs) X.env = (do
      let ov ← eval o X.env
      standAt apos.atName
      let (f, first) ← holding [ov] (getMethod ov m pl)
      callWith qs f first (backTo qs (starEach (e :: es) X.env)) (backToKw qs (keywordEach [] X.env))) := by rfl) :
    PE X (.Call (.Attribute o m apos) (e :: es) [] qs) (tSm W C sp ta t) := by
  refine ⟨fun pins s σ H Q I h => ?_⟩
  refine PySem.W.methodCall_KW (pl := pl) (thn (he.run pins s σ H _ I h) fun u s1 ⟨x, H1, I1, rx, ex, q⟩ => ?_) ht
  subst ex
  obtain rfl : u = Value.ref C := rx
  refine getmethsm_ok I1 c fun s2 I2 => ?_
  refine PySem.W.callWith_K (h₀ := X.base) I2.ok.mod.kin c.kp (thn (ha.run qs pins s2 σ H1 _ I2 q) fun us s3 ⟨vs, H2, I3, r, q2⟩ => ⟨I3.kIn, ?_⟩) hst hpl
  exact run_call tk F hr hg I3 r .nil q2
theorem pe_sm0 (tk : Takes X W) (he : PE X o ta) (c : SMet X.K C mc m p g) (F : CallG X.prog X.w X.K X.mg X.base k (.ref g) sp) (hr : Room k X.A) (hg : X.A.guards = some [])
    (ht : eval (.Call (.Attribute o m apos) [] [] qs) X.env = (do
      let ov ← eval o X.env
      standAt apos.atName
      let (f, first) ← holding [ov] (getMethod ov m pl)
      callWith qs f first (backTo qs (starEach [] X.env)) (backToKw qs (keywordEach [] X.env))) := by rfl) :
    PE X (.Call (.Attribute o m apos) [] [] qs) (tSm W C sp ta tNil) := by
  refine ⟨fun pins s σ H Q I h => ?_⟩
  refine PySem.W.methodCall_KW (pl := pl) (thn (he.run pins s σ H _ I h) fun u s1 ⟨x, H1, I1, rx, ex, q⟩ => ?_) ht
  subst ex
  obtain rfl : u = Value.ref C := rx
  refine getmethsm_ok I1 c fun s2 I2 => ?_
  exact PySem.W.callWith_K0 I2.kIn c.kp (run_call (us := []) tk F hr hg I2 .nil .nil q)
/-- o.m(e, ..), m a method of o's class -/
def tMeG (W : WX) (C : Addr) (m : Str) (sp : SpK) (ta : TE) (t : TA) : TE := fun σ H Q => ta σ H fun x H1 => ∃ a dx fs, x = .ref a ∧ H1 a = some (.ins C dx fs) ∧ fs.lookup m = none ∧ t σ H1 fun vs H2 => sp (.ref a :: vs) [] H2 Q (WE W σ)
theorem pe_meG (tk : Takes X W) (he : PE X o ta) (c : Cls X.K C) (hm : Meth X.K C m f) (F : CallG X.prog X.w X.K X.mg X.base k (.ref f) sp) (hr : Room k X.A) (hg : X.A.guards = some []) (ha : PA X (e :: es) t)
    (hst : starEach (e :: es) X.env = (false, eval e X.env) :: starEach es X.env := by rfl) (hpl : (backTo qs (starEach es X.env)).any (·.1) = false := by rfl)
    (ht : eval (.Call (.Attribute o m apos) (e :: es) [] qs) X.env = (do
      let ov ← eval o X.env
      standAt apos.atName
      let (f, first) ← holding [ov] (getMethod ov m pl)
      callWith qs f first (backTo qs (starEach (e :: es) X.env)) (backToKw qs (keywordEach [] X.env))) := by rfl) :
    PE X (.Call (.Attribute o m apos) (e :: es) [] qs) (tMeG W C m sp ta t) := by
  refine ⟨fun pins s σ H Q I h => ?_⟩
  refine PySem.W.methodCall_KW (pl := pl) (thn (he.run pins s σ H _ I h) fun u s1 ⟨x, H1, I1, rx, a, dx, fs, ex, ea, l, q⟩ => ?_) ht
  subst ex
  obtain rfl : u = Value.ref a := rx
  refine getmeth_ok I1 ea c hm l ?_
  refine PySem.W.callWith_K (h₀ := X.base) (first := [.ref a]) I1.ok.mod.kin hm.kp (thn (ha.run qs pins s1 σ H1 _ I1 q) fun us s2 ⟨vs, H2, I2, r, q2⟩ => ⟨I2.kIn, ?_⟩) hst hpl
  exact run_call (us := .ref a :: us) (vs := .ref a :: vs) tk F hr hg I2 (.cons rfl r) .nil q2
theorem pe_meG0 (tk : Takes X W) (he : PE X o ta) (c : Cls X.K C) (hm : Meth X.K C m f) (F : CallG X.prog X.w X.K X.mg X.base k (.ref f) sp) (hr : Room k X.A) (hg : X.A.guards = some [])
    (ht : eval (.Call (.Attribute o m apos) [] [] qs) X.env = (do
      let ov ← eval o X.env
      standAt apos.atName
      let (f, first) ← holding [ov] (getMethod ov m pl)
      callWith qs f first (backTo qs (starEach [] X.env)) (backToKw qs (keywordEach [] X.env))) := by rfl) :
    PE X (.Call (.Attribute o m apos) [] [] qs) (tMeG W C m sp ta tNil) := by
  refine ⟨fun pins s σ H Q I h => ?_⟩
  refine PySem.W.methodCall_KW (pl := pl) (thn (he.run pins s σ H _ I h) fun u s1 ⟨x, H1, I1, rx, a, dx, fs, ex, ea, l, q⟩ => ?_) ht
  subst ex
  obtain rfl : u = Value.ref a := rx
  refine getmeth_ok I1 ea c hm l ?_
  exact PySem.W.callWith_K0 (first := [.ref a]) I1.kIn hm.kp (run_call (us := [.ref a]) (vs := [.ref a]) tk F hr hg I1 (.cons rfl .nil) .nil q)
end
theorem ifT {b : Bool} {A B : Prop} (e : b = true) (h : A) : if b = true then A else B := by rw [if_pos e]; exact h
theorem ifF {b : Bool} {A B : Prop} (e : b = false) (h : B) : if b = true then A else B := by rw [if_neg (by rw [e]; exact Bool.false_ne_true)]; exact h
theorem at_new {H : Hp} {p a : Addr} {o u : HO} (hp : H p = none) (h : H a = some u) : upd H p o a = some u := by rw [upd_ne (ne_of_none h hp)]; exact h
theorem at_same {H H' : Hp} {a : Addr} {u : HO} (s : Same H H') (h : H a = some u) : H' a = some u := s _ _ h
theorem same_trans {H H1 H2 : Hp} (a : Same H H1) (b : Same H1 H2) : Same H H2 := fun x y e => b x y (a x y e)
theorem takes_no {X : Cx} : Takes X (fun _ _ _ _ => False) := fun _ _ ⟨_, _, _, _, _, _, _, _, _, _, _, _, _, _, _, _, w⟩ => w.elim
theorem nd_refl (x : V) : (!decide (x = x)) = false := by simp
theorem de_refl (x : V) : decide (x = x) = true := by simp
theorem sqI2 {K : PySem.W.Frag} {H : Hp} {a : Addr} {i j : Int} (h : H a = some (.tup [.int i, .int j])) : SqT K H a ([i, j].map V.int) := SqT.of h
theorem sqI3 {K : PySem.W.Frag} {H : Hp} {a : Addr} {i j k : Int} (h : H a = some (.tup [.int i, .int j, .int k])) : SqT K H a ([i, j, k].map V.int) := SqT.of h
/-- what is never reached -/
def tDead : TE := fun _ _ _ => False
theorem pe_dead {X : Cx} {e : Expr} : PE X e tDead := ⟨fun _ _ _ _ _ _ h => h.elim⟩
def sDead : TS := fun _ _ _ => False
theorem ps_dead {X : Cx} {st : Stmt} : PS X st sDead := ⟨fun _ _ _ _ _ _ h => h.elim⟩
/-- what of a class isinstance looks at -/
structure TyC (K : PySem.W.Frag) (C : Addr) : Prop where
  cl : Cls K C
  ha : PySem.W.findIn K (.ref C) "__class__" = some (some (.builtin "object.__class__"))
  hn : PySem.W.specialIn K (.builtin "object.__class__") "__get__" = some (some (.builtin "getset_descriptor.__get__"))
  htk : PySem.W.takesIn K (.builtin "object.__class__") = some true
  hm : PySem.W.mroIn K C (.type "object") = some true
theorem TyC.ty {K : PySem.W.Frag} {C : Addr} (c : TyC K C) {H : Hp} {a dx : Addr} {fs : List (Str × V)} (e : H a = some (.ins C dx fs)) : TyX K H (.ref a) (.ref C) := .base (.ins e c.cl c.ha c.hn c.htk c.hm)
end Uk

/-! UkH: the pen, and the heap without it -/
namespace Uk
open PySem PySem.Spec PyProof.Rows L2 StX

/-- the heap without the object at p -/
def Off (p : Addr) (H : Hp) : Hp := fun a => if a = p then none else H a
section
variable {H H' H1 H2 : Hp} {p a z : Addr} {o u v : HO} {m n : Int}
theorem Off.at (h : Off p H a = some u) : H a = some u := by
  unfold Off at h
  by_cases e : a = p
  · rw [if_pos e] at h; cases h
  · rw [if_neg e] at h; exact h
theorem Off.ne (h : Off p H a = some u) : a ≠ p := fun e => by
  unfold Off at h
  rw [if_pos e] at h
  cases h
theorem Off.of (h : H a = some u) (n : a ≠ p) : Off p H a = some u := by
  unfold Off
  rw [if_neg n]
  exact h
theorem Off.same (s : Same H H') : Same (Off p H) (Off p H') := fun a u e => Off.of (s _ _ (Off.at e)) (Off.ne e)
theorem Off.new (hz : H z = none) : Same (Off p H) (Off p (upd H z o)) := Off.same (same_new hz)
/-- the pen at p, its cells at c, with at most m of them begun -/
def Pen (H : Hp) (p c : Addr) (m : Int) : Prop := ∃ (b l : Int) (ns : List Int), H p = some (penO c b l) ∧ H c = some (.lst (ns.map .int)) ∧ ns.length ≤ 63 ∧ 0 ≤ b ∧ b ≤ m
section
variable {c : Addr}
theorem Pen.same (s : Same H H') (P : Pen H p c m) : Pen H' p c m := by
  obtain ⟨b, l, ns, h1, h2, h3⟩ := P
  exact ⟨b, l, ns, s _ _ h1, s _ _ h2, h3⟩
theorem Pen.new (hz : H z = none) (P : Pen H p c m) : Pen (upd H z o) p c m := P.same (same_new hz)
theorem Pen.mono (P : Pen H p c m) (h : m ≤ n) : Pen H p c n := by
  obtain ⟨b, l, ns, h1, h2, h3, h4, h5⟩ := P
  exact ⟨b, l, ns, h1, h2, h3, h4, Int.le_trans h5 h⟩
theorem Pen.ne (P : Pen H p c m) (hz : H z = none) : z ≠ p := fun e => by
  obtain ⟨b, l, ns, h1, _⟩ := P
  rw [← e, hz] at h1
  cases h1
theorem Pen.ne2 (P : Pen H p c m) (hz : H z = none) : z ≠ c := fun e => by
  obtain ⟨b, l, ns, _, h1, _⟩ := P
  rw [← e, hz] at h1
  cases h1
/-- another object is changed -/
theorem Pen.upd (n1 : z ≠ p) (n2 : z ≠ c) (P : Pen H p c m) : Pen (upd H z o) p c m := by
  obtain ⟨b, l, ns, h1, h2, h3⟩ := P
  exact ⟨b, l, ns, by rw [upd_ne n1.symm]; exact h1, by rw [upd_ne n2.symm]; exact h2, h3⟩
/-- a new object, told without the pen -/
theorem Off.mk (P : Pen H p c m) (hz : H z = none) : Off p (upd H z o) z = some o := Off.of upd_same (P.ne hz)
end
/-- what draws, told by the pen -/
def spDrawP : Sp := fun vs H Q _ => ∃ (p c : Addr) (m many : Int), vs = [.ref p, .int many] ∧ Pen H p c m ∧ m ≤ 99999 ∧ 1 ≤ many ∧ many ≤ 100000 ∧
  ∀ (d : Int) (H' : Hp), 0 ≤ d → d < many → Same (Off p H) (Off p H') → Pen H' p c (m + 1) → Q (.int d) H'
theorem draw_P {vs : List V} {Q : VK} {E : XK} (h : spDrawP vs H Q E) : spDraw vs H Q E := by
  obtain ⟨p, c, m, many, rfl, ⟨b, l, ns, h1, h2, h3, h4, h5⟩, h6, h7, h8, q⟩ := h
  have pc : c ≠ p := fun e => by
    rw [e, h1] at h2
    match ns, h2 with
    | [], hc => cases hc
    | n :: r, hc => cases hc
  refine ⟨p, c, b, l, many, ns, rfl, h1, h2, h3, h4, by omega, h7, h8, fun d b' l' H' d0 d1 e1 e2 ch => ?_⟩
  exact q d H' d0 d1 (fun a u e => Off.of (ch.ne _ _ (Off.ne e) (Off.at e)) (Off.ne e)) ⟨b', l', ns, ch.at_, ch.ne _ _ pc h2, h3, by omega, by omega⟩
theorem Same.rfl {H : Hp} : Same H H := fun _ _ h => h
end
end Uk

/-! UkI: how long shown data is -/
namespace Uk
open PySem PySem.Spec PyProof.Rows L2 StX

theorem ofString_len (s : String) : (Str.ofString s).length = s.length := by
  rw [Str.ofString_eq_toList]
  show (List.toArray _).size = _
  rw [List.size_toArray, List.length_map, String.length_toList]
theorem int_len {i : Int} (h : i.natAbs < 10 ^ 18) : (Str.ofString (toString i)).length ≤ 19 := by
  rw [ofString_len]
  cases i with
  | ofNat n =>
    show (Nat.repr n).length ≤ 19
    have := (Nat.length_repr_le_iff (n := n) (k := 18) (by decide)).mpr (by simpa using h)
    omega
  | negSucc n =>
    show ("-" ++ Nat.repr (n + 1)).length ≤ 19
    rw [String.length_append]
    have := (Nat.length_repr_le_iff (n := n + 1) (k := 18) (by decide)).mpr (by simpa using h)
    have e : ("-" : String).length = 1 := by decide
    omega
/-- may be shown in at most n signs, at most k deep -/
structure Sml (n k : Nat) (d : PyData) : Prop where
  sh : d.showable = true
  sz : d.shown.length ≤ n
  dp : d.depth ≤ k
structure SmlAll (n k m : Nat) (ds : List PyData) : Prop where
  sh : PyData.showableAll ds = true
  sz : ∀ t ∈ PyData.shownAll ds, t.length ≤ n
  ln : ds.length ≤ m
  dp : PyData.depthAll ds ≤ k
theorem Sml.shw {n k : Nat} {d : PyData} (h : Sml n k d) (hn : n ≤ sizeLine) (hk : k ≤ 60) : Shw d := ⟨h.sh, Nat.le_trans h.sz hn, Nat.le_trans h.dp hk⟩
theorem sml_none {n k : Nat} (h : 4 ≤ n) : Sml n k .none := ⟨rfl, h, Nat.zero_le _⟩
theorem sml_bool {n k : Nat} {b : Bool} (h : 5 ≤ n) : Sml n k (.bool b) := ⟨rfl, Nat.le_trans (by cases b <;> decide) h, Nat.zero_le _⟩
theorem sml_int {n k : Nat} {i : Int} (h : 19 ≤ n) (hi : i.natAbs < 10 ^ 18) : Sml n k (.int i) := by
  refine ⟨?_, Nat.le_trans (int_len hi) h, Nat.zero_le _⟩
  show decide (i.natAbs.log2 < 1920) = true
  rw [decide_eq_true_eq]
  have h1 : i.natAbs < 2 ^ 1920 := Nat.lt_of_lt_of_le hi (by decide +kernel)
  by_cases e : i.natAbs = 0
  · rw [e]; decide
  · exact (Nat.log2_lt e).mpr h1
theorem smlAll_nil {n k m : Nat} : SmlAll n k m [] := ⟨rfl, (fun _ h => nomatch h), Nat.zero_le _, Nat.zero_le _⟩
theorem smlAll_cons {n k m : Nat} {d : PyData} {ds : List PyData} (h : Sml n k d) (r : SmlAll n k m ds) : SmlAll n k (m + 1) (d :: ds) := by
  refine ⟨?_, fun t ht => ?_, Nat.succ_le_succ r.ln, ?_⟩
  · show (PyData.showable d && PyData.showableAll ds) = true
    rw [h.sh, r.sh] <;> rfl
  · rcases List.mem_cons.mp ht with e | e
    · rw [e]; exact h.sz
    · exact r.sz t e
  · show max (PyData.depth d) (PyData.depthAll ds) ≤ k
    exact Nat.max_le.mpr ⟨h.dp, r.dp⟩
theorem str_len_append (a b : Str) : (a ++ b).length = a.length + b.length := PySem.Str.length_append a b
theorem textFrom_le {n : Nat} : ∀ (ts : List Str) (k : Nat) (acc : Str), (∀ t ∈ ts, t.length ≤ n) → (textFrom k acc ts).length ≤ acc.length + (n + 2) * ts.length
  | [], k, acc, _ => by
    show acc.length ≤ acc.length + _
    exact Nat.le_add_right _ _
  | t :: r, k, acc, h => by
    have h1 := textFrom_le r (k + 1) (acc ++ (if k > 0 then ", " else "" : String) ++ t) (fun u hu => h u (List.mem_cons_of_mem _ hu))
    have h2 := h t List.mem_cons_self
    show (textFrom (k + 1) (acc ++ (if k > 0 then ", " else "" : String) ++ t) r).length ≤ _
    refine Nat.le_trans h1 ?_
    rw [str_len_append, str_len_append, List.length_cons, Nat.mul_succ]
    have h3 : (Str.ofString (if k > 0 then ", " else "")).length ≤ 2 := by split <;> decide
    omega
theorem sml_list {n k m N K : Nat} {ds : List PyData} (h : SmlAll n k m ds) (hN : 2 + (n + 2) * m ≤ N) (hK : k + 1 ≤ K) : Sml N K (.list ds) := by
  have hl : ∀ ds : List PyData, (PyData.shownAll ds).length = ds.length := by
    intro ds
    induction ds with
    | nil => rfl
    | cons d r ih =>
      show (PyData.shown d :: PyData.shownAll r).length = _
      rw [List.length_cons, ih, List.length_cons]
  refine ⟨h.sh, ?_, ?_⟩
  · show (textFrom 0 "[" (PyData.shownAll ds) ++ ("]" : Str)).length ≤ N
    have h1 := textFrom_le (n := n) (PyData.shownAll ds) 0 "[" h.sz
    rw [str_len_append]
    have e1 : ("[" : Str).length = 1 := by decide
    have e2 : ("]" : Str).length = 1 := by decide
    rw [hl] at h1
    have h2 : (n + 2) * ds.length ≤ (n + 2) * m := Nat.mul_le_mul_left _ h.ln
    omega
  · show PyData.depthAll ds + 1 ≤ K
    exact Nat.le_trans (Nat.succ_le_succ h.dp) hK
end Uk

/-! UkJ: bool(x) of an instance with an own __bool__; more -/
namespace Uk
open PySem PySem.Spec PyProof.Rows L2 StX
section
variable {prog : Program} {w : World} {A : Around} {E : Value → Shared → Prop} {s : Shared}
theorem bool_in (x : Value) : MeetsIn prog w (Builtin.«bool.__new__» ⟨[.type "bool", x], []⟩) (fun A R s => ∀ tk, wpAny (model prog w) A.in1 (truthy x) (fun b s' => R (.ok (.ret (.bool b))) s') (fun e s' => R (.error e) s') { s with toks := tk }) :=
  .of_wp fun A R s hs => by
    obtain ⟨hp, g, d, tk, os⟩ := s
    have f1 := F.conv_sub_bool
    repeat (any_goals (first | assumption | (with_reducible refine wpAny_mono (hs _) (fun b s2 h2 => ?_) (fun _ _ h2 => h2)) | wp_step))
    all_goals first | exact ⟨_, rfl, by assumption⟩ | skip
    all_goals trace_state
theorem call_bool_in {x : Value} {Q : Value → Shared → Prop} (h : ∀ tk, wpAny (model prog w) A.in1.in1 (truthy x) (fun b s' => Q (.bool b) s') E { s with toks := tk }) : wpAny (model prog w) A (call (.type "bool") [x]) Q E s :=
  callType_newIn F.called_bool F.newNe_bool (F.typeCall_bool_1 x) (F.newCall_bool_1 x) (fun obj => F.args_object_init_2 obj x) F.entry_bool_new (bool_in x)
    (fun tk => wpAny_mono (h tk) (fun b s' q => ⟨rfl, q⟩) fun _ _ q => q)
end
/-- bool(x), x an instance with an own __bool__ -/
theorem call_boolO {X : Cx} {k : Nat} {sp : SpK} {D : Addr → Prop} {f : Addr} (F : CallG X.prog X.w X.K X.mg X.base k (.ref f) sp) (hr : Room (k + 2) X.A) (hg : X.A.guards = some []) (hD : ∀ C, D C → Own X.K C "__bool__" f) :
    CallR X (.type "bool") (fun xs H Q => ∃ x, xs = [x] ∧ rTruO D sp x H fun b H' => Q (.bl b) H') := by
  intro pins s σ H xs us Q I r h
  obtain ⟨x, rfl, a, C, dx, fs, rfl, d, e, q⟩ := h
  obtain ⟨u, rfl, r1⟩ := vals1 r
  obtain rfl : u = Value.ref a := r1
  refine call_bool_in fun tk => ?_
  have I := I.tok tk
  obtain ⟨od, J⟩ := ins_at I.hok e
  obtain ⟨m, fr⟩ := I.fr
  refine PySem.W.truthy_K fr I.ok.mod.kin J (hD C d).at_ (hD C d).fn (wpAny_mono (run_callN F hr.in1.in1 hg rfl I (vs := [.ref a]) (us := [.ref a]) (.cons rfl .nil) q) (fun z s' hz => ?_) fun _ _ y => y)
  obtain ⟨v', H', I', rv, b, rfl, q'⟩ := hz
  obtain rfl : z = Value.bool b := rv
  exact ⟨.bl b, H', I', rfl, q'⟩
end Uk

/-! UkK: the end: from the head's walk to the promise of the law's def -/
namespace Uk
open PySem PySem.Spec PyProof.Rows L2 StX
section
variable {P : Program} {w : World} {K : PySem.W.Frag} {mg mb : Str → Option Value} {k : Nat} {fa a : Addr} {sp : Sp} {s₁ : Shared} {vs : List Value} {ns : List Int}
/-- a heap that tells of one frozen object, or of none -/
structure OneFrz (P : Program) (w : World) (K : PySem.W.Frag) (h : Heap) (a : Addr) (H : Hp) : Prop where
  hok : HOk P w H h
  one : ∀ b, H b = none ∨ (b = a ∧ ∃ o ys, H b = some (.frz o (.lst ys)))
  free : H a ≠ none → K.lookup a = none
theorem endG (KX : K.In s₁.heap) (hns : s₁.heap.Ns mainGlobals mg) (hb : s₁.heap.Ns builtinsNs mb) (hbb : ∀ x : Str, x ≠ "__name__" → mb x = bootBuiltins x) (hlim : s₁.heap.NoLimit) (hgen : s₁.gens = #[])
    (isList : ∃ its, s₁.heap.get? a = some { cls := .type "list", data := .seq its }) (hr : Room k callerA) (F : ∀ base : Heap, Mod K mg base → CallG P w K mg base k (.ref fa) (pos sp)) {H : Hp} (T : OneFrz P w K s₁.heap a H)
    (law : sp [.ref a] H (fun v _ => v = .bl true) NoE) :
    codeAny (model P w) callerA (.call (.ref fa) ⟨[.ref a], []⟩) (fun r s' => r = .ok (.ret (.bool true)) ∧ OldK s₁.heap s'.heap ∧ s'.os = s₁.os ∧ AllBare s'.gens) s₁ := by
  obtain ⟨its, hlist⟩ := isList
  have clear : ∀ {b : Addr} {o : Obj}, s₁.heap.get? b = some o → (b = a → K.lookup a = none → False) → (hidT s₁.heap H).get? b = some o := fun {b o} e no => hidT_get e (by
    rcases T.one b with z | ⟨eb, ob, ys, z⟩
    · exact z
    · refine (no eb (T.free fun q => ?_)).elim
      rw [← eb, z] at q
      cases q)
  have names : ∀ {b : Addr} {m : Str → Option Value}, s₁.heap.Ns b m → (hidT s₁.heap H).Ns b m := fun {b m} ⟨o, es, ep, e, d, r⟩ => by
    refine ⟨o, es, ep, clear e (fun eb _ => ?_), d, r⟩
    rw [eb, hlist] at e
    cases e
    cases d
  have kIn : K.In (hidT s₁.heap H) := fun b o e => clear (KX b o e) fun eb kn => by
    rw [eb, kn] at e
    cases e
  have M : Mod K mg (hidT s₁.heap H) := ⟨kIn, names hns, ⟨mb, names hb, hbb⟩, hlim.elim fun mc z => ⟨mc, names z.1, z.2⟩⟩
  have env : Env0 P w K mg (hidT s₁.heap H) callerA [] s₁ H := ⟨rfl, M, fun _ _ => of_hidT, Nat.le_of_eq (hidT_size _ _), trivial, (fun b z => nomatch (show b ∈ ([] : List Addr) from z)), T.hok, .of_eq hgen⟩
  refine codeAny_mono (F _ M callerA [] s₁ H [.ref a] [] [.ref a] [] (fun v _ => v = .bl true) NoE hr rfl env (.cons rfl .nil) .nil ⟨rfl, law⟩) fun r s' got => ?_
  rcases r with e | fl
  · exact (cx_no got).elim
  · cases fl
    case ret u =>
      obtain ⟨v, H', os, bare, un, hok', rv, hv⟩ := got
      cases (show v = .bl true from hv)
      cases (show u = Value.bool true from rv)
      refine ⟨rfl, .of_keep fun b o e => ?_, os, bare⟩
      obtain z | ⟨_, ob, ys, z⟩ := T.one b
      · exact un.keep b o e z (fun i => nomatch (show b ∈ ([] : List Addr) from i)) (fun i => nomatch i)
      · have same := (T.hok b _ z).1
        rw [e] at same
        cases same
        exact (hok' b _ (un.frzs b _ _ z)).1
    all_goals exact got.elim
/-- the law's call, by the promise of its def -/
theorem lawG (KX : K.In s₁.heap) (hns : s₁.heap.Ns mainGlobals mg) (hb : s₁.heap.Ns builtinsNs mb) (hbb : ∀ x : Str, x ≠ "__name__" → mb x = bootBuiltins x) (hlim : s₁.heap.NoLimit) (hgen : s₁.gens = #[])
    (ha : s₁.heap.get? a = some { cls := .type "list", data := .seq vs.toArray }) (hi : IntsAre vs ns) (hl : ns.length ≤ sizeLine) (hr : Room k callerA) (F : ∀ base : Heap, Mod K mg base → CallG P w K mg base k (.ref fa) (pos sp))
    (law : ∀ H : Hp, SqL K H a (ns.map V.int) → sp [.ref a] H (fun v _ => v = .bl true) NoE) :
    codeAny (model P w) callerA (.call (.ref fa) ⟨[.ref a], []⟩) (fun r s' => r = .ok (.ret (.bool true)) ∧ OldK s₁.heap s'.heap ∧ s'.os = s₁.os ∧ AllBare s'.gens) s₁ := by
  have many := hi.length
  have rel := vals_ints hi
  by_cases hk : K.lookup a = none
  · let H : Hp := fun b => if b = a then some (.frz { cls := .type "list", data := .seq vs.toArray } (.lst (ns.map V.int))) else none
    have Ha : H a = some (.frz { cls := .type "list", data := .seq vs.toArray } (.lst (ns.map V.int))) := if_pos rfl
    have Hn : ∀ b, b ≠ a → H b = none := fun b nb => if_neg nb
    refine endG KX hns hb hbb hlim hgen ⟨_, ha⟩ hr F (H := H) ⟨fun b u z => ?_, fun b => ?_, fun _ => hk⟩ (law H (.inl (.inr ⟨_, Ha⟩)))
    · by_cases eb : b = a
      · subst eb
        rw [Ha] at z
        cases z
        exact ⟨ha, by rw [List.length_map]; exact hl, vs, _, rel, ha⟩
      · rw [Hn b eb] at z
        cases z
    · by_cases eb : b = a
      · subst eb
        exact .inr ⟨rfl, _, _, Ha⟩
      · exact .inl (Hn b eb)
  · obtain ⟨o, ho⟩ := Option.ne_none_iff_exists'.mp hk
    have e := KX a o ho
    rw [ha] at e
    cases e
    refine endG KX hns hb hbb hlim hgen ⟨_, ha⟩ hr F (H := fun _ => none) ⟨(fun b u z => nomatch z), (fun b => Or.inl rfl), fun z => absurd rfl z⟩ (law _ (.inr ⟨_, vs.toArray, _, ho, rfl, rfl, rfl, ?_, by simpa using rel⟩))
    rw [List.size_toArray, many]
    exact hl
end
/-- the goal that the head leaves, from the law's promise -/
theorem walkG {l : PySem.W.OpenLaw} {n k : Nat} {q : Program} {loose : List Str} {XP : (Str → Option Value) → Heap → Prop} {YP : World → Heap → Prop} {d : DefRec} {K : Params → PySem.W.Frag} {sp : World → Sp}
    (hn : l.most = some n) (hn2 : n ≤ sizeLine) (hdf : d.params.defaults = []) (hr : Room k callerA) (hY : ∀ (w : World) (h : Heap), YP w h → (K w.params).In h)
    (F : ∀ (w : World) (mg : Str → Option Value) (fa : Addr) (h : Heap), (K w.params).In h → h.Ns mainGlobals mg → mg d.name = some (.ref fa) → ∀ base : Heap, Mod (K w.params) mg base → CallG l.prog w (K w.params) mg base k (.ref fa) (pos (sp w)))
    (law : ∀ (w : World) (H : Hp) (a : Addr) (ns : List Int), ns.length ≤ n → SqL (K w.params) H a (ns.map V.int) → sp w [.ref a] H (fun v _ => v = .bl true) NoE) :
    PySem.W.WalkO q loose XP YP l.row.toRowW d [] (fun f vs => PySem.call f vs) := by
  refine Att.attach_call hn hdf fun w s₀ s₁ mg mb fa o pm cd doc a vs ns G Y ho hd hcd hmg hobj hints hlen hgen => ?_
  have KX := hY w _ Y
  exact lawG KX G.T.g G.T.b G.T.builtins G.T.nolimit hgen hobj hints (Nat.le_trans hlen hn2) hr (F w mg fa _ KX G.T.g hmg) fun H hS => law w H a ns hlen hS
/-- not e as a value, by a rule of its truth -/
theorem pe_notR {X : Cx} {a : Expr} {ta : TE} {pos : Pos} {r : V → Hp → (Bool → Hp → Prop) → Prop} (ha : PE X a ta) (ru : TruR X r) : PE X (.UnaryOp .Not a pos) (fun σ H Q => ta σ H fun x H1 => r x H1 fun b H2 => Q (.bl (!b)) H2) :=
  ⟨fun pins s σ H Q I h => UnaryOp_ (thn (ha.run pins s σ H _ I h) fun v s1 ⟨x, H1, I1, r1, q1⟩ => not_of (thn (ru pins s1 σ H1 x v (fun b H2 => Q (.bl (!b)) H2) I1 r1 q1) fun c s2 ⟨H2, I2, q2⟩ => ⟨.bl (!c), H2, I2, rfl, q2⟩))⟩
end Uk

/-! UkL: defs that say super() -/
namespace Uk
open PySem PySem.Spec PyProof.Rows L2 StX

/-- the frame of a def that closes over __class__ -/
abbrev envS (qual : Str) (scope : Scope) (L f : Addr) (cd : Value) (cc : Addr) : Env := PySem.W.ksEnv qual scope L f cd cc
def cxS (P : Program) (w : World) (K : PySem.W.Frag) (mg : Str → Option Value) (base : Heap) (N : List Str) (qual : Str) (scope : Scope) (f : Addr) (cd : Value) (cc : Addr) (A : Around) (outer : List Env) (s : Shared) (H : Hp) (E : XK) : Cx :=
  { prog := P, w := w, K := K, mg := mg, base := base, A := A.deeper (envS qual scope s.heap.objs.size f cd cc), N := N, s_0 := s, H_0 := H, env := envS qual scope s.heap.objs.size f cd cc, outer := outer,
    stack := envS qual scope s.heap.objs.size f cd cc :: outer, ex := [], fn := fun _ => false, calm := true, pn := [],
    xe := fun e s' => wpAny (model P w) (A.deeper (envS qual scope s.heap.objs.size f cd cc)) (leaving (envS qual scope s.heap.objs.size f cd cc) e) (fun _ s'' => L2.CX P w outer H s E e s'') (fun e' s'' => L2.CX P w outer H s E e' s'') s' }
structure ScopeS (N P : List Str) (sc : Scope) : Prop where
  kind : sc.kind = .function
  co : sc.isCoroutine = false
  gen : sc.isGenerator = false
  nd : N.Nodup
  pre : N.take P.length = P
  par : ∀ x ∈ P, sc.names.lookup x = some .local
  nocell : ∀ y ∈ sc.names, y.2 ≠ .cell
  free : ∀ y ∈ sc.names, y.2 = .free → y.1 = ("__class__" : Str)
/-- a def of the text that closes over __class__, whose cell at cc holds the class at D -/
structure FunS (K : PySem.W.Frag) (x qual : Str) (st : Stmt) (f cc cda D : Addr) : Prop where
  ex : ∃ (oc : Value) (od : Option Addr) (kV doc pm : Value) (an : Option Addr) (ct : Value) (osl : Array (Option Value)),
    K.lookup f = some ⟨oc, od, .func (PySem.W.ksFn x qual (defArgs st) (defBody st) (defScope st) .none kV doc pm an (.ref cda) ct cc), osl⟩ ∧ PySem.W.codeIn K (.ref cda) qual = true
  cell : ∃ (cl : Value) (cld : Option Addr) (csl : Array (Option Value)), K.lookup cc = some ⟨cl, cld, .cell (some (.ref D)), csl⟩
  kp : PySem.W.keepIn K (.ref f) = true
theorem rev_get : ∀ {ps : List Str} {us : List Value} {i : Nat} {y : Str} {u : Value}, ps.Nodup → ps[i]? = some y → us[i]? = some u → (ps.zip us).reverse.lookup y = some u
  | [], _, _, _, _, _, h, _ => by simp at h
  | _ :: _, [], _, _, _, _, _, h => by simp at h
  | p :: ps, v :: us, 0, y, u, nd, h1, h2 => by
    simp at h1 h2
    subst h1 h2
    show ((p, v) :: ps.zip us).reverse.lookup p = some v
    rw [List.reverse_cons, List.lookup_append]
    have hn : (ps.zip us).reverse.lookup p = none := by
      rw [List.lookup_eq_none_iff]
      intro q hq
      have hm := (List.of_mem_zip (List.mem_reverse.mp hq)).1
      have : p ≠ q.1 := fun e => (List.nodup_cons.mp nd).1 (e ▸ hm)
      simpa using this
    rw [hn]
    simp [List.lookup]
  | p :: ps, v :: us, i + 1, y, u, nd, h1, h2 => by
    have ih := rev_get (List.nodup_cons.mp nd).2 (by simpa using h1) (by simpa using h2)
    show ((p, v) :: ps.zip us).reverse.lookup y = some u
    rw [List.reverse_cons, List.lookup_append, ih]
    rfl
section
variable {P : Program} {w : World} {K : PySem.W.Frag} {mg : Str → Option Value} {base : Heap} {N ps : List Str} {qual x : Str} {scope : Scope} {st : Stmt} {f cc cda D : Addr} {cd : Value} {A : Around} {outer : List Env} {s : Shared} {H : Hp} {E : XK} {us : List Value} {vs : List V} {k n : Nat} {h1 : Heap} {sp : Sp}
theorem inv_S (S : ScopeS N ps scope) (hd : A.handled = none) (e0 : Env0 P w K mg base A outer s H) (hl : vs.length = ps.length) (r : Vals vs us) (hc : ∃ (cl : Value) (cld : Option Addr) (csl : Array (Option Value)), K.lookup cc = some ⟨cl, cld, .cell (some (.ref D)), csl⟩)
    (hn : h1.Ns s.heap.objs.size (fun x => (ps.zip us).reverse.lookup x)) (hk : ∀ b o, s.heap.get? b = some o → h1.get? b = some o) :
    Inv (cxS P w K mg base N qual scope f cd cc A outer s H E) [] (L2.start N vs) H { s with heap := h1, toks := s.toks + n } := by
  obtain ⟨cl, cld, csl, hcell⟩ := hc
  have bcc := e0.mod.kin _ _ hcell
  have hcc : s.heap.get? cc = some ⟨cl, cld, .cell (some (.ref D)), csl⟩ := (e0.bs _ _ bcc).1
  have ccn : cc ≠ s.heap.objs.size := Nat.ne_of_lt (Heap.lt_size hcc)
  have hpl : ps.length ≤ N.length := by have := congrArg List.length S.pre; rw [List.length_take] at this; omega
  have one : ∀ {y : Str} {c : Addr}, ([(("__class__" : Str), cc)] : List (Str × Addr)).lookup y = some c → y = "__class__" ∧ c = cc := fun {y c} h => by
    unfold List.lookup at h
    split at h
    · rename_i e
      exact ⟨beq_iff_eq.mp e, (Option.some.inj h).symm⟩
    · cases h
  have noA : ∀ b : Addr, b ∉ (cxS P w K mg base N qual scope f cd cc A outer s H E).ex := fun b z => nomatch (show b ∈ ([] : List Addr) from z)
  refine ⟨⟨e0.mod, S.kind, rfl, rfl, Nat.le_refl _, fun y z c h1 h2 => (one h1).1.trans (one h2).1.symm, fun y hy => ?_, (fun y c h _ => nomatch (show false = true from h)), fun _ => hd, Around.frames_deeper e0.frames, .inr ⟨rfl, rfl⟩, fun b z => absurd z (noA b), e0.bs, e0.bsz, fun b _ _ => noA b, fun b z => absurd z (noA b), e0.funs, e0.frf⟩,
    rfl, e0.bare, Un.kept hk, ⟨_, hn, fun i y v h1 h2 h3 => ?_⟩, fun y c h => ?_, e0.hok.fresh (Nat.le_refl _), fun y c h => ?_, fun p hp => absurd (show p ∈ ([] : List (Addr × Obj)) from hp) (by simp), e0.hok.kept hk, ?_⟩
  · have hy : scope.names.lookup y = some .cell ∨ scope.names.lookup y = some .free := hy
    rcases hy with hy | hy
    · exact absurd rfl (S.nocell _ (PySem.mem_of_lookup hy))
    · have e := S.free _ (PySem.mem_of_lookup hy) rfl
      dsimp only at e
      subst e
      exact ⟨cc, rfl⟩
  · have hi : i < vs.length := by
      unfold L2.start at h2
      by_cases hi : i < vs.length
      · exact hi
      · rw [List.getElem?_append_right (by simpa using hi), List.getElem?_replicate] at h2
        split at h2 <;> cases h2
    have ha : vs[i]? = some v := by
      unfold L2.start at h2
      rw [List.getElem?_append_left (by simpa using hi), List.getElem?_map] at h2
      cases e : vs[i]? with
      | none => rw [e] at h2; cases h2
      | some a => rw [e] at h2; cases h2; rfl
    obtain ⟨u, hu, rv⟩ := r.get ha
    have hp : ps[i]? = some y := by
      rw [← S.pre, List.getElem?_take_of_lt (by omega)]; exact h1
    have ndP : ps.Nodup := by rw [← S.pre]; exact S.nd.sublist (List.take_sublist _ _)
    exact ⟨u, rv, .inl ⟨S.par y (List.mem_of_getElem? hp), rev_get ndP hp hu⟩⟩
  · rw [(one h).2]
    exact ⟨some (.ref D), _, hk _ _ hcc, rfl⟩
  · rw [(one h).2]
    exact (e0.bs _ _ bcc).2
  · unfold L2.start
    show _ = N.length
    rw [List.length_append, List.length_map, List.length_replicate]
    omega
end

/-- code that runs within the known body c -/
structure PEt (X : Cx) (c : Code) (e : Expr) (t : TE) : Prop where
  run : ∀ (pins : List (Addr × Obj)) (s : Shared) (σ : L2.St) (H : Hp) (Q : VK), Inv X pins σ H s → t σ H Q → _root_.PySem.wpAt (model X.prog X.w) X.A c (eval e X.env) (EP X pins σ Q) X.xe s
structure PSst (X : Cx) (c : Code) (b : List Stmt) (t : TS) : Prop where
  run : ∀ (pins : List (Addr × Obj)) (s : Shared) (σ : L2.St) (H : Hp) (D : Ends), Inv X pins σ H s → t D σ H → _root_.PySem.wpAt (model X.prog X.w) X.A c (execs b X.env) (SP X pins D) X.xe s
section
variable {X : Cx} {c : Code} {e : Expr} {st : Stmt} {b : List Stmt} {t : TE} {u v : TS} {pos : Pos}
theorem pet_of (h : PE X e t) : PEt X c e t := ⟨fun pins s σ H Q I q => wpAt_of_wpAny (h.run pins s σ H Q I q)⟩
theorem psst_of (h : PSs X b u) : PSst X c b u := ⟨fun pins s σ H D I q => wpAt_of_wpAny (h.run pins s σ H D I q)⟩
/-- e; rest, where e says super() -/
theorem psst_expr (h : PEt X c e t) (r : PSst X c b v) (hi : interactive X.env = false := by rfl) (hs : swapsWith e none pos.line X.env = pure false := by rfl) : PSst X c (.Expr e pos :: b) (fun D σ H => t σ H fun _ H1 => v D σ H1) :=
  ⟨fun pins s σ H D I q => ks_wpAt_execs_cons (ks_wpAt_Expr_any (ks_wpAt_mono (h.run pins s σ H _ I q) (fun _ s' ⟨_, H1, I1, _, q1⟩ => r.run pins s' σ H1 D I1 q1) fun _ _ z => z) hi hs)⟩
/-- return e, where e says super() -/
theorem psst_ret (h : PEt X c e t) : PSst X c (.Return (some e) pos :: b) (fun D σ H => t σ H D.rt) :=
  ⟨fun pins s σ H D I q => ks_wpAt_execs_cons (ks_wpAt_Return_some (ks_wpAt_mono (h.run pins s σ H _ I q) (fun _ s' ⟨v, H1, I1, r1, q1⟩ => ⟨v, σ, H1, I1, r1, q1⟩) fun _ _ z => z))⟩
/-- a or b, a says super() and answers a bool -/
theorem pet_or {a : Expr} {rest : List Expr} {ta tb : TE} (ha : PEt X c a ta) (hb : PE X (.BoolOp .Or (e :: rest) pos) tb) : PEt X c (.BoolOp .Or (a :: e :: rest) pos) (tOrV ta tb) := by
  refine ⟨fun pins s σ H Q I q => ?_⟩
  show _root_.PySem.wpAt _ _ _ (do
    let v ← eval a X.env
    standAt pos
    let c ← holding [v] (truthy v)
    match BoolOp.Or, c with
    | .And, false | .Or, true => pure v
    | _, _ => boolOp pos .Or (eval e X.env :: evalEach rest X.env)) _ _ _
  refine _root_.PySem.wpAt_bind (ks_wpAt_mono (ha.run pins s σ H _ I q) (fun v s1 ⟨x, H1, I1, r1, k, ex, q1⟩ => ?_) fun _ _ z => z)
  subst ex
  obtain rfl : v = Value.bool k := r1
  refine _root_.PySem.wpAt_of_wpAny (wpAny_bind (wpAny_standAt (wpAny_bind (wpAny_holding (wpAny_truthy_bool ?_)))))
  cases k with
  | true => exact wpAny_pure ⟨.bl true, H1, I1, rfl, q1⟩
  | false => exact hb.run pins s1 σ H1 Q I1 q1
end
/-- a def that says super(), by its body -/
theorem def_S {P : Program} {w : World} {K : PySem.W.Frag} {mg : Str → Option Value} {base : Heap} {N ps : List Str} {qual x : Str} {st : Stmt} {f cc cda D : Addr} {k : Nat} {sp : Sp} (F : FunS K x qual st f cc cda D) (S : ScopeS N ps (defScope st))
    (len : ∀ vs H Q E, sp vs H Q E → vs.length = ps.length)
    (hb : ∀ (kV doc pm : Value) (an : Option Addr) (ct : Value) (us : List Value), us.length = ps.length → bindArgs (PySem.W.ksFn x qual (defArgs st) (defBody st) (defScope st) .none kV doc pm an (.ref cda) ct cc) ⟨us, []⟩ = pure (ps.zip us))
    (hbody : ∀ (A : Around) (outer : List Env) (s : Shared) (H : Hp) (vs : List V) (Q : VK) (E : XK), Room k (A.deeper (envS qual (defScope st) s.heap.objs.size f (.ref cda) cc)) → A.guards = some [] → sp vs H Q E →
      ∃ t, PSst (cxS P w K mg base N qual (defScope st) f (.ref cda) cc A outer s H E) (.func (defBody st) (envS qual (defScope st) s.heap.objs.size f (.ref cda) cc)) (defBody st) t ∧ t { nx := fun _ H' => Q .non H', rt := Q } (L2.start N vs) H) :
    CallG P w K mg base (k + 1) (.ref f) (pos sp) := by
  obtain ⟨oc, od, kV, doc, pm, an, ct, osl, lk, hcd⟩ := F.ex
  rintro A outer s H us kws vs zs Q E hr hg e0 r rk ⟨rfl, hsp⟩
  cases rk
  have hl := len _ _ _ _ hsp
  have hu : us.length = ps.length := by rw [← r.length]; exact hl
  have KX : K.In s.heap := Env0.kIn e0
  have lim : s.heap.NoLimit := e0.mod.nolimit.keeps fun b o e => (e0.bs b o e).1
  refine ks_codeAny_call_defAt (fd := PySem.W.ksFn x qual (defArgs st) (defBody st) (defScope st) .none kV doc pm an (.ref cda) ct cc) (body := defBody st) (binds := ps.zip us) hr.depth (KX _ _ lk) rfl lim (PySem.W.codeRec_of KX hcd) rfl (BindsTo.of_eq (hb kV doc pm an ct us hu))
    S.nocell (fun y hy => S.par y.1 (List.of_mem_zip hy).1) (fun h1 hns hk => ?_) S.co S.gen S.kind
  obtain ⟨t, ht, hq⟩ := hbody A outer s H vs Q E (hr.deeper _) hg hsp
  have I := inv_S (P := P) (w := w) (mg := mg) (N := N) (qual := qual) (f := f) (cd := .ref cda) (outer := outer) (E := E) (n := (ps.zip us).length) S hr.hd e0 hl r F.cell hns hk
  refine ks_wpAt_mono (ht.run [] _ _ _ _ I hq) (fun fl s' hs => ?_) fun e s' hs => hs
  have fin : ∀ {σ' : L2.St} {H' : Hp} {v : V} {u : Value}, Inv (cxS P w K mg base N qual (defScope st) f (.ref cda) cc A outer s H E) [] σ' H' s' → RelV v u → Q v H' → CE outer P w H s Q u s' :=
    fun {σ' H' v u} J rv q => ⟨v, H', J.os, J.bare, J.base, J.hok, rv, q⟩
  cases fl with
  | ret u =>
    obtain ⟨v, σ', H', J, rv, q⟩ := hs
    exact fin J rv q
  | next =>
    obtain ⟨σ', H', J, q⟩ := hs
    exact fin (v := V.non) (u := Value.none) J rfl q
  | brk =>
    obtain ⟨_, _, _, q⟩ := hs
    exact q.elim
  | cont =>
    obtain ⟨_, _, _, q⟩ := hs
    exact q.elim

/-- what the text must hold where the def at f says super() -/
structure SupF (P : Program) (K : PySem.W.Frag) (cda D : Addr) : Prop where
  code : ∃ (ccl : Value) (cdd : Option Addr) (vs : Array Value) (ccs : Array (Option Value)) (file : Str) (tf : Tok), K.lookup cda = some ⟨ccl, cdd, .fields vs, ccs⟩ ∧ vs[2]? = some (.str file tf) ∧ ((P.main.file : Str) == file) = true
  cls : ∃ cd, PySem.W.clsIn K D = some cd
  sup : PySem.W.nsIn K mainGlobals "super" = some none
  top : (P.main.scope.names.lookup ("super" : Str)).isSome = false
  opq : PySem.W.nsIn K cStatics "thirdparty.any" = some none
/-- behind the class at D, C's next m is the def at g -/
structure SupC (K : PySem.W.Frag) (C D : Addr) (m : Str) (g : Addr) : Prop where
  own : ∃ cd, PySem.W.clsIn K C = some cd
  sub : PySem.W.mroIn K C (.ref D) = some true
  nx : PySem.W.ks_superIn K C D m = some (some (.ref g))
  ty : PySem.W.typeIn K (.ref g) = some (.type "function")
  fi : PySem.W.fnIn K g = true
def tSup (W : WX) (K : PySem.W.Frag) (D : Addr) (m : Str) (g : Addr) (sp : SpK) (t : TA) : TE := fun σ H Q => ∃ (a C dx : Addr) (fs : List (Str × V)), σ[0]? = some (some (.ref a)) ∧ H a = some (.ins C dx fs) ∧ SupC K C D m g ∧ t σ H fun vs H2 => sp (.ref a :: vs) [] H2 Q (WE W σ)
section
variable {X : Cx} {W : WX} {k : Nat} {g q a : Addr} {sp : SpK} {pins : List (Addr × Obj)} {σ : L2.St} {H : Hp} {s : Shared} {Q : VK}
theorem run_callM {us : List Value} {vs : List V} (tk : Takes X W) (F : CallG X.prog X.w X.K X.mg X.base k (.ref g) sp) (hr : Room k X.A) (hg : X.A.guards = some []) (I : Inv X ((q, PySem.W.methodObj (.ref g) (.ref a)) :: pins) σ H s) (r : Vals vs us)
    (h : sp (.ref a :: vs) [] H Q (WE W σ)) : wpAny (model X.prog X.w) X.A (call (.ref q) us) (EP X pins σ Q) X.xe s := by
  have z : wpAny (model X.prog X.w) X.A (call (.ref q) us) (EP X ((q, PySem.W.methodObj (.ref g) (.ref a)) :: pins) σ Q) X.xe s := by
    refine wpAny_call (PySem.W.method_call (ClX.pin_at I) (codeAny_mono (F X.A X.stack s H (.ref a :: us) [] (.ref a :: vs) [] Q _ hr hg I.env0 (.cons rfl r) .nil h) fun r s' hq => ?_))
    cases r with
    | error e => exact passAt tk σ _ H s e s' I hq
    | ok fl =>
      cases fl with
      | ret u => exact I.after hq
      | next => exact False.elim hq
      | brk => exact False.elim hq
      | cont => exact False.elim hq
  exact thn z fun _ _ y => ClX.unpinE y
end
section
variable {P : Program} {w : World} {K : PySem.W.Frag} {mg : Str → Option Value} {base : Heap} {N ps : List Str} {qual x m : Str} {st : Stmt} {f cc cda D g : Addr} {A : Around} {outer : List Env} {s0 : Shared} {H0 : Hp} {E : XK} {W : WX} {k : Nat} {sp : SpK} {e : Expr} {es : List Expr} {t : TA} {p0 p1 apos pos : Pos} {ar : Arg} {body : List Stmt}
theorem pet_super {pl : Sem Bool} (tk : Takes (cxS P w K mg base N qual (defScope st) f (.ref cda) cc A outer s0 H0 E) W) (F : FunS K x qual st f cc cda D) (S : ScopeS N ps (defScope st)) (U : SupF P K cda D) (G : CallG P w K mg base k (.ref g) sp)
    (hr : Room k (A.deeper (envS qual (defScope st) s0.heap.objs.size f (.ref cda) cc))) (hg : A.guards = some []) (hp : ((defArgs st).posonlyargs ++ (defArgs st).args).head? = some ar) (hN : N[0]? = some ar.arg)
    (hks : (defScope st).names.lookup ("super" : Str) = some .globalImplicit) (hkc : (defScope st).names.lookup ("__class__" : Str) = some .free) (hka : (defScope st).names.lookup ar.arg = some .local) (hat : (m == ("__class__" : Str)) = false)
    (ha : PA (cxS P w K mg base N qual (defScope st) f (.ref cda) cc A outer s0 H0 E) (e :: es) t)
    (ht : eval (.Call (.Attribute (.Call (.Name "super" p0) [] [] p1) m apos) (e :: es) [] pos) (envS qual (defScope st) s0.heap.objs.size f (.ref cda) cc) = (do
      let ov ← attributeBase (.Call (.Name "super" p0) [] [] p1) m (envS qual (defScope st) s0.heap.objs.size f (.ref cda) cc) (eval (.Call (.Name "super" p0) [] [] p1) (envS qual (defScope st) s0.heap.objs.size f (.ref cda) cc))
      standAt apos.atName
      let (f', first) ← holding [ov] (getMethod ov m pl)
      callWith pos f' first (backTo pos (starEach (e :: es) (envS qual (defScope st) s0.heap.objs.size f (.ref cda) cc))) []) := by rfl)
    (hst : starEach (e :: es) (envS qual (defScope st) s0.heap.objs.size f (.ref cda) cc) = (false, eval e (envS qual (defScope st) s0.heap.objs.size f (.ref cda) cc)) :: starEach es (envS qual (defScope st) s0.heap.objs.size f (.ref cda) cc) := by rfl)
    (hpl : (backTo pos (starEach es (envS qual (defScope st) s0.heap.objs.size f (.ref cda) cc))).any (·.1) = false := by rfl) :
    PEt (cxS P w K mg base N qual (defScope st) f (.ref cda) cc A outer s0 H0 E) (.func body (envS qual (defScope st) s0.heap.objs.size f (.ref cda) cc)) (.Call (.Attribute (.Call (.Name "super" p0) [] [] p1) m apos) (e :: es) [] pos) (tSup W K D m g sp t) := by
  refine ⟨fun pins s σ H Q I ⟨a, C, dx, fs, hσ, ea, U2, q⟩ => ?_⟩
  obtain ⟨oc, od, kV, doc, pm, an, ct, osl, lk, hcd⟩ := F.ex
  obtain ⟨cl, cld, csl, hcell⟩ := F.cell
  obtain ⟨ccl, cdd, vsc, ccs, file, tf, lkc, hv2, hfile⟩ := U.code
  obtain ⟨cdD, hcD⟩ := U.cls
  obtain ⟨cdC, hcC⟩ := U2.own
  have KX : K.In s.heap := I.kIn
  obtain ⟨oD, hD1, hD2⟩ : ∃ oD, s.heap.get? D = some oD ∧ oD.data = .cls cdD := by
    unfold PySem.W.clsIn at hcD
    split at hcD
    · rename_i c d cd' sl ho
      cases hcD
      exact ⟨_, KX _ _ ho, rfl⟩
    · cases hcD
  obtain ⟨odx, J⟩ := ins_at I.hok ea
  obtain ⟨mb, nb, hbb⟩ := I.ok.mod.blt
  obtain ⟨ml, hnl, hloc⟩ := I.loc
  obtain ⟨u, ru, hlk⟩ := hloc 0 ar.arg _ hN hσ (.inl hka)
  obtain rfl : u = Value.ref a := ru
  have hself : ml ar.arg = some (.ref a) := by
    rcases hlk with ⟨_, h⟩ | ⟨h, _⟩
    · exact h
    · have h' : (defScope st).names.lookup ar.arg = some .cell ∨ (defScope st).names.lookup ar.arg = some .free := h
      rw [hka] at h'
      rcases h' with h' | h' <;> cases h'
  obtain ⟨hh, gg, dd, tt, os⟩ := s
  refine ks_wpAt_MethodCall (pl := pl) ?_ ht
  refine ks_wpAt_super_base (env := envS qual (defScope st) s0.heap.objs.size f (.ref cda) cc) hks hkc hat rfl (KX _ _ lk) rfl hp rfl (KX _ _ lkc) rfl hv2 hfile U.top ?_
  refine PySem.W.ks_loadName_global S.kind hks (PySem.Calls.loadGlobal_builtin (env := envS qual (defScope st) s0.heap.objs.size f (.ref cda) cc) (I.ok.mod.glob.keeps I.bk) (PySem.W.mg_none_of I.ok.mod.kin I.ok.mod.glob U.sup) (nb.keeps I.bk) ((hbb _ (by decide +kernel)).trans (show bootBuiltins ("super" : Str) = some (.type "super") by decide +kernel)) ⟨rfl, ?_⟩)
  refine wpAny_loadName_free S.kind hkc rfl ⟨_, KX _ _ hcell, rfl⟩ ?_
  refine wpAny_loadName_local S.kind hka hnl hself ?_
  refine ks_wpAny_isType_cls hD1 hD2 ⟨rfl, ?_⟩
  refine ks_wpAny_call_super hD1 hD2 J.at_ J.cls (fun c ec => ?_) (PySem.W.looks_mroIn KX U2.sub) (fun h' eso kso => ?_)
  · have := J.no
    unfold PySem.W.notCls at this
    rw [ec] at this
    exact Bool.noConfusion this
  have I1 := ClX.pin_new (t' := tt) I kso (Nat.le_refl _) eso (fun v z => nomatch z)
  have KX1 : K.In h' := I1.kIn
  obtain ⟨og, hog, hogc⟩ : ∃ og, h'.get? g = some og ∧ og.cls = .type "function" := by
    have ht' : (K.lookup g).map (·.cls) = some (.type "function") := U2.ty
    cases z : K.lookup g with
    | none => rw [z] at ht'; cases ht'
    | some og => rw [z] at ht'; exact ⟨og, KX1 _ _ z, Option.some.inj ht'⟩
  have hnx := U2.nx
  unfold PySem.W.ks_superIn at hnx
  rw [hcC] at hnx
  refine ks_wpAny_getMethod_super (ClX.pin_at I1) (PySem.W.looks_opaque KX1 U.opq) (l₀ := cdC.mro) ((PySem.W.looks_clsIn KX1 hcC).andThen .now) rfl KX1 hnx hog hogc (PySem.W.ks_ne KX J hcC) hat ?_
  have I2 := ClX.met_new (g := g) (C := a) I1
  have I3 : Inv (cxS P w K mg base N qual (defScope st) f (.ref cda) cc A outer s0 H0 E) ((h'.objs.size, PySem.W.methodObj (.ref g) (.ref a)) :: pins) σ H { (⟨h', gg, dd, tt, os⟩ : Shared) with heap := h'.push (PySem.W.methodObj (.ref g) (.ref a)), toks := tt + 1 } :=
    I2.pins_of fun p hp' => I2.pin p (List.mem_append_right _ (by
      rcases List.mem_cons.mp (show p ∈ _ :: pins from hp') with z | z
      · rw [z]; exact List.mem_cons_self
      · exact List.mem_cons_of_mem _ (List.mem_cons_of_mem _ z)))
  exact ClX.callwith_cm I3 (ClX.base_none I1 (Nat.le_refl _)) U2.fi (thn (ha.run pos _ _ σ H _ I3 q) fun us s3 ⟨vs, H2, I4, rv, q2⟩ => ⟨⟨ClX.pin_at I4, I4.kIn⟩, run_callM tk G hr hg I4 rv q2⟩) hst hpl
end
end Uk

/-! UkM: small words of the text's own constants -/
namespace Uk
open PySem PySem.Spec PyProof.Rows L2 StX
section
variable {K : PySem.W.Frag} {H : Hp} {a : Addr} {xs : List V} {us : List Value} {n : Nat} {dd : Option Addr} {sl : Array (Option Value)}
/-- a tuple of the text's own -/
theorem sqT_k (h : K.lookup a = some ⟨.type "tuple", dd, .seq us.toArray n, sl⟩) (r : Vals xs us) (hz : us.length ≤ 1000) : SqT K H a xs :=
  .inr ⟨_, us.toArray, n, h, rfl, rfl, by rw [List.size_toArray, sizeLine_eq]; omega, by simpa using r⟩
end
end Uk
namespace Uk
open PySem PySem.Spec PyProof.Rows L2 StX
theorem TyX.same {K : PySem.W.Frag} {H H' : Hp} {v : V} {t : Value} (s : Same H H') (h : TyX K H v t) : TyX K H' v t := by
  cases h with
  | base b =>
    cases b with
    | non => exact .base .non
    | bl y => exact .base (.bl y)
    | int i => exact .base (.int i)
    | str y => exact .base (.str y)
    | flt y => exact .base (.flt y)
    | lst e => exact .base (.lst (s _ _ e))
    | frz e => exact .base (.frz (s _ _ e))
    | tup e => exact .base (.tup (s _ _ e))
    | dK e => exact .base (.dK (s _ _ e))
    | dT e => exact .base (.dT (s _ _ e))
    | ins e cl ha hn htk hm => exact .base (.ins (s _ _ e) cl ha hn htk hm)
  | byt b => exact .byt b
  | set e => exact .set (s _ _ e)
  | kList e c => exact .kList e c
  | kTuple e c => exact .kTuple e c
  | kDict e c => exact .kDict e c
  | fTuple e => exact .fTuple (s _ _ e)
  | fDict e => exact .fDict (s _ _ e)
theorem inV_strs (x : Str) (ws : List Str) : inV (.str x) (ws.map V.str) = decide (x ∈ ws) := by
  induction ws with
  | nil => rfl
  | cons y r ih =>
    show ((y == x) || inV (.str x) (r.map V.str)) = _
    rw [ih]
    by_cases e : y = x
    · subst e
      simp
    · have e2 : ¬ x = y := fun z => e z.symm
      simp [e, e2]
/-- o.m(e, ..), m by o's class -/
def tMeV (W : WX) (dom : Addr → Prop) (m : Str) (sp : Addr → SpK) (ta : TE) (t : TA) : TE := fun σ H Q => ta σ H fun x H1 => ∃ a C dx fs, x = .ref a ∧ dom C ∧ H1 a = some (.ins C dx fs) ∧ fs.lookup m = none ∧ t σ H1 fun vs H2 => sp C (.ref a :: vs) [] H2 Q (WE W σ)
theorem pe_meV {X : Cx} {W : WX} {k : Nat} {dom : Addr → Prop} {f : Addr → Addr} {sp : Addr → SpK} {m : Str} {o e : Expr} {es : List Expr} {qs apos : Pos} {ta : TE} {t : TA} {pl : Sem Bool} (tk : Takes X W) (he : PE X o ta) (hm : ∀ C, dom C → Cls X.K C ∧ Meth X.K C m (f C))
    (F : ∀ C, dom C → CallG X.prog X.w X.K X.mg X.base k (.ref (f C)) (sp C)) (hr : Room k X.A) (hg : X.A.guards = some []) (ha : PA X (e :: es) t)
    (hst : starEach (e :: es) X.env = (false, eval e X.env) :: starEach es X.env := by rfl) (hpl : (backTo qs (starEach es X.env)).any (·.1) = false := by rfl)
    (ht : eval (.Call (.Attribute o m apos) (e :: es) [] qs) X.env = (do
      let ov ← eval o X.env
      standAt apos.atName
      let (f, first) ← holding [ov] (getMethod ov m pl)
      callWith qs f first (backTo qs (starEach (e :: es) X.env)) (backToKw qs (keywordEach [] X.env))) := by rfl) :
    PE X (.Call (.Attribute o m apos) (e :: es) [] qs) (tMeV W dom m sp ta t) := by
  refine ⟨fun pins s σ H Q I h => ?_⟩
  refine PySem.W.methodCall_KW (pl := pl) (thn (he.run pins s σ H _ I h) fun u s1 ⟨x, H1, I1, rx, a, C, dx, fs, ex, d, ea, l, q⟩ => ?_) ht
  subst ex
  obtain rfl : u = Value.ref a := rx
  refine getmeth_ok I1 ea (hm C d).1 (hm C d).2 l ?_
  refine PySem.W.callWith_K (h₀ := X.base) (first := [.ref a]) I1.ok.mod.kin (hm C d).2.kp (thn (ha.run qs pins s1 σ H1 _ I1 q) fun us s2 ⟨vs, H2, I2, r, q2⟩ => ⟨I2.kIn, ?_⟩) hst hpl
  exact run_call (us := .ref a :: us) (vs := .ref a :: vs) tk (F C d) hr hg I2 (.cons rfl r) .nil q2
theorem same_disp {H : Hp} {p : Addr} {o u : HO} (h : H p = none) : Same H (upd (upd H p o) p u) := by rw [upd_upd]; exact same_new h
end Uk

/-! UkN: enumerate(a tuple) -/
namespace Uk
open PySem PySem.Spec PyProof.Rows L2 StX
abbrev tupItr (t : Addr) : Obj := { cls := .type "tuple_iterator", data := .fields #[.ref t, .int 0 0] }
abbrev enumOf (it : Addr) : Obj := { cls := .type "enumerate", data := .fields #[.none, .bool false, .ref it, rawInt 0, .none, .none] }
theorem enumT_new (t : Addr) (items : Array Value) : Meets (Builtin.«enumerate.__new__» ⟨[.type "enumerate", .ref t], []⟩) (fun _ R s => s.heap.IsTuple t items ∧ R (.ok (.ret (.ref (s.heap.push (tupItr t)).objs.size))) { s with heap := (s.heap.push (tupItr t)).push (enumOf s.heap.objs.size) }) :=
  .of_wp fun prog w A R s ⟨hT, h⟩ => by
    obtain ⟨⟨cl, dd, dt, sl⟩, hl, hc, n, hd⟩ := id hT
    simp only at hc hd
    subst hc hd
    obtain ⟨hh, gg, dr, tt, os⟩ := s
    have sub := sub_enumerate
    wp_walk using AutoSeq1.wpAny_loadPart' hl
    refine wpAny_stack_any fun st => wpAny_pure ?_
    split
    · rename_i c _ _ _ _ _
      cases (c == Value.type "enumerate") <;> (wp_walk using AutoSeq1.wpAny_loadPart' hl, wpAny_pyIter_tuple hT; exact ⟨_, rfl, h⟩)
    · wp_walk using AutoSeq1.wpAny_loadPart' hl, wpAny_pyIter_tuple hT
      exact ⟨_, rfl, h⟩
section
variable {prog : Program} {w : World} {A : Around} {E : Value → Shared → Prop} {s : Shared}
theorem call_enumT {t : Addr} {items : Array Value} {Q : Value → Shared → Prop} (hT : s.heap.IsTuple t items)
    (h : ∀ h', IsEnum h' (s.heap.objs.size + 1) s.heap.objs.size 0 .none → h'.IsTupleIter s.heap.objs.size t 0 → (∀ b o, s.heap.get? b = some o → h'.get? b = some o) → Q (.ref (s.heap.objs.size + 1)) { s with heap := h' }) :
    wpAny (model prog w) A (call (.type "enumerate") [.ref t]) Q E s := by
  refine callType_new F.called_enumerate (by decide) (F.typeCall_enumerate_1 _) (F.newCall_enumerate_1 _) (fun obj => F.args_object_init_2 obj _) F.entry_enumerate_new (enumT_new t items) ⟨hT, ?_⟩
  have sz : (s.heap.push (tupItr t)).objs.size = s.heap.objs.size + 1 := Heap.size_push ..
  show _ ∧ _
  rw [sz]
  have en : IsEnum ((s.heap.push (tupItr t)).push (enumOf s.heap.objs.size)) (s.heap.objs.size + 1) s.heap.objs.size 0 .none := by
    have := Heap.get?_push_size (s.heap.push (tupItr t)) (o := enumOf s.heap.objs.size) rfl
    rwa [sz] at this
  exact ⟨⟨_, en, rfl⟩, h _ en ⟨_, Heap.get?_push_of_some _ (Heap.get?_push_size _ rfl), rfl, rfl⟩ fun b o x => Heap.get?_push_of_some _ (Heap.get?_push_of_some _ x)⟩
end
/-- the tuple at a, each item in a new pair -/
def ItEt (K : PySem.W.Frag) (a : Addr) : It :=
  ⟨fun i H => ∃ (xs : List V) (x : V), SqT K H a xs ∧ xs[i]? = some x, fun i H v H' => ∃ T x, v = .ref T ∧ H T = none ∧ H' = upd H T (.tup [.int (i : Nat), x]) ∧ ∀ xs, SqT K H a xs → xs[i]? = some x, fun i H => ∃ xs : List V, SqT K H a xs ∧ xs.length = i⟩
theorem turn_enumT {P : Program} {w : World} {K : PySem.W.Frag} {elts : List Expr} {kk : Nat} {tpos : Pos} (a e it : Addr) :
    Turn P w K (.Tuple elts kk tpos) (ItEt K a) [e, it] e (fun i h => (∃ old, IsEnum h e it ((i : Nat) : Int) old) ∧ h.IsTupleIter it a i ∧ e ≠ it ∧ a ≠ it ∧ a ≠ e) where
  mem := by simp
  obj := fun i h st b hb => by
    obtain ⟨⟨old, he⟩, ⟨o, ho, hc, hd⟩, _⟩ := st
    rcases (by simpa using hb : b = e ∨ b = it) with z | z
    · rw [z]; exact ⟨_, he, fun v q => nomatch q⟩
    · rw [z]; exact ⟨o, ho, fun v q => by rw [hd] at q; cases q⟩
  keep := fun i h h' ⟨⟨old, he⟩, hi, hne⟩ k => ⟨⟨old, k e (by simp) _ he⟩, hi.at fun o q => k it (by simp) o q, hne⟩
  item := by
    intro X hP hw hK hc i pins s σ H E I hf st hg
    subst hP hw hK
    obtain ⟨⟨old, he⟩, hit, hne, hai, hae⟩ := st
    obtain ⟨xs, x, hq, hx⟩ := hg
    obtain ⟨its, rv, p, hz⟩ := I.tuple hq
    have hT : s.heap.IsTuple a its.toArray := p
    obtain ⟨u, hu, ru⟩ := rv.get hx
    have hel : e < s.heap.objs.size := Heap.lt_size he
    have hil : it < s.heap.objs.size := by obtain ⟨_, q, _⟩ := hit; exact Heap.lt_size q
    have hlt : i < its.toArray.size := by
      have := (List.getElem?_eq_some_iff.mp hu).1
      simpa using this
    refine wpAny_pyNext_enum_itemC (Draws.tuple (by exact I.ok.hd hc) it a hai its.toArray) he ⟨hit, hT⟩ hlt hne (by simp [hne, Ne.symm hae]) fun x' h' tk hx' ho hst hTn hsz hk => ?_
    have ex : x' = u := by
      have h1 : its[i]? = some x' := by simpa using hx'
      rw [hu] at h1
      exact (Option.some.inj h1).symm
    subst ex
    refine ⟨_, rfl, wpAny_letOwnedTupleGo_enum (s := { s with heap := h', toks := tk + 1 }) ho fun h'' he' sb => ?_⟩
    have hT2 : h''.get? s.heap.objs.size = some { cls := .type "tuple", data := .seq #[.int i tk, x'] } := (sb.2 _ (Nat.ne_of_gt hel)).trans hTn
    have new : ObjOk X.prog X.w (upd H s.heap.objs.size (.tup [.int (i : Nat), x])) h'' s.heap.objs.size (.tup [.int (i : Nat), x]) :=
      ⟨by show 2 ≤ sizeLine; decide, [.int i tk, x'], .cons ⟨_, rfl⟩ (.cons ru .nil), ⟨_, hT2, rfl, _, rfl⟩⟩
    have I1 : Inv X pins σ (upd H s.heap.objs.size (.tup [.int (i : Nat), x])) { s with heap := h'', toks := tk + 1 } :=
      I.turnedNew (ch := [e, it]) (fun b ob hb q => (sb.2 b (fun z => hb (by simp [z]))).trans (hk b ob (fun z => hb (by simp [z])) (fun z => hb (by simp [z])) q)) hf (Nat.le_refl _) new
    refine ⟨.ref s.heap.objs.size, _, I1, rfl, ⟨_, x, rfl, I.hok.fresh (Nat.le_refl _), rfl, fun ys hy => by rw [I.tuple_inj hy hq]; exact hx⟩, ⟨⟨x', ?_⟩, hst.1.at fun o q => (sb.2 it (Ne.symm hne)).trans q, hne, hai, hae⟩, fun b hb => ?_⟩
    · have e1 : ((i + 1 : Nat) : Int) = (i : Int) + 1 := by omega
      rw [e1]; exact he'
    · have hb' : b < s.heap.objs.size := by
        rcases (by simpa using hb : b = e ∨ b = it) with z | z
        · rw [z]; exact hel
        · rw [z]; exact hil
      rw [upd_ne (Nat.ne_of_lt hb')]
      exact (hf b hb).1
  done := by
    intro X hP hw hK hc i pins s σ H E I hf st hg
    subst hP hw hK
    obtain ⟨⟨old, he⟩, hit, hne, hai, hae⟩ := st
    obtain ⟨xs, hq, hx⟩ := hg
    obtain ⟨its, rv, p, hz⟩ := I.tuple hq
    obtain ⟨f0, f1, f2, f3, f4, f5⟩ := hf it (by simp)
    have hT : s.heap.IsTuple a its.toArray := p
    have hl : its.toArray.size = i := by rw [List.size_toArray, ← rv.length]; exact hx
    subst hl
    exact wpAny_pyNext_enum_endD (Draws.tuple (by exact I.ok.hd hc) it a hai its.toArray) he ⟨hit, hT⟩ fun h' eb => ⟨rfl, I.turned (t' := s.toks) (fun b o hb q => eb b o hb q) f0 f1 f3 f4 f5⟩
  self := fun A i s Q E ⟨⟨_, he⟩, _⟩ h => wpAny_pyIter_enum he h
def iEnumT (K : PySem.W.Frag) (ta : TA) : TI := fun σ H R => ta σ H fun vs H1 => ∃ a xs, vs = [.ref a] ∧ SqT K H1 a xs ∧ R (ItEt K a) H1
theorem pi_enumT {X : Cx} {e : Expr} {ta : TA} {p pos tpos : Pos} {elts : List Expr} {kk : Nat} (hg : Gl X "enumerate") (hm : X.mg "enumerate" = none) (ha : PA X [e] ta) (hs : starEach [e] X.env = [(false, eval e X.env)] := by rfl) :
    PI X (.Tuple elts kk tpos) (.Call (.Name "enumerate" p) [e] [] pos) (iEnumT X.K ta) := by
  refine ⟨fun pins s σ H R I h => ?_⟩
  refine Call_ (ld_blt I hg hm boot_enumerate (PyProof.Rows.callWith_type1 (thn (ha.run pos pins s σ H _ I h) fun us s1 ⟨vs, H1, I1, r1, q1⟩ => ?_) hs rfl))
  obtain ⟨a, xs, rfl, hq, q⟩ := q1
  obtain rfl := Vals.ref1 r1
  obtain ⟨its, rv, p', hz⟩ := I1.tuple hq
  have hT : s1.heap.IsTuple a its.toArray := p'
  have al : a < s1.heap.objs.size := by obtain ⟨o, ho, _⟩ := id hT; exact Heap.lt_size ho
  refine call_enumT hT fun h' he hit hk => wpAny_pyIter_enum he ?_
  have I2 : Inv X pins σ H1 { s1 with heap := h' } := I1.kept (t' := s1.toks) hk
  refine ⟨s1.heap.objs.size + 1, [s1.heap.objs.size + 1, s1.heap.objs.size], _, _, H1, rfl, I2, turn_enumT a (s1.heap.objs.size + 1) s1.heap.objs.size, ⟨⟨.none, he⟩, hit, Nat.succ_ne_self _, Nat.ne_of_lt al, Nat.ne_of_lt (Nat.lt_succ_of_lt al)⟩, fun b hb => ?_, q⟩
  have hle : s1.heap.objs.size ≤ b := by
    rcases (by simpa using hb : b = s1.heap.objs.size + 1 ∨ b = s1.heap.objs.size) with z | z
    · exact z ▸ Nat.le_succ _
    · exact z ▸ Nat.le_refl _
  exact I1.fpOk hle (I1.hok.fresh hle)
theorem walk_enumT {K : PySem.W.Frag} {a : Addr} {xs : List V} : Walk (ItEt K a) xs.length (fun H => SqT K H a xs) (YPair (fun i => some (.int (i : Nat))) (fun i => xs[i]?)) := by
  refine ⟨fun i _ hi q => ⟨xs, xs[i], q, by simp [hi]⟩, fun _ q => ⟨xs, q, rfl⟩, fun i H v H' _ q y => ?_⟩
  obtain ⟨T, x, h1, h2, h3, h4⟩ := y
  exact ⟨T, .int (i : Nat), x, h1, h2, h3, rfl, h4 xs q⟩
end Uk

/-! UkP: own exceptions: super().__init__, made as values, raised, caught and kept, their attributes, isinstance -/
namespace Uk
open PySem PySem.Spec PyProof.Rows L2 StX

/-- an exception of the class cls at a, whether raised or not; its dict at d -/
abbrev exv (a : Addr) (cls : Value) (d : Option Addr) : HO := .ext fun h => ∃ (oe : Obj) (vs : Array Value), h.get? a = some oe ∧ Zc cls d oe ∧ oe.data = .fields vs
theorem exv_ok {P : Program} {w : World} {H : Hp} {h : Heap} {a : Addr} {cls : Value} {d : Option Addr} {oe : Obj} {vs : Array Value} (e : h.get? a = some oe) (z : Zc cls d oe) (dd : oe.data = .fields vs) : ObjOk P w H h a (exv a cls d) :=
  ⟨⟨oe, vs, e, z, dd⟩, ⟨oe, e⟩, fun _ _ ⟨o, v, q, r⟩ k => ⟨o, v, k o q, r⟩⟩
theorem exv_at {P : Program} {w : World} {H : Hp} {h : Heap} {a : Addr} {cls : Value} {d : Option Addr} (hok : HOk P w H h) (he : H a = some (exv a cls d)) : ∃ (oe : Obj) (vs : Array Value), h.get? a = some oe ∧ Zc cls d oe ∧ oe.data = .fields vs := by
  have x : ObjOk P w H h a (exv a cls d) := hok a _ he
  exact x.1

/-- what the text must say of the class at C where the def of D says super().__init__ -/
structure SupE (K : PySem.W.Frag) (C D : Addr) : Prop where
  T : OexC K C
  own : ∃ cd, PySem.W.clsIn K C = some cd
  sub : PySem.W.mroIn K C (.ref D) = some true
  nx : PySem.W.ks_superIn K C D "__init__" = some (some (.builtin "ValueError.__init__"))
  hB : PySem.W.subIn K (.ref C) (.type "ValueError") = some true

section
variable {X : Cx} {pins : List (Addr × Obj)} {σ : L2.St} {H : Hp} {s : Shared} {a C u : Addr} {us : List Value} {Q : Value → Shared → Prop} {E : Value → Shared → Prop} {A : Around}
theorem upd_id {H : Hp} {a : Addr} {o : HO} (e : H a = some o) : upd H a o = H := by
  funext b
  by_cases hb : b = a
  · rw [hb, upd_same, e]
  · rw [upd_ne hb]
/-- the bound wrapper of ValueError.__init__ is called -/
theorem call_mw (T : OexC X.K C) (I : Inv X pins σ H s) (e : H a = some (exo a C none)) (hu : s.heap.get? u = some (PySem.W.kxs_mw "ValueError.__init__" a)) (hl : us.length ≤ sizeLine) (h : ∀ s', Inv X pins σ H s' → Q .none s') :
    wpAny (model X.prog X.w) A (call (.ref u) us) Q E s := by
  obtain ⟨nm, q, N, bs, bm, sn, sub, ab, col, dd, k0, k1, k2, k3, k5, hC, hbm⟩ := T.cls
  obtain ⟨t1, ho⟩ := exo_at I.hok e
  have hC' := I.kIn _ _ hC
  have fin : ∀ (h' : Heap) (t2 : Addr), (∀ b o, b ≠ a → s.heap.get? b = some o → h'.get? b = some o) → h'.get? a = some ({ cls := .ref C, dict := none, data := .fields #[.ref t2, .none, .none, .none, .bool false, .none] } : Obj) → Q .none { s with heap := h' } := fun h' t2 k hx => by
    have J := I.write (t' := s.toks) (x := a) (e := a) (o := exo a C none) (by rw [e]; exact True.intro) (.inl rfl) k ⟨_, hx⟩ (exo_ok hx)
    rw [upd_id e] at J
    exact h _ J
  obtain ⟨hp, g, d, t, os⟩ := s
  refine wpAny_call (codeAny_of_tree ?_)
  show wpAny _ A.in1 (callAny (.ref u) ⟨us, []⟩) _ _ _
  simp only [callAny]
  refine wpAny_bind (wpAny_load hu ?_)
  simp only [PySem.W.kxs_mw, show (Value.type "method-wrapper" == Value.type "method" || Value.type "method-wrapper" == Value.type "builtin_function_or_method" || Value.type "method-wrapper" == Value.type "method-wrapper") = true by decide, if_true]
  refine PySem.W.KFB.if_so (by decide) ?_
  refine wpAny_bind (PySem.W.check_bound_init PySem.F.excBase_ValueError.toExcCallFacts hC' ho rfl ?_)
  refine wpAny_bind (wpAny_pure (wpAny_pure ?_))
  refine ⟨PySem.plainId_quiet PySem.F.excBase_ValueError.init.plain _, codeAny_builtin PySem.F.excBase_ValueError.initEntry ?_⟩
  exact PySem.W.exc_init_tree (cls := .ref C) (t0 := t1) (dv := none) (c2 := .none) (c3 := .none) (b4 := .bool false) ho hl (fun h' k e' _ => fin h' _ k e')
end
/-- super().__init__(e, ..) in an own exception's __init__ -/
def tSupE (K : PySem.W.Frag) (D : Addr) (t : TA) : TE := fun σ H Q => ∃ (a C : Addr), σ[0]? = some (some (.ref a)) ∧ H a = some (exo a C none) ∧ SupE K C D ∧ t σ H fun vs H2 => vs.length ≤ 1000 ∧ H2 a = some (exo a C none) ∧ Q .non H2
section
variable {P : Program} {w : World} {K : PySem.W.Frag} {mg : Str → Option Value} {base : Heap} {N ps : List Str} {qual x : Str} {st : Stmt} {f cc cda D : Addr} {A : Around} {outer : List Env} {s0 : Shared} {H0 : Hp} {E : XK} {e : Expr} {es : List Expr} {t : TA} {p0 p1 apos pos : Pos} {ar : Arg} {body : List Stmt}
theorem pet_superE {pl : Sem Bool} (F : FunS K x qual st f cc cda D) (S : ScopeS N ps (defScope st)) (U : SupF P K cda D)
    (hp : ((defArgs st).posonlyargs ++ (defArgs st).args).head? = some ar) (hN : N[0]? = some ar.arg)
    (hks : (defScope st).names.lookup ("super" : Str) = some .globalImplicit) (hkc : (defScope st).names.lookup ("__class__" : Str) = some .free) (hka : (defScope st).names.lookup ar.arg = some .local)
    (ha : PA (cxS P w K mg base N qual (defScope st) f (.ref cda) cc A outer s0 H0 E) (e :: es) t)
    (ht : eval (.Call (.Attribute (.Call (.Name "super" p0) [] [] p1) "__init__" apos) (e :: es) [] pos) (envS qual (defScope st) s0.heap.objs.size f (.ref cda) cc) = (do
      let ov ← attributeBase (.Call (.Name "super" p0) [] [] p1) "__init__" (envS qual (defScope st) s0.heap.objs.size f (.ref cda) cc) (eval (.Call (.Name "super" p0) [] [] p1) (envS qual (defScope st) s0.heap.objs.size f (.ref cda) cc))
      standAt apos.atName
      let (f', first) ← holding [ov] (getMethod ov "__init__" pl)
      callWith pos f' first (backTo pos (starEach (e :: es) (envS qual (defScope st) s0.heap.objs.size f (.ref cda) cc))) []) := by rfl)
    (hst : starEach (e :: es) (envS qual (defScope st) s0.heap.objs.size f (.ref cda) cc) = (false, eval e (envS qual (defScope st) s0.heap.objs.size f (.ref cda) cc)) :: starEach es (envS qual (defScope st) s0.heap.objs.size f (.ref cda) cc) := by rfl)
    (hpl : (backTo pos (starEach es (envS qual (defScope st) s0.heap.objs.size f (.ref cda) cc))).any (·.1) = false := by rfl) :
    PEt (cxS P w K mg base N qual (defScope st) f (.ref cda) cc A outer s0 H0 E) (.func body (envS qual (defScope st) s0.heap.objs.size f (.ref cda) cc)) (.Call (.Attribute (.Call (.Name "super" p0) [] [] p1) "__init__" apos) (e :: es) [] pos) (tSupE K D t) := by
  refine ⟨fun pins s σ H Q I ⟨a, C, hσ, ea, U2, q⟩ => ?_⟩
  obtain ⟨oc, od, kV, doc, pm, an, ct, osl, lk, hcd⟩ := F.ex
  obtain ⟨cl, cld, csl, hcell⟩ := F.cell
  obtain ⟨ccl, cdd, vsc, ccs, file, tf, lkc, hv2, hfile⟩ := U.code
  obtain ⟨cdD, hcD⟩ := U.cls
  obtain ⟨cdC, hcC⟩ := U2.own
  have KX : K.In s.heap := I.kIn
  obtain ⟨oD, hD1, hD2⟩ : ∃ oD, s.heap.get? D = some oD ∧ oD.data = .cls cdD := by
    unfold PySem.W.clsIn at hcD
    split at hcD
    · rename_i c d cd' sl ho
      cases hcD
      exact ⟨_, KX _ _ ho, rfl⟩
    · cases hcD
  obtain ⟨t1, ho1⟩ := exo_at I.hok ea
  have J : PySem.W.InstAt s.heap a ({ cls := .ref C, dict := none, data := .fields #[.ref t1, .none, .none, .none, .bool false, .none] } : Obj) C none := ⟨ho1, rfl, rfl, trivial⟩
  obtain ⟨mb, nb, hbb⟩ := I.ok.mod.blt
  obtain ⟨ml, hnl, hloc⟩ := I.loc
  obtain ⟨u, ru, hlk⟩ := hloc 0 ar.arg _ hN hσ (.inl hka)
  obtain rfl : u = Value.ref a := ru
  have hself : ml ar.arg = some (.ref a) := by
    rcases hlk with ⟨_, h⟩ | ⟨h, _⟩
    · exact h
    · have h' : (defScope st).names.lookup ar.arg = some .cell ∨ (defScope st).names.lookup ar.arg = some .free := h
      rw [hka] at h'
      rcases h' with h' | h' <;> cases h'
  have hat : (("__init__" : Str) == ("__class__" : Str)) = false := by decide
  obtain ⟨hh, gg, dd, tt, os⟩ := s
  refine ks_wpAt_MethodCall (pl := pl) ?_ ht
  refine ks_wpAt_super_base (env := envS qual (defScope st) s0.heap.objs.size f (.ref cda) cc) hks hkc hat rfl (KX _ _ lk) rfl hp rfl (KX _ _ lkc) rfl hv2 hfile U.top ?_
  refine PySem.W.ks_loadName_global S.kind hks (PySem.Calls.loadGlobal_builtin (env := envS qual (defScope st) s0.heap.objs.size f (.ref cda) cc) (I.ok.mod.glob.keeps I.bk) (PySem.W.mg_none_of I.ok.mod.kin I.ok.mod.glob U.sup) (nb.keeps I.bk) ((hbb _ (by decide +kernel)).trans (show bootBuiltins ("super" : Str) = some (.type "super") by decide +kernel)) ⟨rfl, ?_⟩)
  refine wpAny_loadName_free S.kind hkc rfl ⟨_, KX _ _ hcell, rfl⟩ ?_
  refine wpAny_loadName_local S.kind hka hnl hself ?_
  refine ks_wpAny_isType_cls hD1 hD2 ⟨rfl, ?_⟩
  refine ks_wpAny_call_super hD1 hD2 J.at_ J.cls (fun c ec => ?_) (PySem.W.looks_mroIn KX U2.sub) (fun h' eso kso => ?_)
  · cases ec
  have I1 := ClX.pin_new (t' := tt) I kso (Nat.le_refl _) eso (fun v z => nomatch z)
  have KX1 : K.In h' := I1.kIn
  have J1 : PySem.W.InstAt h' a ({ cls := .ref C, dict := none, data := .fields #[.ref t1, .none, .none, .none, .bool false, .none] } : Obj) C none := ⟨kso _ _ ho1, rfl, rfl, trivial⟩
  have hnx := U2.nx
  unfold PySem.W.ks_superIn at hnx
  rw [hcC] at hnx
  have hI : PySem.W.Looks (model P w) h' (isInstance (.ref a) (.type "ValueError")) true := J1.type.andThen (PySem.W.looks_subIn KX1 U2.hB)
  refine PySem.W.kxs_getMethod PySem.W.kxs_ValueError (ClX.pin_at I1) (PySem.W.looks_opaque KX1 U.opq) (l₀ := cdC.mro) ((PySem.W.looks_clsIn KX1 hcC).andThen .now) rfl KX1 hnx hI (PySem.W.ks_ne KX J hcC) hat ?_
  have eu : (h'.push (PySem.W.kxs_mw "ValueError.__init__" a)).get? h'.objs.size = some (PySem.W.kxs_mw "ValueError.__init__" a) := Heap.get?_push_size _ rfl
  have I2 := ClX.pin_new (t' := tt + 1) I1 (fun b o z => Heap.get?_push_of_some (h := h') (PySem.W.kxs_mw "ValueError.__init__" a) z) (Nat.le_refl _) eu (fun v z => nomatch z)
  show wpAny _ _ (callWith pos (.ref h'.objs.size) [] (backTo pos (starEach (e :: es) (envS qual (defScope st) s0.heap.objs.size f (.ref cda) cc))) []) _ _ _
  rw [hst]
  refine PySem.W.kxs_callWith (i := "ValueError.__init__") (x := a) (by show (false || (backTo pos (starEach es _)).any (·.1)) = false; rw [hpl] <;> rfl) (Calls.evalArgs_plain ?_)
  have hst2 : starEach (e :: es) (cxS P w K mg base N qual (defScope st) f (.ref cda) cc A outer s0 H0 E).env = (false, eval e (envS qual (defScope st) s0.heap.objs.size f (.ref cda) cc)) :: starEach es (envS qual (defScope st) s0.heap.objs.size f (.ref cda) cc) := hst
  have z : wpAny (model P w) _ (spliced (backTo pos (starEach (e :: es) (cxS P w K mg base N qual (defScope st) f (.ref cda) cc A outer s0 H0 E).env))) _ _ _ := ha.run pos _ _ σ H _ I2 q
  rw [hst2] at z
  refine thn z fun us s3 ⟨vs, H2, I4, rv, hl, ea2, q2⟩ => ⟨ClX.pin_at I4, ?_⟩
  have hlen : us.length ≤ sizeLine := by
    rw [← Paired.length rv, sizeLine_eq]
    omega
  exact call_mw U2.T I4 ea2 (ClX.pin_at I4) hlen fun s5 I5 => ⟨.non, H2, ClX.unpin (ClX.unpin I5), rfl, q2⟩
end
end Uk

/-! UkQ: own exceptions: made as values, raised; attributes; isinstance; caught and kept -/
namespace Uk
open PySem PySem.Spec PyProof.Rows L2 StX

/-- an exception that is being made, its dict at dx -/
def exmk (H : Hp) (a C dx : Addr) (fs : List (Str × V)) : Hp := upd (upd H dx (exd dx fs)) a (exo a C (some dx))
theorem exmk_put {H : Hp} {a C dx : Addr} {fs gs : List (Str × V)} (h : dx ≠ a) : upd (exmk H a C dx fs) dx (exd dx gs) = exmk H a C dx gs := by
  funext b
  unfold exmk
  by_cases hb : b = dx
  · subst hb
    rw [upd_same, upd_ne h, upd_same]
  · rw [upd_ne hb]
    by_cases ha : b = a
    · subst ha
      rw [upd_same, upd_same]
    · rw [upd_ne ha, upd_ne ha, upd_ne hb, upd_ne hb]
theorem exmk_a {H : Hp} {a C dx : Addr} {fs : List (Str × V)} : exmk H a C dx fs a = some (exo a C (some dx)) := upd_same
theorem exmk_d {H : Hp} {a C dx : Addr} {fs : List (Str × V)} (h : dx ≠ a) : exmk H a C dx fs dx = some (exd dx fs) := (upd_ne h).trans upd_same
/-- an own exception's __init__ keeps its arguments under these names -/
def spInit (C : Addr) (ns : List Str) : Sp := fun vs H Q _ => ∃ a ws, vs = .ref a :: ws ∧ ws.length = ns.length ∧ H a = some (exo a C none) ∧ ∀ dx, H dx = none → dx ≠ a → Q .non (exmk H a C dx (ns.zip ws).reverse)
/-- one without arguments -/
def spInit0 (C : Addr) : Sp := fun vs H Q _ => ∃ a, vs = [.ref a] ∧ H a = some (exo a C none) ∧ Q .non H

/-- what the text must say of an exception class, whose __init__ is the def at f -/
structure MkE (K : PySem.W.Frag) (C f : Addr) : Prop where
  T : OexC K C
  init : PySem.W.findIn K (.ref C) "__init__" = some (some (.ref f))
  fn : PySem.W.typeIn K (.ref f) = some (.type "function")
  x : ExcC K C
/-- the exception is made: known by its dict, the names' values within -/
abbrev exF (H : Hp) (a C d : Addr) (fs : List (Str × V)) : Hp := upd (upd H d (.xd fs)) a (exv a (.ref C) (some d))

section
variable {X : Cx} {W : WX} {k : Nat} {C f : Addr} {ns : List Str} {sp : Sp} {pins : List (Addr × Obj)} {σ : L2.St} {H : Hp} {s : Shared} {Q : VK}
theorem run_makeE {us : List Value} {vs : List V} {R : Addr → V → Hp → Prop} {Z : Value → Shared → Prop} (tk : Takes X W) (M : MkE X.K C f) (F : CallG X.prog X.w X.K X.mg X.base k (.ref f) (pos sp)) (hr : Room (k + 1) X.A) (hg : X.A.guards = some []) (I : Inv X pins σ H s) (r : Vals vs us) (hl : vs.length ≤ 1000)
    (h : ∀ a, H a = none → sp (.ref a :: vs) (upd H a (exo a C none)) (R a) (WE W σ))
    (fin : ∀ (a : Addr) (s' : Shared) (H2 : Hp) (hp hp2 : Heap), s.heap = hp → s.heap.objs.size ≤ a → (∀ b o, hp.get? b = some o → hp2.get? b = some o) → Un (frs X.stack) [] (upd H a (exo a C none)) H2 hp2 s'.heap → HOk X.prog X.w H2 s'.heap → s'.os = s.os → AllBare s'.gens →
      Inv X pins σ H2 s' → R a .non H2 → Z (.ref a) s') (hv : ∀ a v H2, R a v H2 → v = .non) :
    wpAny (model X.prog X.w) X.A (call (.ref C) us) Z X.xe s := by
  obtain ⟨nm, q, N, bs, bm, sn, sub, ab, col, dd, k0, k1, k2, k3, k5, hC, hbm⟩ := M.T.cls
  obtain ⟨hp, g, dr, tk', os⟩ := s
  have hsz : hp.objs.size ≤ hp.objs.size + 1 := Nat.le_succ _
  have hn : H (hp.objs.size + 1) = none := I.hok.fresh hsz
  have hq := h (hp.objs.size + 1) hn
  have kk : ∀ b o, hp.get? b = some o → ((hp.push (PySem.W.kdv_tup us)).push (PySem.HandSPX.excO C hp.objs.size)).get? b = some o := fun b o e => Heap.get?_push_of_some _ (Heap.get?_push_of_some _ e)
  have hget : ((hp.push (PySem.W.kdv_tup us)).push (PySem.HandSPX.excO C hp.objs.size)).get? (hp.objs.size + 1) = some (PySem.HandSPX.excO C hp.objs.size) := by heap_get
  have I2 : Inv X pins σ (upd H (hp.objs.size + 1) (exo (hp.objs.size + 1) C none)) ⟨(hp.push (PySem.W.kdv_tup us)).push (PySem.HandSPX.excO C hp.objs.size), g, dr, tk', os⟩ :=
    I.laid (t' := tk') (a := hp.objs.size + 1) (o := exo (hp.objs.size + 1) C none) (h' := (hp.push (PySem.W.kdv_tup us)).push (PySem.HandSPX.excO C hp.objs.size)) kk hsz (exo_ok hget)
  have r2 : Vals (V.ref (hp.objs.size + 1) :: vs) (Value.ref (hp.objs.size + 1) :: us) := .cons rfl r
  have hus : us.length ≤ sizeLine := by
    rw [← Paired.length r, sizeLine_eq]
    omega
  refine wpAny_call (PySem.HandSPX.call_own PySem.F.excBase_ValueError (fun Y => PySem.HandSPX.refsVE_contains Y bm hbm) (I.kIn _ _ hC) (PySem.W.looks_findIn I.kIn M.init) (fun self => PySem.W.bind_fn I.kIn self M.fn) hus
    (codeAny_mono (F _ X.stack _ _ (Value.ref (hp.objs.size + 1) :: us) [] _ [] _ _ (hr.make C us []) (under_guards hg) (I2.env0.make C us []) r2 .nil ⟨rfl, hq⟩) fun r s' hq' => ?_))
  cases r with
  | error er => exact passAt tk σ pins _ _ er s' I2 hq'
  | ok fl =>
    cases fl with
    | ret u =>
      have I3 := I2.after hq'
      obtain ⟨v, H2, os2, bare2, un2, hok2, rv, ev⟩ := hq'
      obtain rfl := hv _ _ _ ev
      refine ⟨rv, ?_⟩
      have J : Inv X pins σ H2 s' := by
        obtain ⟨hp', g', dr', tk2, os'⟩ := s'
        have e2 : os' = os := os2
        subst e2
        exact I2.call (ch := []) un2 hok2 bare2 (fun b z => absurd z (by simp))
      exact fin (hp.objs.size + 1) s' H2 hp _ rfl hsz kk un2 hok2 os2 bare2 J ev
    | next => exact False.elim hq'
    | brk => exact False.elim hq'
    | cont => exact False.elim hq'

/-- an exception being made becomes one that is known as a value -/
theorem exc_known {s' : Shared} {H : Hp} {a d : Addr} {fs : List (Str × V)} (J : Inv X pins σ (exmk (upd H a (exo a C none)) a C d fs) s') (hd : H d = none) (hda : d ≠ a) : Inv X pins σ (exF H a C d fs) s' := by
  have ea := exmk_a (H := upd H a (exo a C none)) (a := a) (C := C) (dx := d) (fs := fs)
  have ed := exmk_d (H := upd H a (exo a C none)) (a := a) (C := C) (dx := d) (fs := fs) hda
  obtain ⟨mA, hns, rel⟩ := exd_at J.hok ed
  obtain ⟨t1, ho⟩ := exo_at J.hok ea
  have hD : ∃ u, s'.heap.get? d = some u := by
    obtain ⟨o, _, _, e', _⟩ := hns
    exact ⟨o, e'⟩
  obtain ⟨hp', g', dr', tk2, os'⟩ := s'
  have J1 := J.write (t' := tk2) (h' := hp') (x := d) (e := d) (o := .xd fs) (by rw [ed]; exact True.intro) (.inl rfl) (fun b u _ z => z) hD ⟨mA, hns, rel⟩
  have ea1 : upd (exmk (upd H a (exo a C none)) a C d fs) d (.xd fs) a = some (exo a C (some d)) := by rw [upd_ne (Ne.symm hda)]; exact ea
  have J2 := J1.write (t' := tk2) (h' := hp') (x := a) (e := a) (o := exv a (.ref C) (some d)) (by rw [ea1]; exact True.intro) (.inl rfl) (fun b u _ z => z) ⟨_, ho⟩ (exv_ok ho ⟨rfl, rfl⟩ rfl)
  have e : upd (upd (exmk (upd H a (exo a C none)) a C d fs) d (.xd fs)) a (exv a (.ref C) (some d)) = exF H a C d fs := by
    funext b
    unfold exmk
    show _ = upd (upd H d (.xd fs)) a (exv a (.ref C) (some d)) b
    by_cases h1 : b = a
    · subst h1
      rw [upd_same, upd_same]
    · rw [upd_ne h1, upd_ne h1]
      by_cases h2 : b = d
      · subst h2
        rw [upd_same, upd_same]
      · rw [upd_ne h2, upd_ne h2, upd_ne h1, upd_ne h2, upd_ne h1]
  rw [e] at J2
  exact J2
variable {x : Str} {p qs : Pos} {e : Expr} {es : List Expr} {t : TA}
/-- C(e, ..), kept as a value -/
def tMkX (C : Addr) (ns : List Str) (t : TA) : TE := fun σ H Q => t σ H fun vs H1 => vs.length = ns.length ∧ ∀ d a, H1 d = none → upd H1 d (.xd (ns.zip vs).reverse) a = none → Q (.ref a) (exF H1 a C d (ns.zip vs).reverse)
theorem pe_mkX (tk : Takes X W) (M : MkE X.K C f) (F : CallG X.prog X.w X.K X.mg X.base k (.ref f) (pos (spInit C ns))) (hr : Room (k + 1) X.A) (hg : X.A.guards = some []) (kC : PySem.W.keepIn X.K (.ref C) = true) (hx : Gl X x) (hm : X.mg x = some (.ref C)) (ha : PA X (e :: es) t) (hl : ns.length ≤ 1000)
    (hdb : (x == ("__debug__" : Str)) = false := by decide) (he : starEach (e :: es) X.env = (false, eval e X.env) :: starEach es X.env := by rfl) (hpl : (backTo qs (starEach es X.env)).any (·.1) = false := by rfl) :
    PE X (.Call (.Name x p) (e :: es) [] qs) (tMkX C ns t) := by
  refine ⟨fun pins s σ H Q I h => ?_⟩
  refine wpAny_Call_Name_kw (ld_glob I hx hm ?_ hdb)
  refine PySem.W.callWith_K (h₀ := X.base) I.ok.mod.kin kC (thn (ha.run qs pins s σ H _ I h) fun us s1 ⟨vs, H1, I1, r, hv, q⟩ => ⟨I1.kIn, ?_⟩) he hpl
  refine run_makeE (R := fun a v H2 => v = .non ∧ ∃ d, H2 = exmk (upd H1 a (exo a C none)) a C d (ns.zip vs).reverse ∧ H1 d = none ∧ d ≠ a ∧ Q (.ref a) (exF H1 a C d (ns.zip vs).reverse)) tk M F hr hg I1 r (by omega) (fun a ea => ?_) (fun a s' H2 hp hp2 eh hsz kk un hok eos hb J ev => ?_) fun a v H2 z => z.1
  · refine ⟨a, vs, rfl, hv, upd_same, fun dx hdx hne => ?_⟩
    rw [upd_ne hne] at hdx
    exact ⟨rfl, dx, rfl, hdx, hne, q dx a hdx (by rw [upd_ne (Ne.symm hne)]; exact ea)⟩
  · obtain ⟨_, d, e2, ed, hne, q'⟩ := ev
    subst e2
    exact ⟨.ref a, _, exc_known J ed hne, rfl, q'⟩
/-- C(e, ..), to be raised -/
def tRz (C : Addr) (ns : List Str) (t : TA) : L2.St → Hp → XK → Prop := fun σ H Q => t σ H fun vs H1 => vs.length = ns.length ∧ ∀ d, H1 d = none → Q (.ref C) (some d) (upd H1 d (.xd (ns.zip vs).reverse))
theorem pmk_E (M : MkE X.K C f) (tk : Takes X W) (F : CallG X.prog X.w X.K X.mg X.base k (.ref f) (pos (spInit C ns))) (hr : Room (k + 1) X.A) (hg : X.A.guards = some []) (kC : PySem.W.keepIn X.K (.ref C) = true) (hx : Gl X x) (hm : X.mg x = some (.ref C)) (ha : PA X (e :: es) t) (hl : ns.length ≤ 1000)
    (hdb : (x == ("__debug__" : Str)) = false := by decide) (he : starEach (e :: es) X.env = (false, eval e X.env) :: starEach es X.env := by rfl) (hpl : (backTo qs (starEach es X.env)).any (·.1) = false := by rfl) :
    PMk X (.Call (.Name x p) (e :: es) [] qs) (tRz C ns t) := by
  intro pins s σ H Q I h
  refine wpAny_Call_Name_kw (ld_glob I hx hm ?_ hdb)
  refine PySem.W.callWith_K (h₀ := X.base) I.ok.mod.kin kC (thn (ha.run qs pins s σ H _ I h) fun us s1 ⟨vs, H1, I1, r, hv, q⟩ => ⟨I1.kIn, ?_⟩) he hpl
  refine run_makeE (R := fun a v H2 => v = .non ∧ ∃ d, H2 = exmk (upd H1 a (exo a C none)) a C d (ns.zip vs).reverse ∧ H1 d = none ∧ d ≠ a ∧ Q (.ref C) (some d) (upd H1 d (.xd (ns.zip vs).reverse))) tk M F hr hg I1 r (by omega) (fun a ea => ?_) (fun a s' H2 hp hp2 eh hsz kk un hok eos hb J ev => ?_) fun a v H2 z => z.1
  · refine ⟨a, vs, rfl, hv, upd_same, fun dx hdx hne => ?_⟩
    rw [upd_ne hne] at hdx
    exact ⟨rfl, dx, rfl, hdx, hne, q dx hdx⟩
  · obtain ⟨_, d, e2, ed, hne, q'⟩ := ev
    subst e2
    obtain ⟨hp1, g1, dr1, tk1, os1⟩ := s1
    obtain ⟨hp3, g3, dr3, tk3, os3⟩ := s'
    have eu : upd (del (exmk (upd H1 a (exo a C none)) a C d (ns.zip vs).reverse) a) d (.xd (ns.zip vs).reverse) = upd H1 d (.xd (ns.zip vs).reverse) := by
      funext b
      by_cases h2 : b = d
      · subst h2
        rw [upd_same, upd_same]
      · rw [upd_ne h2, upd_ne h2]
        by_cases h1 : b = a
        · subst h1
          rw [del_same]
          exact (I1.hok.fresh (by subst eh; exact hsz)).symm
        · rw [del_ne h1]
          unfold exmk
          rw [upd_ne h1, upd_ne h2, upd_ne h1]
    have z := mk_end (Q := Q) (d2 := dr3) (t2 := tk3) (raises_own M.T.exC M.T.tyC) I1 (by subst eh; exact hsz) (by subst eh; exact kk) un hok eos hb exmk_a (exmk_d hne) ed (by rw [eu]; exact q')
    exact z
end

/-! ### attributes, isinstance -/
section
variable {X : Cx}
/-- e.n, e an own exception -/
def tXfld (K : PySem.W.Frag) (n : Str) (te : TE) : TE := fun σ H Q => te σ H fun x H1 => ∃ (a C d : Addr) (fs : List (Str × V)) (v : V), x = .ref a ∧ H1 a = some (exv a (.ref C) (some d)) ∧ H1 d = some (.xd fs) ∧ XfC K C ∧ PySem.W.findIn K (.ref C) n = some none ∧ fs.lookup n = some v ∧ Q v H1
theorem pe_xfld {e : Expr} {te : TE} {pos : Pos} {n : Str} (he : PE X e te) (hb : attributeBase e n X.env (eval e X.env) = eval e X.env := by rfl) : PE X (.Attribute e n pos) (tXfld X.K n te) := by
  refine ⟨fun pins s σ H Q I h => ?_⟩
  refine attr_of hb (thn (he.run pins s σ H _ I h) fun u s1 hh => ?_)
  obtain ⟨x, H1, I1, rx, a, C, dd, fs, v, ex, ha, ed, T, hno, l, q⟩ := hh
  subst ex
  obtain rfl : u = Value.ref a := rx
  obtain ⟨oe, vs, hoe, hz, hd⟩ := exv_at I1.hok ha
  have hx : ObjOk X.prog X.w H1 s1.heap dd (.xd fs) := I1.hok dd _ ed
  obtain ⟨mA, hns, hr⟩ := hx
  obtain ⟨od, ho, hl⟩ := lookIn_ns hns
  obtain ⟨u, hu, ru⟩ := RelO.some_of (v := v) (o := mA n) (by rw [← l]; exact hr n)
  have J : PySem.W.InstAt s1.heap a oe C (some od) := ⟨hoe, hz.1, by unfold PySem.W.notCls; rw [hd] <;> rfl, by rw [hz.2]; exact ho⟩
  exact HandSPX.exc_get I1.kIn J T.ga T.gg T.exC (PySem.W.findObj_own T.hdC hno rfl (by rw [hl, hu])) (handed_of ru) ⟨v, H1, I1.tok _, ru, q⟩
/-- isinstance(e, c), e an own exception -/
def rIsX (K : PySem.W.Frag) : List V → Hp → VK → Prop := fun xs H Q => ∃ (a C : Addr) (d : Option Addr) (c : V) (cv : Value) (b : Bool), xs = [.ref a, c] ∧ H a = some (exv a (.ref C) d) ∧ (∀ dd, d = some dd → ∃ fs, H dd = some (.xd fs)) ∧ ExcC K C ∧ (∀ u, RelV c u → u = cv) ∧ PySem.W.kitOne K (.ref C) cv = some b ∧ Q (.bl b) H
theorem inst_x {pins : List (Addr × Obj)} {σ : L2.St} {H : Hp} {s : Shared} {a C : Addr} {d : Option Addr} (I : Inv X pins σ H s) (ha : H a = some (exv a (.ref C) d)) (hd : ∀ dd, d = some dd → ∃ fs, H dd = some (.xd fs)) : ∃ ox od, PySem.W.InstAt s.heap a ox C od := by
  obtain ⟨oe, vs, hoe, hz, hdt⟩ := exv_at I.hok ha
  cases d with
  | none => exact ⟨oe, none, hoe, hz.1, by unfold PySem.W.notCls; rw [hdt] <;> rfl, by rw [hz.2]; trivial⟩
  | some dd =>
    obtain ⟨fs, ed⟩ := hd dd rfl
    have hx : ObjOk X.prog X.w H s.heap dd (.xd fs) := I.hok dd _ ed
    obtain ⟨mA, hns, hr⟩ := hx
    obtain ⟨od, ho, hl⟩ := lookIn_ns hns
    exact ⟨oe, some od, hoe, hz.1, by unfold PySem.W.notCls; rw [hdt] <;> rfl, by rw [hz.2]; exact ho⟩
theorem call_isX : CallR X (.builtin "isinstance") (rIsX X.K) := by
  intro pins s σ H xs us Q I r h
  obtain ⟨a, C, d, c, cv, b, rfl, ha, hd, T, hcv, e, q⟩ := h
  obtain ⟨ox, od, J⟩ := inst_x I ha hd
  cases r with
  | cons rx rr =>
    cases rr with
    | cons rt rr =>
      cases rr
      cases rx
      have ec := hcv _ rt
      subst ec
      obtain ⟨cd, hc, _⟩ := PySem.W.any_some T.hd
      exact PySem.W.kia_one (PySem.W.kitx_exc (by rw [hc]; rfl) T.hg T.hk T.hs T.ha T.hn T.ht T.hm) I.kIn J e (fun z => nomatch z) fun tk => ⟨.bl b, H, I.kept (t' := tk) fun _ _ z => z, rfl, q⟩
/-- isinstance(e, (c, ..)) -/
def rIsXt (K : PySem.W.Frag) : List V → Hp → VK → Prop := fun xs H Q => ∃ (a C p : Addr) (d : Option Addr) (cs : List Addr) (b : Bool), xs = [.ref a, .ref p] ∧ H a = some (exv a (.ref C) d) ∧ (∀ dd, d = some dd → ∃ fs, H dd = some (.xd fs)) ∧ ExcC K C ∧ H p = some (.tup (cs.map V.ref)) ∧ PySem.W.kitAny K (.ref C) (cs.map Value.ref) = some b ∧ Q (.bl b) H
theorem vals_refs : ∀ {cs : List Addr} {us : List Value}, Vals (cs.map V.ref) us → us = cs.map Value.ref
  | [], _, h => by cases h; rfl
  | c :: cs, _, h => by
    cases h with
    | cons a r =>
      cases a
      rw [vals_refs r] <;> rfl
theorem call_isXt : CallR X (.builtin "isinstance") (rIsXt X.K) := by
  intro pins s σ H xs us Q I r h
  obtain ⟨a, C, p, d, cs, b, rfl, ha, hd, T, hp, e, q⟩ := h
  obtain ⟨ox, od, J⟩ := inst_x I ha hd
  have ht : ObjOk X.prog X.w H s.heap p (.tup (cs.map V.ref)) := I.hok p _ hp
  obtain ⟨_, its, hv, ⟨o, ho, hcl, n, hdt⟩⟩ := ht
  obtain rfl := vals_refs hv
  cases r with
  | cons rx rr =>
    cases rr with
    | cons rt rr =>
      cases rr
      cases rx
      cases rt
      obtain ⟨cd, hc, _⟩ := PySem.W.any_some T.hd
      obtain ⟨oc, od', odt, osl⟩ := o
      dsimp only at hcl hdt
      subst hcl hdt
      exact PySem.W.kia_tup (PySem.W.kitx_exc (by rw [hc]; rfl) T.hg T.hk T.hs T.ha T.hn T.ht T.hm) I.kIn J ho e (fun z => nomatch z) fun tk => ⟨.bl b, H, I.kept (t' := tk) fun _ _ z => z, rfl, q⟩
end
end Uk

/-! UkR: try: body / except x as n: suite, where the exception may be kept -/
namespace Uk
open PySem PySem.Spec PyProof.Rows L2 StX
section
variable {X : Cx} {pins : List (Addr × Obj)} {σ : L2.St} {H : Hp} {s : Shared} {a : Addr} {cls : Value} {d : Option Addr} {oe : Obj} {vs : Array Value}
/-- an object of the air is known from now on -/
theorem adopt (I : Inv X pins σ H s) (na : H a = none) (h0 : X.s_0.heap.get? a = none) (hoe : s.heap.get? a = some oe) (hz : Zc cls d oe) (hd : oe.data = .fields vs) (np : ∀ p ∈ X.pn ++ pins, p.1 ≠ a) (nl : a ≠ X.env.locals)
    (nc : ∀ y c, X.env.cells.lookup y = some c → c ≠ a) : Inv X pins σ (upd H a (exv a cls d)) s := by
  refine ⟨I.ok, I.os, I.bare, ⟨I.base.keep, I.base.slot, fun b o e n hx => ?_, I.base.there, fun b xs e => ?_, fun b o u e => ?_, fun b ps e => ?_⟩, I.loc, I.cell, ?_, fun y c e => ?_, fun p hp => ?_, fun b u e => ?_, I.len⟩
  · have nb : b ≠ a := fun z => by rw [z, h0] at e; cases e
    rw [upd_ne nb]
    exact I.base.free b o e n hx
  · have q := I.base.tups b xs e
    rw [upd_ne (ne_of_none q na)]
    exact q
  · have q := I.base.frzs b o u e
    rw [upd_ne (ne_of_none q na)]
    exact q
  · obtain ⟨m, q⟩ := I.base.tbls b ps e
    exact ⟨m, by rw [upd_ne (ne_of_none q na)]; exact q⟩
  · rw [upd_ne (Ne.symm nl)]
    exact I.free
  · rw [upd_ne (nc y c e)]
    exact I.freeC y c e
  · obtain ⟨e, n, ne, nf, dd⟩ := I.pin p hp
    exact ⟨e, by rw [upd_ne (np p hp)]; exact n, ne, nf, dd⟩
  · by_cases hb : b = a
    · subst hb
      rw [upd_same] at e
      cases e
      exact exv_ok hoe hz hd
    · rw [upd_ne hb] at e
      exact (I.hok b u e).stay (fun c v _ q => q) (fun c q => by rw [upd_ne (ne_of_none q na)]; exact q) fun c xs q => by rw [upd_ne (ne_of_none q na)]; exact q
end
/-- what the clause 'except x as n' wishes of an exception of the body, which may be kept: slot i is n's -/
def wKeep (K : PySem.W.Frag) (c : Value) (i : Nat) (ts : Addr → Value → Option Addr → TS) (Wout : WX) (D : Ends) : WX := fun cls d σ H =>
  ∃ b, PySem.W.exmOne K cls c = some b ∧ (b = true → ∀ a, H a = none → ts a cls d
    { nx := fun σ' H' => D.nx (σ'.set i none) (upd H' a (exv a cls d)), rt := fun v H' => D.rt v (upd H' a (exv a cls d)), bk := fun σ' H' => D.bk (σ'.set i none) (upd H' a (exv a cls d)), ct := fun σ' H' => D.ct (σ'.set i none) (upd H' a (exv a cls d)) }
    (σ.set i (some (.ref a))) H) ∧ (b = false → Wout cls d σ H)
section
variable {X : Cx} {x n : Str} {c : Value} {i : Nat} {body suite : List Stmt} {b₀ : Stmt} {np pos pos' : Pos} {tb : WX → List (Addr × Obj) → (Value → Shared → Prop) → TS} {ts : Addr → Value → Option Addr → TS} {Wout : WX}
theorem ps_try_keep (hs : X.stack = X.env :: X.outer) (hf : X.env.frame = some X.env.locals) (hex : X.ex = []) (hN : X.N.Nodup) (hi : X.N[i]? = some n) (hln : X.env.kindOf n = some .local) (hc : Names X x c) (tk : Takes X Wout)
    (hb : ∀ (W : WX) (pn : List (Addr × Obj)) (xe : Value → Shared → Prop), Takes (X.tr pn xe) W → PassesOwn (model X.prog X.w) X.A X.env xe → PSs (X.tr pn xe) body (tb W pn xe))
    (hsu : ∀ (a : Addr) (oe : Obj) (cls : Value) (d : Option Addr) (pn : List (Addr × Obj)), Zc cls d oe → (∃ vs, oe.data = .fields vs) → PSs (X.suite a ((a, oe) :: pn)) (b₀ :: suite) (ts a cls d)) :
    PS X (.Try body [.ExceptHandler (some (.Name x np)) (some n) (b₀ :: suite) pos'] [] [] pos) (fun D σ H => ∀ pn xe, tb (wKeep X.K c i ts Wout D) pn xe D σ H) := by
  refine ⟨fun pins s σ H D I h => ?_⟩
  have ok := I.ok
  have hfr : X.A.frames = some (X.env :: X.outer) := by rw [ok.frames, hs]
  have hloc : Loc X.env.scope n := .inl hln
  refine wpAny_Try_except ?_
  refine wpAny_mono ((hb (wKeep X.K c i ts Wout D) (X.pn ++ pins) (fun e s₁ => wpAny (model X.prog X.w) X.A (noteFrame e X.env) (fun _ s₂ => wpAny (model X.prog X.w) X.A (setFlight e none) (fun _ s₃ =>
    wpAny (model X.prog X.w) X.A (handleBy e X.env [.ExceptHandler (some (.Name x np)) (some n) (b₀ :: suite) pos']) (SP X pins D) X.xe s₃) X.xe s₂) X.xe s₁) (fun u s' xx => ?_) PassesOwn.looking).run [] s σ H D (I.toTry _) (h _ _)) (fun f s1 hsp => ?_) (fun e s1 he => he)
  · obtain ⟨a, B, sI, pins', σ', H', cls, d, rfl, J', nb, up, sky, na, os, ag, b, hb1, hyes, hno⟩ := xx
    have J : Inv X pins σ' H' sI := J'.ofTry ok
    have sky' : Sky B (X.env :: X.outer) a (Zc cls d) X.env.locals s'.heap := by rw [← hs]; exact sky
    have nb : ∀ b o, sI.heap.get? b = some o → b ∉ frs X.stack → B.get? b = some o := nb
    show wpAny (model X.prog X.w) X.A (noteFrame (.ref a) X.env) _ _ _
    refine Sky.land Zc.steady hfr hf sky' fun h3 fl3 up3 => ?_
    have J3 : Inv X pins σ' H' { s' with heap := h3 } := J.landed nb fl3.1 (up.trans up3) os ag
    obtain ⟨oe3, vs3, he3, hz3, hd3⟩ := fl3.there
    have notFr : ∀ {h : Heap} {o : Obj} {vs : Array Value}, h.FunFrames B (X.env :: X.outer) → h.get? a = some o → o.data = .fields vs → a ∉ frs (X.env :: X.outer) := fun {h o vs} ff e dd hm => by
      obtain ⟨_, o', e', hnf⟩ := ff.mem hm
      rw [e] at e'; cases e'
      exact hnf _ dd
    have nfr := notFr fl3.2.2.1 he3 hd3
    have notI : ∀ {c : Addr} {o : Obj}, sI.heap.get? c = some o → c ≠ a := fun {c o} e z => by
      subst z
      have y := nb _ o e (by rw [hs]; exact nfr)
      rw [fl3.2.1] at y
      cases y
    have h0 : X.s_0.heap.get? a = none := by
      cases z : X.s_0.heap.get? a with
      | none => rfl
      | some o =>
        obtain ⟨o', e'⟩ := J.base.there a o z (by rw [hex]; exact fun y => nomatch y)
        exact absurd rfl (notI e')
    have nL : a ≠ X.env.locals := fun z => nfr (List.mem_filterMap.mpr ⟨X.env, List.mem_cons_self, by rw [hf, z]⟩)
    have nF : a ∉ X.fs := fun hm => by
      obtain ⟨e, he, q⟩ := List.mem_filterMap.mp hm
      exact nfr (List.mem_filterMap.mpr ⟨e, List.mem_cons_of_mem _ he, q⟩)
    have hnp : ∀ p ∈ X.pn ++ pins, p.1 ≠ a := fun p hp => notI (J.pin p hp).1
    have hnc : ∀ y c, X.env.cells.lookup y = some c → c ≠ a := fun y c e => by
      obtain ⟨v, o, z, _⟩ := J.cell y c e
      exact notI z
    have S3 := J3.suite he3 hd3 na nL nF
    refine wpAny_handleBy_cons (codeAny_handlers_test ?_) (by intro q; cases q)
    have LT : PySem.W.Looks (model X.prog X.w) h3 (typeOf (.ref a)) cls := fun A Q E s k q => wpAny_typeOf_ref (k _ _ he3) (by rw [hz3.1]; exact q)
    have LM := PySem.W.exm_one (M := model X.prog X.w) (J3.kIn) LT hb1
    have test : ∀ {Q : Value → Shared → Prop} {E : Value → Shared → Prop}, Q c { s' with heap := h3 } → wpAny (model X.prog X.w) (X.A.mark (some (.ref a))) (eval (.Name x np) X.env) Q E { s' with heap := h3 } := fun {Q E} q => by
      obtain ⟨hg, hdbg, hm | ⟨hm, hv, hnn⟩⟩ := hc
      · exact ld_glob (X := X.suite a ((a, oe3) :: (X.pn ++ pins))) S3 hg hm q hdbg
      · exact ld_blt (X := X.suite a ((a, oe3) :: (X.pn ++ pins))) S3 hg hm hv q hnn hdbg
    refine test (LM.here ?_)
    cases b with
    | true =>
      refine codeAny_handlers_suite_as ?_
      refine HandSPX.lands_againZ fl3 fun h4 fl4 up4 => ?_
      have J4 : Inv X pins σ' H' { s' with heap := h4 } := J.landed nb fl4.1 ((up.trans up3).trans up4) os ag
      obtain ⟨oe4, vs4, he4, hz4, hd4⟩ := fl4.there
      have S4 := J4.suite he4 hd4 na nL nF
      refine store_ok (X := X.suite a ((a, oe4) :: (X.pn ++ pins))) (v := .ref a) S4 hN hi hloc rfl (fun s5 S5 => ?_) (.inr hln)
      refine wpAny_mono ((hsu a oe4 cls d (X.pn ++ pins) hz4 ⟨_, hd4⟩).run [] s5 _ H' _ S5 (hyes rfl a na)) (fun f s6 hsp => ?_) (fun _ _ z => False.elim z)
      have end_ : ∀ {σ6 : L2.St} {H6 : Hp} {Q : Shared → Prop}, Inv (X.suite a ((a, oe4) :: (X.pn ++ pins))) [] σ6 H6 s6 → (∀ s7, Inv X pins (σ6.set i none) (upd H6 a (exv a cls d)) s7 → Q s7) →
          wpAny (model X.prog X.w) X.A (do bindName X.env n .none; unbindBehindTheSuite X.env n pos') (fun _ s7 => Q s7) X.xe s6 := fun {σ6 H6 Q} S6 hq => by
        have T6 : Inv X ((a, oe4) :: pins) σ6 H6 s6 := ⟨ok, S6.os, S6.bare, S6.base, S6.loc, S6.cell, S6.free, S6.freeC, fun p hp => S6.pin p (by
          rw [List.append_nil]
          rcases List.mem_append.mp hp with z | z
          · exact List.mem_cons_of_mem _ (List.mem_append_left _ z)
          · rcases List.mem_cons.mp z with z | z
            · rw [z]; exact List.mem_cons_self
            · exact List.mem_cons_of_mem _ (List.mem_append_right _ z)), S6.hok, S6.len⟩
        refine gone_ok T6 hN hi hln fun s7 T7 => hq s7 ?_
        obtain ⟨y1, y2, _⟩ := T7.pin (a, oe4) (List.mem_append_right _ List.mem_cons_self)
        exact adopt (ClX.unpin T7) y2 h0 y1 hz4 hd4 hnp nL hnc
      cases f with
      | next =>
        obtain ⟨σ6, H6, S6, q6⟩ := hsp
        exact end_ S6 fun s7 J7 => ⟨_, _, J7, q6⟩
      | brk =>
        obtain ⟨σ6, H6, S6, q6⟩ := hsp
        exact end_ S6 fun s7 J7 => ⟨_, _, J7, q6⟩
      | cont =>
        obtain ⟨σ6, H6, S6, q6⟩ := hsp
        exact end_ S6 fun s7 J7 => ⟨_, _, J7, q6⟩
      | ret u =>
        obtain ⟨v6, σ6, H6, S6, r6, q6⟩ := hsp
        exact end_ S6 fun s7 J7 => ⟨_, _, _, J7, r6, q6⟩
    | false =>
      show wpAny _ X.A (handleBy (.ref a) X.env []) _ _ _
      refine wpAny_handleBy_nil ?_
      obtain ⟨k1, k2, k3, oe, vs, T, oT, ts', he, hz, hd, h1, hr⟩ := id fl3
      unfold PySem.passOn
      refine wpAny_bind (wpAny_field he hd h1 ?_)
      rw [if_neg (show ¬ ((Value.ref T == Value.none) = true) from by simp)]
      have fin : wpAny (model X.prog X.w) X.A (setFlight (.ref a) X.env.frame) (fun _ s4 => wpAny (model X.prog X.w) X.A (throw (.ref a) : Sem Flow) (SP X pins D) X.xe s4) X.xe { s' with heap := h3 } := by
        rw [hf]
        refine HandSPX.setFlight_upZ fl3 fun h4 hh4 up4 => wpAny_throw (tk _ _ ?_)
        exact ⟨a, B, sI, pins, σ', H', cls, d, rfl, J, nb, (up.trans up3).trans up4, .inr (.inr (by rw [hs]; exact hh4)), na, os, ag, hno rfl⟩
      first
        | exact wpAny_bind (wpAny_pure (wpAny_bind fin))
        | exact wpAny_bind fin
  · cases f with
    | next =>
      obtain ⟨σ', H', J', q⟩ := hsp
      exact wpAny_execs_nil ⟨σ', H', J'.ofTry ok, q⟩
    | brk =>
      obtain ⟨σ', H', J', q⟩ := hsp
      exact ⟨σ', H', J'.ofTry ok, q⟩
    | cont =>
      obtain ⟨σ', H', J', q⟩ := hsp
      exact ⟨σ', H', J'.ofTry ok, q⟩
    | ret u =>
      obtain ⟨v, σ', H', J', r, q⟩ := hsp
      exact ⟨v, σ', H', J'.ofTry ok, r, q⟩
end
end Uk

/-! UkS: repr of data with dicts within -/
namespace Uk
open PySem PySem.Spec PyProof.Rows L2 StX

def kD : Key → PyData
  | .inl i => .int i
  | .inr x => .str x
mutual
inductive Dq (K : PySem.W.Frag) (H : Hp) : V → PyData → Prop
  | non : Dq K H .non .none
  | bl (b : Bool) : Dq K H (.bl b) (.bool b)
  | int (i : Int) : Dq K H (.int i) (.int i)
  | str (x : Str) : Dq K H (.str x) (.str x)
  | lst {a : Addr} {xs : List V} {ds : List PyData} : H a = some (.lst xs) → DqAll K H xs ds → Dq K H (.ref a) (.list ds)
  | tup {a : Addr} {xs : List V} {ds : List PyData} : SqT K H a xs → DqAll K H xs ds → Dq K H (.ref a) (.tuple ds)
  | dct {a : Addr} {kvs : List (Key × V)} {ps : List (PyData × PyData)} : H a = some (.dK kvs) → DqKv K H kvs ps → Dq K H (.ref a) (.dict ps)
inductive DqAll (K : PySem.W.Frag) (H : Hp) : List V → List PyData → Prop
  | nil : DqAll K H [] []
  | cons {v : V} {vs : List V} {d : PyData} {ds : List PyData} : Dq K H v d → DqAll K H vs ds → DqAll K H (v :: vs) (d :: ds)
inductive DqKv (K : PySem.W.Frag) (H : Hp) : List (Key × V) → List (PyData × PyData) → Prop
  | nil : DqKv K H [] []
  | cons {k : Key} {v : V} {r : List (Key × V)} {d : PyData} {ps : List (PyData × PyData)} : Dq K H v d → DqKv K H r ps → DqKv K H ((k, v) :: r) ((kD k, d) :: ps)
end
section
variable {K : PySem.W.Frag} {H H' : Hp}
mutual
theorem dq_mono (e : Same H H') : ∀ {d : PyData} {v : V}, Dq K H v d → Dq K H' v d
  | .none, _, h => by cases h; exact .non
  | .bool b, _, h => by cases h; exact .bl b
  | .int i, _, h => by cases h; exact .int i
  | .str x, _, h => by cases h; exact .str x
  | .list ds, _, h => by
    cases h with
    | lst a r => exact .lst (e _ _ a) (dqAll_mono e r)
  | .tuple ds, _, h => by
    cases h with
    | tup a r => exact .tup (st_mono e a) (dqAll_mono e r)
  | .dict ps, _, h => by
    cases h with
    | dct a r => exact .dct (e _ _ a) (dqKv_mono e r)
theorem dqAll_mono (e : Same H H') : ∀ {ds : List PyData} {vs : List V}, DqAll K H vs ds → DqAll K H' vs ds
  | [], _, h => by cases h; exact .nil
  | d :: ds, _, h => by
    cases h with
    | cons a r => exact .cons (dq_mono e a) (dqAll_mono e r)
theorem dqKv_mono (e : Same H H') : ∀ {ps : List (PyData × PyData)} {kvs : List (Key × V)}, DqKv K H kvs ps → DqKv K H' kvs ps
  | [], _, h => by cases h; exact .nil
  | p :: ps, _, h => by
    cases h with
    | cons a r => exact .cons (dq_mono e a) (dqKv_mono e r)
end
end
section
variable {X : Cx} {pins : List (Addr × Obj)} {σ : L2.St} {H : Hp} {s : Shared}
/-- what stands in the ground is tracked by nobody -/
theorem untracked {b : Addr} {o : Obj} (I : Inv X pins σ H s) (h : X.base.get? b = some o) : H b = none := by
  have z := I.ok.bs b o h
  exact I.base.free b o z.1 z.2 (I.ok.noex b o h)
theorem ne_sys {a : Addr} {u : HO} (hB : ∃ o, X.base.get? sysModules = some o) (I : Inv X pins σ H s) (h : H a = some u) : a ≠ sysModules := fun z => by
  obtain ⟨o, e⟩ := hB
  rw [z, untracked I e] at h
  cases h
mutual
theorem dq_reads (hB : ∃ o, X.base.get? sysModules = some o) (I : Inv X pins σ H s) : ∀ (d : PyData) (v : V) (u : Value), Dq X.K H v d → RelV v u → ∃ as, Reads s.heap u d as ∧ sysModules ∉ as
  | .none, _, _, h, r => by
    cases h
    cases r
    exact ⟨_, Reads.none, by simp⟩
  | .bool b, _, _, h, r => by
    cases h
    cases r
    exact ⟨_, Reads.bool b, by simp⟩
  | .int i, _, _, h, r => by
    cases h
    obtain ⟨t, rfl⟩ := r
    exact ⟨_, Reads.int i t, by simp⟩
  | .str x, _, _, h, r => by
    cases h
    obtain ⟨t, rfl⟩ := r
    exact ⟨_, Reads.str x t, by simp⟩
  | .list ds, _, _, h, r => by
    cases h with
    | lst hs ha =>
      cases r
      obtain ⟨its, rv, ⟨o, n, ho, hc, _, hd⟩, _⟩ := I.list (SqL.of hs)
      obtain ⟨as, hr, hn⟩ := dqAll_reads hB I ds _ its ha rv
      exact ⟨_, Reads.list ho hc hd hr, fun z => (List.mem_cons.mp z).elim (fun e => ne_sys hB I hs e.symm) hn⟩
  | .tuple ds, _, _, h, r => by
    cases h with
    | tup hs ha =>
      cases r
      obtain ⟨its, rv, ⟨o, ho, hc, n, hd⟩, _⟩ := I.tuple hs
      obtain ⟨as, hr, hn⟩ := dqAll_reads hB I ds _ its ha rv
      exact ⟨_, Reads.tuple ho hc hd hr, hn⟩
  | .dict ps, _, _, h, r => by
    cases h with
    | dct hs ha =>
      cases r
      obtain ⟨_, hne, vs, kv, o, es, ep, ho, hx, hd, _, hp, _⟩ := dk_of I.hok hs
      obtain ⟨as, bs, r1, r2, n1, n2⟩ := dqKv_reads hB I ps _ vs es.toList ha kv hp
      refine ⟨_, Reads.dict ho hx.1 hd r1 r2, fun z => ?_⟩
      rcases List.mem_append.mp z with z | z
      · rcases List.mem_cons.mp z with z | z
        · exact (beq_eq_false_iff_ne.mp hne) z.symm
        · exact n1 z
      · exact n2 z
theorem dqAll_reads (hB : ∃ o, X.base.get? sysModules = some o) (I : Inv X pins σ H s) : ∀ (ds : List PyData) (vs : List V) (us : List Value), DqAll X.K H vs ds → Vals vs us → ∃ as, ReadsAll s.heap us ds as ∧ sysModules ∉ as
  | [], _, _, h, r => by
    cases h
    cases r
    exact ⟨_, ReadsAll.nil, by simp⟩
  | d :: ds, _, _, h, r => by
    cases h with
    | cons h1 h2 =>
      cases r with
      | cons r1 r2 =>
        obtain ⟨as, q1, n1⟩ := dq_reads hB I d _ _ h1 r1
        obtain ⟨bs, q2, n2⟩ := dqAll_reads hB I ds _ _ h2 r2
        exact ⟨_, ReadsAll.cons q1 q2, fun z => (List.mem_append.mp z).elim n1 n2⟩
theorem dqKv_reads (hB : ∃ o, X.base.get? sysModules = some o) (I : Inv X pins σ H s) : ∀ (ps : List (PyData × PyData)) (kvs : List (Key × V)) (vs : List (Key × Value)) (es : List DictEntry), DqKv X.K H kvs ps → KV kvs vs → Pairs (mixKind X.prog X.w) es vs →
    ∃ as bs, ReadsAll s.heap (es.map (·.key)) (ps.map (·.1)) as ∧ ReadsAll s.heap (es.map (·.val)) (ps.map (·.2)) bs ∧ sysModules ∉ as ∧ sysModules ∉ bs
  | [], _, _, _, h, r, p => by
    cases h
    cases r
    cases p
    exact ⟨_, _, ReadsAll.nil, ReadsAll.nil, by simp, by simp⟩
  | q :: ps, _, _, _, h, r, p => by
    cases h with
    | cons h1 h2 =>
      cases r with
      | cons r1 r2 =>
        cases p with
        | cons p1 p2 p3 =>
          obtain ⟨as, bs, x1, x2, n1, n2⟩ := dqKv_reads hB I ps _ _ _ h2 r2 p3
          obtain ⟨cs, y, n3⟩ := dq_reads hB I _ _ _ h1 (by rw [← p2] at r1; exact r1.2)
          have hk := r1.1
          refine ⟨[] ++ as, cs ++ bs, ReadsAll.cons ?_ x1, ReadsAll.cons y x2, by simpa using n1, fun z => (List.mem_append.mp z).elim n3 n2⟩
          rcases keyIs_shape (k := _) (v := _) p1 with ⟨i, t, e1, e2⟩ | ⟨x, t, e1, e2⟩
          · dsimp only at hk ⊢
            rw [hk, e1, e2]
            exact Reads.int i t
          · dsimp only at hk ⊢
            rw [hk, e1, e2]
            exact Reads.str x t
end
end
def rReprQ (K : PySem.W.Frag) : List V → Hp → VK → Prop := fun xs H Q => ∃ v d, xs = [v] ∧ Dq K H v d ∧ Shw d ∧ Q (.str d.shown) H
theorem call_reprQ {X : Cx} (hB : ∃ o, X.base.get? sysModules = some o) (hg : X.A.guards = some []) (hu : X.A.units + 64 < cLine) : CallR X (.builtin "repr") (rReprQ X.K) := by
  intro pins s σ H xs us Q I r h
  obtain ⟨v, d, rfl, hd, ⟨h1, h2, h3⟩, q⟩ := h
  obtain ⟨u, rfl, rv⟩ := vals1 r
  have refs : ∀ {a : Addr}, v = .ref a → wpAny (model X.prog X.w) X.A (call (.builtin "repr") [u]) (EP X pins σ Q) X.xe s := fun {a} e => by
    obtain ⟨as, rd, no⟩ := dq_reads hB I _ _ u hd rv
    subst e
    obtain rfl : u = Value.ref a := rv
    exact repr_of_reads' rd h1 (fun _ => no) hg (by omega) (fun _ _ z => z) (fun h' u tk k => ⟨.str _, H, I.kept k, ⟨_, rfl⟩, q⟩) h2
  cases hd with
  | non => cases (show u = Value.none from rv); exact PySem.P.repr_of_none ⟨.str _, H, I.tok _, ⟨_, rfl⟩, q⟩
  | bl b =>
    cases (show u = Value.bool b from rv)
    refine PySem.P.repr_of_bool ⟨.str _, H, I.tok _, ⟨_, rfl⟩, ?_⟩
    cases b <;> exact q
  | int i =>
    obtain ⟨t, rfl⟩ := (show ∃ t, u = Value.int i t from rv)
    exact PySem.P.repr_of_int (of_decide_eq_true h1) ⟨.str _, H, I.tok _, ⟨_, rfl⟩, q⟩
  | str x =>
    obtain ⟨t, rfl⟩ := (show ∃ t, u = Value.str x t from rv)
    exact PySem.P.repr_of_str ⟨.str _, H, I.tok _, ⟨_, rfl⟩, q⟩ h2
  | lst a r => exact refs rfl
  | tup a r => exact refs rfl
  | dct a r => exact refs rfl
end Uk

/-! UkT: calls by keywords of defs that say super(), of own exceptions -/
namespace Uk
namespace Kx
open PySem
section
variable {M : Model} {A : Around} {E : Value → Shared → Prop} {h : Heap} {g : Array GenState} {d : Drawn} {t : Nat} {os : OsState}
variable {nm q : Str} {C N : Addr} {bs bm bmB : List Value} {hdct : Bool} {sn : List Str} {sub : List Value} {ab : Bool} {col : Option Bool} {dd : Option Addr} {k0 k1 k2 k3 k5 : Option Value} {B newId initId : String}
theorem kx_check_new (F : ExcBaseFacts B newId initId bmB) (hT : ∀ X : String, bm.contains (.type X) = bmB.contains (.type X)) {rest : List Value} {kw : List (Str × Value)} {Q : Unit → Shared → Prop}
    (hC : h.get? C = some (excClassObj nm q C N bs bm hdct sn sub ab col dd k0 k1 k2 k3 k5 newId)) (hq : Q () ⟨h, g, d, t, os⟩) : wpAny M A (checkBuiltinCall newId ⟨.ref C :: rest, kw⟩) Q E ⟨h, g, d, t, os⟩ := by
  have hcont : (Value.ref C :: bm).contains (.type B) = true := by rw [List.contains_cons, hT, F.hasB, Bool.or_true]
  have hstar := F.noStar
  simp only [checkBuiltinCall, F.newKind, F.newSplit, F.newRow]
  repeat (first | refine wpAny_loadPart_at hC ?_ | (refine wpAny_isSubtype_exc hC ?_; rw [hcont]) | refine wpAny_staticBase_exc hC ?_ | refine wpAny_madeBy_exc hC ?_ | simp only [bne_self_eq_false, Bool.false_eq_true, if_false] | wp_step)
  exact hq
end
section
variable {prog : Program} {w : World} {A : Around} {E : Value → Shared → Prop} {R : Result → Shared → Prop} {h : Heap} {g : Array GenState} {d : Drawn} {t : Nat} {os : OsState}
variable {nm q : Str} {C N : Addr} {bs bm bmB : List Value} {hdct : Bool} {sn : List Str} {sub : List Value} {ab : Bool} {col : Option Bool} {dd : Option Addr} {k0 k1 k2 k3 k5 : Option Value} {B newId initId : String}
theorem kx_new (F : ExcBaseFacts B newId initId bmB) (hT : ∀ X : String, bm.contains (.type X) = bmB.contains (.type X)) {rest : List Value} {kw : List (Str × Value)}
    (hC : h.get? C = some (excClassObj nm q C N bs bm hdct sn sub ab col dd k0 k1 k2 k3 k5 newId))
    (hq : R (.ok (.ret (.ref (h.objs.size + 1)))) ⟨(h.push { cls := .type "tuple", data := .seq rest.toArray }).push
      { cls := .ref C, data := .fields #[.ref h.objs.size, .none, .none, .none, .bool false, .none] }, g, d, t, os⟩) (hrest : rest.length ≤ sizeLine) :
    codeAny (model prog w) A (.builtin newId ⟨.ref C :: rest, kw⟩) R ⟨h, g, d, t, os⟩ := by
  have hends := F.ends
  have hcB : (Value.ref C :: bm).contains (.type B) = true := by rw [List.contains_cons, hT, F.hasB, Bool.or_true]
  have hcA : (Value.ref C :: bm).contains (.type "AttributeError") = false := by rw [List.contains_cons, hT, F.noAttr]; rfl
  have hcN : (Value.ref C :: bm).contains (.type "NameError") = false := by rw [List.contains_cons, hT, F.noName]; rfl
  refine codeAny_builtinAt F.entry ?_
  unfold Builtin.«BaseException.__new__»
  refine wpAt_bind ?_
  show wpAt _ _ _ (stack >>= _) _ _ _
  refine wpAt_bind (wpAt_stack fun p below => wpAt_of_wpAny ?_)
  wp_walk
  refine wpAt_of_wpAny ?_
  rw [F.owner]
  repeat (first | with_reducible refine wpAny_madeHere_exc F.canon hC ?_ | with_reducible refine wpAny_loadPart_at hC ?_ | (with_reducible refine wpAny_isSubtype_exc hC ?_; first | rw [hcB] | rw [hcA] | rw [hcN]) | wp_step)
  show R _ _
  rw [Heap.size_push]
  exact hq
theorem kx_type (F : ExcBaseFacts B newId initId bmB) (hT : ∀ X : String, bm.contains (.type X) = bmB.contains (.type X)) {rest : List Value} {kw : List (Str × Value)} {fI : Addr} {Q : Fin → Shared → Prop}
    (hC : h.get? C = some (excClassObj nm q C N bs bm hdct sn sub ab col dd k0 k1 k2 k3 k5 newId))
    (hi : W.Looks (model prog w) h (typeLookup (.ref C) "__init__") (some (.ref fI))) (hb : ∀ self, W.Looks (model prog w) h (bindSpecial (.ref fI) self) (.ref fI, [self])) (hrest : rest.length ≤ sizeLine)
    (hq : codeAny (model prog w) A (.call (.ref fI) ⟨.ref (h.objs.size + 1) :: rest, kw⟩)
      (fun r s' => match r with | .ok (.ret v) => v = .none ∧ Q (.done (.ret (.ref (h.objs.size + 1)))) s' | .ok _ => False | .error e => E e s')
      ⟨(h.push (W.kdv_tup rest)).push (HandSPX.excO C h.objs.size), g, d, t, os⟩) :
    wpAny (model prog w) A (Builtin.«type.__call__» ⟨.ref C :: rest, kw⟩) Q E ⟨h, g, d, t, os⟩ := by
  repeat (first | with_reducible refine wpAny_loadPart_at hC ?_ | with_reducible refine wpAny_madeBy_exc hC ?_ | wp_step)
  refine codeAny_call_builtin_code (Code.quiet_builtin _ F.quiet) (kx_check_new F hT hC ?_)
  refine kx_new F hT hC ?_ hrest
  show wpAny _ _ _ _ _ _
  have k : ∀ b o, h.get? b = some o → ((h.push (W.kdv_tup rest)).push (HandSPX.excO C h.objs.size)).get? b = some o := fun b o e => Heap.get?_push_of_some _ (Heap.get?_push_of_some _ e)
  have hC₁ := k _ _ hC
  have hget : ((h.push (W.kdv_tup rest)).push (HandSPX.excO C h.objs.size)).get? (h.objs.size + 1) = some (HandSPX.excO C h.objs.size) := by heap_get
  have hcC : (Value.ref C :: bm).contains (.ref C) = true := by simp
  have i1 := hi.keeps k
  have b1 := (hb (.ref (h.objs.size + 1))).keeps k
  unfold isInstance
  repeat (first | with_reducible refine wpAny_loadPart_at hget ?_ | (with_reducible refine wpAny_isSubtype_exc hC₁ ?_; rw [hcC]) | wp_step)
  show wpAny _ _ (typeLookup (.ref C) _) _ _ _
  refine i1.at ?_
  refine wpAny_holding (wpAny_bind (b1.at ?_))
  refine wpAny_bind (wpAny_call (codeAny_mono hq fun r s' z => ?_))
  rcases r with e | (v | _ | _ | _) <;> first | exact z | exact z.elim | skip
  obtain ⟨rfl, z⟩ := z
  first
    | exact wpAny_pure (wpAny_pure z)
    | (wp_walk; exact z)
theorem kx_call (F : ExcBaseFacts B newId initId bmB) (hT : ∀ X : String, bm.contains (.type X) = bmB.contains (.type X)) {rest : List Value} {kw : List (Str × Value)} {fI : Addr}
    (hC : h.get? C = some (excClassObj nm q C N bs bm hdct sn sub ab col dd k0 k1 k2 k3 k5 newId))
    (hi : W.Looks (model prog w) h (typeLookup (.ref C) "__init__") (some (.ref fI))) (hb : ∀ self, W.Looks (model prog w) h (bindSpecial (.ref fI) self) (.ref fI, [self])) (hrest : rest.length ≤ sizeLine)
    (hq : codeAny (model prog w) (A.under (.builtin "type.__call__" ⟨.ref C :: rest, kw⟩)) (.call (.ref fI) ⟨.ref (h.objs.size + 1) :: rest, kw⟩) (W.InitBack (h.objs.size + 1) R)
      ⟨(h.push (W.kdv_tup rest)).push (HandSPX.excO C h.objs.size), g, d, t, os⟩) :
    codeAny (model prog w) A (.call (.ref C) ⟨rest, kw⟩) R ⟨h, g, d, t, os⟩ := by
  have f1 := tc_lookup
  have f2 := tc_bind (.ref C)
  have hTy : (⟨h, g, d, t, os⟩ : Shared).TypeIs (.ref C) "type" := ⟨_, hC, rfl⟩
  have typ : W.Looks (model prog w) h (isInstance (.ref C) (.type "type")) true := by
    have t1 : W.Looks (model prog w) h (typeOf (.ref C)) (.type "type") := (W.Looks.ld hC).andThen .now
    exact t1.andThen (W.Looks.of_pure tc_sub)
  refine codeAny_of_tree ?_
  show wpAny _ _ (callAny (.ref C) _) _ _ _
  repeat (any_goals (first | assumption | with_reducible refine wpAny_loadPart_at hC ?_ | wp_step))
  refine ⟨rfl, ?_⟩
  refine codeAny_call_builtin_at (Code.quiet_builtin _ (by decide +kernel)) entry_typeCall (W.check_slot tc_kind tc_split typ (W.tc_args _ _ _) (kx_type F hT hC hi hb hrest ?_))
  refine codeAny_mono hq fun r s' z => ?_
  rcases r with e | (v | _ | _ | _) <;> exact z
end
end Kx
end Uk
namespace Uk
open PySem PySem.Spec PyProof.Rows L2 StX
/-- self by its place, all others by these names -/
def kwd (ks : List Str) (sp : Sp) : SpK := fun vs zs H Q E => vs.length = 1 ∧ zs.map (·.1) = ks ∧ sp (vs ++ zs.map (·.2)) H Q E
theorem kvs_split : ∀ {zs : List (Str × V)} {kws : List (Str × Value)}, KVs zs kws → kws = (zs.map (·.1)).zip (kws.map (·.2)) ∧ Vals (zs.map (·.2)) (kws.map (·.2))
  | _, _, .nil => ⟨rfl, .nil⟩
  | _, _, .cons (a := p) (b := q) h r => by
    obtain ⟨e, v⟩ := kvs_split r
    refine ⟨?_, .cons h.2 v⟩
    rw [List.map_cons, List.map_cons, List.zip_cons_cons, ← e, h.1]
/-- a def that says super(), called by keywords -/
theorem def_SK {P : Program} {w : World} {K : PySem.W.Frag} {mg : Str → Option Value} {base : Heap} {N ps ks : List Str} {qual x : Str} {st : Stmt} {f cc cda D : Addr} {k : Nat} {sp : Sp} (F : FunS K x qual st f cc cda D) (S : ScopeS N ps (defScope st)) (hlen : ps.length = 1 + ks.length)
    (hb : ∀ (kV doc pm : Value) (an : Option Addr) (ct : Value) (us ws : List Value), us.length = 1 → ws.length = ks.length → bindArgs (PySem.W.ksFn x qual (defArgs st) (defBody st) (defScope st) .none kV doc pm an (.ref cda) ct cc) ⟨us, ks.zip ws⟩ = pure (ps.zip (us ++ ws)))
    (hbody : ∀ (A : Around) (outer : List Env) (s : Shared) (H : Hp) (vs : List V) (Q : VK) (E : XK), Room k (A.deeper (envS qual (defScope st) s.heap.objs.size f (.ref cda) cc)) → A.guards = some [] → sp vs H Q E →
      ∃ t, PSst (cxS P w K mg base N qual (defScope st) f (.ref cda) cc A outer s H E) (.func (defBody st) (envS qual (defScope st) s.heap.objs.size f (.ref cda) cc)) (defBody st) t ∧ t { nx := fun _ H' => Q .non H', rt := Q } (L2.start N vs) H) :
    CallG P w K mg base (k + 1) (.ref f) (kwd ks sp) := by
  obtain ⟨oc, od, kV, doc, pm, an, ct, osl, lk, hcd⟩ := F.ex
  rintro A outer s H us kws vs zs Q E hr hg e0 r rk ⟨h1, hks, hsp⟩
  obtain ⟨ek, rz⟩ := kvs_split rk
  rw [hks] at ek
  have r2 := r.append rz
  have hu : us.length = 1 := r.length.symm.trans h1
  have hz : (kws.map (·.2)).length = ks.length := by rw [← hks, List.length_map, List.length_map]; exact (Paired.length rk).symm
  have hl : (vs ++ zs.map (·.2)).length = ps.length := by rw [hlen, List.length_append, h1, ← hks, List.length_map, List.length_map]
  have KX : K.In s.heap := Env0.kIn e0
  have lim : s.heap.NoLimit := e0.mod.nolimit.keeps fun b o e => (e0.bs b o e).1
  rw [ek]
  refine ks_codeAny_call_defAt (fd := PySem.W.ksFn x qual (defArgs st) (defBody st) (defScope st) .none kV doc pm an (.ref cda) ct cc) (body := defBody st) (binds := ps.zip (us ++ kws.map (·.2))) hr.depth (KX _ _ lk) rfl lim (PySem.W.codeRec_of KX hcd) rfl (BindsTo.of_eq (hb kV doc pm an ct us (kws.map (·.2)) hu hz))
    S.nocell (fun y hy => S.par y.1 (List.of_mem_zip hy).1) (fun h1 hns hk => ?_) S.co S.gen S.kind
  obtain ⟨t, ht, hq⟩ := hbody A outer s H _ Q E (hr.deeper _) hg hsp
  have I := inv_S (P := P) (w := w) (mg := mg) (N := N) (qual := qual) (f := f) (cd := .ref cda) (outer := outer) (E := E) (n := (ps.zip (us ++ kws.map (·.2))).length) S hr.hd e0 hl r2 F.cell hns hk
  refine ks_wpAt_mono (ht.run [] _ _ _ _ I hq) (fun fl s' hs => ?_) fun e s' hs => hs
  have fin : ∀ {σ' : L2.St} {H' : Hp} {v : V} {u : Value}, Inv (cxS P w K mg base N qual (defScope st) f (.ref cda) cc A outer s H E) [] σ' H' s' → RelV v u → Q v H' → CE outer P w H s Q u s' :=
    fun {σ' H' v u} J rv q => ⟨v, H', J.os, J.bare, J.base, J.hok, rv, q⟩
  cases fl with
  | ret u =>
    obtain ⟨v, σ', H', J, rv, q⟩ := hs
    exact fin J rv q
  | next =>
    obtain ⟨σ', H', J, q⟩ := hs
    exact fin (v := V.non) (u := Value.none) J rfl q
  | brk =>
    obtain ⟨_, _, _, q⟩ := hs
    exact q.elim
  | cont =>
    obtain ⟨_, _, _, q⟩ := hs
    exact q.elim
section
variable {X : Cx} {W : WX} {k : Nat} {C f : Addr} {ns : List Str} {pins : List (Addr × Obj)} {σ : L2.St} {H : Hp} {s : Shared} {Q : VK}
theorem under_guardsK {A : Around} {C : Addr} {us : List Value} {kw : List (Str × Value)} (h : A.guards = some []) : (A.under (.builtin "type.__call__" ⟨.ref C :: us, kw⟩)).guards = some [] := under_guards h
theorem vals_kvs : ∀ {ns : List Str} {vs : List V} {ws : List Value}, Vals vs ws → KVs (ns.zip vs) (ns.zip ws)
  | [], _, _, _ => by simpa using Paired.nil
  | _ :: _, _, _, .nil => .nil
  | n :: ns, _, _, .cons h r => .cons ⟨rfl, h⟩ (vals_kvs r)
/-- C(k = e, ..), kept as a value -/
theorem pe_mkXk {x : Str} {p qs : Pos} {kws : List Keyword} {t : TA} (tk : Takes X W) (M : MkE X.K C f) (F : CallG X.prog X.w X.K X.mg X.base k (.ref f) (kwd ns (spInit C ns))) (hr : Room (k + 1) X.A) (hg : X.A.guards = some []) (kC : PySem.W.keepIn X.K (.ref C) = true) (hx : Gl X x) (hm : X.mg x = some (.ref C)) (ha : PK X kws t) (hl : ns.length ≤ 1000)
    (hall : (backToKw qs (keywordEach kws X.env)).all (·.1.isSome) = true := by rfl) (hks : (backToKw qs (keywordEach kws X.env)).filterMap (·.1) = ns := by rfl)
    (hdb : (x == ("__debug__" : Str)) = false := by decide) (hpl : ((backTo qs (starEach [] X.env)).any (·.1) || (backToKw qs (keywordEach kws X.env)).any (·.1.isNone)) = false := by rfl) :
    PE X (.Call (.Name x p) [] kws qs) (tMkX C ns t) := by
  refine ⟨fun pins s σ H Q I h => ?_⟩
  refine wpAny_Call_Name_kw (ld_glob I hx hm ?_ hdb)
  refine PySem.W.callWith_KW0 (h₀ := X.base) I.ok.mod.kin kC hall (thn (ha.run qs pins s σ H _ I h) fun ws s1 ⟨vs, H1, I1, r, hv, q⟩ => ⟨I1.kIn, ?_⟩) hpl
  rw [hks]
  obtain ⟨nm, q0, N, bs, bm, sn, sub, ab, col, dd, k0, k1, k2, k3, k5, hC, hbm⟩ := M.T.cls
  obtain ⟨hp, g, dr, tk', os⟩ := s1
  have hsz : hp.objs.size ≤ hp.objs.size + 1 := Nat.le_succ _
  have hn : H1 (hp.objs.size + 1) = none := I1.hok.fresh hsz
  have kk : ∀ b o, hp.get? b = some o → ((hp.push (PySem.W.kdv_tup [])).push (PySem.HandSPX.excO C hp.objs.size)).get? b = some o := fun b o e => Heap.get?_push_of_some _ (Heap.get?_push_of_some _ e)
  have hget : ((hp.push (PySem.W.kdv_tup [])).push (PySem.HandSPX.excO C hp.objs.size)).get? (hp.objs.size + 1) = some (PySem.HandSPX.excO C hp.objs.size) := by heap_get
  have I2 : Inv X pins σ (upd H1 (hp.objs.size + 1) (exo (hp.objs.size + 1) C none)) ⟨(hp.push (PySem.W.kdv_tup [])).push (PySem.HandSPX.excO C hp.objs.size), g, dr, tk', os⟩ :=
    I1.laid (t' := tk') (a := hp.objs.size + 1) (o := exo (hp.objs.size + 1) C none) (h' := (hp.push (PySem.W.kdv_tup [])).push (PySem.HandSPX.excO C hp.objs.size)) kk hsz (exo_ok hget)
  have lz : vs.length = ns.length := hv
  have ez : (ns.zip vs).map (·.1) = ns := by rw [List.map_fst_zip]; omega
  have ey : (ns.zip vs).map (·.2) = vs := by rw [List.map_snd_zip]; omega
  show wpAny _ _ (call (.ref C) [] (ns.zip ws)) _ _ _
  refine wpAny_call (Kx.kx_call PySem.F.excBase_ValueError (fun Y => PySem.HandSPX.refsVE_contains Y bm hbm) (I1.kIn _ _ hC) (PySem.W.looks_findIn I1.kIn M.init) (fun self => PySem.W.bind_fn I1.kIn self M.fn) (Nat.zero_le _)
    (codeAny_mono (F _ X.stack _ _ [Value.ref (hp.objs.size + 1)] (ns.zip ws) [V.ref (hp.objs.size + 1)] (ns.zip vs)
      (fun v H2 => v = .non ∧ ∃ d, H2 = exmk (upd H1 (hp.objs.size + 1) (exo (hp.objs.size + 1) C none)) (hp.objs.size + 1) C d (ns.zip vs).reverse ∧ H1 d = none ∧ d ≠ hp.objs.size + 1 ∧ Q (.ref (hp.objs.size + 1)) (exF H1 (hp.objs.size + 1) C d (ns.zip vs).reverse))
      (WE W σ) (hr.make C [] (ns.zip ws)) (under_guardsK hg) (I2.env0.make C [] (ns.zip ws)) (.cons rfl .nil) (vals_kvs r) ⟨rfl, ez, ?_⟩) fun r s' hq' => ?_))
  · rw [ey]
    refine ⟨_, vs, rfl, hv, upd_same, fun dx hdx hne => ?_⟩
    rw [upd_ne hne] at hdx
    exact ⟨rfl, dx, rfl, hdx, hne, q dx _ hdx (by rw [upd_ne (Ne.symm hne)]; exact hn)⟩
  cases r with
  | error er => exact passAt tk σ pins _ _ er s' I2 hq'
  | ok fl =>
    cases fl with
    | ret u =>
      obtain ⟨v, H2, os2, bare2, un2, hok2, rv, ev, d, e2, ed, hne, q'⟩ := hq'
      subst ev
      refine ⟨rv, ?_⟩
      have J : Inv X pins σ H2 s' := by
        obtain ⟨hp', g', dr', tk2, os'⟩ := s'
        have e2 : os' = os := os2
        subst e2
        exact I2.call (ch := []) un2 hok2 bare2 (fun b z => absurd z (by simp))
      subst e2
      exact ⟨.ref (hp.objs.size + 1), _, exc_known J ed hne, rfl, q'⟩
    | next => exact False.elim hq'
    | brk => exact False.elim hq'
    | cont => exact False.elim hq'
/-- C() of one without arguments -/
def tMkX0 (C : Addr) : TE := fun _ H Q => ∀ a, H a = none → Q (.ref a) (upd H a (exv a (.ref C) none))
theorem pe_mkX0 {x : Str} {p qs : Pos} (tk : Takes X W) (M : MkE X.K C f) (F : CallG X.prog X.w X.K X.mg X.base k (.ref f) (pos (spInit0 C))) (hr : Room (k + 1) X.A) (hg : X.A.guards = some []) (kC : PySem.W.keepIn X.K (.ref C) = true) (hx : Gl X x) (hm : X.mg x = some (.ref C))
    (hdb : (x == ("__debug__" : Str)) = false := by decide) : PE X (.Call (.Name x p) [] [] qs) (tMkX0 C) := by
  refine ⟨fun pins s σ H Q I h => ?_⟩
  refine wpAny_Call_Name_kw (ld_glob I hx hm ?_ hdb)
  refine PySem.W.callWith_K0 I.kIn kC ?_
  refine run_makeE (us := []) (vs := []) (R := fun a v H2 => v = .non ∧ H2 = upd H a (exo a C none) ∧ Q (.ref a) (upd H a (exv a (.ref C) none))) tk M F hr hg I .nil (Nat.zero_le _) (fun a ea => ⟨a, rfl, upd_same, rfl, rfl, h a ea⟩) (fun a s' H2 hp hp2 eh hsz kk un hok eos hb J ev => ?_) fun a v H2 z => z.1
  obtain ⟨_, e2, q'⟩ := ev
  subst e2
  obtain ⟨t1, ho⟩ := exo_at J.hok (upd_same (H := H) (a := a) (o := exo a C none))
  obtain ⟨hp', g', dr', tk2, os'⟩ := s'
  have J2 := J.write (t' := tk2) (h' := hp') (x := a) (e := a) (o := exv a (.ref C) none) (by rw [upd_same]; exact True.intro) (.inl rfl) (fun b u _ z => z) ⟨_, ho⟩ (exv_ok ho ⟨rfl, rfl⟩ rfl)
  rw [upd_upd] at J2
  exact ⟨.ref a, _, J2, rfl, q'⟩
end
end Uk

/-! UkU: the end, where the ground is known to hold sys.modules -/
namespace Uk
open PySem PySem.Spec PyProof.Rows L2 StX
section
variable {P : Program} {w : World} {K : PySem.W.Frag} {mg mb : Str → Option Value} {k : Nat} {fa a : Addr} {sp : Sp} {s₁ : Shared} {vs : List Value} {ns : List Int}
theorem endGB (KX : K.In s₁.heap) (hns : s₁.heap.Ns mainGlobals mg) (hsys : ∃ m, s₁.heap.Ns sysModules m) (hb : s₁.heap.Ns builtinsNs mb) (hbb : ∀ x : Str, x ≠ "__name__" → mb x = bootBuiltins x) (hlim : s₁.heap.NoLimit) (hgen : s₁.gens = #[])
    (isList : ∃ its, s₁.heap.get? a = some { cls := .type "list", data := .seq its }) (hr : Room k callerA) (F : ∀ base : Heap, Mod K mg base → (∃ o, base.get? sysModules = some o) → CallG P w K mg base k (.ref fa) (pos sp)) {H : Hp} (T : OneFrz P w K s₁.heap a H)
    (law : sp [.ref a] H (fun v _ => v = .bl true) NoE) :
    codeAny (model P w) callerA (.call (.ref fa) ⟨[.ref a], []⟩) (fun r s' => r = .ok (.ret (.bool true)) ∧ OldK s₁.heap s'.heap ∧ s'.os = s₁.os ∧ AllBare s'.gens) s₁ := by
  obtain ⟨its, hlist⟩ := isList
  have clear : ∀ {b : Addr} {o : Obj}, s₁.heap.get? b = some o → (b = a → K.lookup a = none → False) → (hidT s₁.heap H).get? b = some o := fun {b o} e no => hidT_get e (by
    rcases T.one b with z | ⟨eb, ob, ys, z⟩
    · exact z
    · refine (no eb (T.free fun q => ?_)).elim
      rw [← eb, z] at q
      cases q)
  have names : ∀ {b : Addr} {m : Str → Option Value}, s₁.heap.Ns b m → (hidT s₁.heap H).Ns b m := fun {b m} ⟨o, es, ep, e, d, r⟩ => by
    refine ⟨o, es, ep, clear e (fun eb _ => ?_), d, r⟩
    rw [eb, hlist] at e
    cases e
    cases d
  have kIn : K.In (hidT s₁.heap H) := fun b o e => clear (KX b o e) fun eb kn => by
    rw [eb, kn] at e
    cases e
  have M : Mod K mg (hidT s₁.heap H) := ⟨kIn, names hns, ⟨mb, names hb, hbb⟩, hlim.elim fun mc z => ⟨mc, names z.1, z.2⟩⟩
  have env : Env0 P w K mg (hidT s₁.heap H) callerA [] s₁ H := ⟨rfl, M, fun _ _ => of_hidT, Nat.le_of_eq (hidT_size _ _), trivial, (fun b z => nomatch (show b ∈ ([] : List Addr) from z)), T.hok, .of_eq hgen⟩
  have hB : ∃ o, (hidT s₁.heap H).get? sysModules = some o := by
    obtain ⟨m, z⟩ := hsys
    obtain ⟨o, _, _, e, _⟩ := names z
    exact ⟨o, e⟩
  refine codeAny_mono (F _ M hB callerA [] s₁ H [.ref a] [] [.ref a] [] (fun v _ => v = .bl true) NoE hr rfl env (.cons rfl .nil) .nil ⟨rfl, law⟩) fun r s' got => ?_
  rcases r with e | fl
  · exact (cx_no got).elim
  · cases fl
    case ret u =>
      obtain ⟨v, H', os, bare, un, hok', rv, hv⟩ := got
      cases (show v = .bl true from hv)
      cases (show u = Value.bool true from rv)
      refine ⟨rfl, .of_keep fun b o e => ?_, os, bare⟩
      obtain z | ⟨_, ob, ys, z⟩ := T.one b
      · exact un.keep b o e z (fun i => nomatch (show b ∈ ([] : List Addr) from i)) (fun i => nomatch i)
      · have same := (T.hok b _ z).1
        rw [e] at same
        cases same
        exact (hok' b _ (un.frzs b _ _ z)).1
    all_goals exact got.elim
/-- the law's call, by the promise of its def -/
theorem lawGB (KX : K.In s₁.heap) (hns : s₁.heap.Ns mainGlobals mg) (hsys : ∃ m, s₁.heap.Ns sysModules m) (hb : s₁.heap.Ns builtinsNs mb) (hbb : ∀ x : Str, x ≠ "__name__" → mb x = bootBuiltins x) (hlim : s₁.heap.NoLimit) (hgen : s₁.gens = #[])
    (ha : s₁.heap.get? a = some { cls := .type "list", data := .seq vs.toArray }) (hi : IntsAre vs ns) (hl : ns.length ≤ sizeLine) (hr : Room k callerA) (F : ∀ base : Heap, Mod K mg base → (∃ o, base.get? sysModules = some o) → CallG P w K mg base k (.ref fa) (pos sp))
    (law : ∀ H : Hp, SqL K H a (ns.map V.int) → sp [.ref a] H (fun v _ => v = .bl true) NoE) :
    codeAny (model P w) callerA (.call (.ref fa) ⟨[.ref a], []⟩) (fun r s' => r = .ok (.ret (.bool true)) ∧ OldK s₁.heap s'.heap ∧ s'.os = s₁.os ∧ AllBare s'.gens) s₁ := by
  have many := hi.length
  have rel := vals_ints hi
  by_cases hk : K.lookup a = none
  · let H : Hp := fun b => if b = a then some (.frz { cls := .type "list", data := .seq vs.toArray } (.lst (ns.map V.int))) else none
    have Ha : H a = some (.frz { cls := .type "list", data := .seq vs.toArray } (.lst (ns.map V.int))) := if_pos rfl
    have Hn : ∀ b, b ≠ a → H b = none := fun b nb => if_neg nb
    refine endGB KX hns hsys hb hbb hlim hgen ⟨_, ha⟩ hr F (H := H) ⟨fun b u z => ?_, fun b => ?_, fun _ => hk⟩ (law H (.inl (.inr ⟨_, Ha⟩)))
    · by_cases eb : b = a
      · subst eb
        rw [Ha] at z
        cases z
        exact ⟨ha, by rw [List.length_map]; exact hl, vs, _, rel, ha⟩
      · rw [Hn b eb] at z
        cases z
    · by_cases eb : b = a
      · subst eb
        exact .inr ⟨rfl, _, _, Ha⟩
      · exact .inl (Hn b eb)
  · obtain ⟨o, ho⟩ := Option.ne_none_iff_exists'.mp hk
    have e := KX a o ho
    rw [ha] at e
    cases e
    refine endGB KX hns hsys hb hbb hlim hgen ⟨_, ha⟩ hr F (H := fun _ => none) ⟨(fun b u z => nomatch z), (fun b => Or.inl rfl), fun z => absurd rfl z⟩ (law _ (.inr ⟨_, vs.toArray, _, ho, rfl, rfl, rfl, ?_, by simpa using rel⟩))
    rw [List.size_toArray, many]
    exact hl
end
/-- the goal that the head leaves, from the law's promise -/
theorem walkGB {l : PySem.W.OpenLaw} {n k : Nat} {q : Program} {loose : List Str} {XP : (Str → Option Value) → Heap → Prop} {YP : World → Heap → Prop} {d : DefRec} {K : Params → PySem.W.Frag} {sp : World → Sp}
    (hn : l.most = some n) (hn2 : n ≤ sizeLine) (hq0 : importsNone q = true) (hdf : d.params.defaults = []) (hr : Room k callerA) (hY : ∀ (w : World) (h : Heap), YP w h → (K w.params).In h)
    (F : ∀ (w : World) (mg : Str → Option Value) (fa : Addr) (h : Heap), (K w.params).In h → h.Ns mainGlobals mg → mg d.name = some (.ref fa) → ∀ base : Heap, Mod (K w.params) mg base → (∃ o, base.get? sysModules = some o) → CallG l.prog w (K w.params) mg base k (.ref fa) (pos (sp w)))
    (law : ∀ (w : World) (H : Hp) (a : Addr) (ns : List Int), ns.length ≤ n → SqL (K w.params) H a (ns.map V.int) → sp w [.ref a] H (fun v _ => v = .bl true) NoE) :
    PySem.W.WalkO q loose XP YP l.row.toRowW d [] (fun f vs => PySem.call f vs) := by
  refine Att.attach_call hn hdf fun w s₀ s₁ mg mb fa o pm cd doc a vs ns G Y ho hd hcd hmg hobj hints hlen hgen => ?_
  have KX := hY w _ Y
  exact lawGB KX G.T.g (let ⟨m, z, _⟩ := (G.T.seer hq0).mods; ⟨m, z⟩) G.T.b G.T.builtins G.T.nolimit hgen hobj hints (Nat.le_trans hlen hn2) hr (F w mg fa _ KX G.T.g hmg) fun H hS => law w H a ns hlen hS
end Uk

/-! UkV: defs called by keywords; classmethods; a class held by a local name, called with a star -/
namespace Uk
open PySem PySem.Spec PyProof.Rows L2 StX

/-- n values by place, the others by these names -/
def kwp (n : Nat) (ks : List Str) (gV : List V → List V → List V) (sp : Sp) : SpK := fun vs zs H Q E => vs.length = n ∧ zs.map (·.1) = ks ∧ sp (gV vs (zs.map (·.2))) H Q E
/-- a def without defaults, called by keywords -/
theorem def_posK {P : Program} {w : World} {K : PySem.W.Frag} {mg : Str → Option Value} {base : Heap} {k : Nat} {x qual : Str} {st : Stmt} {f : Addr} {fd : FuncData} {N ps : List Str} {sp : Sp} {n : Nat} {ks : List Str} {gV : List V → List V → List V} {gv : List Value → List Value → List Value} (F : Fun K x qual st f fd) (S : FnScope N ps (defScope st))
    (rel : ∀ vs us zs ws, vs.length = n → zs.length = ks.length → Vals vs us → Vals zs ws → Vals (gV vs zs) (gv us ws)) (len : ∀ vs zs, vs.length = n → zs.length = ks.length → (gV vs zs).length = ps.length)
    (hb : ∀ (kV doc pm : Value) (an : Option Addr) (cdv ct : Value) (us ws : List Value), us.length = n → ws.length = ks.length → bindArgs (PySem.W.fnOf x qual (defArgs st) (defBody st) (defScope st) .none kV doc pm an cdv ct) ⟨us, ks.zip ws⟩ = pure (ps.zip (gv us ws)))
    (hbody : ∀ (cdv : Value) (A : Around) (outer : List Env) (s : Shared) (H : Hp) (vs : List V) (Q : VK) (E : XK), Room k (A.deeper (envOfC qual (defScope st) s.heap.objs.size f cdv)) → A.guards = some [] → sp vs H Q E →
      ∃ t, PSs (cxOf (L2.CX P w) P w K mg base N qual (defScope st) f cdv A outer s H E) (defBody st) t ∧ t { nx := fun _ H' => Q .non H', rt := Q } (start N vs) H) : CallG P w K mg base (k + 1) (.ref f) (kwp n ks gV sp) := by
  obtain ⟨oc, od, kV, doc, pm, an, cdv, ct, osl, rfl, lk, hcd⟩ := F.ex
  rintro A outer s H us kws vs zs Q E hr hg e0 r rk ⟨h1, hks, hsp⟩
  obtain ⟨ek, rz⟩ := kvs_split rk
  rw [hks] at ek
  have lz : (zs.map (·.2)).length = ks.length := by rw [← hks, List.length_map, List.length_map]
  have lw : (kws.map (·.2)).length = ks.length := rz.length.symm.trans lz
  have lu : us.length = n := r.length.symm.trans h1
  rw [ek]
  refine run_bnd lk hcd S hr e0 (G := fun xs H2 => xs = gV vs (zs.map (·.2)) ∧ H2 = H) (fun A' Ex Q' h => ?_) fun s2 H2 xs ⟨ex, eH⟩ hr' => ?_
  · rw [hb kV doc pm an cdv ct us _ lu lw]
    exact wpAny_pure (h s H _ _ e0 Un.refl rfl (fun _ _ z => z) (rel _ _ _ _ h1 lz r rz) (len _ _ h1 lz) ⟨rfl, rfl⟩)
  · subst ex eH
    exact hbody cdv A outer s2 _ _ Q E hr' hg hsp
section
variable {X : Cx} {W : WX} {k i : Nat} {f C p g : Addr} {mc : Value} {sp : SpK} {spi : Sp} {m x : Str} {o e : Expr} {es : List Expr} {qs apos pp : Pos} {ta : TE} {t : TA} {pl : Sem Bool} {dom : Addr → Prop}
/-- x(e, .., *y), x a local name that holds a class -/
def tMkL (W : WX) (i : Nat) (dom : Addr → Prop) (sp : Sp) (t : TA) : TE := fun σ H Q => ∃ C, σ[i]? = some (some (.ref C)) ∧ dom C ∧ t σ H fun vs H1 => spMk C sp vs H1 Q (WE W σ)
theorem pe_mkLS (tk : Takes X W) (M : ∀ C, dom C → Mk X.K C f) (F : CallG X.prog X.w X.K X.mg X.base k (.ref f) (pos spi)) (hr : Room (k + 1) X.A) (hg : X.A.guards = some []) (hN : X.N[i]? = some x) (hv : Vis X.env.scope x) (ha : PA X (e :: es) t)
    (hdb : (x == ("__debug__" : Str)) = false := by decide) (hcd : (x == ("__classdict__" : Str)) = false := by decide)
    (he : starEach (e :: es) X.env = (false, eval e X.env) :: starEach es X.env := by rfl) (hst : (backTo qs (starEach es X.env)).any (·.1) = true := by rfl) : PE X (.Call (.Name x pp) (e :: es) [] qs) (tMkL W i dom spi t) := by
  refine ⟨fun pins s σ H Q I ⟨C, hs, hC, ht⟩ => ?_⟩
  refine wpAny_Call_Name_kw (thn ((pe_var (pos := pp) hN hv hdb hcd).run pins s σ H (fun v H1 => v = .ref C ∧ H1 = H) I ⟨.ref C, hs, rfl, rfl⟩) fun u s1 ⟨v, H1, I1, r1, q1⟩ => ?_)
  obtain ⟨rfl, rfl⟩ := q1
  cases r1
  refine PySem.W.callWith_S2 (h₀ := X.base) I1.ok.mod.kin (M C hC).kp (thn (ha.run qs pins s1 σ _ _ I1 ht) fun us s2 ⟨vs, H2, I2, r, q⟩ => ⟨I2.kIn, ?_⟩) he hst
  exact run_makeG tk (M C hC) F hr hg I2 r q
/-- a bound classmethod is called -/
theorem run_cmG {pins : List (Addr × Obj)} {σ : L2.St} {H : Hp} {s : Shared} {Q : VK} {q : Addr} {us : List Value} {vs : List V} {kws : List (Str × Value)} {zs : List (Str × V)} (tk : Takes X W) (F : CallG X.prog X.w X.K X.mg X.base k (.ref g) sp) (hr : Room k X.A) (hg : X.A.guards = some []) (I : Inv X ((q, PySem.W.methodObj (.ref g) (.ref C)) :: pins) σ H s)
    (r : Vals vs us) (rk : KVs zs kws) (h : sp (.ref C :: vs) zs H Q (WE W σ)) : wpAny (model X.prog X.w) X.A (call (.ref q) us kws) (EP X pins σ Q) X.xe s := by
  have z : wpAny (model X.prog X.w) X.A (call (.ref q) us kws) (EP X ((q, PySem.W.methodObj (.ref g) (.ref C)) :: pins) σ Q) X.xe s := by
    refine wpAny_call (PySem.W.method_call (ClX.pin_at I) (codeAny_mono (F X.A X.stack s H (.ref C :: us) kws (.ref C :: vs) zs Q _ hr hg I.env0 (.cons rfl r) rk h) fun r s' hq => ?_))
    cases r with
    | error e => exact passAt tk σ _ H s e s' I hq
    | ok fl =>
      cases fl with
      | ret u => exact I.after hq
      | next => exact False.elim hq
      | brk => exact False.elim hq
      | cont => exact False.elim hq
  exact thn z fun _ _ y => ClX.unpinE y
/-- C.m(e, ..), m a classmethod -/
def tCm (W : WX) (C : Addr) (sp : SpK) (ta : TE) (t : TA) : TE := fun σ H Q => ta σ H fun x H1 => x = .ref C ∧ t σ H1 fun vs H2 => sp (.ref C :: vs) [] H2 Q (WE W σ)
theorem pe_cmG (tk : Takes X W) (he : PE X o ta) (r : ClX.CRead X.K C mc) (c : ClX.CMet X.K C mc m p g) (F : CallG X.prog X.w X.K X.mg X.base k (.ref g) sp) (hr : Room k X.A) (hg : X.A.guards = some []) (ha : PA X (e :: es) t)
    (hst : starEach (e :: es) X.env = (false, eval e X.env) :: starEach es X.env := by rfl) (hpl : (backTo qs (starEach es X.env)).any (·.1) = false := by rfl)
    (ht : eval (.Call (.Attribute o m apos) (e :: es) [] qs) X.env = (do
      let ov ← eval o X.env
      standAt apos.atName
      let (f, first) ← holding [ov] (getMethod ov m pl)
      callWith qs f first (backTo qs (starEach (e :: es) X.env)) (backToKw qs (keywordEach [] X.env))) := by rfl) :
    PE X (.Call (.Attribute o m apos) (e :: es) [] qs) (tCm W C sp ta t) := by
  refine ⟨fun pins s σ H Q I h => ?_⟩
  refine PySem.W.methodCall_KW (pl := pl) (thn (he.run pins s σ H _ I h) fun u s1 ⟨x, H1, I1, rx, ex, q⟩ => ?_) ht
  subst ex
  obtain rfl : u = Value.ref C := rx
  refine ClX.getmethcm_ok I1 r c fun s2 I2 => ?_
  refine ClX.callwith_cm I2 (ClX.base_none I1 (Nat.le_refl _)) c.fi (thn (ha.run qs _ s2 σ H1 _ I2 q) fun us s3 ⟨vs, H2, I3, rv, q2⟩ => ⟨⟨ClX.pin_at I3, I3.kIn⟩, ?_⟩) hst hpl
  exact run_cmG tk F hr hg I3 rv .nil q2
/-- C.m(k = e, ..) -/
def tCmk (W : WX) (C : Addr) (ns : List Str) (sp : SpK) (ta : TE) (t : TA) : TE := fun σ H Q => ta σ H fun x H1 => x = .ref C ∧ t σ H1 fun vs H2 => vs.length = ns.length ∧ sp [.ref C] (ns.zip vs) H2 Q (WE W σ)
theorem pe_cmGk {kws : List Keyword} {ns : List Str} (tk : Takes X W) (he : PE X o ta) (r : ClX.CRead X.K C mc) (c : ClX.CMet X.K C mc m p g) (F : CallG X.prog X.w X.K X.mg X.base k (.ref g) sp) (hr : Room k X.A) (hg : X.A.guards = some []) (ha : PK X kws t)
    (hall : (backToKw qs (keywordEach kws X.env)).all (·.1.isSome) = true := by rfl) (hks : (backToKw qs (keywordEach kws X.env)).filterMap (·.1) = ns := by rfl)
    (hpl : ((backTo qs (starEach [] X.env)).any (·.1) || (backToKw qs (keywordEach kws X.env)).any (·.1.isNone)) = false := by rfl)
    (ht : eval (.Call (.Attribute o m apos) [] kws qs) X.env = (do
      let ov ← eval o X.env
      standAt apos.atName
      let (f, first) ← holding [ov] (getMethod ov m pl)
      callWith qs f first (backTo qs (starEach [] X.env)) (backToKw qs (keywordEach kws X.env))) := by rfl) :
    PE X (.Call (.Attribute o m apos) [] kws qs) (tCmk W C ns sp ta t) := by
  refine ⟨fun pins s σ H Q I h => ?_⟩
  refine PySem.W.methodCall_KW (pl := pl) (thn (he.run pins s σ H _ I h) fun u s1 ⟨x, H1, I1, rx, ex, q⟩ => ?_) ht
  subst ex
  obtain rfl : u = Value.ref C := rx
  refine ClX.getmethcm_ok I1 r c fun s2 I2 => ?_
  refine PySem.W.callWith_of (P := PySem.W.MethP X.K s1.heap.objs.size g (.ref C)) hpl (PySem.W.keeps_M c.fi) (evalArgs_kw2_nil hall (thn (ha.run qs _ s2 σ H1 _ I2 q) fun us s3 ⟨vs, H2, I3, rv, hl, q2⟩ => ⟨⟨ClX.pin_at I3, I3.kIn⟩, ?_⟩))
  rw [hks]
  exact run_cmG (us := []) (vs := []) tk F hr hg I3 .nil (vals_kvs rv) q2
end
end Uk

/-! UkW: x[i] and len(x) of own classes; what isinstance says of data -/
namespace Uk
open PySem PySem.Spec PyProof.Rows L2 StX

section
variable {X : Cx} {k : Nat} {f : Addr} {sp : SpK} {D : Addr → Prop} {a b : Expr} {ta tb : TE} {pos : Pos}
/-- a[b], a an instance with an own __getitem__ -/
def tIxO (D : Addr → Prop) (sp : SpK) (ta tb : TE) : TE := fun σ H Q => ta σ H fun x H1 => tb σ H1 fun y H2 => ∃ (c C dx : Addr) (fs : List (Str × V)), x = .ref c ∧ D C ∧ H2 c = some (.ins C dx fs) ∧ sp [x, y] [] H2 Q NoE
theorem pe_ixO (F : CallG X.prog X.w X.K X.mg X.base k (.ref f) sp) (hr : Room (k + 1) X.A) (hg : X.A.guards = some []) (hD : ∀ C, D C → Own X.K C "__getitem__" f) (hf : PySem.W.fnIn X.K f = true) (ha : PE X a ta) (hb : PE X b tb)
    (hsl : ∀ v u, subscripted b true v u = runValue (.builtin "lifetime.subscript" ⟨[v, u], []⟩)) : PE X (.Subscript a b pos) (tIxO D sp ta tb) := by
  refine ⟨fun pins s σ H Q I h => ?_⟩
  refine Subscript_ (binT ha hb I h fun v u s2 x y H2 I2 rx ry q => ?_)
  obtain ⟨c, C, dx, fs, rfl, d, e, q⟩ := q
  obtain rfl : v = Value.ref c := rx
  obtain ⟨od, J⟩ := ins_at I2.hok e
  obtain ⟨m, fr⟩ := I2.fr
  exact PySem.W.sub_K fr I2.ok.mod.kin J (hD C d).at_ hf (hD C d).fn (run_callN F hr.in1 hg rfl I2 (vs := [.ref c, y]) (us := [.ref c, u]) (.cons rfl (.cons ry .nil)) q) (hsl _ _)
end
/-- len(x), x an instance with an own __len__ -/
theorem call_lenO {X : Cx} {k : Nat} {sp : SpK} {D : Addr → Prop} {f : Addr} (F : CallG X.prog X.w X.K X.mg X.base k (.ref f) sp) (hr : Room (k + 1) X.A) (hg : X.A.guards = some []) (hD : ∀ C, D C → Own X.K C "__len__" f) :
    CallR X (.builtin "len") (fun xs H Q => ∃ (a C dx : Addr) (fs : List (Str × V)), xs = [.ref a] ∧ D C ∧ H a = some (.ins C dx fs) ∧ sp [.ref a] [] H (fun v H' => ∃ n : Nat, v = .int n ∧ n < 2 ^ 62 ∧ Q (.int n) H') NoE) := by
  intro pins s σ H xs us Q I r h
  obtain ⟨a, C, dx, fs, rfl, d, e, q⟩ := h
  obtain ⟨u, rfl, r1⟩ := vals1 r
  obtain rfl : u = Value.ref a := r1
  obtain ⟨od, J⟩ := ins_at I.hok e
  obtain ⟨m, fr⟩ := I.fr
  refine PySem.W.len_K fr I.ok.mod.kin J (hD C d).at_ (hD C d).fn (wpAny_mono (run_callN F hr.in1 hg rfl I (vs := [.ref a]) (us := [.ref a]) (.cons rfl .nil) q) (fun z s' hz => ?_) fun _ _ y => y)
  obtain ⟨v', H', I', rv, n, rfl, hn, q'⟩ := hz
  obtain ⟨t, rfl⟩ := (show ∃ t, z = Value.int n t from rv)
  exact ⟨⟨by omega, by omega⟩, .int n, H', I'.tok _, ⟨_, rfl⟩, q'⟩
/-- what a def with a star behind three parameters binds -/
theorem bind_star3 {B : List Value → Sem (List (Str × Value))} {p1 p2 p3 pv : Str} (h0 : ∀ a b c, B [a, b, c] = (newTuple [] >>= fun t => pure [(p1, a), (p2, b), (p3, c), (pv, t)])) (h1 : ∀ a b c r rs, B (a :: b :: c :: r :: rs) = (newTuple (r :: rs) >>= fun t => pure [(p1, a), (p2, b), (p3, c), (pv, t)])) :
    ∀ us rest : List Value, us.length = [p1, p2, p3].length → B (us ++ rest) = (newTuple rest >>= fun t => pure ([p1, p2, p3].zip us ++ [(pv, t)]))
  | [a, b, c], [], _ => h0 a b c
  | [a, b, c], r :: rs, _ => h1 a b c r rs
section
variable {K : PySem.W.Frag} {H : Hp}
theorem sqt_ty {a : Addr} {xs : List V} (h : SqT K H a xs) : TyX K H (.ref a) (.type "tuple") := by
  rcases h with (h | ⟨o, h⟩) | ⟨o, its, n, h, c, _⟩
  · exact .base (.tup h)
  · exact .fTuple h
  · exact .kTuple h c
def tyD : PyData → String
  | .none => "NoneType"
  | .bool _ => "bool"
  | .int _ => "int"
  | .str _ => "str"
  | .list _ => "list"
  | .tuple _ => "tuple"
  | .dict _ => "dict"
theorem dq_ty {v : V} {d : PyData} (h : Dq K H v d) : TyX K H v (.type (tyD d)) := by
  cases h with
  | non => exact .base .non
  | bl b => exact .base (.bl b)
  | int i => exact .base (.int i)
  | str x => exact .base (.str x)
  | lst a r => exact .base (.lst a)
  | tup a r => exact sqt_ty a
  | dct a r => exact .base (.dK a)
abbrev tyNames : List String := ["NoneType", "bool", "int", "str", "list", "tuple", "dict"]
theorem tyD_mem (d : PyData) : tyD d ∈ tyNames := by
  cases d <;> simp [tyD]
def isN (T n : String) : Bool := n == T || (n == "bool" && T == "int")
def isD (T : String) (d : PyData) : Bool := isN T (tyD d)
theorem kit_dInt (d : PyData) : PySem.W.kitOne K (.type (tyD d)) (.type "int") = some (isD "int" d) := kit_ty ((show ∀ n ∈ tyNames, kitB n "int" = some (isN "int" n) by decide +kernel) _ (tyD_mem d))
theorem kit_dBool (d : PyData) : PySem.W.kitOne K (.type (tyD d)) (.type "bool") = some (isD "bool" d) := kit_ty ((show ∀ n ∈ tyNames, kitB n "bool" = some (isN "bool" n) by decide +kernel) _ (tyD_mem d))
theorem kit_dStr (d : PyData) : PySem.W.kitOne K (.type (tyD d)) (.type "str") = some (isD "str" d) := kit_ty ((show ∀ n ∈ tyNames, kitB n "str" = some (isN "str" n) by decide +kernel) _ (tyD_mem d))
theorem kit_dTup (d : PyData) : PySem.W.kitOne K (.type (tyD d)) (.type "tuple") = some (isD "tuple" d) := kit_ty ((show ∀ n ∈ tyNames, kitB n "tuple" = some (isN "tuple" n) by decide +kernel) _ (tyD_mem d))
end
end Uk

/-! UkX: list(reversed(a list)); a text times a number -/
namespace Uk
section
open PySem PySem.Spec PyProof.Rows RT
variable {prog : Program} {w : World} {A : Around} {E : Value → Shared → Prop} {s : Shared}
/-- list(it), it a new reverse iterator over the list at l -/
theorem list_of_rev {it l : Addr} {items : Array Value} {Q : Value → Shared → Prop} (hh : A.handled = none) (hit : s.heap.IsRevIter it l ((items.size : Int) - 1)) (hl : s.heap.IsList l items) (hne : l ≠ it) (hn : items.size ≤ sizeLine)
    (hQ : ∀ (S : Addr) (h' : Heap) (tk : Nat) (acc : Array Value) (c : Nat), s.heap.objs.size ≤ S → (∀ b o, b ≠ it → s.heap.get? b = some o → h'.get? b = some o) → h'.get? S = some { cls := .type "list", dict := none, data := .seq acc c, slots := #[] } →
      ItemsOf (fun i v => items[items.size - 1 - i]? = some v) acc items.size → Q (.ref S) { s with heap := h', toks := tk }) :
    wpAny (model prog w) A (call (.type "list") [.ref it]) Q E s := by
  obtain ⟨oi, hoi, _⟩ := id hit
  obtain ⟨ol, hol, _⟩ := id hl
  have hSi : s.heap.objs.size ≠ it := Nat.ne_of_gt (Heap.lt_size hoi)
  have hSl : s.heap.objs.size ≠ l := Nat.ne_of_gt (Heap.lt_size hol)
  have hSf : s.heap.objs.size ∉ [it, l] := by simp only [List.mem_cons, List.not_mem_nil, or_false, not_or]; exact ⟨hSi, hSl⟩
  refine callType_codes (Q₁ := fun obj s₁ => obj = .ref s.heap.objs.size ∧ s₁ = { s with heap := s.heap.push { cls := .type "list", data := .seq #[] } }) F.called_list (F.typeCall_list_1 _) F.entry_list_init
    (code_list_new _ ⟨rfl, rfl⟩) fun obj s₁ h₁ => ?_
  obtain ⟨rfl, rfl⟩ := h₁
  have hS : (s.heap.push { cls := .type "list", data := .seq #[] }).get? s.heap.objs.size = some { cls := .type "list", data := .seq #[] } := Heap.get?_push_size _ rfl
  refine ⟨⟨_, hS, rfl⟩, F.args_list_init_2 _ _, ?_⟩
  show wpAny _ A.in1.in1 (do let old ← Builtin.List.listItems (.ref s.heap.objs.size); Builtin.List.listUpdate (.ref s.heap.objs.size) (fun _ => #[]); letGo old.toList.reverse; Builtin.List.listExtendWith (.ref s.heap.objs.size) (.ref it) .none) _ _ _
  refine wpAny_bind ?_
  unfold Builtin.List.listItems
  refine wpAny_bind (wpAny_seqItems hS rfl (wpAny_pure ?_))
  show wpAny _ A.in1.in1 (updateSeq s.heap.objs.size (fun _ => #[]) >>= fun _ => letGo (#[] : Array Value).toList.reverse >>= fun _ => Builtin.List.listExtendWith (.ref s.heap.objs.size) (.ref it) .none) _ _ _
  refine wpAny_bind (wpAny_updateSeq hS rfl ?_)
  have hS2 := Heap.get?_update_self (Obj.mapSeq (fun _ => (#[] : Array Value))) hS rfl
  refine wpAny_bind (wpAny_letGo ?_)
  unfold Builtin.List.listExtendWith
  have keep : ∀ b o, s.heap.get? b = some o → ((s.heap.push { cls := .type "list", data := .seq #[] }).update s.heap.objs.size (Obj.mapSeq (fun _ => (#[] : Array Value)))).get? b = some o := fun b o e =>
    (Heap.get?_update_other _ _ (Ne.symm (Nat.ne_of_lt (Heap.lt_size e)))).trans (Heap.get?_push_of_some _ e)
  have hit1 : ((s.heap.push { cls := .type "list", data := .seq #[] }).update s.heap.objs.size (Obj.mapSeq (fun _ => (#[] : Array Value)))).IsRevIter it l ((items.size : Int) - 1) := hit.at fun o e => keep _ _ e
  have hl1 : ((s.heap.push { cls := .type "list", data := .seq #[] }).update s.heap.objs.size (Obj.mapSeq (fun _ => (#[] : Array Value)))).IsList l items := hl.at fun o e => keep _ _ e
  have hT : ({ s with heap := (s.heap.push { cls := .type "list", data := .seq #[] }).update s.heap.objs.size (Obj.mapSeq (fun _ => (#[] : Array Value))) } : Shared).TypeIs (.ref it) "list_reverseiterator" := Heap.IsRevIter.typeIs (s := { s with heap := _ }) hit1
  have h1 : Builtin.List.listSameRef (.ref s.heap.objs.size) (.ref it) = false := by simp [Builtin.List.listSameRef, hSi]
  refine wpAny_bind (wpAny_typeOf hT ?_)
  have h2 : (Value.type "list_reverseiterator" == Value.type "list") = false := by decide
  have h3 : (Value.type "list_reverseiterator" == Value.type "tuple") = false := by decide
  simp only [h1, h2, h3, Bool.or_false, Bool.false_eq_true, if_false]
  refine wpAny_bind (wpAny_pyIter_revIter (s := { s with heap := _ }) hit1 ?_)
  refine wpAny_bind (wpAny_holding ?_)
  unfold Builtin.List.listLengthHint
  refine wpAny_bind (wpAny_specialOf hT nolen_lri ?_)
  show wpAny _ A.in1.in1 (specialOf (Value.ref it) (Str.ofString "__length_hint__") >>= _) _ _ _
  refine wpAny_bind (wpAny_specialOf hT hint_lri ?_)
  generalize hid : ("list_reverseiterator.__length_hint__" : String) = id0
  wp_delta
  rw [show splitId id0 = some ("list_reverseiterator", "__length_hint__") from by subst hid; decide +kernel]
  subst hid
  refine wpAny_bind (wpAny_isInstance (b := true) hT (by rw [isSubtype_type]; kernel_rfl) ?_)
  refine wpAny_pure ?_
  rw [if_neg (by decide)]
  have W := (Walks.listRev (prog := prog) (w := w) (A := A.in1.in1) hh it l hne items).toS
  have e0 : ((items.size : Nat) : Int) - 1 - ((0 : Nat) : Int) = (items.size : Int) - 1 := by omega
  refine wpAny_pure ⟨plainId_quiet F.plain_extend_loop _, codeAny_extend_loopS (A := A.in1) W hn _ hSf _ items.size 0 _ _ _ rfl (Nat.zero_le _) ⟨Nat.zero_le _, by rw [e0]; exact hit1, hl1⟩ hS2 (ItemsOf.nil _) fun s' acc' c' hm hS' hacc => ?_⟩
  rw [Moved.eq_with hm]
  refine ⟨rfl, hQ _ s'.heap s'.toks acc' c' (Nat.le_refl _) (fun b o hb e => hm.heap b o (fun hmem => ?_) (keep _ _ e)) hS' hacc⟩
  rcases List.mem_cons.mp hmem with e' | hmem
  · exact absurd (Heap.lt_size e) (by rw [e']; exact Nat.lt_irrefl _)
  · exact hb (List.mem_singleton.mp hmem)
end
section
open PySem PySem.Spec PyProof.Rows L2 StX RT
variable {X : Cx}
/-- list(reversed(x)), x a list: a new list -/
def tListRev (K : PySem.W.Frag) (te : TE) : TE := fun σ H Q => te σ H fun v H1 => ∃ (a : Addr) (xs : List V), v = .ref a ∧ SqL K H1 a xs ∧ ∀ q, H1 q = none → Q (.ref q) (upd H1 q (.lst xs.reverse))
theorem pe_listRev {e : Expr} {te : TE} {p p2 pos pos2 : Pos} (hc : X.calm = true) (hg : Gl X "list") (hm : X.mg "list" = none) (hg2 : Gl X "reversed") (hm2 : X.mg "reversed" = none) (he : PE X e te)
    (hs : starEach [e] X.env = (false, eval e X.env) :: starEach [] X.env := by rfl)
    (hs2 : starEach [.Call (.Name "reversed" p2) [e] [] pos2] X.env = (false, eval (.Call (.Name "reversed" p2) [e] [] pos2) X.env) :: starEach [] X.env := by rfl) :
    PE X (.Call (.Name "list" p) [.Call (.Name "reversed" p2) [e] [] pos2] [] pos) (tListRev X.K te) := by
  refine ⟨fun pins s σ H Q I h => ?_⟩
  refine Call_ (ld_blt I hg hm PyProof.Rows.boot_list (PyProof.Rows.callWith_type1 (args_cons (Call_ (ld_blt I hg2 hm2 PyProof.Rows.boot_reversed (PyProof.Rows.callWith_type1 (args_cons (thn (he.run pins s σ H _ I h) fun u s1 ⟨v, H1, I1, r1, q1⟩ => args_nil ?_) hs) hs rfl))) hs2) hs2 rfl))
  obtain ⟨a, xs, ev, hq, q⟩ := q1
  subst ev
  obtain rfl : u = Value.ref a := r1
  obtain ⟨its, rv, p', hz⟩ := I1.list hq
  refine call_reversed_list p'.isList (args_nil ?_)
  have k0 : ∀ b o, s1.heap.get? b = some o → (s1.heap.push (revObj a ((its.toArray.size : Int) - 1))).get? b = some o := fun b o e => Heap.get?_push_of_some _ e
  have I2 : Inv X pins σ H1 { s1 with heap := s1.heap.push (revObj a ((its.toArray.size : Int) - 1)) } := I1.kept (t' := s1.toks) k0
  have fp := I1.fpOk (H' := H1) (b := s1.heap.objs.size) (Nat.le_refl _) (I1.hok.fresh (Nat.le_refl _))
  have hl := p'.isList
  obtain ⟨ol, hol, _⟩ := id hl
  have hne : a ≠ s1.heap.objs.size := Nat.ne_of_lt (Heap.lt_size hol)
  have hn : its.toArray.size ≤ sizeLine := by rw [List.size_toArray, ← rv.length]; exact hz
  refine list_of_rev (s := { s1 with heap := s1.heap.push (revObj a ((its.toArray.size : Int) - 1)) }) (I1.ok.hd hc) ⟨_, Heap.get?_push_size _ rfl, rfl, rfl⟩ (hl.push _) hne hn fun S h' tk acc c hS hk hS' hi => ?_
  have new : ObjOk X.prog X.w (upd H1 S (.lst xs.reverse)) h' S (.lst xs.reverse) := ⟨by rw [List.length_reverse]; exact hz, acc.toList, c, vals_rev rv hi, by rw [Array.toArray_toList]; exact hS'⟩
  have hSn : H1 S = none := I2.hok.fresh hS
  exact ⟨.ref S, upd H1 S (.lst xs.reverse), I2.turnedNew (t' := tk) (ch := [s1.heap.objs.size]) (fun b o hb e => hk b o (fun z => hb (by rw [z]; exact List.mem_singleton_self _)) e) (fun b hb => by rw [List.mem_singleton.mp hb]; exact fp) hS new, rfl, q S hSn⟩
/-- a text, n times -/
def strRep (z : Str) (n : Int) : Str := ⟨(List.replicate n.toNat z.cps).foldl (· ++ ·) #[]⟩
theorem rep_size (c : Array Nat) : ∀ (n : Nat) (acc : Array Nat), ((List.replicate n c).foldl (fun x1 x2 => x1 ++ x2) acc).size = acc.size + c.size * n
  | 0, acc => by simp
  | n + 1, acc => by
    rw [List.replicate_succ, List.foldl_cons, rep_size c n, Array.size_append, Nat.mul_succ]
    omega
theorem strRep_len (z : Str) (n : Int) : (strRep z n).length = z.length * n.toNat := by
  show ((List.replicate n.toNat z.cps).foldl (fun x1 x2 => x1 ++ x2) #[]).size = _
  rw [rep_size]
  simp [Str.length]
theorem op_mulS : OpR X (binaryOp .Mult) (fun x y H Q => ∃ (z : Str) (n : Int), x = .str z ∧ y = .int n ∧ 1 ≤ z.length ∧ z.length ≤ 1000 ∧ 1 ≤ n ∧ n ≤ 1000 ∧ Q (.str (strRep z n)) H) := by
  intro pins s σ H x y u v Q I rx ry h
  obtain ⟨z, n, rfl, rfl, z1, z2, n1, n2, q⟩ := h
  obtain ⟨t, rfl⟩ := (show ∃ t, u = Value.str z t from rx)
  obtain ⟨t2, rfl⟩ := (show ∃ t, v = Value.int n t from ry)
  have hz : (z.length == 0) = false := by
    rw [beq_eq_false_iff_ne]
    omega
  have hprod : z.length * n.toNat ≤ 1000 * 1000 := Nat.mul_le_mul z2 (by omega)
  refine PySem.P.mul_str (by rw [decide_eq_false (by omega), decide_eq_false (by omega)] <;> rfl) (fun _ _ => ?_) (fun _ _ => ?_) ?_
  · have h1 : (1000 : Int) ≤ (2 ^ 63 - 1) / n := (Int.le_ediv_iff_mul_le (by omega)).mpr (by omega)
    omega
  · refine decide_eq_false (p := z.length * n.toNat > sizeLine) ?_
    rw [sizeLine_eq]
    omega
  · rw [if_neg (by omega)]
    by_cases e : n = 1
    · subst e
      rw [if_pos (by rfl)]
      have es : strRep z 1 = z := by
        obtain ⟨c⟩ := z
        unfold strRep
        simp
      rw [es] at q
      exact ⟨.str z, H, I, ⟨_, rfl⟩, q⟩
    · have hn1 : (n == 1) = false := beq_eq_false_iff_ne.mpr e
      rw [if_neg (by rw [hn1, hz]; exact Bool.false_ne_true)]
      refine ⟨?_, .str (strRep z n), H, I.tok _, ⟨_, rfl⟩, q⟩
      show (strRep z n).length ≤ _
      rw [strRep_len, sizeLine_eq]
      omega
end
end Uk

/-! UkY: the first k such that; lists of data; small words of proofs -/
namespace Uk
open PySem PySem.Spec PyProof.Rows L2 StX
def firstK (p : Nat → Bool) : Nat → Nat → Option Nat
  | _, 0 => none
  | k, n + 1 => if p k = true then some k else firstK p (k + 1) n
theorem firstK_some {p : Nat → Bool} : ∀ {n k i : Nat}, (∀ j, j < i → p (k + j) = false) → p (k + i) = true → i < n → firstK p k n = some (k + i)
  | 0, _, _, _, _, h => absurd h (Nat.not_lt_zero _)
  | n + 1, k, 0, _, h, _ => by
    show (if p k = true then some k else _) = _
    rw [if_pos (show p k = true from h)]
    rfl
  | n + 1, k, i + 1, h0, h, hi => by
    show (if p k = true then some k else _) = _
    have e : p k = false := h0 0 (Nat.succ_pos _)
    rw [if_neg (by rw [e]; exact Bool.false_ne_true), firstK_some (i := i) (fun j hj => by rw [Nat.add_assoc, Nat.add_comm 1 j]; exact h0 (j + 1) (Nat.succ_lt_succ hj)) (by rw [Nat.add_assoc, Nat.add_comm 1 i]; exact h) (Nat.lt_of_succ_lt_succ hi), Nat.add_assoc, Nat.add_comm 1 i]
theorem firstK_none {p : Nat → Bool} : ∀ {n k : Nat}, (∀ j, j < n → p (k + j) = false) → firstK p k n = none
  | 0, _, _ => rfl
  | n + 1, k, h => by
    show (if p k = true then some k else _) = _
    have e : p k = false := h 0 (Nat.succ_pos _)
    rw [if_neg (by rw [e]; exact Bool.false_ne_true)]
    exact firstK_none fun j hj => by rw [Nat.add_assoc, Nat.add_comm 1 j]; exact h (j + 1) (Nat.succ_lt_succ hj)
def intV : PyData → Int
  | .int i => i
  | _ => 0
theorem dqAll_get {K : PySem.W.Frag} {H : Hp} : ∀ {vs : List V} {ds : List PyData} {i : Nat} {v : V}, DqAll K H vs ds → vs[i]? = some v → ∃ d, ds[i]? = some d ∧ Dq K H v d
  | [], _, _, _, _, h => by simp at h
  | x :: vs, d :: ds, 0, v, .cons a r, h => by
    simp at h
    subst h
    exact ⟨d, rfl, a⟩
  | x :: vs, d :: ds, i + 1, v, .cons a r, h => dqAll_get (i := i) r (by simpa using h)
theorem dqAll_len {K : PySem.W.Frag} {H : Hp} : ∀ {vs : List V} {ds : List PyData}, DqAll K H vs ds → vs.length = ds.length
  | [], [], .nil => rfl
  | _ :: _, _ :: _, .cons _ r => congrArg Nat.succ (dqAll_len r)
theorem old_none {p c z : Addr} {m : Int} {H H' : Hp} (s : Same (Off p H) (Off p H')) (P : Pen H' p c m) (hz : H' z = none) : H z = none := by
  cases e : H z with
  | none => rfl
  | some u =>
    have y := Uk.Off.at (s _ _ (Uk.Off.of e (P.ne hz)))
    rw [hz] at y
    cases y
theorem firstK_none' {p : Nat → Bool} : ∀ {n k : Nat}, firstK p k n = none → ∀ j, j < n → p (k + j) = false
  | 0, _, _, _, h => absurd h (Nat.not_lt_zero _)
  | n + 1, k, h, j, hj => by
    have h' : (if p k = true then some k else firstK p (k + 1) n) = none := h
    cases e : p k with
    | true =>
      rw [e, if_pos rfl] at h'
      cases h'
    | false =>
      rw [e, if_neg Bool.false_ne_true] at h'
      cases j with
      | zero => exact e
      | succ j =>
        have z := firstK_none' h' j (Nat.lt_of_succ_lt_succ hj)
        rw [Nat.add_assoc, Nat.add_comm 1 j] at z
        exact z
theorem all_ints : ∀ {ds : List PyData}, (∀ (j : Nat) (d : PyData), ds[j]? = some d → ∃ a : Int, d = PyData.int a) → ∃ js : List Int, ds = js.map PyData.int
  | [], _ => ⟨[], rfl⟩
  | d :: ds, h => by
    obtain ⟨a, rfl⟩ := h 0 d rfl
    obtain ⟨js, rfl⟩ := all_ints (ds := ds) fun j d e => h (j + 1) d e
    exact ⟨a :: js, rfl⟩
theorem dqAll_ints {K : PySem.W.Frag} {H : Hp} : ∀ js : List Int, DqAll K H (js.map V.int) (js.map PyData.int)
  | [] => .nil
  | j :: js => .cons (.int j) (dqAll_ints js)
theorem dqAll_ints' {K : PySem.W.Frag} {H : Hp} : ∀ {js : List Int} {xs : List V}, DqAll K H xs (js.map PyData.int) → xs = js.map V.int
  | [], _, .nil => rfl
  | j :: js, _, .cons (.int _) r => by rw [dqAll_ints' r] <;> rfl
theorem eqv_ints : ∀ js : List Int, PyData.eqvAll (js.map PyData.int) (js.map PyData.int) = true
  | [] => rfl
  | j :: js => by
    show ((j == j) && PyData.eqvAll (js.map PyData.int) (js.map PyData.int)) = true
    rw [eqv_ints js, beq_self_eq_true] <;> rfl
theorem neqv_ints (js : List Int) : (!PyData.eqv (.tuple (js.map PyData.int)) (.tuple (js.map PyData.int))) = false := by
  rw [show PyData.eqv (.tuple (js.map PyData.int)) (.tuple (js.map PyData.int)) = true from eqv_ints js] <;> rfl
theorem neqv_lints (js : List Int) : (!PyData.eqv (.list (js.map PyData.int)) (.list (js.map PyData.int))) = false := by
  rw [show PyData.eqv (.list (js.map PyData.int)) (.list (js.map PyData.int)) = true from eqv_ints js] <;> rfl
theorem canlay_ints : ∀ js : List Int, PyData.canLayAll0 (js.map PyData.int) = true
  | [] => rfl
  | j :: js => by
    show (true && PyData.canLayAll0 (js.map PyData.int)) = true
    rw [canlay_ints js] <;> rfl
theorem depth_ints : ∀ js : List Int, PyData.depthAll (js.map PyData.int) = 0
  | [] => rfl
  | j :: js => by
    show max 0 (PyData.depthAll (js.map PyData.int)) = 0
    rw [depth_ints js] <;> rfl
theorem shaped_tints (js : List Int) : SeqAt.shaped (.tuple (js.map PyData.int)) = true := by
  show (PyData.canLayAll0 (js.map PyData.int) && decide (PyData.depthAll (js.map PyData.int) + 1 ≤ 64)) = true
  rw [canlay_ints, depth_ints] <;> rfl
theorem shaped_lints (js : List Int) : SeqAt.shaped (.list (js.map PyData.int)) = true := by
  show (PyData.canLayAll0 (js.map PyData.int) && decide (PyData.depthAll (js.map PyData.int) + 1 ≤ 64)) = true
  rw [canlay_ints, depth_ints] <;> rfl
theorem dqAll_set {K : PySem.W.Frag} {H : Hp} : ∀ {xs : List V} {ds : List PyData} {v : V} {d : PyData}, DqAll K H xs ds → Dq K H v d → ∀ i, DqAll K H (xs.set i v) (ds.set i d)
  | [], [], _, _, .nil, _, _ => .nil
  | _ :: _, _ :: _, _, _, .cons _ r, q, 0 => .cons q r
  | _ :: _, _ :: _, _, _, .cons a r, q, i + 1 => .cons a (dqAll_set r q i)
theorem split_rest {R : L2.St → Hp → Prop} {G : Prop} {C : L2.St → Hp → Prop} (main : (∀ σ Hx, C σ Hx → R σ Hx) → G) (rest : ∀ σ Hx, C σ Hx → R σ Hx) : G := main rest
section
variable {X : Cx} {W : WX} {k : Nat} {C f : Addr} {sp : Sp} {x : Str} {p qs : Pos} {e : Expr} {es : List Expr} {t : TA}
/-- C(e, .., *y) -/
theorem pe_mkGS (tk : Takes X W) (M : Mk X.K C f) (F : CallG X.prog X.w X.K X.mg X.base k (.ref f) (pos sp)) (hr : Room (k + 1) X.A) (hg : X.A.guards = some []) (hx : Gl X x) (hm : X.mg x = some (.ref C)) (ha : PA X (e :: es) t)
    (hdb : (x == ("__debug__" : Str)) = false := by decide) (he : starEach (e :: es) X.env = (false, eval e X.env) :: starEach es X.env := by rfl) (hst : (backTo qs (starEach es X.env)).any (·.1) = true := by rfl) :
    PE X (.Call (.Name x p) (e :: es) [] qs) (tCl W (pos (spMk C sp)) t) := by
  refine ⟨fun pins s σ H Q I h => ?_⟩
  refine wpAny_Call_Name_kw (ld_glob I hx hm ?_ hdb)
  refine PySem.W.callWith_S2 (h₀ := X.base) I.ok.mod.kin M.kp (thn (ha.run qs pins s σ H _ I h) fun us s1 ⟨vs, H1, I1, r, q⟩ => ⟨I1.kIn, ?_⟩) he hst
  exact run_makeG tk M F hr hg I1 r q.2
end
end Uk

/-! UkZ: == and != of lists and tuples whose items are the same (whatever they are: dicts within too), or whose lengths differ -/
namespace Uk
open PySem PySem.Spec PyProof.Rows L2 StX PySem.SeqAt
def idV : V → Bool
  | .byt _ => false
  | .flt _ => false
  | _ => true
theorem dq_idV {K : PySem.W.Frag} {H : Hp} {v : V} {d : PyData} (h : Dq K H v d) : idV v = true := by cases h <;> rfl
theorem dqAll_idV {K : PySem.W.Frag} {H : Hp} : ∀ {vs : List V} {ds : List PyData}, DqAll K H vs ds → ∀ v ∈ vs, idV v = true
  | [], _, _, _, m => nomatch m
  | x :: vs, d :: ds, .cons h r, v, m => by
    rcases List.mem_cons.mp m with e | e
    · rw [e]; exact dq_idV h
    · exact dqAll_idV r v e
theorem eqAt_sameV {A : Around} {s : Shared} : ∀ {v : V} {u u' : Value}, RelV v u → RelV v u' → idV v = true → EqAt A s u u' true
  | .non, _, _, r, r', _ => by cases r; cases r'; exact EqAt.same _
  | .bl b, _, _, r, r', _ => by cases r; cases r'; exact EqAt.same _
  | .int i, _, _, r, r', _ => by
    obtain ⟨t, rfl⟩ := r
    obtain ⟨t', rfl⟩ := r'
    have := EqAt.int_int (A := A) (s := s) i t i t'
    rw [beq_self_eq_true] at this
    exact this
  | .str x, _, _, r, r', _ => by
    obtain ⟨t, rfl⟩ := r
    obtain ⟨t', rfl⟩ := r'
    have := EqAt.str_str (A := A) (s := s) x t x t'
    rw [show (x == x) = true from by simp] at this
    exact this
  | .byt _, _, _, _, _, h => nomatch h
  | .flt _, _, _, _, _, h => nomatch h
  | .ref a, _, _, r, r', _ => by cases r; cases r'; exact EqAt.same _
  | .ty n, _, _, r, r', _ => by cases r; cases r'; exact EqAt.same _
theorem eqAt_items {A : Around} {s : Shared} {xs : List V} {us us' : List Value} (r : Vals xs us) (r' : Vals xs us') (h : ∀ v ∈ xs, idV v = true) (j : Nat) (h1 : j < us.toArray.size) (h2 : j < us'.toArray.size) : EqAt A s us.toArray[j] us'.toArray[j] true := by
  rw [List.size_toArray] at h1 h2
  have hj : j < xs.length := by rw [r.length]; exact h1
  have e := List.getElem?_eq_getElem hj
  obtain ⟨u, e1, r1⟩ := r.get e
  obtain ⟨u', e2, r2⟩ := r'.get e
  have f1 : us.toArray[j]'(by rw [List.size_toArray]; exact h1) = u := by
    rw [List.getElem?_eq_getElem h1] at e1
    rw [List.getElem_toArray]
    exact Option.some.inj e1
  have f2 : us'.toArray[j]'(by rw [List.size_toArray]; exact h2) = u' := by
    rw [List.getElem?_eq_getElem h2] at e2
    rw [List.getElem_toArray]
    exact Option.some.inj e2
  rw [f1, f2]
  exact eqAt_sameV r1 r2 (h _ (List.getElem_mem hj))
theorem all_tt (n : Nat) : (List.range n).all (fun _ => true) = true := List.all_eq_true.mpr fun _ _ => rfl
section
variable {X : Cx}
def rNeLs (K : PySem.W.Frag) : R2 := fun x y H Q => ∃ (a b : Addr) (xs ys : List V), x = .ref a ∧ y = .ref b ∧ SqL K H a xs ∧ SqL K H b ys ∧ ((xs.length ≠ ys.length ∧ Q (.bl true) H) ∨ (xs = ys ∧ (∀ v ∈ xs, idV v = true) ∧ Q (.bl false) H))
theorem op_neLs (hu : X.A.units + 64 < cLine) : OpR X (compareOp .NotEq) (rNeLs X.K) := by
  intro pins s σ H x y v u Q I rx ry h
  obtain ⟨a, b, xs, ys, rfl, rfl, ha, hb, q⟩ := h
  cases rx
  cases ry
  obtain ⟨its, r, ⟨o, n, ho, hc, _, hd⟩, _⟩ := I.list ha
  obtain ⟨its2, r2, ⟨o2, n2, ho2, hc2, _, hd2⟩, _⟩ := I.list hb
  have e1 : its.toArray.size = xs.length := by rw [List.size_toArray]; exact r.length.symm
  have e2 : its2.toArray.size = ys.length := by rw [List.size_toArray]; exact r2.length.symm
  rcases q with ⟨hl, q⟩ | ⟨rfl, hi, q⟩
  · exact RcNeAt.lists_lengths (A := X.A) ⟨o, ho, hc, n, hd⟩ ⟨o2, ho2, hc2, n2, hd2⟩ (by rw [e1, e2]; exact bne_iff_ne.mpr hl) (by omega) X.prog X.w _ _ ⟨.bl true, H, I, rfl, q⟩
  · refine RcNeAt.lists (A := X.A) (e := fun _ => true) ⟨o, ho, hc, n, hd⟩ ⟨o2, ho2, hc2, n2, hd2⟩ (by rw [e1, e2]) (by omega) (fun j h1 h2 => eqAt_items r r2 hi j h1 h2) X.prog X.w _ _ ?_
    rw [all_tt]
    exact ⟨.bl false, H, I, rfl, q⟩
def rEqTs (K : PySem.W.Frag) : R2 := fun x y H Q => ∃ (a b : Addr) (xs : List V), x = .ref a ∧ y = .ref b ∧ SqT K H a xs ∧ SqT K H b xs ∧ (∀ v ∈ xs, idV v = true) ∧ Q (.bl true) H
theorem op_eqTs (hu : X.A.units + 64 < cLine) : OpR X (compareOp .Eq) (rEqTs X.K) := by
  intro pins s σ H x y v u Q I rx ry h
  obtain ⟨a, b, xs, rfl, rfl, ha, hb, hi, q⟩ := h
  cases rx
  cases ry
  obtain ⟨its, r, ⟨o, ho, hc, n, hd⟩, _⟩ := I.tuple ha
  obtain ⟨its2, r2, ⟨o2, ho2, hc2, n2, hd2⟩, _⟩ := I.tuple hb
  have e1 : its.toArray.size = xs.length := by rw [List.size_toArray]; exact r.length.symm
  have e2 : its2.toArray.size = xs.length := by rw [List.size_toArray]; exact r2.length.symm
  refine RcAt.tuples (A := X.A) (e := fun _ => true) ⟨o, ho, hc, n, hd⟩ ⟨o2, ho2, hc2, n2, hd2⟩ (by omega) (fun j h1 h2 => eqAt_items r r2 hi j h1 h2) X.prog X.w _ _ ?_
  rw [all_tt, Bool.true_and, e1, e2, beq_self_eq_true]
  exact ⟨.bl true, H, I, rfl, q⟩
/-- t + u, of any tuples -/
def rCatTa (K : PySem.W.Frag) : R2 := fun x y H Q => ∃ a b xs ys, x = .ref a ∧ y = .ref b ∧ SqT K H a xs ∧ SqT K H b ys ∧ xs.length + ys.length ≤ sizeLine ∧
  (xs = [] → Q (.ref b) H) ∧ (xs ≠ [] → ys = [] → Q (.ref a) H) ∧ (xs ≠ [] → ys ≠ [] → ∀ p, H p = none → Q (.ref p) (upd H p (.tup (xs ++ ys))))
theorem op_catTa : OpR X (binaryOp .Add) (rCatTa X.K) := by
  intro pins s σ H x y v u Q I rx ry h
  obtain ⟨a, b, xs, ys, rfl, rfl, ha, hb, hz, q0, q1, q2⟩ := h
  by_cases hx : xs = []
  · cases rx
    cases ry
    obtain ⟨its, r1, p1, _⟩ := I.tuple ha
    obtain ⟨its2, r2, p2, _⟩ := I.tuple hb
    obtain ⟨⟨cls, dd, data, sl⟩, ho, hc, n, hd⟩ := id p1
    obtain ⟨⟨cls2, dd2, data2, sl2⟩, ho2, hc2, n2, hd2⟩ := id p2
    simp only at hc hd hc2 hd2
    subst hc hd hc2 hd2
    have e : its = [] := r1.nil_iff.mpr hx
    exact concat_meets ⟨_, ho, rfl⟩ ⟨_, ho2, rfl⟩ noFill_tuple_add seq_tuple_add PySem.F.slot_tuple_add PySem.F.entry_tuple_add (PySem.F.args_tuple_add_2 _ _)
      (tuple_addW0 a b its.toArray its2.toArray n n2 dd dd2 sl sl2 (by simp [e])) ⟨ho, ho2, .ref b, H, I, rfl, q0 hx⟩
  · exact op_catT pins s σ H _ _ v u Q I rx ry ⟨a, b, xs, ys, rfl, rfl, ha, hb, hx, hz, q1 hx, q2 hx⟩
theorem pe_meV0 {X : Cx} {W : WX} {k : Nat} {dom : Addr → Prop} {f : Addr → Addr} {sp : Addr → SpK} {m : Str} {o : Expr} {qs apos : Pos} {ta : TE} {pl : Sem Bool} (tk : Takes X W) (he : PE X o ta) (hm : ∀ C, dom C → Cls X.K C ∧ Meth X.K C m (f C))
    (F : ∀ C, dom C → CallG X.prog X.w X.K X.mg X.base k (.ref (f C)) (sp C)) (hr : Room k X.A) (hg : X.A.guards = some [])
    (ht : eval (.Call (.Attribute o m apos) [] [] qs) X.env = (do
      let ov ← eval o X.env
      standAt apos.atName
      let (f, first) ← holding [ov] (getMethod ov m pl)
      callWith qs f first (backTo qs (starEach [] X.env)) (backToKw qs (keywordEach [] X.env))) := by rfl) :
    PE X (.Call (.Attribute o m apos) [] [] qs) (tMeV W dom m sp ta tNil) := by
  refine ⟨fun pins s σ H Q I h => ?_⟩
  refine PySem.W.methodCall_KW (pl := pl) (thn (he.run pins s σ H _ I h) fun u s1 ⟨x, H1, I1, rx, a, C, dx, fs, ex, d, ea, l, q⟩ => ?_) ht
  subst ex
  obtain rfl : u = Value.ref a := rx
  refine getmeth_ok I1 ea (hm C d).1 (hm C d).2 l ?_
  exact PySem.W.callWith_K0 (first := [.ref a]) I1.kIn (hm C d).2.kp (run_call (us := [.ref a]) (vs := [.ref a]) tk (F C d) hr hg I1 (.cons rfl .nil) .nil q)
end
end Uk

/-! UkAA: == of a dict and of anything else but a dict: False, either way -/
namespace PySem.SeqAt
open AutoSeq1 (wpAny_loadPart')
open MeetsSeq
theorem int_eq_dict_bool (b : Bool) (l : Addr) (es : Array DictEntry) (ep : Nat) (dd : Option Addr) (sl : Array (Option Value)) :
    Meets (Builtin.«int.__eq__» ⟨[.bool b, .ref l], []⟩) (fun _ R s => s.heap.get? l = some { cls := .type "dict", dict := dd, data := .dict es ep, slots := sl } ∧ R (.ok (.ret .notImplemented)) s) :=
  .of_wp fun prog w A R s h => by obtain ⟨hp, g, d, tk, os⟩ := s; obtain ⟨hl, h⟩ := h; wp_walk using wpAny_loadPart' hl, wpAny_load hl; exact ⟨_, rfl, h⟩
theorem int_eq_dict_int (b : Int) (u : Tok) (l : Addr) (es : Array DictEntry) (ep : Nat) (dd : Option Addr) (sl : Array (Option Value)) :
    Meets (Builtin.«int.__eq__» ⟨[.int b u, .ref l], []⟩) (fun _ R s => s.heap.get? l = some { cls := .type "dict", dict := dd, data := .dict es ep, slots := sl } ∧ R (.ok (.ret .notImplemented)) s) :=
  .of_wp fun prog w A R s h => by obtain ⟨hp, g, d, tk, os⟩ := s; obtain ⟨hl, h⟩ := h; wp_walk using wpAny_loadPart' hl, wpAny_load hl; exact ⟨_, rfl, h⟩
theorem str_eq_dict_str (b : Str) (u : Tok) (l : Addr) (es : Array DictEntry) (ep : Nat) (dd : Option Addr) (sl : Array (Option Value)) :
    Meets (Builtin.«str.__eq__» ⟨[.str b u, .ref l], []⟩) (fun _ R s => s.heap.get? l = some { cls := .type "dict", dict := dd, data := .dict es ep, slots := sl } ∧ R (.ok (.ret .notImplemented)) s) :=
  .of_wp fun prog w A R s h => by obtain ⟨hp, g, d, tk, os⟩ := s; obtain ⟨hl, h⟩ := h; wp_walk using wpAny_loadPart' hl, wpAny_load hl; exact ⟨_, rfl, h⟩
theorem list_eq_dict (l b : Addr) (items : Array Value) (n : Nat) (dd : Option Addr) (sl : Array (Option Value)) (es : Array DictEntry) (ep : Nat) (dd2 : Option Addr) (sl2 : Array (Option Value)) :
    Meets (Builtin.«list.__eq__» ⟨[.ref l, .ref b], []⟩) (fun _ R s => s.heap.get? l = some { cls := .type "list", dict := dd, data := .seq items n, slots := sl } ∧ s.heap.get? b = some { cls := .type "dict", dict := dd2, data := .dict es ep, slots := sl2 } ∧ R (.ok (.ret .notImplemented)) s) :=
  .of_wp fun prog w A R s h => by obtain ⟨hp, g, d, tk, os⟩ := s; obtain ⟨hl, hb, h⟩ := h; have f1 := F.sub_dict_list; wp_walk using wpAny_loadPart' hl, wpAny_loadPart' hb; exact ⟨_, rfl, h⟩
theorem tuple_eq_dict (l b : Addr) (items : Array Value) (n : Nat) (dd : Option Addr) (sl : Array (Option Value)) (es : Array DictEntry) (ep : Nat) (dd2 : Option Addr) (sl2 : Array (Option Value)) :
    Meets (Builtin.«tuple.__eq__» ⟨[.ref l, .ref b], []⟩) (fun _ R s => s.heap.get? l = some { cls := .type "tuple", dict := dd, data := .seq items n, slots := sl } ∧ s.heap.get? b = some { cls := .type "dict", dict := dd2, data := .dict es ep, slots := sl2 } ∧ R (.ok (.ret .notImplemented)) s) :=
  .of_wp fun prog w A R s h => by obtain ⟨hp, g, d, tk, os⟩ := s; obtain ⟨hl, hb, h⟩ := h; have f1 := F.sub_dict_tuple; wp_walk using wpAny_loadPart' hl, wpAny_loadPart' hb; exact ⟨_, rfl, h⟩
section
variable {prog : Program} {w : World} {A : Around} {E : Value → Shared → Prop} {s : Shared}
theorem dict_declines {id : String} {l : Addr} {v : Value} {T : String} {f : Str} (hslot : Slot "dict" f id) (e : id = "dict.__eq__") (hl : s.TypeIs (.ref l) "dict") (hv : s.TypeIs v T) (hsub : isSubtype (.type T) (.type "dict") = pure false) (Q' : Value → Shared → Prop) (hq : Q' .notImplemented s) :
    wpAny (model prog w) A (call (.builtin id) [.ref l, v]) Q' E s := by
  subst e
  refine wpAny_call_entry hslot hl PySem.F.entry_dict_eq ?_ (PySem.F.args_dict_eq_2 _ _)
  show wpAny _ _ (Builtin.Dict.dictSlotArgs "__eq__" ⟨[.ref l, v], []⟩ >>= _) _ _ s
  refine wpAny_bind ?_
  unfold Builtin.Dict.dictSlotArgs
  refine wpAny_bind (wpAny_notOrdered_dict hl ?_)
  show wpAny _ _ (pure (Value.ref l, v)) _ _ s
  refine wpAny_pure ?_
  refine wpAny_bind (wpAny_isInstance (T := T) hv hsub ?_)
  simp only [Bool.not_false, if_true]
  exact wpAny_bind (wpAny_rule (wpAny_pure ⟨_, rfl, hq⟩))
/-- a plain dict lies at l -/
def IsDict (s : Shared) (l : Addr) : Prop := ∃ dd es ep sl, s.heap.get? l = some { cls := .type "dict", dict := dd, data := .dict es ep, slots := sl }
theorem RcAt.dict_none {l : Addr} (hl : IsDict s l) (hu : A.units < cLine) : RcAt A s (.ref l) .none false := fun prog w E Q h => by
  obtain ⟨dd, es, ep, sl, ho⟩ := hl
  exact rc_eq_decline_or (k := false) ⟨_, ho, rfl⟩ rfl (by decide) F.sub_NoneType_dict F.slot_dict_eq F.slot_NoneType_eq_refl
    (fun _ hq => dict_declines (v := .none) (T := "NoneType") F.slot_dict_eq rfl ⟨_, ho, rfl⟩ rfl F.sub_NoneType_dict _ hq)
    (fun _ hq => call_gives F.slot_NoneType_eq_refl rfl F.entry_NoneType_eq (F.args_NoneType_eq_2 _ _) (NoneType___eq___none_ref_0 l) hq)
    (fun _ hq => wpAny_of_eq (rfl : isSame (.ref l) .none = pure false) hq) (.inr hu) h
theorem EqAt.dict_none {l : Addr} (hl : IsDict s l) (hu : A.units < cLine) : EqAt A s (.ref l) .none false := fun prog w E Q h => by
  unfold eqBool
  refine wpAny_holding ?_
  refine wpAny_ite_split (fun hab => absurd (eq_of_beq hab) nofun) (fun _ => ?_)
  exact wpAny_bind (RcAt.dict_none  hl hu prog w E _ (wpAny_truthy_bool h))
theorem RcAt.none_dict {l : Addr} (hl : IsDict s l) (hu : A.units < cLine) : RcAt A s .none (.ref l) false := fun prog w E Q h => by
  obtain ⟨dd, es, ep, sl, ho⟩ := hl
  exact rc_eq_decline_or (k := false) rfl ⟨_, ho, rfl⟩ (by decide) F.sub_dict_NoneType F.slot_NoneType_eq F.slot_dict_eq_refl
    (fun _ hq => call_gives F.slot_NoneType_eq rfl F.entry_NoneType_eq (F.args_NoneType_eq_2 _ _) (NoneType___eq___none_ref_0 l) hq)
    (fun _ hq => dict_declines (v := .none) (T := "NoneType") F.slot_dict_eq_refl rfl ⟨_, ho, rfl⟩ rfl F.sub_NoneType_dict _ hq)
    (fun _ hq => wpAny_of_eq (rfl : isSame .none (.ref l) = pure false) hq) (.inr hu) h
theorem EqAt.none_dict {l : Addr} (hl : IsDict s l) (hu : A.units < cLine) : EqAt A s .none (.ref l) false := fun prog w E Q h => by
  unfold eqBool
  refine wpAny_holding ?_
  refine wpAny_ite_split (fun hab => absurd (eq_of_beq hab) nofun) (fun _ => ?_)
  exact wpAny_bind (RcAt.none_dict  hl hu prog w E _ (wpAny_truthy_bool h))
theorem RcAt.dict_bool {l : Addr} (b : Bool) (hl : IsDict s l) (hu : A.units < cLine) : RcAt A s (.ref l) (.bool b) false := fun prog w E Q h => by
  obtain ⟨dd, es, ep, sl, ho⟩ := hl
  exact rc_eq_decline_or (k := false) ⟨_, ho, rfl⟩ rfl (by decide) F.sub_bool_dict F.slot_dict_eq F.slot_bool_eq_refl
    (fun _ hq => dict_declines (v := (.bool b)) (T := "bool") F.slot_dict_eq rfl ⟨_, ho, rfl⟩ rfl F.sub_bool_dict _ hq)
    (fun _ hq => call_meets F.slot_bool_eq_refl rfl F.entry_int_eq (F.args_int_eq_2 _ _) (int_eq_dict_bool b l es ep dd sl) ⟨ho, hq⟩)
    (fun _ hq => wpAny_of_eq (rfl : isSame (.ref l) (.bool b) = pure false) hq) (.inr hu) h
theorem EqAt.dict_bool {l : Addr} (b : Bool) (hl : IsDict s l) (hu : A.units < cLine) : EqAt A s (.ref l) (.bool b) false := fun prog w E Q h => by
  unfold eqBool
  refine wpAny_holding ?_
  refine wpAny_ite_split (fun hab => absurd (eq_of_beq hab) nofun) (fun _ => ?_)
  exact wpAny_bind (RcAt.dict_bool b hl hu prog w E _ (wpAny_truthy_bool h))
theorem RcAt.bool_dict {l : Addr} (b : Bool) (hl : IsDict s l) (hu : A.units < cLine) : RcAt A s (.bool b) (.ref l) false := fun prog w E Q h => by
  obtain ⟨dd, es, ep, sl, ho⟩ := hl
  exact rc_eq_decline_or (k := false) rfl ⟨_, ho, rfl⟩ (by decide) F.sub_dict_bool F.slot_bool_eq F.slot_dict_eq_refl
    (fun _ hq => call_meets F.slot_bool_eq rfl F.entry_int_eq (F.args_int_eq_2 _ _) (int_eq_dict_bool b l es ep dd sl) ⟨ho, hq⟩)
    (fun _ hq => dict_declines (v := (.bool b)) (T := "bool") F.slot_dict_eq_refl rfl ⟨_, ho, rfl⟩ rfl F.sub_bool_dict _ hq)
    (fun _ hq => wpAny_of_eq (rfl : isSame (.bool b) (.ref l) = pure false) hq) (.inr hu) h
theorem EqAt.bool_dict {l : Addr} (b : Bool) (hl : IsDict s l) (hu : A.units < cLine) : EqAt A s (.bool b) (.ref l) false := fun prog w E Q h => by
  unfold eqBool
  refine wpAny_holding ?_
  refine wpAny_ite_split (fun hab => absurd (eq_of_beq hab) nofun) (fun _ => ?_)
  exact wpAny_bind (RcAt.bool_dict b hl hu prog w E _ (wpAny_truthy_bool h))
theorem RcAt.dict_int {l : Addr} (b : Int) (u : Tok) (hl : IsDict s l) (hu : A.units < cLine) : RcAt A s (.ref l) (.int b u) false := fun prog w E Q h => by
  obtain ⟨dd, es, ep, sl, ho⟩ := hl
  exact rc_eq_decline_or (k := false) ⟨_, ho, rfl⟩ (typeIs_int s b u) (by decide) F.sub_int_dict F.slot_dict_eq F.slot_int_eq_refl
    (fun _ hq => dict_declines (v := (.int b u)) (T := "int") F.slot_dict_eq rfl ⟨_, ho, rfl⟩ (typeIs_int s b u) F.sub_int_dict _ hq)
    (fun _ hq => call_meets F.slot_int_eq_refl (typeIs_int s b u) F.entry_int_eq (F.args_int_eq_2 _ _) (int_eq_dict_int b u l es ep dd sl) ⟨ho, hq⟩)
    (fun _ hq => wpAny_of_eq (rfl : isSame (.ref l) (.int b u) = pure false) hq) (.inr hu) h
theorem EqAt.dict_int {l : Addr} (b : Int) (u : Tok) (hl : IsDict s l) (hu : A.units < cLine) : EqAt A s (.ref l) (.int b u) false := fun prog w E Q h => by
  unfold eqBool
  refine wpAny_holding ?_
  refine wpAny_ite_split (fun hab => absurd (eq_of_beq hab) nofun) (fun _ => ?_)
  exact wpAny_bind (RcAt.dict_int b u hl hu prog w E _ (wpAny_truthy_bool h))
theorem RcAt.int_dict {l : Addr} (b : Int) (u : Tok) (hl : IsDict s l) (hu : A.units < cLine) : RcAt A s (.int b u) (.ref l) false := fun prog w E Q h => by
  obtain ⟨dd, es, ep, sl, ho⟩ := hl
  exact rc_eq_decline_or (k := false) (typeIs_int s b u) ⟨_, ho, rfl⟩ (by decide) F.sub_dict_int F.slot_int_eq F.slot_dict_eq_refl
    (fun _ hq => call_meets F.slot_int_eq (typeIs_int s b u) F.entry_int_eq (F.args_int_eq_2 _ _) (int_eq_dict_int b u l es ep dd sl) ⟨ho, hq⟩)
    (fun _ hq => dict_declines (v := (.int b u)) (T := "int") F.slot_dict_eq_refl rfl ⟨_, ho, rfl⟩ (typeIs_int s b u) F.sub_int_dict _ hq)
    (fun _ hq => wpAny_of_eq (rfl : isSame (.int b u) (.ref l) = pure false) hq) (.inr hu) h
theorem EqAt.int_dict {l : Addr} (b : Int) (u : Tok) (hl : IsDict s l) (hu : A.units < cLine) : EqAt A s (.int b u) (.ref l) false := fun prog w E Q h => by
  unfold eqBool
  refine wpAny_holding ?_
  refine wpAny_ite_split (fun hab => absurd (eq_of_beq hab) nofun) (fun _ => ?_)
  exact wpAny_bind (RcAt.int_dict b u hl hu prog w E _ (wpAny_truthy_bool h))
theorem RcAt.dict_str {l : Addr} (b : Str) (u : Tok) (hl : IsDict s l) (hu : A.units < cLine) : RcAt A s (.ref l) (.str b u) false := fun prog w E Q h => by
  obtain ⟨dd, es, ep, sl, ho⟩ := hl
  exact rc_eq_decline_or (k := false) ⟨_, ho, rfl⟩ (typeIs_str s b u) (by decide) F.sub_str_dict F.slot_dict_eq F.slot_str_eq_refl
    (fun _ hq => dict_declines (v := (.str b u)) (T := "str") F.slot_dict_eq rfl ⟨_, ho, rfl⟩ (typeIs_str s b u) F.sub_str_dict _ hq)
    (fun _ hq => call_meets F.slot_str_eq_refl (typeIs_str s b u) F.entry_str_eq (F.args_str_eq_2 _ _) (str_eq_dict_str b u l es ep dd sl) ⟨ho, hq⟩)
    (fun _ hq => wpAny_of_eq (rfl : isSame (.ref l) (.str b u) = pure false) hq) (.inr hu) h
theorem EqAt.dict_str {l : Addr} (b : Str) (u : Tok) (hl : IsDict s l) (hu : A.units < cLine) : EqAt A s (.ref l) (.str b u) false := fun prog w E Q h => by
  unfold eqBool
  refine wpAny_holding ?_
  refine wpAny_ite_split (fun hab => absurd (eq_of_beq hab) nofun) (fun _ => ?_)
  exact wpAny_bind (RcAt.dict_str b u hl hu prog w E _ (wpAny_truthy_bool h))
theorem RcAt.str_dict {l : Addr} (b : Str) (u : Tok) (hl : IsDict s l) (hu : A.units < cLine) : RcAt A s (.str b u) (.ref l) false := fun prog w E Q h => by
  obtain ⟨dd, es, ep, sl, ho⟩ := hl
  exact rc_eq_decline_or (k := false) (typeIs_str s b u) ⟨_, ho, rfl⟩ (by decide) F.sub_dict_str F.slot_str_eq F.slot_dict_eq_refl
    (fun _ hq => call_meets F.slot_str_eq (typeIs_str s b u) F.entry_str_eq (F.args_str_eq_2 _ _) (str_eq_dict_str b u l es ep dd sl) ⟨ho, hq⟩)
    (fun _ hq => dict_declines (v := (.str b u)) (T := "str") F.slot_dict_eq_refl rfl ⟨_, ho, rfl⟩ (typeIs_str s b u) F.sub_str_dict _ hq)
    (fun _ hq => wpAny_of_eq (rfl : isSame (.str b u) (.ref l) = pure false) hq) (.inr hu) h
theorem EqAt.str_dict {l : Addr} (b : Str) (u : Tok) (hl : IsDict s l) (hu : A.units < cLine) : EqAt A s (.str b u) (.ref l) false := fun prog w E Q h => by
  unfold eqBool
  refine wpAny_holding ?_
  refine wpAny_ite_split (fun hab => absurd (eq_of_beq hab) nofun) (fun _ => ?_)
  exact wpAny_bind (RcAt.str_dict b u hl hu prog w E _ (wpAny_truthy_bool h))
theorem ne_of_dict_list {l b : Addr} {items : Array Value} (hl : IsDict s l) (hb : s.heap.IsList b items) : l ≠ b := fun e => by
  subst e
  obtain ⟨dd, es, ep, sl, ho⟩ := hl
  obtain ⟨o2, ho2, hc2, _⟩ := hb
  rw [ho] at ho2
  cases ho2
  exact absurd hc2 (by simp)
theorem EqAt.dict_list {l b : Addr} {items : Array Value} (hl : IsDict s l) (hb : s.heap.IsList b items) (hu : A.units < cLine) : EqAt A s (.ref l) (.ref b) false := .of_refs (ne_of_dict_list hl hb) fun prog w E Q h => by
  have hne := ne_of_dict_list hl hb
  obtain ⟨dd, es, ep, sl, ho⟩ := hl
  obtain ⟨⟨cls2, dd2, data2, sl2⟩, ho2, hc2, n2, hd2⟩ := id hb
  simp only at hc2 hd2
  subst hc2 hd2
  exact (rc_eq_decline_or (k := false) ⟨_, ho, rfl⟩ ⟨_, ho2, rfl⟩ (by decide) F.sub_list_dict F.slot_dict_eq F.slot_list_eq_refl
    (fun _ hq => dict_declines (v := .ref b) (T := "list") F.slot_dict_eq rfl ⟨_, ho, rfl⟩ ⟨_, ho2, rfl⟩ F.sub_list_dict _ hq)
    (fun _ hq => call_meets F.slot_list_eq_refl ⟨_, ho2, rfl⟩ F.entry_list_eq (F.args_list_eq_2 _ _) (list_eq_dict b l items n2 dd2 sl2 es ep dd sl) ⟨ho2, ho, hq⟩)
    (fun _ hq => wpAny_isSame_ref_other hne ho ho2 (by simp) hq) (.inr hu) h)
theorem EqAt.list_dict {l b : Addr} {items : Array Value} (hl : IsDict s l) (hb : s.heap.IsList b items) (hu : A.units < cLine) : EqAt A s (.ref b) (.ref l) false := .of_refs (ne_of_dict_list hl hb).symm fun prog w E Q h => by
  have hne := ne_of_dict_list hl hb
  obtain ⟨dd, es, ep, sl, ho⟩ := hl
  obtain ⟨⟨cls2, dd2, data2, sl2⟩, ho2, hc2, n2, hd2⟩ := id hb
  simp only at hc2 hd2
  subst hc2 hd2
  exact (rc_eq_decline_or (k := false) ⟨_, ho2, rfl⟩ ⟨_, ho, rfl⟩ (by decide) F.sub_dict_list F.slot_list_eq F.slot_dict_eq_refl
    (fun _ hq => call_meets F.slot_list_eq ⟨_, ho2, rfl⟩ F.entry_list_eq (F.args_list_eq_2 _ _) (list_eq_dict b l items n2 dd2 sl2 es ep dd sl) ⟨ho2, ho, hq⟩)
    (fun _ hq => dict_declines (v := .ref b) (T := "list") F.slot_dict_eq_refl rfl ⟨_, ho, rfl⟩ ⟨_, ho2, rfl⟩ F.sub_list_dict _ hq)
    (fun _ hq => wpAny_isSame_ref_other' hne.symm ho2 ho (by simp) hq) (.inr hu) h)
theorem ne_of_dict_tuple {l b : Addr} {items : Array Value} (hl : IsDict s l) (hb : s.heap.IsTuple b items) : l ≠ b := fun e => by
  subst e
  obtain ⟨dd, es, ep, sl, ho⟩ := hl
  obtain ⟨o2, ho2, hc2, _⟩ := hb
  rw [ho] at ho2
  cases ho2
  exact absurd hc2 (by simp)
theorem EqAt.dict_tuple {l b : Addr} {items : Array Value} (hl : IsDict s l) (hb : s.heap.IsTuple b items) (hu : A.units < cLine) : EqAt A s (.ref l) (.ref b) false := .of_refs (ne_of_dict_tuple hl hb) fun prog w E Q h => by
  have hne := ne_of_dict_tuple hl hb
  obtain ⟨dd, es, ep, sl, ho⟩ := hl
  obtain ⟨⟨cls2, dd2, data2, sl2⟩, ho2, hc2, n2, hd2⟩ := id hb
  simp only at hc2 hd2
  subst hc2 hd2
  exact (rc_eq_decline_or (k := false) ⟨_, ho, rfl⟩ ⟨_, ho2, rfl⟩ (by decide) F.sub_tuple_dict F.slot_dict_eq F.slot_tuple_eq_refl
    (fun _ hq => dict_declines (v := .ref b) (T := "tuple") F.slot_dict_eq rfl ⟨_, ho, rfl⟩ ⟨_, ho2, rfl⟩ F.sub_tuple_dict _ hq)
    (fun _ hq => call_meets F.slot_tuple_eq_refl ⟨_, ho2, rfl⟩ F.entry_tuple_eq (F.args_tuple_eq_2 _ _) (tuple_eq_dict b l items n2 dd2 sl2 es ep dd sl) ⟨ho2, ho, hq⟩)
    (fun _ hq => wpAny_isSame_ref_other hne ho ho2 (by simp) hq) (.inr hu) h)
theorem EqAt.tuple_dict {l b : Addr} {items : Array Value} (hl : IsDict s l) (hb : s.heap.IsTuple b items) (hu : A.units < cLine) : EqAt A s (.ref b) (.ref l) false := .of_refs (ne_of_dict_tuple hl hb).symm fun prog w E Q h => by
  have hne := ne_of_dict_tuple hl hb
  obtain ⟨dd, es, ep, sl, ho⟩ := hl
  obtain ⟨⟨cls2, dd2, data2, sl2⟩, ho2, hc2, n2, hd2⟩ := id hb
  simp only at hc2 hd2
  subst hc2 hd2
  exact (rc_eq_decline_or (k := false) ⟨_, ho2, rfl⟩ ⟨_, ho, rfl⟩ (by decide) F.sub_dict_tuple F.slot_tuple_eq F.slot_dict_eq_refl
    (fun _ hq => call_meets F.slot_tuple_eq ⟨_, ho2, rfl⟩ F.entry_tuple_eq (F.args_tuple_eq_2 _ _) (tuple_eq_dict b l items n2 dd2 sl2 es ep dd sl) ⟨ho2, ho, hq⟩)
    (fun _ hq => dict_declines (v := .ref b) (T := "tuple") F.slot_dict_eq_refl rfl ⟨_, ho, rfl⟩ ⟨_, ho2, rfl⟩ F.sub_tuple_dict _ hq)
    (fun _ hq => wpAny_isSame_ref_other' hne.symm ho2 ho (by simp) hq) (.inr hu) h)
end
end PySem.SeqAt

/-! UkAB: == and != of data with dicts within (each dict of one entry with a text as its key) -/
namespace Uk
open PySem PySem.Spec PyProof.Rows L2 StX PySem.SeqAt
open PySem.W (EqTree)
def eqKey : PyData → PyData → Bool
  | .str x, .str y => x == y
  | _, _ => false
def isStrD : PyData → Bool
  | .str _ => true
  | _ => false
mutual
def eqQ : PyData → PyData → Bool
  | .list xs, e => match e with
    | .list ys => eqQAll xs ys
    | _ => false
  | .tuple xs, e => match e with
    | .tuple ys => eqQAll xs ys
    | _ => false
  | .dict ps, e => match e with
    | .dict qs => eqQKv ps qs
    | _ => false
  | .none, e => PyData.eqv .none e
  | .bool b, e => PyData.eqv (.bool b) e
  | .int b, e => PyData.eqv (.int b) e
  | .str b, e => PyData.eqv (.str b) e
def eqQAll : List PyData → List PyData → Bool
  | [], e => match e with
    | [] => true
    | _ => false
  | x :: xs, e => match e with
    | y :: ys => eqQ x y && eqQAll xs ys
    | _ => false
def eqQKv : List (PyData × PyData) → List (PyData × PyData) → Bool
  | [], _ => false
  | (k, d) :: r, e => match e with
    | (k', d') :: r' => eqKey k k' && eqQ d d'
    | [] => false
end
mutual
def okQ : PyData → Bool
  | .list xs => okQAll xs
  | .tuple xs => okQAll xs
  | .dict ps => decide (ps.length = 1) && okQKv ps
  | _ => true
def okQAll : List PyData → Bool
  | [] => true
  | x :: xs => okQ x && okQAll xs
def okQKv : List (PyData × PyData) → Bool
  | [] => true
  | (k, d) :: r => isStrD k && okQ d && okQKv r
end
theorem eqKey_refl {k : PyData} (h : isStrD k = true) : eqKey k k = true := by
  cases k <;> first | (show (_ == _) = true; simp) | exact absurd h (by simp [isStrD])
mutual
theorem eqQ_refl : ∀ d : PyData, okQ d = true → eqQ d d = true
  | .none, _ => rfl
  | .bool b, _ => by show (b == b) = true; simp
  | .int i, _ => by show (i == i) = true; simp
  | .str x, _ => by show (x == x) = true; simp
  | .list xs, h => eqQAll_refl xs h
  | .tuple xs, h => eqQAll_refl xs h
  | .dict ps, h => by
    have h : (decide (ps.length = 1) && okQKv ps) = true := h
    rw [Bool.and_eq_true, decide_eq_true_eq] at h
    exact eqQKv_refl ps h.2 (by rw [h.1]; exact Nat.one_ne_zero)
theorem eqQAll_refl : ∀ xs : List PyData, okQAll xs = true → eqQAll xs xs = true
  | [], _ => rfl
  | x :: xs, h => by
    have h : (okQ x && okQAll xs) = true := h
    rw [Bool.and_eq_true] at h
    show (eqQ x x && eqQAll xs xs) = true
    rw [eqQ_refl x h.1, eqQAll_refl xs h.2] <;> rfl
theorem eqQKv_refl : ∀ ps : List (PyData × PyData), okQKv ps = true → ps.length ≠ 0 → eqQKv ps ps = true
  | [], _, h => absurd rfl h
  | (k, d) :: r, h, _ => by
    have h : (isStrD k && okQ d && okQKv r) = true := h
    rw [Bool.and_eq_true, Bool.and_eq_true] at h
    show (eqKey k k && eqQ d d) = true
    rw [eqKey_refl h.1.1, eqQ_refl d h.1.2] <;> rfl
end
theorem okQAll_get : ∀ {xs : List PyData} {i : Nat} {d : PyData}, okQAll xs = true → xs[i]? = some d → okQ d = true
  | [], _, _, _, e => by simp at e
  | x :: xs, 0, d, h, e => by
    have h : (okQ x && okQAll xs) = true := h
    rw [Bool.and_eq_true] at h
    simp at e
    subst e
    exact h.1
  | x :: xs, i + 1, d, h, e => by
    have h : (okQ x && okQAll xs) = true := h
    rw [Bool.and_eq_true] at h
    exact okQAll_get (i := i) h.2 (by simpa using e)
theorem eqQAll_range : ∀ {xs ys : List PyData}, xs.length = ys.length → eqQAll xs ys = (List.range xs.length).all fun j => eqQ (xs.getD j .none) (ys.getD j .none)
  | [], [], _ => rfl
  | x :: xs, y :: ys, h => by
    show (eqQ x y && eqQAll xs ys) = _
    rw [eqQAll_range (Nat.succ.inj h), List.length_cons, List.range_succ_eq_map, List.all_cons, List.all_map]
    rfl
theorem eqQAll_len : ∀ {xs ys : List PyData}, xs.length ≠ ys.length → eqQAll xs ys = false
  | [], [], h => absurd rfl h
  | [], _ :: _, _ => rfl
  | _ :: _, [], _ => rfl
  | x :: xs, y :: ys, h => by
    show (eqQ x y && eqQAll xs ys) = _
    rw [eqQAll_len fun e => h (congrArg Nat.succ e), Bool.and_false]
theorem eqQAll_min {xs ys : List PyData} : eqQAll xs ys = ((List.range (min xs.length ys.length)).all (fun j => eqQ (xs.getD j .none) (ys.getD j .none)) && xs.length == ys.length) := by
  by_cases h : xs.length = ys.length
  · rw [eqQAll_range h, ← h, Nat.min_self, beq_self_eq_true, Bool.and_true]
  · rw [eqQAll_len h, beq_eq_false_iff_ne.mpr h, Bool.and_false]
section
variable {X : Cx} {pins : List (Addr × Obj)} {σ : L2.St} {H : Hp} {s : Shared}
theorem isDict_of (I : Inv X pins σ H s) {a : Addr} {kvs : List (Key × V)} (h : H a = some (.dK kvs)) : IsDict s a := by
  obtain ⟨_, hne, vs, kv, o, es, ep, ho, hx, hd, _, hp, _⟩ := dk_of I.hok h
  obtain ⟨cls, dd, data, sl⟩ := o
  have h1 : cls = .type "dict" := hx.1
  have h2 : data = .dict es ep := hd
  subst h1 h2
  exact ⟨dd, es, ep, sl, ho⟩
theorem isList_of (I : Inv X pins σ H s) {a : Addr} {xs : List V} (h : H a = some (.lst xs)) : ∃ its, Vals xs its ∧ s.heap.IsList a its.toArray := by
  obtain ⟨its, rv, ⟨o, n, ho, hc, _, hd⟩, _⟩ := I.list (SqL.of h)
  exact ⟨its, rv, o, ho, hc, n, hd⟩
theorem isTup_of (I : Inv X pins σ H s) {a : Addr} {xs : List V} (h : SqT X.K H a xs) : ∃ its, Vals xs its ∧ s.heap.IsTuple a its.toArray := by
  obtain ⟨its, rv, ⟨o, ho, hc, n, hd⟩, _⟩ := I.tuple h
  exact ⟨its, rv, o, ho, hc, n, hd⟩
theorem list_not_tuple (I : Inv X pins σ H s) {a : Addr} {xs ys : List V} (g : H a = some (.lst xs)) (g' : SqT X.K H a ys) : False := by
  obtain ⟨_, _, hl⟩ := isList_of I g
  obtain ⟨_, _, hl'⟩ := isTup_of I g'
  exact ne_of_list_tuple hl hl' rfl
theorem dict_not_tuple (I : Inv X pins σ H s) {a : Addr} {kvs : List (Key × V)} {ys : List V} (g : H a = some (.dK kvs)) (g' : SqT X.K H a ys) : False := by
  obtain ⟨_, _, hl'⟩ := isTup_of I g'
  exact ne_of_dict_tuple (isDict_of I g) hl' rfl
theorem tup_uniq (I : Inv X pins σ H s) {a : Addr} {xs ys : List V} (g : SqT X.K H a xs) (g' : SqT X.K H a ys) : xs = ys := I.tuple_inj g g'
mutual
theorem dq_uniq (I : Inv X pins σ H s) : ∀ (d e : PyData) (v : V), Dq X.K H v d → Dq X.K H v e → d = e
  | .none, _, _, h, h' => by cases h; cases h'; rfl
  | .bool b, _, _, h, h' => by cases h; cases h'; rfl
  | .int i, _, _, h, h' => by cases h; cases h'; rfl
  | .str x, _, _, h, h' => by cases h; cases h'; rfl
  | .list ds, e, _, h, h' => by
    cases h with
    | lst g q =>
      cases h' with
      | lst g' q' =>
        rw [g] at g'
        cases g'
        rw [dqAll_uniq I ds _ _ q q']
      | tup g' q' =>
        exact (list_not_tuple I g g').elim
      | dct g' q' => rw [g] at g'; cases g'
  | .tuple ds, e, _, h, h' => by
    cases h with
    | tup g q =>
      cases h' with
      | lst g' q' => exact (list_not_tuple I g' g).elim
      | tup g' q' =>
        have := tup_uniq I g g'
        subst this
        rw [dqAll_uniq I ds _ _ q q']
      | dct g' q' => exact (dict_not_tuple I g' g).elim
  | .dict ps, e, _, h, h' => by
    cases h with
    | dct g q =>
      cases h' with
      | lst g' q' => rw [g] at g'; cases g'
      | tup g' q' => exact (dict_not_tuple I g g').elim
      | dct g' q' =>
        rw [g] at g'
        cases g'
        rw [dqKv_uniq I ps _ _ q q']
theorem dqAll_uniq (I : Inv X pins σ H s) : ∀ (ds es : List PyData) (vs : List V), DqAll X.K H vs ds → DqAll X.K H vs es → ds = es
  | [], _, _, h, h' => by cases h; cases h'; rfl
  | d :: ds, _, _, h, h' => by
    cases h with
    | cons a r =>
      cases h' with
      | cons a' r' => rw [dq_uniq I d _ _ a a', dqAll_uniq I ds _ _ r r']
theorem dqKv_uniq (I : Inv X pins σ H s) : ∀ (ps qs : List (PyData × PyData)) (vs : List (Key × V)), DqKv X.K H vs ps → DqKv X.K H vs qs → ps = qs
  | [], _, _, h, h' => by cases h; cases h'; rfl
  | (k, d) :: ps, _, _, h, h' => by
    cases h with
    | cons a r =>
      cases h' with
      | cons a' r' => rw [dq_uniq I d _ _ a a', dqKv_uniq I ps _ _ r r']
end
mutual
theorem dq_tree (I : Inv X pins σ H s) : ∀ (d e : PyData) (v v' : V) (u u' : Value) (n : Nat), Dq X.K H v d → Dq X.K H v' e → RelV v u → RelV v' u' → okQ d = true → okQ e = true → PyData.depth d ≤ n → EqTree X.prog X.w s n u u' (eqQ d e)
  | .none, e, v, v', u, u', n, h, h', r, r', o, o', hn => by
    cases h with
    | non =>
      cases h' with
      | non =>
        cases r
        cases r'
        exact .leaf fun A hu => EqAt.same _
      | bl b' =>
        cases r
        cases r'
        exact .leaf fun A hu => EqAt.none_bool  b'
      | int b' =>
        cases r
        obtain ⟨t', rfl⟩ := r'
        exact .leaf fun A hu => EqAt.none_int  b' t'
      | str b' =>
        cases r
        obtain ⟨t', rfl⟩ := r'
        exact .leaf fun A hu => EqAt.none_str  b' t'
      | @lst a' xs' ds' g' q' =>
        cases r
        cases r'
        obtain ⟨its', _, hl'⟩ := isList_of I g'
        exact .leaf fun A hu => EqAt.none_list  hl' (by omega)
      | @tup a' xs' ds' g' q' =>
        cases r
        cases r'
        obtain ⟨its', _, hl'⟩ := isTup_of I g'
        exact .leaf fun A hu => EqAt.none_tuple  hl' (by omega)
      | @dct a' kvs' ps' g' q' =>
        cases r
        cases r'
        have hl' := isDict_of I g'
        exact .leaf fun A hu => EqAt.none_dict  hl' (by omega)
  | .bool b, e, v, v', u, u', n, h, h', r, r', o, o', hn => by
    cases h with
    | bl _ =>
      cases h' with
      | non =>
        cases r
        cases r'
        exact .leaf fun A hu => EqAt.bool_none b 
      | bl b' =>
        cases r
        cases r'
        exact .leaf fun A hu => EqAt.bool_bool b b'
      | int b' =>
        cases r
        obtain ⟨t', rfl⟩ := r'
        exact .leaf fun A hu => EqAt.bool_int b b' t'
      | str b' =>
        cases r
        obtain ⟨t', rfl⟩ := r'
        exact .leaf fun A hu => EqAt.bool_str b b' t'
      | @lst a' xs' ds' g' q' =>
        cases r
        cases r'
        obtain ⟨its', _, hl'⟩ := isList_of I g'
        exact .leaf fun A hu => EqAt.bool_list b hl' (by omega)
      | @tup a' xs' ds' g' q' =>
        cases r
        cases r'
        obtain ⟨its', _, hl'⟩ := isTup_of I g'
        exact .leaf fun A hu => EqAt.bool_tuple b hl' (by omega)
      | @dct a' kvs' ps' g' q' =>
        cases r
        cases r'
        have hl' := isDict_of I g'
        exact .leaf fun A hu => EqAt.bool_dict b hl' (by omega)
  | .int b, e, v, v', u, u', n, h, h', r, r', o, o', hn => by
    cases h with
    | int _ =>
      cases h' with
      | non =>
        obtain ⟨t, rfl⟩ := r
        cases r'
        exact .leaf fun A hu => EqAt.int_none b t 
      | bl b' =>
        obtain ⟨t, rfl⟩ := r
        cases r'
        exact .leaf fun A hu => EqAt.int_bool b t b'
      | int b' =>
        obtain ⟨t, rfl⟩ := r
        obtain ⟨t', rfl⟩ := r'
        exact .leaf fun A hu => EqAt.int_int b t b' t'
      | str b' =>
        obtain ⟨t, rfl⟩ := r
        obtain ⟨t', rfl⟩ := r'
        exact .leaf fun A hu => EqAt.int_str b t b' t'
      | @lst a' xs' ds' g' q' =>
        obtain ⟨t, rfl⟩ := r
        cases r'
        obtain ⟨its', _, hl'⟩ := isList_of I g'
        exact .leaf fun A hu => EqAt.int_list b t hl' (by omega)
      | @tup a' xs' ds' g' q' =>
        obtain ⟨t, rfl⟩ := r
        cases r'
        obtain ⟨its', _, hl'⟩ := isTup_of I g'
        exact .leaf fun A hu => EqAt.int_tuple b t hl' (by omega)
      | @dct a' kvs' ps' g' q' =>
        obtain ⟨t, rfl⟩ := r
        cases r'
        have hl' := isDict_of I g'
        exact .leaf fun A hu => EqAt.int_dict b t hl' (by omega)
  | .str b, e, v, v', u, u', n, h, h', r, r', o, o', hn => by
    cases h with
    | str _ =>
      cases h' with
      | non =>
        obtain ⟨t, rfl⟩ := r
        cases r'
        exact .leaf fun A hu => EqAt.str_none b t 
      | bl b' =>
        obtain ⟨t, rfl⟩ := r
        cases r'
        exact .leaf fun A hu => EqAt.str_bool b t b'
      | int b' =>
        obtain ⟨t, rfl⟩ := r
        obtain ⟨t', rfl⟩ := r'
        exact .leaf fun A hu => EqAt.str_int b t b' t'
      | str b' =>
        obtain ⟨t, rfl⟩ := r
        obtain ⟨t', rfl⟩ := r'
        exact .leaf fun A hu => EqAt.str_str b t b' t'
      | @lst a' xs' ds' g' q' =>
        obtain ⟨t, rfl⟩ := r
        cases r'
        obtain ⟨its', _, hl'⟩ := isList_of I g'
        exact .leaf fun A hu => EqAt.str_list b t hl' (by omega)
      | @tup a' xs' ds' g' q' =>
        obtain ⟨t, rfl⟩ := r
        cases r'
        obtain ⟨its', _, hl'⟩ := isTup_of I g'
        exact .leaf fun A hu => EqAt.str_tuple b t hl' (by omega)
      | @dct a' kvs' ps' g' q' =>
        obtain ⟨t, rfl⟩ := r
        cases r'
        have hl' := isDict_of I g'
        exact .leaf fun A hu => EqAt.str_dict b t hl' (by omega)
  | .list ds, e, v, v', u, u', n, h, h', r, r', o, o', hn => by
    cases h with
    | @lst a xs _ g q =>
      cases h' with
      | non =>
        cases r
        cases r'
        obtain ⟨its, _, hl⟩ := isList_of I g
        exact .leaf fun A hu => EqAt.list_none  hl (by omega)
      | bl b' =>
        cases r
        cases r'
        obtain ⟨its, _, hl⟩ := isList_of I g
        exact .leaf fun A hu => EqAt.list_bool b' hl (by omega)
      | int b' =>
        cases r
        obtain ⟨t', rfl⟩ := r'
        obtain ⟨its, _, hl⟩ := isList_of I g
        exact .leaf fun A hu => EqAt.list_int b' t' hl (by omega)
      | str b' =>
        cases r
        obtain ⟨t', rfl⟩ := r'
        obtain ⟨its, _, hl⟩ := isList_of I g
        exact .leaf fun A hu => EqAt.list_str b' t' hl (by omega)
      | @lst a' xs' ds' g' q' =>
        cases r
        cases r'
        by_cases ea : a = a'
        · subst ea
          rw [g] at g'; cases g'
          have e := dqAll_uniq I _ _ _ q q'
          subst e
          rw [show eqQ (.list ds) (.list ds) = true from eqQ_refl _ o]
          exact .same
        · obtain ⟨its, rv, hl⟩ := isList_of I g
          obtain ⟨its', rv', hl'⟩ := isList_of I g'
          have n1 : its.toArray.size = ds.length := by rw [List.size_toArray, ← rv.length, dqAll_len q]
          have n2 : its'.toArray.size = ds'.length := by rw [List.size_toArray, ← rv'.length, dqAll_len q']
          obtain ⟨k, rfl⟩ : ∃ k, n = k + 1 := ⟨n - 1, by have : PyData.depthAll ds + 1 ≤ n := hn; omega⟩
          have hk : PyData.depthAll ds ≤ k := Nat.le_of_succ_le_succ hn
          have ih := dqAll_tree I ds _ _ ds' _ _ k q q' rv rv' o o' hk
          by_cases hz : its.toArray.size = its'.toArray.size
          · have t := EqTree.lists (prog := X.prog) (w := X.w) (e := fun j => eqQ (ds.getD j .none) (ds'.getD j .none)) ea hl hl' hz ih
            rw [n1, ← eqQAll_range (by omega)] at t
            exact t
          · rw [show eqQ (.list ds) (.list ds') = false from eqQAll_len (by omega)]
            exact EqTree.listsLen ea hl hl' (bne_iff_ne.mpr hz)
      | @tup a' xs' ds' g' q' =>
        cases r
        cases r'
        obtain ⟨its, _, hl⟩ := isList_of I g
        obtain ⟨its', _, hl'⟩ := isTup_of I g'
        exact .leaf fun A hu => EqAt.list_tuple hl hl' (by omega)
      | @dct a' kvs' ps' g' q' =>
        cases r
        cases r'
        obtain ⟨its, _, hl⟩ := isList_of I g
        have hl' := isDict_of I g'
        exact .leaf fun A hu => EqAt.list_dict hl' hl (by omega)
  | .tuple ds, e, v, v', u, u', n, h, h', r, r', o, o', hn => by
    cases h with
    | @tup a xs _ g q =>
      cases h' with
      | non =>
        cases r
        cases r'
        obtain ⟨its, _, hl⟩ := isTup_of I g
        exact .leaf fun A hu => EqAt.tuple_none  hl (by omega)
      | bl b' =>
        cases r
        cases r'
        obtain ⟨its, _, hl⟩ := isTup_of I g
        exact .leaf fun A hu => EqAt.tuple_bool b' hl (by omega)
      | int b' =>
        cases r
        obtain ⟨t', rfl⟩ := r'
        obtain ⟨its, _, hl⟩ := isTup_of I g
        exact .leaf fun A hu => EqAt.tuple_int b' t' hl (by omega)
      | str b' =>
        cases r
        obtain ⟨t', rfl⟩ := r'
        obtain ⟨its, _, hl⟩ := isTup_of I g
        exact .leaf fun A hu => EqAt.tuple_str b' t' hl (by omega)
      | @lst a' xs' ds' g' q' =>
        cases r
        cases r'
        obtain ⟨its, _, hl⟩ := isTup_of I g
        obtain ⟨its', _, hl'⟩ := isList_of I g'
        exact .leaf fun A hu => EqAt.tuple_list hl hl' (by omega)
      | @tup a' xs' ds' g' q' =>
        cases r
        cases r'
        by_cases ea : a = a'
        · subst ea
          have ex := tup_uniq I g g'; subst ex
          have e := dqAll_uniq I _ _ _ q q'
          subst e
          rw [show eqQ (.tuple ds) (.tuple ds) = true from eqQ_refl _ o]
          exact .same
        · obtain ⟨its, rv, hl⟩ := isTup_of I g
          obtain ⟨its', rv', hl'⟩ := isTup_of I g'
          have n1 : its.toArray.size = ds.length := by rw [List.size_toArray, ← rv.length, dqAll_len q]
          have n2 : its'.toArray.size = ds'.length := by rw [List.size_toArray, ← rv'.length, dqAll_len q']
          obtain ⟨k, rfl⟩ : ∃ k, n = k + 1 := ⟨n - 1, by have : PyData.depthAll ds + 1 ≤ n := hn; omega⟩
          have hk : PyData.depthAll ds ≤ k := Nat.le_of_succ_le_succ hn
          have ih := dqAll_tree I ds _ _ ds' _ _ k q q' rv rv' o o' hk
          have t := EqTree.tuples (prog := X.prog) (w := X.w) (e := fun j => eqQ (ds.getD j .none) (ds'.getD j .none)) ea hl hl' ih
          rw [n1, n2, ← eqQAll_min] at t
          exact t
      | @dct a' kvs' ps' g' q' =>
        cases r
        cases r'
        obtain ⟨its, _, hl⟩ := isTup_of I g
        have hl' := isDict_of I g'
        exact .leaf fun A hu => EqAt.tuple_dict hl' hl (by omega)
  | .dict ps, e, v, v', u, u', n, h, h', r, r', o, o', hn => by
    cases h with
    | @dct a kvs _ g q =>
      cases h' with
      | non =>
        cases r
        cases r'
        have hl := isDict_of I g
        exact .leaf fun A hu => EqAt.dict_none  hl (by omega)
      | bl b' =>
        cases r
        cases r'
        have hl := isDict_of I g
        exact .leaf fun A hu => EqAt.dict_bool b' hl (by omega)
      | int b' =>
        cases r
        obtain ⟨t', rfl⟩ := r'
        have hl := isDict_of I g
        exact .leaf fun A hu => EqAt.dict_int b' t' hl (by omega)
      | str b' =>
        cases r
        obtain ⟨t', rfl⟩ := r'
        have hl := isDict_of I g
        exact .leaf fun A hu => EqAt.dict_str b' t' hl (by omega)
      | @lst a' xs' ds' g' q' =>
        cases r
        cases r'
        have hl := isDict_of I g
        obtain ⟨its', _, hl'⟩ := isList_of I g'
        exact .leaf fun A hu => EqAt.dict_list hl hl' (by omega)
      | @tup a' xs' ds' g' q' =>
        cases r
        cases r'
        have hl := isDict_of I g
        obtain ⟨its', _, hl'⟩ := isTup_of I g'
        exact .leaf fun A hu => EqAt.dict_tuple hl hl' (by omega)
      | @dct a' kvs' ps' g' q' =>
        cases r
        cases r'
        by_cases ea : a = a'
        · subst ea
          rw [g] at g'; cases g'
          have e := dqKv_uniq I _ _ _ q q'
          subst e
          rw [show eqQ (.dict ps) (.dict ps) = true from eqQ_refl _ o]
          exact .same
        · obtain ⟨k, rfl⟩ : ∃ k, n = k + 1 := ⟨n - 1, by have : PyData.depthKv ps + 1 ≤ n := hn; omega⟩
          have hk : PyData.depthKv ps ≤ k := Nat.le_of_succ_le_succ hn
          have o : (decide (ps.length = 1) && okQKv ps) = true := o
          have o' : (decide (ps'.length = 1) && okQKv ps') = true := o'
          rw [Bool.and_eq_true, decide_eq_true_eq] at o o'
          exact dqKv_tree I ps kvs ps' kvs' a a' k ea g g' q q' o.1 o.2 o'.1 o'.2 hk
theorem dqAll_tree (I : Inv X pins σ H s) : ∀ (ds : List PyData) (vs : List V) (us : List Value) (es : List PyData) (vs' : List V) (us' : List Value) (n : Nat), DqAll X.K H vs ds → DqAll X.K H vs' es → Vals vs us → Vals vs' us' → okQAll ds = true → okQAll es = true → PyData.depthAll ds ≤ n →
    ∀ j (h1 : j < us.toArray.size) (h2 : j < us'.toArray.size), EqTree X.prog X.w s n us.toArray[j] us'.toArray[j] (eqQ (ds.getD j .none) (es.getD j .none))
  | [], _, _, _, _, _, _, h, _, r, _, _, _, _, j, h1, _ => by
    cases h
    cases r
    exact absurd h1 (Nat.not_lt_zero j)
  | d :: ds, _, _, es, _, _, n, h, h', r, r', o, o', hn, j, h1, h2 => by
    cases h with
    | cons a q =>
      cases r with
      | cons b t =>
        cases h' with
        | nil =>
          cases r'
          exact absurd h2 (Nat.not_lt_zero j)
        | @cons _ _ e es a' q' =>
          cases r' with
          | cons b' t' =>
            have o : (okQ d && okQAll ds) = true := o
            have o' : (okQ e && okQAll es) = true := o'
            rw [Bool.and_eq_true] at o o'
            have hn : max (PyData.depth d) (PyData.depthAll ds) ≤ n := hn
            match j, h1, h2 with
            | 0, _, _ => exact dq_tree I d e _ _ _ _ n a a' b b' o.1 o'.1 (by omega)
            | j + 1, h1, h2 =>
              have z := dqAll_tree I ds _ _ es _ _ n q q' t t' o.2 o'.2 (by omega) j (by simpa using h1) (by simpa using h2)
              simpa using z
theorem dqKv_tree (I : Inv X pins σ H s) : ∀ (ps : List (PyData × PyData)) (kvs : List (Key × V)) (qs : List (PyData × PyData)) (kvs' : List (Key × V)) (a a' : Addr) (n : Nat), a ≠ a' → H a = some (.dK kvs) → H a' = some (.dK kvs') → DqKv X.K H kvs ps → DqKv X.K H kvs' qs → ps.length = 1 → okQKv ps = true → qs.length = 1 → okQKv qs = true → PyData.depthKv ps ≤ n →
    EqTree X.prog X.w s (n + 1) (.ref a) (.ref a') (eqQKv ps qs)
  | [], _, _, _, _, _, _, _, _, _, _, _, l, _, _, _, _ => absurd l (by decide)
  | _ :: _ :: _, _, _, _, _, _, _, _, _, _, _, _, l, _, _, _, _ => absurd l (by simp)
  | [(k, d)], kvs, qs, kvs', a, a', n, ea, g, g', h, h', _, o, l', o', hn => by
    match qs, l', o', h' with
    | [(k', e)], _, o', h' =>
      cases h with
      | @cons ky v _ _ _ q r =>
        cases r
        cases h' with
        | @cons ky' v' _ _ _ q' r =>
          cases r
          have o : (isStrD (kD ky) && okQ d && okQKv []) = true := o
          have o' : (isStrD (kD ky') && okQ e && okQKv []) = true := o'
          rw [Bool.and_eq_true, Bool.and_eq_true] at o o'
          have hn : max (max (PyData.depth (kD ky)) (PyData.depth d)) 0 ≤ n := hn
          cases ky with
          | inl i => exact absurd o.1.1 (by simp [kD, isStrD])
          | inr x =>
            cases ky' with
            | inl i => exact absurd o'.1.1 (by simp [kD, isStrD])
            | inr y =>
              obtain ⟨_, na, va, ra, da⟩ := dk_of I.hok g
              obtain ⟨_, nb, vb, rb, db⟩ := dk_of I.hok g'
              unfold KV at ra rb
              cases ra with
              | @cons _ pa _ _ ha ta =>
                cases ta
                cases rb with
                | @cons _ pb _ _ hb tb =>
                  cases tb
                  obtain ⟨ka, ua⟩ := pa
                  obtain ⟨kb, ub⟩ := pb
                  obtain ⟨ha1, ha2⟩ := ha
                  obtain ⟨hb1, hb2⟩ := hb
                  have ha1 : ka = .inr x := ha1.symm
                  have hb1 : kb = .inr y := hb1.symm
                  subst ha1 hb1
                  have z := dq_tree I d e _ _ ua ub n q q' ha2 hb2 o.1.2 o'.1.2 (by omega)
                  have t := EqTree.dicts (prog := X.prog) (w := X.w) (s := s) (knd := mixKind X.prog X.w) (n := n) (e := fun _ => eqQ d e) ea na nb da db (fun k v y' hm hv => by
                    rw [List.mem_singleton] at hm
                    cases hm
                    unfold valueAt at hv
                    by_cases exy : x = y
                    · subst exy
                      simp at hv
                      subst hv
                      exact z
                    · have : ¬ (Sum.inr y : Key) = Sum.inr x := fun h => exy (Sum.inr.inj h).symm
                      simp [this] at hv)
                  have eb : eqQKv [(kD (.inr x), d)] [(kD (.inr y), e)] = ([((.inr x : Key), ua)].length == [((.inr y : Key), ub)].length && [((.inr x : Key), ua)].all fun p => (valueAt [((.inr y : Key), ub)] p.1).isSome && eqQ d e) := by
                    show (x == y && eqQ d e) = _
                    unfold valueAt
                    by_cases exy : x = y
                    · subst exy
                      simp
                    · have : ¬ (Sum.inr y : Key) = Sum.inr x := fun h => exy (Sum.inr.inj h).symm
                      simp [this, exy]
                  rw [eb]
                  exact t
end
end
section
variable {X : Cx}
/-- == of two lists, or of two tuples -/
def rEqQ (K : PySem.W.Frag) : R2 := fun x y H Q => ∃ d e, Dq K H x d ∧ Dq K H y e ∧ okQ d = true ∧ okQ e = true ∧ PyData.depth d ≤ 60 ∧ ((∃ ds es, d = .list ds ∧ e = .list es) ∨ ∃ ds es, d = .tuple ds ∧ e = .tuple es) ∧ Q (.bl (eqQ d e)) H
theorem op_eqQ (hu : X.A.units + 64 < cLine) : OpR X (compareOp .Eq) (rEqQ X.K) := by
  intro pins s σ H x y v u Q I rx ry h
  obtain ⟨d, e, h, h', o, o', hn, hk, q⟩ := h
  rcases hk with ⟨ds, es, rfl, rfl⟩ | ⟨ds, es, rfl, rfl⟩
  · cases h with
    | @lst a xs _ g q1 =>
      cases h' with
      | @lst a' xs' _ g' q1' =>
        cases rx
        cases ry
        obtain ⟨its, rv, hl⟩ := isList_of I g
        obtain ⟨its', rv', hl'⟩ := isList_of I g'
        have n1 : its.toArray.size = ds.length := by rw [List.size_toArray, ← rv.length, dqAll_len q1]
        have n2 : its'.toArray.size = es.length := by rw [List.size_toArray, ← rv'.length, dqAll_len q1']
        have hk : PyData.depthAll ds ≤ 60 := Nat.le_of_succ_le hn
        have ih := dqAll_tree I ds _ _ es _ _ 60 q1 q1' rv rv' o o' hk
        by_cases hz : its.toArray.size = its'.toArray.size
        · refine PySem.W.eq_listsT (prog := X.prog) (w := X.w) (e := fun j => eqQ (ds.getD j .none) (es.getD j .none)) hl hl' hz ih (by omega) ?_
          rw [n1, ← eqQAll_range (by omega)]
          exact ⟨.bl _, H, I, rfl, q⟩
        · have z : eqQ (.list ds) (.list es) = false := eqQAll_len (by omega)
          rw [z] at q
          exact RcAt.lists_lengths hl hl' (bne_iff_ne.mpr hz) (by omega) X.prog X.w _ _ ⟨.bl _, H, I, rfl, q⟩
  · cases h with
    | @tup a xs _ g q1 =>
      cases h' with
      | @tup a' xs' _ g' q1' =>
        cases rx
        cases ry
        obtain ⟨its, rv, hl⟩ := isTup_of I g
        obtain ⟨its', rv', hl'⟩ := isTup_of I g'
        have n1 : its.toArray.size = ds.length := by rw [List.size_toArray, ← rv.length, dqAll_len q1]
        have n2 : its'.toArray.size = es.length := by rw [List.size_toArray, ← rv'.length, dqAll_len q1']
        have hk : PyData.depthAll ds ≤ 60 := Nat.le_of_succ_le hn
        have ih := dqAll_tree I ds _ _ es _ _ 60 q1 q1' rv rv' o o' hk
        refine PySem.W.eq_tuplesT (prog := X.prog) (w := X.w) (e := fun j => eqQ (ds.getD j .none) (es.getD j .none)) hl hl' ih (by omega) ?_
        rw [n1, n2, ← eqQAll_min]
        exact ⟨.bl _, H, I, rfl, q⟩
end
end Uk

/-! UkAC: x is True / x is False of any x; bool(x) by x's class; == of data is even-handed -/
namespace Uk
open PySem PySem.Spec PyProof.Rows L2 StX
section
variable {X : Cx}
theorem op_isB : OpR X (compareOp .Is) (fun x y H Q => ∃ b, y = .bl b ∧ Q (.bl (decide (x = .bl b))) H) := by
  intro pins s σ H x y v u Q I rx ry h
  obtain ⟨b, rfl, q⟩ := h
  cases (show u = Value.bool b from ry)
  by_cases e : x = .bl b
  · subst e
    cases (show v = Value.bool b from rx)
    exact wpAny_is_self rfl ⟨.bl true, H, I, rfl, by simpa using q⟩
  · have q2 : Q (.bl false) H := by rw [decide_eq_false e] at q; exact q
    cases x with
    | bl a =>
      cases (show v = Value.bool a from rx)
      exact wpAny_is_other rfl (fun z => e (by rw [Value.bool.inj z])) ⟨.bl false, H, I, rfl, q2⟩
    | non => cases rx; exact wpAny_bind (wpAny_of_eq (rfl : isSame .none (.bool b) = pure false) (wpAny_pure ⟨.bl false, H, I, rfl, q2⟩))
    | int i => obtain ⟨t, rfl⟩ := rx; exact wpAny_bind (wpAny_of_eq (rfl : isSame (.int i t) (.bool b) = pure false) (wpAny_pure ⟨.bl false, H, I, rfl, q2⟩))
    | str i => obtain ⟨t, rfl⟩ := rx; exact wpAny_bind (wpAny_of_eq (rfl : isSame (.str i t) (.bool b) = pure false) (wpAny_pure ⟨.bl false, H, I, rfl, q2⟩))
    | byt i => obtain ⟨t, rfl⟩ := rx; exact wpAny_bind (wpAny_of_eq (rfl : isSame (.bytes i t) (.bool b) = pure false) (wpAny_pure ⟨.bl false, H, I, rfl, q2⟩))
    | flt i => obtain ⟨t, rfl⟩ := rx; exact wpAny_bind (wpAny_of_eq (rfl : isSame (.float i t) (.bool b) = pure false) (wpAny_pure ⟨.bl false, H, I, rfl, q2⟩))
    | ref a => cases rx; exact wpAny_bind (wpAny_of_eq (rfl : isSame (.ref a) (.bool b) = pure false) (wpAny_pure ⟨.bl false, H, I, rfl, q2⟩))
    | ty n => cases rx; exact wpAny_bind (wpAny_of_eq (rfl : isSame (.type n) (.bool b) = pure false) (wpAny_pure ⟨.bl false, H, I, rfl, q2⟩))
end
/-- bool(x), x an instance with an own __bool__, by its class -/
theorem call_boolV {X : Cx} {k : Nat} {sp : Addr → SpK} {D : Addr → Prop} {f : Addr → Addr} (F : ∀ C, D C → CallG X.prog X.w X.K X.mg X.base k (.ref (f C)) (sp C)) (hr : Room (k + 2) X.A) (hg : X.A.guards = some []) (hD : ∀ C, D C → Own X.K C "__bool__" (f C)) :
    CallR X (.type "bool") (fun xs H Q => ∃ (a C dx : Addr) (fs : List (Str × V)), xs = [.ref a] ∧ D C ∧ H a = some (.ins C dx fs) ∧ sp C [.ref a] [] H (fun v H' => ∃ b, v = .bl b ∧ Q (.bl b) H') NoE) := by
  intro pins s σ H xs us Q I r h
  obtain ⟨a, C, dx, fs, rfl, d, e, q⟩ := h
  obtain ⟨u, rfl, r1⟩ := vals1 r
  obtain rfl : u = Value.ref a := r1
  refine call_bool_in fun tk => ?_
  have I := I.tok tk
  obtain ⟨od, J⟩ := ins_at I.hok e
  obtain ⟨m, fr⟩ := I.fr
  refine PySem.W.truthy_K fr I.ok.mod.kin J (hD C d).at_ (hD C d).fn (wpAny_mono (run_callN (F C d) hr.in1.in1 hg rfl I (vs := [.ref a]) (us := [.ref a]) (.cons rfl .nil) q) (fun z s' hz => ?_) fun _ _ y => y)
  obtain ⟨v', H', I', rv, b, rfl, q'⟩ := hz
  obtain rfl : z = Value.bool b := rv
  exact ⟨.bl b, H', I', rfl, q'⟩
theorem eqv_symm_sc (d e : PyData) (h : match d with | .list _ | .tuple _ | .dict _ => False | _ => True) : PyData.eqv d e = eqQ e d := by
  cases d <;> cases e <;> first | exact absurd h id | rfl | (simp [PyData.eqv, eqQ, Bool.beq_comm]) | (show (_ == _) = (_ == _); exact Bool.beq_comm) 
mutual
theorem eqQ_symm : ∀ d e : PyData, eqQ d e = eqQ e d
  | .none, e => eqv_symm_sc _ e trivial
  | .bool b, e => eqv_symm_sc _ e trivial
  | .int i, e => eqv_symm_sc _ e trivial
  | .str x, e => eqv_symm_sc _ e trivial
  | .list xs, e => by
    cases e with
    | list ys => exact eqQAll_symm xs ys
    | _ => rfl
  | .tuple xs, e => by
    cases e with
    | tuple ys => exact eqQAll_symm xs ys
    | _ => rfl
  | .dict ps, e => by
    cases e with
    | dict qs => exact eqQKv_symm ps qs
    | _ => rfl
theorem eqQAll_symm : ∀ xs ys : List PyData, eqQAll xs ys = eqQAll ys xs
  | [], [] => rfl
  | [], _ :: _ => rfl
  | _ :: _, [] => rfl
  | x :: xs, y :: ys => by
    show (eqQ x y && eqQAll xs ys) = (eqQ y x && eqQAll ys xs)
    rw [eqQ_symm x y, eqQAll_symm xs ys]
theorem eqQKv_symm : ∀ ps qs : List (PyData × PyData), eqQKv ps qs = eqQKv qs ps
  | [], [] => rfl
  | [], _ :: _ => rfl
  | _ :: _, [] => rfl
  | (k, d) :: r, (k', d') :: r' => by
    show (eqKey k k' && eqQ d d') = (eqKey k' k && eqQ d' d)
    rw [eqQ_symm d d']
    have : eqKey k k' = eqKey k' k := by
      cases k <;> cases k' <;> first | rfl | (show (_ == _) = (_ == _); exact Bool.beq_comm)
    rw [this]
end
end Uk

namespace M65
open PySem PySem.Spec PyProof.Rows L2 StX Uk
abbrev PP := PySem.Challenge.pw_unkeptlines_k65_findings_as_values
def topS (i : Nat) : Stmt := PP.main.body.getD i (.Pass ⟨0, 0, 0, 0⟩)
abbrev s_Finding___init__ : Stmt := inClass (topS 1) 0
theorem sc_Finding___init__ : FnScope ["self", "word", "fields"] ["self", "word", "fields"] (defScope s_Finding___init__) := ⟨rfl, rfl, rfl, by decide +kernel, rfl, by decide +kernel, by decide +kernel⟩
abbrev s_Finding___bool__ : Stmt := inClass (topS 1) 1
theorem sc_Finding___bool__ : FnScope ["self"] ["self"] (defScope s_Finding___bool__) := ⟨rfl, rfl, rfl, by decide +kernel, rfl, by decide +kernel, by decide +kernel⟩
abbrev s_Finding___eq__ : Stmt := inClass (topS 1) 2
theorem sc_Finding___eq__ : FnScope ["self", "other"] ["self", "other"] (defScope s_Finding___eq__) := ⟨rfl, rfl, rfl, by decide +kernel, rfl, by decide +kernel, by decide +kernel⟩
abbrev s_Still___init__ : Stmt := inClass (topS 2) 0
theorem sc_Still___init__ : ScopeS ["self", "ring"] ["self", "ring"] (defScope s_Still___init__) := ⟨rfl, rfl, rfl, by decide +kernel, rfl, by decide +kernel, by decide +kernel, by decide +kernel⟩
abbrev s_Still___bool__ : Stmt := inClass (topS 2) 1
theorem sc_Still___bool__ : FnScope ["self"] ["self"] (defScope s_Still___bool__) := ⟨rfl, rfl, rfl, by decide +kernel, rfl, by decide +kernel, by decide +kernel⟩
abbrev s_Clash___init__ : Stmt := inClass (topS 3) 0
theorem sc_Clash___init__ : ScopeS ["self", "one", "other", "run"] ["self", "one", "other", "run"] (defScope s_Clash___init__) := ⟨rfl, rfl, rfl, by decide +kernel, rfl, by decide +kernel, by decide +kernel, by decide +kernel⟩
abbrev s_Clash___bool__ : Stmt := inClass (topS 3) 1
theorem sc_Clash___bool__ : FnScope ["self"] ["self"] (defScope s_Clash___bool__) := ⟨rfl, rfl, rfl, by decide +kernel, rfl, by decide +kernel, by decide +kernel⟩
abbrev s_Wrong___init__ : Stmt := inClass (topS 4) 0
theorem sc_Wrong___init__ : ScopeS ["self", "rows", "eager", "whole"] ["self", "rows", "eager", "whole"] (defScope s_Wrong___init__) := ⟨rfl, rfl, rfl, by decide +kernel, rfl, by decide +kernel, by decide +kernel, by decide +kernel⟩
abbrev s_Wrong___bool__ : Stmt := inClass (topS 4) 1
theorem sc_Wrong___bool__ : FnScope ["self"] ["self"] (defScope s_Wrong___bool__) := ⟨rfl, rfl, rfl, by decide +kernel, rfl, by decide +kernel, by decide +kernel⟩
abbrev s_Right___init__ : Stmt := inClass (topS 5) 0
theorem sc_Right___init__ : ScopeS ["self", "steps", "ways", "eager", "whole"] ["self", "steps", "ways", "eager", "whole"] (defScope s_Right___init__) := ⟨rfl, rfl, rfl, by decide +kernel, rfl, by decide +kernel, by decide +kernel, by decide +kernel⟩
abbrev s_Right___bool__ : Stmt := inClass (topS 5) 1
theorem sc_Right___bool__ : FnScope ["self"] ["self"] (defScope s_Right___bool__) := ⟨rfl, rfl, rfl, by decide +kernel, rfl, by decide +kernel, by decide +kernel⟩
abbrev s__law_pen : Stmt := topS 7
theorem sc__law_pen : FnScope ["script"] ["script"] (defScope s__law_pen) := ⟨rfl, rfl, rfl, by decide +kernel, rfl, by decide +kernel, by decide +kernel⟩
abbrev s__law_draw : Stmt := topS 8
theorem sc__law_draw : FnScope ["pen", "many", "digit", "at", "cell", "large", "mixed"] ["pen", "many"] (defScope s__law_draw) := ⟨rfl, rfl, rfl, by decide +kernel, rfl, by decide +kernel, by decide +kernel⟩
abbrev s__law_field : Stmt := topS 9
theorem sc__law_field : FnScope ["pen", "at", "moment", "some"] ["pen"] (defScope s__law_field) := ⟨rfl, rfl, rfl, by decide +kernel, rfl, by decide +kernel, by decide +kernel⟩
abbrev s__law_made : Stmt := topS 10
theorem sc__law_made : FnScope ["at", "fields"] ["at", "fields"] (defScope s__law_made) := ⟨rfl, rfl, rfl, by decide +kernel, rfl, by decide +kernel, by decide +kernel⟩
abbrev s__law_kept : Stmt := topS 11
theorem sc__law_kept : FnScope ["at", "finding"] ["at", "finding"] (defScope s__law_kept) := ⟨rfl, rfl, rfl, by decide +kernel, rfl, by decide +kernel, by decide +kernel⟩
abbrev s__law_sorts : Stmt := topS 12
theorem sc__law_sorts : FnScope ["finding", "some"] ["finding"] (defScope s__law_sorts) := ⟨rfl, rfl, rfl, by decide +kernel, rfl, by decide +kernel, by decide +kernel⟩
abbrev s__law_told : Stmt := topS 13
theorem sc__law_told : FnScope ["at", "fields", "finding", "word"] ["at", "fields"] (defScope s__law_told) := ⟨rfl, rfl, rfl, by decide +kernel, rfl, by decide +kernel, by decide +kernel⟩
abbrev s__law_compared : Stmt := topS 14
theorem sc__law_compared : FnScope ["pen", "at", "fields", "finding", "others", "other", "one", "many", "spot", "bent", "same", "some"] ["pen", "at", "fields"] (defScope s__law_compared) := ⟨rfl, rfl, rfl, by decide +kernel, rfl, by decide +kernel, by decide +kernel⟩
abbrev s_law : Stmt := topS 15
theorem sc_law : FnScope ["script", "pen", "turn", "fields", "k", "before", "at"] ["script"] (defScope s_law) := ⟨rfl, rfl, rfl, by decide +kernel, rfl, by decide +kernel, by decide +kernel⟩
section
variable {mg : PySem.Str → Option Value} {base : Heap} {w : World}
theorem mg_Finding (M : Mod (hd65.heap_39 w.params) mg base) : mg "Finding" = some (.ref 45) := PySem.W.mg_of M.kin M.glob (by k_is)
theorem kp_Finding (w : World) : PySem.W.keepIn (hd65.heap_39 w.params) (.ref 45) = true := by k_is
theorem mg_Still (M : Mod (hd65.heap_39 w.params) mg base) : mg "Still" = some (.ref 75) := PySem.W.mg_of M.kin M.glob (by k_is)
theorem kp_Still (w : World) : PySem.W.keepIn (hd65.heap_39 w.params) (.ref 75) = true := by k_is
theorem mg_Clash (M : Mod (hd65.heap_39 w.params) mg base) : mg "Clash" = some (.ref 103) := PySem.W.mg_of M.kin M.glob (by k_is)
theorem kp_Clash (w : World) : PySem.W.keepIn (hd65.heap_39 w.params) (.ref 103) = true := by k_is
theorem mg_Wrong (M : Mod (hd65.heap_39 w.params) mg base) : mg "Wrong" = some (.ref 131) := PySem.W.mg_of M.kin M.glob (by k_is)
theorem kp_Wrong (w : World) : PySem.W.keepIn (hd65.heap_39 w.params) (.ref 131) = true := by k_is
theorem mg_Right (M : Mod (hd65.heap_39 w.params) mg base) : mg "Right" = some (.ref 159) := PySem.W.mg_of M.kin M.glob (by k_is)
theorem kp_Right (w : World) : PySem.W.keepIn (hd65.heap_39 w.params) (.ref 159) = true := by k_is
theorem mg__law_pen (M : Mod (hd65.heap_39 w.params) mg base) : mg "_law_pen" = some (.ref 168) := PySem.W.mg_of M.kin M.glob (by k_is)
theorem kp__law_pen (w : World) : PySem.W.keepIn (hd65.heap_39 w.params) (.ref 168) = true := by k_is
theorem fn__law_pen (w : World) : ∃ fd, Fun (hd65.heap_39 w.params) "_law_pen" "_law_pen" s__law_pen 168 fd := ⟨_, fun_mk (by k_is) (by k_is) (by k_is)⟩
theorem mg__law_draw (M : Mod (hd65.heap_39 w.params) mg base) : mg "_law_draw" = some (.ref 175) := PySem.W.mg_of M.kin M.glob (by k_is)
theorem kp__law_draw (w : World) : PySem.W.keepIn (hd65.heap_39 w.params) (.ref 175) = true := by k_is
theorem fn__law_draw (w : World) : ∃ fd, Fun (hd65.heap_39 w.params) "_law_draw" "_law_draw" s__law_draw 175 fd := ⟨_, fun_mk (by k_is) (by k_is) (by k_is)⟩
theorem mg__law_field (M : Mod (hd65.heap_39 w.params) mg base) : mg "_law_field" = some (.ref 182) := PySem.W.mg_of M.kin M.glob (by k_is)
theorem kp__law_field (w : World) : PySem.W.keepIn (hd65.heap_39 w.params) (.ref 182) = true := by k_is
theorem fn__law_field (w : World) : ∃ fd, Fun (hd65.heap_39 w.params) "_law_field" "_law_field" s__law_field 182 fd := ⟨_, fun_mk (by k_is) (by k_is) (by k_is)⟩
theorem mg__law_made (M : Mod (hd65.heap_39 w.params) mg base) : mg "_law_made" = some (.ref 189) := PySem.W.mg_of M.kin M.glob (by k_is)
theorem kp__law_made (w : World) : PySem.W.keepIn (hd65.heap_39 w.params) (.ref 189) = true := by k_is
theorem fn__law_made (w : World) : ∃ fd, Fun (hd65.heap_39 w.params) "_law_made" "_law_made" s__law_made 189 fd := ⟨_, fun_mk (by k_is) (by k_is) (by k_is)⟩
theorem mg__law_kept (M : Mod (hd65.heap_39 w.params) mg base) : mg "_law_kept" = some (.ref 196) := PySem.W.mg_of M.kin M.glob (by k_is)
theorem kp__law_kept (w : World) : PySem.W.keepIn (hd65.heap_39 w.params) (.ref 196) = true := by k_is
theorem fn__law_kept (w : World) : ∃ fd, Fun (hd65.heap_39 w.params) "_law_kept" "_law_kept" s__law_kept 196 fd := ⟨_, fun_mk (by k_is) (by k_is) (by k_is)⟩
theorem mg__law_sorts (M : Mod (hd65.heap_39 w.params) mg base) : mg "_law_sorts" = some (.ref 203) := PySem.W.mg_of M.kin M.glob (by k_is)
theorem kp__law_sorts (w : World) : PySem.W.keepIn (hd65.heap_39 w.params) (.ref 203) = true := by k_is
theorem fn__law_sorts (w : World) : ∃ fd, Fun (hd65.heap_39 w.params) "_law_sorts" "_law_sorts" s__law_sorts 203 fd := ⟨_, fun_mk (by k_is) (by k_is) (by k_is)⟩
theorem mg__law_told (M : Mod (hd65.heap_39 w.params) mg base) : mg "_law_told" = some (.ref 210) := PySem.W.mg_of M.kin M.glob (by k_is)
theorem kp__law_told (w : World) : PySem.W.keepIn (hd65.heap_39 w.params) (.ref 210) = true := by k_is
theorem fn__law_told (w : World) : ∃ fd, Fun (hd65.heap_39 w.params) "_law_told" "_law_told" s__law_told 210 fd := ⟨_, fun_mk (by k_is) (by k_is) (by k_is)⟩
theorem mg__law_compared (M : Mod (hd65.heap_39 w.params) mg base) : mg "_law_compared" = some (.ref 215) := PySem.W.mg_of M.kin M.glob (by k_is)
theorem kp__law_compared (w : World) : PySem.W.keepIn (hd65.heap_39 w.params) (.ref 215) = true := by k_is
theorem fn__law_compared (w : World) : ∃ fd, Fun (hd65.heap_39 w.params) "_law_compared" "_law_compared" s__law_compared 215 fd := ⟨_, fun_mk (by k_is) (by k_is) (by k_is)⟩
theorem mg_law (M : Mod (hd65.heap_39 w.params) mg base) : mg "law" = some (.ref 220) := PySem.W.mg_of M.kin M.glob (by k_is)
theorem kp_law (w : World) : PySem.W.keepIn (hd65.heap_39 w.params) (.ref 220) = true := by k_is
theorem fn_law (w : World) : ∃ fd, Fun (hd65.heap_39 w.params) "law" "law" s_law 220 fd := ⟨_, fun_mk (by k_is) (by k_is) (by k_is)⟩
theorem fn_Finding___init__ (w : World) : ∃ fd, Fun (hd65.heap_39 w.params) "__init__" "Finding.__init__" s_Finding___init__ 28 fd := ⟨_, fun_mk (by k_is) (by k_is) (by k_is)⟩
theorem fn_Finding___bool__ (w : World) : ∃ fd, Fun (hd65.heap_39 w.params) "__bool__" "Finding.__bool__" s_Finding___bool__ 35 fd := ⟨_, fun_mk (by k_is) (by k_is) (by k_is)⟩
theorem fn_Finding___eq__ (w : World) : ∃ fd, Fun (hd65.heap_39 w.params) "__eq__" "Finding.__eq__" s_Finding___eq__ 42 fd := ⟨_, fun_mk (by k_is) (by k_is) (by k_is)⟩
theorem fn_Still___init__ (w : World) : FunS (hd65.heap_39 w.params) "__init__" "Still.__init__" s_Still___init__ 65 53 64 75 := ⟨⟨_, _, _, _, _, _, _, _, by k_is, by k_is⟩, ⟨_, _, _, by k_is⟩, by k_is⟩
theorem sup_Still___init__ (w : World) : SupF PP (hd65.heap_39 w.params) 64 75 := ⟨⟨_, _, _, _, _, _, by k_is, by rfl, by decide +kernel⟩, ⟨_, by k_is⟩, by k_is, by decide +kernel, by k_is⟩
theorem fn_Still___bool__ (w : World) : ∃ fd, Fun (hd65.heap_39 w.params) "__bool__" "Still.__bool__" s_Still___bool__ 72 fd := ⟨_, fun_mk (by k_is) (by k_is) (by k_is)⟩
theorem fn_Clash___init__ (w : World) : FunS (hd65.heap_39 w.params) "__init__" "Clash.__init__" s_Clash___init__ 93 81 92 103 := ⟨⟨_, _, _, _, _, _, _, _, by k_is, by k_is⟩, ⟨_, _, _, by k_is⟩, by k_is⟩
theorem sup_Clash___init__ (w : World) : SupF PP (hd65.heap_39 w.params) 92 103 := ⟨⟨_, _, _, _, _, _, by k_is, by rfl, by decide +kernel⟩, ⟨_, by k_is⟩, by k_is, by decide +kernel, by k_is⟩
theorem fn_Clash___bool__ (w : World) : ∃ fd, Fun (hd65.heap_39 w.params) "__bool__" "Clash.__bool__" s_Clash___bool__ 100 fd := ⟨_, fun_mk (by k_is) (by k_is) (by k_is)⟩
theorem fn_Wrong___init__ (w : World) : FunS (hd65.heap_39 w.params) "__init__" "Wrong.__init__" s_Wrong___init__ 121 109 120 131 := ⟨⟨_, _, _, _, _, _, _, _, by k_is, by k_is⟩, ⟨_, _, _, by k_is⟩, by k_is⟩
theorem sup_Wrong___init__ (w : World) : SupF PP (hd65.heap_39 w.params) 120 131 := ⟨⟨_, _, _, _, _, _, by k_is, by rfl, by decide +kernel⟩, ⟨_, by k_is⟩, by k_is, by decide +kernel, by k_is⟩
theorem fn_Wrong___bool__ (w : World) : ∃ fd, Fun (hd65.heap_39 w.params) "__bool__" "Wrong.__bool__" s_Wrong___bool__ 128 fd := ⟨_, fun_mk (by k_is) (by k_is) (by k_is)⟩
theorem fn_Right___init__ (w : World) : FunS (hd65.heap_39 w.params) "__init__" "Right.__init__" s_Right___init__ 149 137 148 159 := ⟨⟨_, _, _, _, _, _, _, _, by k_is, by k_is⟩, ⟨_, _, _, by k_is⟩, by k_is⟩
theorem sup_Right___init__ (w : World) : SupF PP (hd65.heap_39 w.params) 148 159 := ⟨⟨_, _, _, _, _, _, by k_is, by rfl, by decide +kernel⟩, ⟨_, by k_is⟩, by k_is, by decide +kernel, by k_is⟩
theorem fn_Right___bool__ (w : World) : ∃ fd, Fun (hd65.heap_39 w.params) "__bool__" "Right.__bool__" s_Right___bool__ 156 fd := ⟨_, fun_mk (by k_is) (by k_is) (by k_is)⟩
theorem cls_Finding (w : World) : Cls (hd65.heap_39 w.params) 45 := ⟨by k_is, by k_is, by k_is, by k_is⟩
theorem tyc_Finding (w : World) : TyC (hd65.heap_39 w.params) 45 := ⟨cls_Finding w, by k_is, by k_is, by k_is, by k_is⟩
theorem mk_Finding (w : World) : Mk (hd65.heap_39 w.params) 45 28 := ⟨by k_is, by k_is, by k_is, by k_is⟩
theorem na_Finding_word (w : World) : NoAttr (hd65.heap_39 w.params) 45 "word" := by show PySem.W.findIn _ _ _ = _; k_is
theorem na_Finding_fields (w : World) : NoAttr (hd65.heap_39 w.params) 45 "fields" := by show PySem.W.findIn _ _ _ = _; k_is
theorem own_Finding_bool (w : World) : Own (hd65.heap_39 w.params) 45 "__bool__" 35 := ⟨by k_is, by k_is⟩
theorem own_Finding_eq (w : World) : Own (hd65.heap_39 w.params) 45 "__eq__" 42 := ⟨by k_is, by k_is⟩
theorem own_Finding_ne (w : World) : OwnNe (hd65.heap_39 w.params) 45 42 := ⟨own_Finding_eq w, by k_is, by k_is⟩
theorem cls_Still (w : World) : Cls (hd65.heap_39 w.params) 75 := ⟨by k_is, by k_is, by k_is, by k_is⟩
theorem tyc_Still (w : World) : TyC (hd65.heap_39 w.params) 75 := ⟨cls_Still w, by k_is, by k_is, by k_is, by k_is⟩
theorem mk_Still (w : World) : Mk (hd65.heap_39 w.params) 75 65 := ⟨by k_is, by k_is, by k_is, by k_is⟩
theorem na_Still_ring (w : World) : NoAttr (hd65.heap_39 w.params) 75 "ring" := by show PySem.W.findIn _ _ _ = _; k_is
theorem na_Still_word (w : World) : NoAttr (hd65.heap_39 w.params) 75 "word" := by show PySem.W.findIn _ _ _ = _; k_is
theorem na_Still_fields (w : World) : NoAttr (hd65.heap_39 w.params) 75 "fields" := by show PySem.W.findIn _ _ _ = _; k_is
theorem own_Still_bool (w : World) : Own (hd65.heap_39 w.params) 75 "__bool__" 72 := ⟨by k_is, by k_is⟩
theorem cls_Clash (w : World) : Cls (hd65.heap_39 w.params) 103 := ⟨by k_is, by k_is, by k_is, by k_is⟩
theorem tyc_Clash (w : World) : TyC (hd65.heap_39 w.params) 103 := ⟨cls_Clash w, by k_is, by k_is, by k_is, by k_is⟩
theorem mk_Clash (w : World) : Mk (hd65.heap_39 w.params) 103 93 := ⟨by k_is, by k_is, by k_is, by k_is⟩
theorem na_Clash_one (w : World) : NoAttr (hd65.heap_39 w.params) 103 "one" := by show PySem.W.findIn _ _ _ = _; k_is
theorem na_Clash_other (w : World) : NoAttr (hd65.heap_39 w.params) 103 "other" := by show PySem.W.findIn _ _ _ = _; k_is
theorem na_Clash_run (w : World) : NoAttr (hd65.heap_39 w.params) 103 "run" := by show PySem.W.findIn _ _ _ = _; k_is
theorem na_Clash_word (w : World) : NoAttr (hd65.heap_39 w.params) 103 "word" := by show PySem.W.findIn _ _ _ = _; k_is
theorem na_Clash_fields (w : World) : NoAttr (hd65.heap_39 w.params) 103 "fields" := by show PySem.W.findIn _ _ _ = _; k_is
theorem own_Clash_bool (w : World) : Own (hd65.heap_39 w.params) 103 "__bool__" 100 := ⟨by k_is, by k_is⟩
theorem cls_Wrong (w : World) : Cls (hd65.heap_39 w.params) 131 := ⟨by k_is, by k_is, by k_is, by k_is⟩
theorem tyc_Wrong (w : World) : TyC (hd65.heap_39 w.params) 131 := ⟨cls_Wrong w, by k_is, by k_is, by k_is, by k_is⟩
theorem mk_Wrong (w : World) : Mk (hd65.heap_39 w.params) 131 121 := ⟨by k_is, by k_is, by k_is, by k_is⟩
theorem na_Wrong_rows (w : World) : NoAttr (hd65.heap_39 w.params) 131 "rows" := by show PySem.W.findIn _ _ _ = _; k_is
theorem na_Wrong_eager (w : World) : NoAttr (hd65.heap_39 w.params) 131 "eager" := by show PySem.W.findIn _ _ _ = _; k_is
theorem na_Wrong_whole (w : World) : NoAttr (hd65.heap_39 w.params) 131 "whole" := by show PySem.W.findIn _ _ _ = _; k_is
theorem na_Wrong_word (w : World) : NoAttr (hd65.heap_39 w.params) 131 "word" := by show PySem.W.findIn _ _ _ = _; k_is
theorem na_Wrong_fields (w : World) : NoAttr (hd65.heap_39 w.params) 131 "fields" := by show PySem.W.findIn _ _ _ = _; k_is
theorem own_Wrong_bool (w : World) : Own (hd65.heap_39 w.params) 131 "__bool__" 128 := ⟨by k_is, by k_is⟩
theorem cls_Right (w : World) : Cls (hd65.heap_39 w.params) 159 := ⟨by k_is, by k_is, by k_is, by k_is⟩
theorem tyc_Right (w : World) : TyC (hd65.heap_39 w.params) 159 := ⟨cls_Right w, by k_is, by k_is, by k_is, by k_is⟩
theorem mk_Right (w : World) : Mk (hd65.heap_39 w.params) 159 149 := ⟨by k_is, by k_is, by k_is, by k_is⟩
theorem na_Right_steps (w : World) : NoAttr (hd65.heap_39 w.params) 159 "steps" := by show PySem.W.findIn _ _ _ = _; k_is
theorem na_Right_ways (w : World) : NoAttr (hd65.heap_39 w.params) 159 "ways" := by show PySem.W.findIn _ _ _ = _; k_is
theorem na_Right_eager (w : World) : NoAttr (hd65.heap_39 w.params) 159 "eager" := by show PySem.W.findIn _ _ _ = _; k_is
theorem na_Right_whole (w : World) : NoAttr (hd65.heap_39 w.params) 159 "whole" := by show PySem.W.findIn _ _ _ = _; k_is
theorem na_Right_word (w : World) : NoAttr (hd65.heap_39 w.params) 159 "word" := by show PySem.W.findIn _ _ _ = _; k_is
theorem na_Right_fields (w : World) : NoAttr (hd65.heap_39 w.params) 159 "fields" := by show PySem.W.findIn _ _ _ = _; k_is
theorem own_Right_bool (w : World) : Own (hd65.heap_39 w.params) 159 "__bool__" 156 := ⟨by k_is, by k_is⟩
theorem mn_len (M : Mod (hd65.heap_39 w.params) mg base) : mg "len" = none := PySem.W.mg_none_of M.kin M.glob (by k_is)
theorem mn_int (M : Mod (hd65.heap_39 w.params) mg base) : mg "int" = none := PySem.W.mg_none_of M.kin M.glob (by k_is)
theorem mn_abs (M : Mod (hd65.heap_39 w.params) mg base) : mg "abs" = none := PySem.W.mg_none_of M.kin M.glob (by k_is)
theorem mn_list (M : Mod (hd65.heap_39 w.params) mg base) : mg "list" = none := PySem.W.mg_none_of M.kin M.glob (by k_is)
theorem mn_tuple (M : Mod (hd65.heap_39 w.params) mg base) : mg "tuple" = none := PySem.W.mg_none_of M.kin M.glob (by k_is)
theorem mn_range (M : Mod (hd65.heap_39 w.params) mg base) : mg "range" = none := PySem.W.mg_none_of M.kin M.glob (by k_is)
theorem mn_repr (M : Mod (hd65.heap_39 w.params) mg base) : mg "repr" = none := PySem.W.mg_none_of M.kin M.glob (by k_is)
theorem mn_isinstance (M : Mod (hd65.heap_39 w.params) mg base) : mg "isinstance" = none := PySem.W.mg_none_of M.kin M.glob (by k_is)
theorem mn_bool (M : Mod (hd65.heap_39 w.params) mg base) : mg "bool" = none := PySem.W.mg_none_of M.kin M.glob (by k_is)
theorem mn_super (M : Mod (hd65.heap_39 w.params) mg base) : mg "super" = none := PySem.W.mg_none_of M.kin M.glob (by k_is)
theorem supc_Still (w : World) : SupC (hd65.heap_39 w.params) 75 75 "__init__" 28 := ⟨⟨_, by k_is⟩, by k_is, by ks_is, by k_is, by k_is⟩
theorem supc_Clash (w : World) : SupC (hd65.heap_39 w.params) 103 103 "__init__" 28 := ⟨⟨_, by k_is⟩, by k_is, by ks_is, by k_is, by k_is⟩
theorem supc_Wrong (w : World) : SupC (hd65.heap_39 w.params) 131 131 "__init__" 28 := ⟨⟨_, by k_is⟩, by k_is, by ks_is, by k_is, by k_is⟩
theorem supc_Right (w : World) : SupC (hd65.heap_39 w.params) 159 159 "__init__" 28 := ⟨⟨_, by k_is⟩, by k_is, by ks_is, by k_is, by k_is⟩
theorem owneq_Still (w : World) : Own (hd65.heap_39 w.params) 75 "__eq__" 42 := ⟨by k_is, by k_is⟩
theorem owneq_Clash (w : World) : Own (hd65.heap_39 w.params) 103 "__eq__" 42 := ⟨by k_is, by k_is⟩
theorem owneq_Wrong (w : World) : Own (hd65.heap_39 w.params) 131 "__eq__" 42 := ⟨by k_is, by k_is⟩
theorem owneq_Right (w : World) : Own (hd65.heap_39 w.params) 159 "__eq__" 42 := ⟨by k_is, by k_is⟩
theorem nf_all (w : World) : (([75, 103, 131, 159] : List Addr).all fun C => ([.ref 75, .ref 103, .ref 131, .ref 159, .type "NoneType", .type "int", .type "str", .type "tuple", .type "list", .type "bool", .type "dict"] : List Value).all fun t => PySem.W.notFirst (hd65.heap_39 w.params) C t) = true := by kernel_rfl
theorem kt_all (w : World) : (([75, 103, 131, 159] : List Addr).all fun C => ([75, 103, 131, 159] : List Addr).all fun D => PySem.W.kitOne (hd65.heap_39 w.params) (.ref C) (.ref D) == some (C == D)) = true := by kernel_rfl
theorem kt_fin (w : World) : (([75, 103, 131, 159] : List Addr).all fun C => PySem.W.kitOne (hd65.heap_39 w.params) (.ref C) (.ref 45) == some true) = true := by kernel_rfl
theorem kt_ty (w : World) : ((["NoneType", "int", "str", "tuple", "list", "bool", "dict"] : List String).all fun t => PySem.W.kitOne (hd65.heap_39 w.params) (.type t) (.ref 45) == some false) = true := by kernel_rfl
end
end M65

namespace M65
open PySem PySem.Spec PyProof.Rows L2 StX Uk
section
variable {mg : PySem.Str → Option Value} {base : Heap} {w : World}
theorem ok__law_draw (M : Mod (hd65.heap_39 w.params) mg base) : CallG PP w (hd65.heap_39 w.params) mg base 1 (.ref 175) (pos spDraw) := by
  obtain ⟨fd, F⟩ := fn__law_draw w
  refine def_pos F sc__law_draw (fun vs H Q E h => ?_) (fun _ _ _ _ _ _ us hl => match us, hl with | [_, _], _ => rfl) (fun cdv A outer s H vs Q E hr hg h => ?_)
  · obtain ⟨p, c, b, l, many, ns, rfl, _⟩ := h
    rfl
  obtain ⟨p, c, b, l, many, ns, rfl, hp, hc, hns, hb0, hb1, hm1, hm2, q⟩ := h
  have nd := sc__law_draw.nd
  -- the mixing
  obtain ⟨tm, PM, mix⟩ : ∃ tm : TS, PSs (cxOf (L2.CX PP w) PP w (hd65.heap_39 w.params) mg base ["pen", "many", "digit", "at", "cell", "large", "mixed"] "_law_draw" (defScope s__law_draw) 175 cdv A outer s H E) ((defBody s__law_draw).drop 6) tm ∧
      ∀ (cell : Int) (H2 : Hp), Chg p (penO c (b + 1) l) H H2 → tm { nx := fun _ H' => Q .non H', rt := Q } [some (.ref p), some (.int many), none, some (.int b), some (.int cell), none, none] H2 := by
    refine ⟨_, (pss_cons (ps_set (i := 6) nd rfl (.inl rfl) (pe_op op_modN (pe_op op_pow (pe_callTy call_int1 (by rfl) (mn_int M) (by decide +kernel) (pa_cons (pe_op op_add (pe_op op_add (pe_op op_modN (pe_callTy call_int1 (by rfl) (mn_int M) (by decide +kernel) (pa_cons (pv 4) pa_nil)) pe_int) (pe_op op_mul pe_int (pv 3))) pe_int) pa_nil)) pe_int) pe_int))
      (pss_cons (ps_set (i := 6) nd rfl (.inl rfl) (pe_op op_modN (pe_op op_pow (pe_callTy call_int1 (by rfl) (mn_int M) (by decide +kernel) (pa_cons (pe_op op_add (pe_op op_add (pe_op op_mul (pv 6) (pe_op op_add (pe_op op_mul pe_int (pv 3)) pe_int)) (pe_op op_mul (pe_op op_mul pe_int (pv 3)) (pv 3))) pe_int) pa_nil)) pe_int) pe_int))
      (pss_one (ps_ret (pe_op op_modN (pe_callTy call_int1 (by rfl) (mn_int M) (by decide +kernel) (pa_cons (pe_op op_fdivN (pv 6) pe_int) pa_nil)) (pv 1)))))), fun cell H2 c2 => ?_⟩
    have hr1 := @fmod_range cell 2147483549 (by decide)
    refine ⟨_, rfl, .inl ⟨cell, rfl, ?_⟩⟩
    refine ⟨_, _, rfl, rfl, by show ¬ _ = _; decide, ?_⟩
    refine ⟨_, rfl, _, _, rfl, rfl, .inl ⟨by decide, by decide⟩, ?_⟩
    refine ⟨_, _, rfl, rfl, ?_⟩
    refine ⟨_, _, rfl, rfl, .inl ⟨_, rfl, ?_⟩⟩
    refine ⟨_, _, rfl, rfl, ⟨by decide, by decide, by omega⟩, ?_⟩
    refine ⟨_, _, rfl, rfl, by show ¬ _ = _; decide, ?_⟩
    obtain ⟨m1, e1, m10, m11⟩ := fmod_ex (C := 2147483579) (by decide) ((Int.fmod cell 2147483549 + 61553 * b + 41) ^ Int.toNat 5)
    simp only [e1]
    clear e1
    refine ⟨_, rfl, _, rfl, _, _, rfl, rfl, .inl ⟨by decide, by decide⟩, ?_⟩
    refine ⟨_, _, rfl, rfl, ?_⟩
    refine ⟨_, _, rfl, rfl, .inl ⟨by show _ < m1; omega, by show m1 < _; omega⟩, ?_⟩
    refine ⟨_, rfl, _, _, rfl, rfl, .inl ⟨by decide, by decide⟩, ?_⟩
    refine ⟨_, rfl, _, _, rfl, rfl, .inr ⟨by show _ < b; omega, by show b < _; omega⟩, ?_⟩
    refine ⟨_, _, rfl, rfl, ?_⟩
    refine ⟨_, _, rfl, rfl, .inl ⟨_, rfl, ?_⟩⟩
    refine ⟨_, _, rfl, rfl, ⟨by decide, by decide, ?_⟩, ?_⟩
    · have i1 : m1 * (2 * b + 71) ≤ 2147483649 * (2 * b + 71) := Int.mul_le_mul_of_nonneg_right (by omega) (by omega)
      have i2 : 0 ≤ m1 * (2 * b + 71) := Int.mul_nonneg m10 (by omega)
      have i3 : 80021 * b * b ≤ 80021 * b * 100000 := Int.mul_le_mul_of_nonneg_left hb1 (by omega)
      have i4 : 0 ≤ 80021 * b * b := Int.mul_nonneg (by omega) hb0
      omega
    refine ⟨_, _, rfl, rfl, by show ¬ _ = _; decide, ?_⟩
    refine ⟨_, rfl, _, _, rfl, rfl, ⟨by decide, by decide⟩, .inl ⟨_, rfl, ?_⟩⟩
    refine ⟨_, rfl, _, many, rfl, rfl, by show ¬ many = 0; omega, ?_⟩
    exact q _ (b + 1) _ _ (fmod_range (by omega)).1 (fmod_range (by omega)).2 (by omega) (by omega) c2
  -- what stands behind the cell
  obtain ⟨tr, PR, key⟩ : ∃ tr : TS, PSs (cxOf (L2.CX PP w) PP w (hd65.heap_39 w.params) mg base ["pen", "many", "digit", "at", "cell", "large", "mixed"] "_law_draw" (defScope s__law_draw) 175 cdv A outer s H E) ((defBody s__law_draw).drop 5) tr ∧
      ∀ (cell : Int) (H2 : Hp), Chg p (penO c (b + 1) l) H H2 → H2 c = some (.lst (ns.map .int)) → tr { nx := fun _ H' => Q .non H', rt := Q } [some (.ref p), some (.int many), none, some (.int b), some (.int cell), none, none] H2 := by
    refine ⟨_, (pss_cons (ps_if (PW.pt (pw_and (pt_cmpR op_lt (pv 3) (pe_callB call_len_seq (by rfl) (mn_len M) (by decide +kernel) (pa_cons (pe_ix ix_list (pv 0) pe_int (fun _ _ => rfl)) pa_nil)) (nomark _)) (pw_and1 (pt_cmpR op_ge (pe_callB call_abs (by rfl) (mn_abs M) (by decide +kernel) (pa_cons (pv 4) pa_nil)) (pe_op op_pow pe_int pe_int) (nomark _))))) (pss_cons (ps_set (i := 5) nd rfl (.inl rfl) (pe_op op_add (pe_op op_mul pe_int (pe_callB call_abs (by rfl) (mn_abs M) (by decide +kernel) (pa_cons (pv 4) pa_nil))) (pe_callTy call_int1 (by rfl) (mn_int M) (by decide +kernel) (pa_cons (pe_cmpR op_lt (pv 4) pe_int (nomark _)) pa_nil))))
      (pss_cons (ps_asg (pe_op op_fdivN (pv 5) (pv 1)) (pg_sub (pv 0) pe_int set_list))
      (pss_one (ps_ret (pe_op op_modN (pe_callTy call_int1 (by rfl) (mn_int M) (by decide +kernel) (pa_cons (pv 5) pa_nil)) (pv 1)))))) pss_nil) PM), fun cell H2 c2 h4 => ?_⟩
    have h3 := c2.at_
    refine ⟨_, rfl, .ref p, rfl, p, _, _, _, rfl, rfl, SqL.of h3, rfl, c, _, rfl, .inl (SqL.of h4), b, _, rfl, rfl, _, rfl, ?_⟩
    refine ite_b (fun hlt => ?_) (fun hlt => ?_)
    · refine ⟨_, rfl, cell, rfl, ?_⟩
      refine ⟨10, 18, rfl, rfl, ⟨by decide, by decide, by decide⟩, _, _, rfl, rfl, _, rfl, ?_⟩
      refine ite_b (fun hbig => ?_) (fun hbig => ?_)
      · refine ⟨_, rfl, cell, rfl, 2, _, rfl, rfl, .inl ⟨by decide, by decide⟩, ?_⟩
        refine ⟨_, rfl, cell, 0, rfl, rfl, .inr ⟨_, rfl, ?_⟩⟩
        refine ⟨_, _, rfl, rfl, ?_⟩
        refine ⟨_, rfl, _, rfl, _, many, rfl, rfl, ⟨by omega, by omega⟩, ?_⟩
        refine ⟨.ref p, rfl, p, _, _, _, rfl, rfl, h3, rfl, ?_⟩
        refine ⟨_, rfl, .inl ⟨_, rfl, ?_⟩⟩
        refine ⟨_, rfl, _, many, rfl, rfl, by omega, ?_⟩
        exact q _ (b + 1) _ _ (fmod_range (by omega)).1 (fmod_range (by omega)).2 (by omega) (by omega) (c2.trans Chg.upd)
      · exact mix cell _ c2
    · exact mix cell _ c2
  refine ⟨_, (pss_cons (ps_if (pt_cmpR op_gt (pe_ix ix_list (pv 0) pe_int (fun _ _ => rfl)) pe_int (nomark _)) (pss_cons (ps_set (i := 2) nd rfl (.inl rfl) (pe_op op_modN (pe_callTy call_int1 (by rfl) (mn_int M) (by decide +kernel) (pa_cons (pe_ix ix_list (pv 0) pe_int (fun _ _ => rfl)) pa_nil)) (pv 1)))
      (pss_cons (ps_asg (pe_op op_fdivN (pe_ix ix_list (pv 0) pe_int (fun _ _ => rfl)) (pv 1)) (pg_sub (pv 0) pe_int set_list))
      (pss_one (ps_ret (pv 2))))) pss_nil)
      (pss_cons (ps_set (i := 3) nd rfl (.inl rfl) (pe_ix ix_list (pv 0) pe_int (fun _ _ => rfl)))
      (pss_cons (ps_asg (pe_op op_add (pv 3) pe_int) (pg_sub (pv 0) pe_int set_list))
      (pss_cons (ps_set (i := 4) nd rfl (.inl rfl) (pe_op op_add (pe_op op_mul pe_int (pv 3)) pe_int))
      (pss_cons (ps_if (pt_cmpR (op_neD (hu_big hr)) (pe_ix ix_list (pv 0) pe_int (fun _ _ => rfl)) (pe_lst pa_nil) (nomark _)) (pss_one (ps_set (i := 4) nd rfl (.inl rfl) (pe_ix ix_list (pe_ix ix_list (pv 0) pe_int (fun _ _ => rfl)) (pe_op op_modN (pe_callTy call_int1 (by rfl) (mn_int M) (by decide +kernel) (pa_cons (pv 3) pa_nil)) (pe_callB call_len_seq (by rfl) (mn_len M) (by decide +kernel) (pa_cons (pe_ix ix_list (pv 0) pe_int (fun _ _ => rfl)) pa_nil))) (fun _ _ => rfl)))) pss_nil)
      PR))))), ?_⟩
  refine ⟨.ref p, rfl, p, _, _, _, rfl, rfl, SqL.of hp, atI_lit (by decide) rfl, l, 0, rfl, rfl, _, rfl, ?_⟩
  refine ite_b (fun hl => ?_) (fun hl => ?_)
  · refine ⟨.ref p, rfl, p, _, _, _, rfl, rfl, SqL.of hp, atI_lit (by decide) rfl, .inl ⟨l, rfl, ?_⟩⟩
    refine ⟨_, rfl, l, many, rfl, rfl, by omega, ?_⟩
    refine ⟨.ref p, rfl, p, _, _, _, rfl, rfl, SqL.of hp, atI_lit (by decide) rfl, _, rfl, l, many, rfl, rfl, ⟨by omega, by omega⟩, ?_⟩
    refine ⟨.ref p, rfl, p, _, _, _, rfl, rfl, hp, rfl, ?_⟩
    refine ⟨_, rfl, ?_⟩
    exact q _ b _ _ (fmod_range (by omega)).1 (fmod_range (by omega)).2 (by omega) (by omega) Chg.upd
  · refine ⟨.ref p, rfl, p, _, _, _, rfl, rfl, SqL.of hp, rfl, ?_⟩
    refine ⟨_, rfl, b, 1, rfl, rfl, .ref p, rfl, p, _, _, _, rfl, rfl, hp, rfl, ?_⟩
    generalize eH1 : upd H p (.lst ([V.ref c, V.int b, V.int l].set _ _)) = H1
    have c1 : Chg p (penO c (b + 1) l) H H1 := by rw [← eH1]; exact Chg.upd
    clear eH1
    have pc : c ≠ p := fun e => by
      rw [e, hp] at hc
      match ns, hc with
      | [], hc => cases hc
      | n :: r, hc => cases hc
    have h1 : H1 p = some (penO c (b + 1) l) := c1.at_
    have h2 : H1 c = some (.lst (ns.map .int)) := c1.ne _ _ pc hc
    refine ⟨_, rfl, 59713, b, rfl, rfl, .inl ⟨by decide, by decide⟩, _, _, rfl, rfl, ?_⟩
    refine ⟨.ref p, rfl, p, _, _, _, rfl, rfl, SqL.of h1, rfl, Nat.zero_le _, fun z hz => ?_⟩
    have sz := same_new (o := .lst []) hz
    refine ⟨.list (ns.map PyData.int), .list [], .lst (SqL.of (sz _ _ h2)) (dpAll_ints ns), .lst (SqL.of upd_same) .nil, Uk.shaped_ints ns, rfl, ?_⟩
    refine ⟨_, rfl, ?_⟩
    have c2 := c1.then sz
    have h3 := sz _ _ h1
    have h4 := sz _ _ h2
    generalize upd H1 z (.lst []) = H2 at *
    refine ite_b (fun hne => ?_) (fun hne => ?_)
    · have hl : 0 < ns.length := by
        cases ns with
        | nil => cases hne
        | cons n r => exact Nat.succ_pos _
      obtain ⟨cell, hcell⟩ : ∃ cell : Int, atI (ns.map V.int) (b.fmod (ns.length : Int)) = some (.int cell) := by
        have hr := fmod_range (i := b) (j := (ns.length : Int)) (by omega)
        have hi : (b.fmod (ns.length : Int)).toNat < ns.length := by omega
        refine ⟨ns[(b.fmod (ns.length : Int)).toNat], atI_lit hr.1 ?_⟩
        rw [List.getElem?_map, List.getElem?_eq_getElem hi]
        rfl
      refine ⟨.ref p, rfl, p, _, _, _, rfl, rfl, SqL.of h3, rfl, _, rfl, .inl ⟨b, rfl, ?_⟩⟩
      refine ⟨.ref p, rfl, p, _, _, _, rfl, rfl, SqL.of h3, rfl, c, _, rfl, .inl (SqL.of h4), _, _, rfl, rfl, ?_, ?_⟩
      · rw [List.length_map]; omega
      refine ⟨c, _, _, _, rfl, rfl, SqL.of h4, by rw [List.length_map]; exact hcell, ?_⟩
      exact key cell _ c2 h4
    · exact key _ _ c2 h4
theorem ok_drawP (M : Mod (hd65.heap_39 w.params) mg base) : CallG PP w (hd65.heap_39 w.params) mg base 1 (.ref 175) (pos spDrawP) := (ok__law_draw M).imp fun _ _ _ _ _ h => ⟨h.1, draw_P h.2⟩
end
end M65

namespace M65
open PySem PySem.Spec PyProof.Rows L2 StX Uk

local macro_rules | `(tactic| wtm_at "off0") => `(tactic| first | with_reducible assumption | (with_reducible apply Off.mk; wtm_at "pen"; assumption))
local macro_rules | `(tactic| wtm_at "at0") => `(tactic| first | with_reducible assumption | with_reducible exact upd_same | (with_reducible apply Off.at; wtm_at "off0"))
local macro_rules | `(tactic| wtm_at "off1") => `(tactic| first | with_reducible assumption | (with_reducible apply Off.mk; wtm_at "pen"; assumption) | (with_reducible refine Off.new (by assumption) _ _ ?_; wtm_at "off0") | (with_reducible refine at_same (by with_reducible assumption) ?_; wtm_at "off0"))
local macro_rules | `(tactic| wtm_at "at1") => `(tactic| first | with_reducible assumption | with_reducible exact upd_same | (with_reducible refine at_new (by assumption) ?_; wtm_at "at0") | (with_reducible refine at_same (by with_reducible assumption) ?_; wtm_at "at0") | (with_reducible apply Off.at; wtm_at "off1"))
local macro_rules | `(tactic| wtm_at "off2") => `(tactic| first | with_reducible assumption | (with_reducible apply Off.mk; wtm_at "pen"; assumption) | (with_reducible refine Off.new (by assumption) _ _ ?_; wtm_at "off1") | (with_reducible refine at_same (by with_reducible assumption) ?_; wtm_at "off1"))
local macro_rules | `(tactic| wtm_at "at2") => `(tactic| first | with_reducible assumption | with_reducible exact upd_same | (with_reducible refine at_new (by assumption) ?_; wtm_at "at1") | (with_reducible refine at_same (by with_reducible assumption) ?_; wtm_at "at1") | (with_reducible apply Off.at; wtm_at "off2"))
local macro_rules | `(tactic| wtm_at "off3") => `(tactic| first | with_reducible assumption | (with_reducible apply Off.mk; wtm_at "pen"; assumption) | (with_reducible refine Off.new (by assumption) _ _ ?_; wtm_at "off2") | (with_reducible refine at_same (by with_reducible assumption) ?_; wtm_at "off2"))
local macro_rules | `(tactic| wtm_at "at3") => `(tactic| first | with_reducible assumption | with_reducible exact upd_same | (with_reducible refine at_new (by assumption) ?_; wtm_at "at2") | (with_reducible refine at_same (by with_reducible assumption) ?_; wtm_at "at2") | (with_reducible apply Off.at; wtm_at "off3"))
local macro_rules | `(tactic| wtm_at "off4") => `(tactic| first | with_reducible assumption | (with_reducible apply Off.mk; wtm_at "pen"; assumption) | (with_reducible refine Off.new (by assumption) _ _ ?_; wtm_at "off3") | (with_reducible refine at_same (by with_reducible assumption) ?_; wtm_at "off3"))
local macro_rules | `(tactic| wtm_at "at4") => `(tactic| first | with_reducible assumption | with_reducible exact upd_same | (with_reducible refine at_new (by assumption) ?_; wtm_at "at3") | (with_reducible refine at_same (by with_reducible assumption) ?_; wtm_at "at3") | (with_reducible apply Off.at; wtm_at "off4"))
local macro_rules | `(tactic| wtm_at "off5") => `(tactic| first | with_reducible assumption | (with_reducible apply Off.mk; wtm_at "pen"; assumption) | (with_reducible refine Off.new (by assumption) _ _ ?_; wtm_at "off4") | (with_reducible refine at_same (by with_reducible assumption) ?_; wtm_at "off4"))
local macro_rules | `(tactic| wtm_at "at5") => `(tactic| first | with_reducible assumption | with_reducible exact upd_same | (with_reducible refine at_new (by assumption) ?_; wtm_at "at4") | (with_reducible refine at_same (by with_reducible assumption) ?_; wtm_at "at4") | (with_reducible apply Off.at; wtm_at "off5"))
local macro_rules | `(tactic| wtm_at "off6") => `(tactic| first | with_reducible assumption | (with_reducible apply Off.mk; wtm_at "pen"; assumption) | (with_reducible refine Off.new (by assumption) _ _ ?_; wtm_at "off5") | (with_reducible refine at_same (by with_reducible assumption) ?_; wtm_at "off5"))
local macro_rules | `(tactic| wtm_at "at6") => `(tactic| first | with_reducible assumption | with_reducible exact upd_same | (with_reducible refine at_new (by assumption) ?_; wtm_at "at5") | (with_reducible refine at_same (by with_reducible assumption) ?_; wtm_at "at5") | (with_reducible apply Off.at; wtm_at "off6"))
local macro_rules | `(tactic| wtm_at "off7") => `(tactic| first | with_reducible assumption | (with_reducible apply Off.mk; wtm_at "pen"; assumption) | (with_reducible refine Off.new (by assumption) _ _ ?_; wtm_at "off6") | (with_reducible refine at_same (by with_reducible assumption) ?_; wtm_at "off6"))
local macro_rules | `(tactic| wtm_at "at7") => `(tactic| first | with_reducible assumption | with_reducible exact upd_same | (with_reducible refine at_new (by assumption) ?_; wtm_at "at6") | (with_reducible refine at_same (by with_reducible assumption) ?_; wtm_at "at6") | (with_reducible apply Off.at; wtm_at "off7"))
local macro_rules | `(tactic| wtm_at "off8") => `(tactic| first | with_reducible assumption | (with_reducible apply Off.mk; wtm_at "pen"; assumption) | (with_reducible refine Off.new (by assumption) _ _ ?_; wtm_at "off7") | (with_reducible refine at_same (by with_reducible assumption) ?_; wtm_at "off7"))
local macro_rules | `(tactic| wtm_at "at8") => `(tactic| first | with_reducible assumption | with_reducible exact upd_same | (with_reducible refine at_new (by assumption) ?_; wtm_at "at7") | (with_reducible refine at_same (by with_reducible assumption) ?_; wtm_at "at7") | (with_reducible apply Off.at; wtm_at "off8"))
local macro_rules | `(tactic| wtm_at "off9") => `(tactic| first | with_reducible assumption | (with_reducible apply Off.mk; wtm_at "pen"; assumption) | (with_reducible refine Off.new (by assumption) _ _ ?_; wtm_at "off8") | (with_reducible refine at_same (by with_reducible assumption) ?_; wtm_at "off8"))
local macro_rules | `(tactic| wtm_at "at9") => `(tactic| first | with_reducible assumption | with_reducible exact upd_same | (with_reducible refine at_new (by assumption) ?_; wtm_at "at8") | (with_reducible refine at_same (by with_reducible assumption) ?_; wtm_at "at8") | (with_reducible apply Off.at; wtm_at "off9"))
local macro_rules | `(tactic| wtm_at "off10") => `(tactic| first | with_reducible assumption | (with_reducible apply Off.mk; wtm_at "pen"; assumption) | (with_reducible refine Off.new (by assumption) _ _ ?_; wtm_at "off9") | (with_reducible refine at_same (by with_reducible assumption) ?_; wtm_at "off9"))
local macro_rules | `(tactic| wtm_at "at10") => `(tactic| first | with_reducible assumption | with_reducible exact upd_same | (with_reducible refine at_new (by assumption) ?_; wtm_at "at9") | (with_reducible refine at_same (by with_reducible assumption) ?_; wtm_at "at9") | (with_reducible apply Off.at; wtm_at "off10"))
local macro_rules | `(tactic| wtm_at "off11") => `(tactic| first | with_reducible assumption | (with_reducible apply Off.mk; wtm_at "pen"; assumption) | (with_reducible refine Off.new (by assumption) _ _ ?_; wtm_at "off10") | (with_reducible refine at_same (by with_reducible assumption) ?_; wtm_at "off10"))
local macro_rules | `(tactic| wtm_at "at11") => `(tactic| first | with_reducible assumption | with_reducible exact upd_same | (with_reducible refine at_new (by assumption) ?_; wtm_at "at10") | (with_reducible refine at_same (by with_reducible assumption) ?_; wtm_at "at10") | (with_reducible apply Off.at; wtm_at "off11"))
local macro_rules | `(tactic| wtm_at "off12") => `(tactic| first | with_reducible assumption | (with_reducible apply Off.mk; wtm_at "pen"; assumption) | (with_reducible refine Off.new (by assumption) _ _ ?_; wtm_at "off11") | (with_reducible refine at_same (by with_reducible assumption) ?_; wtm_at "off11"))
local macro_rules | `(tactic| wtm_at "at12") => `(tactic| first | with_reducible assumption | with_reducible exact upd_same | (with_reducible refine at_new (by assumption) ?_; wtm_at "at11") | (with_reducible refine at_same (by with_reducible assumption) ?_; wtm_at "at11") | (with_reducible apply Off.at; wtm_at "off12"))
local macro_rules | `(tactic| wtm_at "off13") => `(tactic| first | with_reducible assumption | (with_reducible apply Off.mk; wtm_at "pen"; assumption) | (with_reducible refine Off.new (by assumption) _ _ ?_; wtm_at "off12") | (with_reducible refine at_same (by with_reducible assumption) ?_; wtm_at "off12"))
local macro_rules | `(tactic| wtm_at "at13") => `(tactic| first | with_reducible assumption | with_reducible exact upd_same | (with_reducible refine at_new (by assumption) ?_; wtm_at "at12") | (with_reducible refine at_same (by with_reducible assumption) ?_; wtm_at "at12") | (with_reducible apply Off.at; wtm_at "off13"))
local macro_rules | `(tactic| wtm_at "off14") => `(tactic| first | with_reducible assumption | (with_reducible apply Off.mk; wtm_at "pen"; assumption) | (with_reducible refine Off.new (by assumption) _ _ ?_; wtm_at "off13") | (with_reducible refine at_same (by with_reducible assumption) ?_; wtm_at "off13"))
local macro_rules | `(tactic| wtm_at "at14") => `(tactic| first | with_reducible assumption | with_reducible exact upd_same | (with_reducible refine at_new (by assumption) ?_; wtm_at "at13") | (with_reducible refine at_same (by with_reducible assumption) ?_; wtm_at "at13") | (with_reducible apply Off.at; wtm_at "off14"))
local macro_rules | `(tactic| wtm_at "off15") => `(tactic| first | with_reducible assumption | (with_reducible apply Off.mk; wtm_at "pen"; assumption) | (with_reducible refine Off.new (by assumption) _ _ ?_; wtm_at "off14") | (with_reducible refine at_same (by with_reducible assumption) ?_; wtm_at "off14"))
local macro_rules | `(tactic| wtm_at "at15") => `(tactic| first | with_reducible assumption | with_reducible exact upd_same | (with_reducible refine at_new (by assumption) ?_; wtm_at "at14") | (with_reducible refine at_same (by with_reducible assumption) ?_; wtm_at "at14") | (with_reducible apply Off.at; wtm_at "off15"))
local macro_rules | `(tactic| wtm_at "off16") => `(tactic| first | with_reducible assumption | (with_reducible apply Off.mk; wtm_at "pen"; assumption) | (with_reducible refine Off.new (by assumption) _ _ ?_; wtm_at "off15") | (with_reducible refine at_same (by with_reducible assumption) ?_; wtm_at "off15"))
local macro_rules | `(tactic| wtm_at "at16") => `(tactic| first | with_reducible assumption | with_reducible exact upd_same | (with_reducible refine at_new (by assumption) ?_; wtm_at "at15") | (with_reducible refine at_same (by with_reducible assumption) ?_; wtm_at "at15") | (with_reducible apply Off.at; wtm_at "off16"))
local macro_rules | `(tactic| wtm_at "off17") => `(tactic| first | with_reducible assumption | (with_reducible apply Off.mk; wtm_at "pen"; assumption) | (with_reducible refine Off.new (by assumption) _ _ ?_; wtm_at "off16") | (with_reducible refine at_same (by with_reducible assumption) ?_; wtm_at "off16"))
local macro_rules | `(tactic| wtm_at "at17") => `(tactic| first | with_reducible assumption | with_reducible exact upd_same | (with_reducible refine at_new (by assumption) ?_; wtm_at "at16") | (with_reducible refine at_same (by with_reducible assumption) ?_; wtm_at "at16") | (with_reducible apply Off.at; wtm_at "off17"))
local macro_rules | `(tactic| wtm_at "off18") => `(tactic| first | with_reducible assumption | (with_reducible apply Off.mk; wtm_at "pen"; assumption) | (with_reducible refine Off.new (by assumption) _ _ ?_; wtm_at "off17") | (with_reducible refine at_same (by with_reducible assumption) ?_; wtm_at "off17"))
local macro_rules | `(tactic| wtm_at "at18") => `(tactic| first | with_reducible assumption | with_reducible exact upd_same | (with_reducible refine at_new (by assumption) ?_; wtm_at "at17") | (with_reducible refine at_same (by with_reducible assumption) ?_; wtm_at "at17") | (with_reducible apply Off.at; wtm_at "off18"))
local macro_rules | `(tactic| wtm_at "off19") => `(tactic| first | with_reducible assumption | (with_reducible apply Off.mk; wtm_at "pen"; assumption) | (with_reducible refine Off.new (by assumption) _ _ ?_; wtm_at "off18") | (with_reducible refine at_same (by with_reducible assumption) ?_; wtm_at "off18"))
local macro_rules | `(tactic| wtm_at "at19") => `(tactic| first | with_reducible assumption | with_reducible exact upd_same | (with_reducible refine at_new (by assumption) ?_; wtm_at "at18") | (with_reducible refine at_same (by with_reducible assumption) ?_; wtm_at "at18") | (with_reducible apply Off.at; wtm_at "off19"))
local macro_rules | `(tactic| wtm_at "off20") => `(tactic| first | with_reducible assumption | (with_reducible apply Off.mk; wtm_at "pen"; assumption) | (with_reducible refine Off.new (by assumption) _ _ ?_; wtm_at "off19") | (with_reducible refine at_same (by with_reducible assumption) ?_; wtm_at "off19"))
local macro_rules | `(tactic| wtm_at "at20") => `(tactic| first | with_reducible assumption | with_reducible exact upd_same | (with_reducible refine at_new (by assumption) ?_; wtm_at "at19") | (with_reducible refine at_same (by with_reducible assumption) ?_; wtm_at "at19") | (with_reducible apply Off.at; wtm_at "off20"))
local macro_rules | `(tactic| wtm_at "off21") => `(tactic| first | with_reducible assumption | (with_reducible apply Off.mk; wtm_at "pen"; assumption) | (with_reducible refine Off.new (by assumption) _ _ ?_; wtm_at "off20") | (with_reducible refine at_same (by with_reducible assumption) ?_; wtm_at "off20"))
local macro_rules | `(tactic| wtm_at "at21") => `(tactic| first | with_reducible assumption | with_reducible exact upd_same | (with_reducible refine at_new (by assumption) ?_; wtm_at "at20") | (with_reducible refine at_same (by with_reducible assumption) ?_; wtm_at "at20") | (with_reducible apply Off.at; wtm_at "off21"))
local macro_rules | `(tactic| wtm_at "off22") => `(tactic| first | with_reducible assumption | (with_reducible apply Off.mk; wtm_at "pen"; assumption) | (with_reducible refine Off.new (by assumption) _ _ ?_; wtm_at "off21") | (with_reducible refine at_same (by with_reducible assumption) ?_; wtm_at "off21"))
local macro_rules | `(tactic| wtm_at "at22") => `(tactic| first | with_reducible assumption | with_reducible exact upd_same | (with_reducible refine at_new (by assumption) ?_; wtm_at "at21") | (with_reducible refine at_same (by with_reducible assumption) ?_; wtm_at "at21") | (with_reducible apply Off.at; wtm_at "off22"))
local macro_rules | `(tactic| wtm_at "off23") => `(tactic| first | with_reducible assumption | (with_reducible apply Off.mk; wtm_at "pen"; assumption) | (with_reducible refine Off.new (by assumption) _ _ ?_; wtm_at "off22") | (with_reducible refine at_same (by with_reducible assumption) ?_; wtm_at "off22"))
local macro_rules | `(tactic| wtm_at "at23") => `(tactic| first | with_reducible assumption | with_reducible exact upd_same | (with_reducible refine at_new (by assumption) ?_; wtm_at "at22") | (with_reducible refine at_same (by with_reducible assumption) ?_; wtm_at "at22") | (with_reducible apply Off.at; wtm_at "off23"))
local macro_rules | `(tactic| wtm_at "off24") => `(tactic| first | with_reducible assumption | (with_reducible apply Off.mk; wtm_at "pen"; assumption) | (with_reducible refine Off.new (by assumption) _ _ ?_; wtm_at "off23") | (with_reducible refine at_same (by with_reducible assumption) ?_; wtm_at "off23"))
local macro_rules | `(tactic| wtm_at "at24") => `(tactic| first | with_reducible assumption | with_reducible exact upd_same | (with_reducible refine at_new (by assumption) ?_; wtm_at "at23") | (with_reducible refine at_same (by with_reducible assumption) ?_; wtm_at "at23") | (with_reducible apply Off.at; wtm_at "off24"))
local macro_rules | `(tactic| wtm_at "off25") => `(tactic| first | with_reducible assumption | (with_reducible apply Off.mk; wtm_at "pen"; assumption) | (with_reducible refine Off.new (by assumption) _ _ ?_; wtm_at "off24") | (with_reducible refine at_same (by with_reducible assumption) ?_; wtm_at "off24"))
local macro_rules | `(tactic| wtm_at "at25") => `(tactic| first | with_reducible assumption | with_reducible exact upd_same | (with_reducible refine at_new (by assumption) ?_; wtm_at "at24") | (with_reducible refine at_same (by with_reducible assumption) ?_; wtm_at "at24") | (with_reducible apply Off.at; wtm_at "off25"))
local macro_rules | `(tactic| wtm_at "off26") => `(tactic| first | with_reducible assumption | (with_reducible apply Off.mk; wtm_at "pen"; assumption) | (with_reducible refine Off.new (by assumption) _ _ ?_; wtm_at "off25") | (with_reducible refine at_same (by with_reducible assumption) ?_; wtm_at "off25"))
local macro_rules | `(tactic| wtm_at "at26") => `(tactic| first | with_reducible assumption | with_reducible exact upd_same | (with_reducible refine at_new (by assumption) ?_; wtm_at "at25") | (with_reducible refine at_same (by with_reducible assumption) ?_; wtm_at "at25") | (with_reducible apply Off.at; wtm_at "off26"))
local macro_rules | `(tactic| wtm_at "off27") => `(tactic| first | with_reducible assumption | (with_reducible apply Off.mk; wtm_at "pen"; assumption) | (with_reducible refine Off.new (by assumption) _ _ ?_; wtm_at "off26") | (with_reducible refine at_same (by with_reducible assumption) ?_; wtm_at "off26"))
local macro_rules | `(tactic| wtm_at "at27") => `(tactic| first | with_reducible assumption | with_reducible exact upd_same | (with_reducible refine at_new (by assumption) ?_; wtm_at "at26") | (with_reducible refine at_same (by with_reducible assumption) ?_; wtm_at "at26") | (with_reducible apply Off.at; wtm_at "off27"))
local macro_rules | `(tactic| wtm_at "off28") => `(tactic| first | with_reducible assumption | (with_reducible apply Off.mk; wtm_at "pen"; assumption) | (with_reducible refine Off.new (by assumption) _ _ ?_; wtm_at "off27") | (with_reducible refine at_same (by with_reducible assumption) ?_; wtm_at "off27"))
local macro_rules | `(tactic| wtm_at "at28") => `(tactic| first | with_reducible assumption | with_reducible exact upd_same | (with_reducible refine at_new (by assumption) ?_; wtm_at "at27") | (with_reducible refine at_same (by with_reducible assumption) ?_; wtm_at "at27") | (with_reducible apply Off.at; wtm_at "off28"))
local macro_rules | `(tactic| wtm_at "off29") => `(tactic| first | with_reducible assumption | (with_reducible apply Off.mk; wtm_at "pen"; assumption) | (with_reducible refine Off.new (by assumption) _ _ ?_; wtm_at "off28") | (with_reducible refine at_same (by with_reducible assumption) ?_; wtm_at "off28"))
local macro_rules | `(tactic| wtm_at "at29") => `(tactic| first | with_reducible assumption | with_reducible exact upd_same | (with_reducible refine at_new (by assumption) ?_; wtm_at "at28") | (with_reducible refine at_same (by with_reducible assumption) ?_; wtm_at "at28") | (with_reducible apply Off.at; wtm_at "off29"))
local macro_rules | `(tactic| wtm_at "off30") => `(tactic| first | with_reducible assumption | (with_reducible apply Off.mk; wtm_at "pen"; assumption) | (with_reducible refine Off.new (by assumption) _ _ ?_; wtm_at "off29") | (with_reducible refine at_same (by with_reducible assumption) ?_; wtm_at "off29"))
local macro_rules | `(tactic| wtm_at "at30") => `(tactic| first | with_reducible assumption | with_reducible exact upd_same | (with_reducible refine at_new (by assumption) ?_; wtm_at "at29") | (with_reducible refine at_same (by with_reducible assumption) ?_; wtm_at "at29") | (with_reducible apply Off.at; wtm_at "off30"))
local macro_rules | `(tactic| wtm_at "off31") => `(tactic| first | with_reducible assumption | (with_reducible apply Off.mk; wtm_at "pen"; assumption) | (with_reducible refine Off.new (by assumption) _ _ ?_; wtm_at "off30") | (with_reducible refine at_same (by with_reducible assumption) ?_; wtm_at "off30"))
local macro_rules | `(tactic| wtm_at "at31") => `(tactic| first | with_reducible assumption | with_reducible exact upd_same | (with_reducible refine at_new (by assumption) ?_; wtm_at "at30") | (with_reducible refine at_same (by with_reducible assumption) ?_; wtm_at "at30") | (with_reducible apply Off.at; wtm_at "off31"))
local macro_rules | `(tactic| wtm_at "off32") => `(tactic| first | with_reducible assumption | (with_reducible apply Off.mk; wtm_at "pen"; assumption) | (with_reducible refine Off.new (by assumption) _ _ ?_; wtm_at "off31") | (with_reducible refine at_same (by with_reducible assumption) ?_; wtm_at "off31"))
local macro_rules | `(tactic| wtm_at "at32") => `(tactic| first | with_reducible assumption | with_reducible exact upd_same | (with_reducible refine at_new (by assumption) ?_; wtm_at "at31") | (with_reducible refine at_same (by with_reducible assumption) ?_; wtm_at "at31") | (with_reducible apply Off.at; wtm_at "off32"))
local macro_rules | `(tactic| wtm_at "off33") => `(tactic| first | with_reducible assumption | (with_reducible apply Off.mk; wtm_at "pen"; assumption) | (with_reducible refine Off.new (by assumption) _ _ ?_; wtm_at "off32") | (with_reducible refine at_same (by with_reducible assumption) ?_; wtm_at "off32"))
local macro_rules | `(tactic| wtm_at "at33") => `(tactic| first | with_reducible assumption | with_reducible exact upd_same | (with_reducible refine at_new (by assumption) ?_; wtm_at "at32") | (with_reducible refine at_same (by with_reducible assumption) ?_; wtm_at "at32") | (with_reducible apply Off.at; wtm_at "off33"))
local macro_rules | `(tactic| wtm_at "off34") => `(tactic| first | with_reducible assumption | (with_reducible apply Off.mk; wtm_at "pen"; assumption) | (with_reducible refine Off.new (by assumption) _ _ ?_; wtm_at "off33") | (with_reducible refine at_same (by with_reducible assumption) ?_; wtm_at "off33"))
local macro_rules | `(tactic| wtm_at "at34") => `(tactic| first | with_reducible assumption | with_reducible exact upd_same | (with_reducible refine at_new (by assumption) ?_; wtm_at "at33") | (with_reducible refine at_same (by with_reducible assumption) ?_; wtm_at "at33") | (with_reducible apply Off.at; wtm_at "off34"))
local macro_rules | `(tactic| wtm_at "off35") => `(tactic| first | with_reducible assumption | (with_reducible apply Off.mk; wtm_at "pen"; assumption) | (with_reducible refine Off.new (by assumption) _ _ ?_; wtm_at "off34") | (with_reducible refine at_same (by with_reducible assumption) ?_; wtm_at "off34"))
local macro_rules | `(tactic| wtm_at "at35") => `(tactic| first | with_reducible assumption | with_reducible exact upd_same | (with_reducible refine at_new (by assumption) ?_; wtm_at "at34") | (with_reducible refine at_same (by with_reducible assumption) ?_; wtm_at "at34") | (with_reducible apply Off.at; wtm_at "off35"))
local macro_rules | `(tactic| wtm_at "off36") => `(tactic| first | with_reducible assumption | (with_reducible apply Off.mk; wtm_at "pen"; assumption) | (with_reducible refine Off.new (by assumption) _ _ ?_; wtm_at "off35") | (with_reducible refine at_same (by with_reducible assumption) ?_; wtm_at "off35"))
local macro_rules | `(tactic| wtm_at "at36") => `(tactic| first | with_reducible assumption | with_reducible exact upd_same | (with_reducible refine at_new (by assumption) ?_; wtm_at "at35") | (with_reducible refine at_same (by with_reducible assumption) ?_; wtm_at "at35") | (with_reducible apply Off.at; wtm_at "off36"))
local macro_rules | `(tactic| wtm_at "off37") => `(tactic| first | with_reducible assumption | (with_reducible apply Off.mk; wtm_at "pen"; assumption) | (with_reducible refine Off.new (by assumption) _ _ ?_; wtm_at "off36") | (with_reducible refine at_same (by with_reducible assumption) ?_; wtm_at "off36"))
local macro_rules | `(tactic| wtm_at "at37") => `(tactic| first | with_reducible assumption | with_reducible exact upd_same | (with_reducible refine at_new (by assumption) ?_; wtm_at "at36") | (with_reducible refine at_same (by with_reducible assumption) ?_; wtm_at "at36") | (with_reducible apply Off.at; wtm_at "off37"))
local macro_rules | `(tactic| wtm_at "off38") => `(tactic| first | with_reducible assumption | (with_reducible apply Off.mk; wtm_at "pen"; assumption) | (with_reducible refine Off.new (by assumption) _ _ ?_; wtm_at "off37") | (with_reducible refine at_same (by with_reducible assumption) ?_; wtm_at "off37"))
local macro_rules | `(tactic| wtm_at "at38") => `(tactic| first | with_reducible assumption | with_reducible exact upd_same | (with_reducible refine at_new (by assumption) ?_; wtm_at "at37") | (with_reducible refine at_same (by with_reducible assumption) ?_; wtm_at "at37") | (with_reducible apply Off.at; wtm_at "off38"))
local macro_rules | `(tactic| wtm_at "off39") => `(tactic| first | with_reducible assumption | (with_reducible apply Off.mk; wtm_at "pen"; assumption) | (with_reducible refine Off.new (by assumption) _ _ ?_; wtm_at "off38") | (with_reducible refine at_same (by with_reducible assumption) ?_; wtm_at "off38"))
local macro_rules | `(tactic| wtm_at "at39") => `(tactic| first | with_reducible assumption | with_reducible exact upd_same | (with_reducible refine at_new (by assumption) ?_; wtm_at "at38") | (with_reducible refine at_same (by with_reducible assumption) ?_; wtm_at "at38") | (with_reducible apply Off.at; wtm_at "off39"))
local macro_rules | `(tactic| wtm_at "at") => `(tactic| wtm_at "at39")
local macro_rules | `(tactic| wtm_at "off") => `(tactic| wtm_at "off39")
local macro_rules | `(tactic| wtm_at "pen") => `(tactic| first
  | assumption | (refine Pen.new (by assumption) ?_; wtm_at "pen") | (refine Pen.same (by assumption) ?_; wtm_at "pen"))
local macro_rules | `(tactic| wtm_at "same") => `(tactic| first
  | exact fun _ _ h => h | assumption | exact same_new (by assumption) | (refine same_trans ?_ (same_new (by assumption)); wtm_at "same") | (refine same_trans ?_ (by assumption); wtm_at "same")
  | (refine same_trans ?_ (Off.new (by assumption)); wtm_at "same") | (refine same_trans ?_ (Off.same (by assumption)); wtm_at "same"))
local macro_rules | `(tactic| wtm_at "dps") => `(tactic| first
  | exact .nil | (apply DpAll.cons; wtm_at "dp"; wtm_at "dps") | exact dpAll_ints _)
local macro_rules | `(tactic| wtm_at "dp") => `(tactic| first
  | exact .non | exact .bl _ | exact .int _ | exact .str _ | (fail) | (apply Dp.lst; (apply SqL.of; wtm_at "at"); wtm_at "dps") | (apply Dp.tup; (apply SqT.of; wtm_at "at"); wtm_at "dps"))
local macro_rules | `(tactic| wtm_at "side") => `(tactic| first
  | exact ⟨by decide, by decide⟩ | exact ⟨by decide, by decide, by decide⟩ | exact .inl ⟨by decide, by decide⟩ | exact .inr ⟨by decide, by decide⟩ | (show ¬ _ = _; decide))
local macro_rules | `(tactic| wtm_at "sml") => `(tactic| first
  | exact sml_none (by decide) | exact sml_bool (by decide) | exact sml_int (by decide) (by omega) | (fail) | exact sml_list (n := 19) (k := 0) (by wtm_at "smls") (by decide) (by decide))
local macro_rules | `(tactic| wtm_at "smls") => `(tactic| first | exact smlAll_nil (m := 0) | (apply smlAll_cons; wtm_at "sml"; wtm_at "smls"))
local macro_rules | `(tactic| wtm_at "shw") => `(tactic| exact Sml.shw (n := 10000) (k := 50) (by wtm_at "sml") (by decide) (by decide))
local macro_rules | `(tactic| wtm_at "rd") => `(tactic| first
  | refine ⟨_, rfl, ?_⟩ | refine ⟨_, _, rfl, rfl, ?_⟩ | refine ifT rfl ?_ | refine ifF rfl ?_ | refine ⟨rfl, ?_⟩
  | refine ⟨_, _, by rfl, by wtm_at "dp", by wtm_at "shw", ?_⟩
  | refine ⟨_, _, _, _, _, rfl, by wtm_at "at", by wtm_at "cls", by wtm_at "na", by rfl, ?_⟩
  | refine ⟨_, _, rfl, .inr (SqT.of (by wtm_at "at")), ?_⟩ | refine ⟨_, _, rfl, .inl (SqL.of (by wtm_at "at")), ?_⟩
  | refine ⟨_, _, rfl, .inr (SqT.of (by wtm_at "at")), by rfl, by rfl, ?_⟩ | refine ⟨_, _, rfl, .inl (SqL.of (by wtm_at "at")), by rfl, by rfl, ?_⟩
  | refine ⟨_, _, _, _, rfl, rfl, SqT.of (by wtm_at "at"), by rfl, ?_⟩ | refine ⟨_, _, _, _, rfl, rfl, SqL.of (by wtm_at "at"), by rfl, ?_⟩
  | refine ⟨_, _, rfl, rfl, by wtm_at "side", ?_⟩
  | refine ⟨_, _, by wtm_at "dp", by wtm_at "dp", by first | rfl | decide +kernel, by first | rfl | decide +kernel, ?_⟩
  | refine ⟨_, _, [_, _], [_, _], rfl, rfl, sqI2 (by wtm_at "at"), sqI2 (by wtm_at "at"), ?_⟩
  | refine ⟨_, _, rfl, ?_⟩
  | refine ⟨Nat.le_of_ble_eq_true rfl, fun _ _ => ?_⟩
  | refine ifF (by decide +kernel) ?_ | refine ifF (nd_refl _) ?_ | refine ifT (de_refl _) ?_)
local macro_rules | `(tactic| wtm_at "cls") => `(tactic| first | exact cls_Finding _)
local macro_rules | `(tactic| wtm_at "na") => `(tactic| first | exact na_Finding_word _ | exact na_Finding_fields _)

def isF (C : Addr) : Prop := C = 75 ∨ C = 103 ∨ C = 131 ∨ C = 159
def clsF (k : Int) : Addr := if k = 0 then 75 else if k = 1 then 103 else if k = 2 then 131 else 159
def wordF (k : Int) : Str := if k = 0 then "still" else if k = 1 then "clash" else if k = 2 then "wrong" else "right"
def namesF (k : Int) : List Str := if k = 0 then ["ring"] else if k = 1 then ["one", "other", "run"] else if k = 2 then ["rows", "eager", "whole"] else ["steps", "ways", "eager", "whole"]
def manyF (k : Int) : Nat := if k = 0 then 1 else if k = 1 then 3 else if k = 2 then 3 else 4
def finO (k : Int) (dx t : Addr) (xs : List V) : HO := .ins (clsF k) dx (("word", .str (wordF k)) :: ("fields", .ref t) :: (namesF k).zip xs)
theorem clsF_is (k : Int) : isF (clsF k) := by
  unfold clsF
  by_cases h : k = 0
  · rw [if_pos h]; exact .inl rfl
  · rw [if_neg h]
    by_cases h : k = 1
    · rw [if_pos h]; exact .inr (.inl rfl)
    · rw [if_neg h]
      by_cases h : k = 2
      · rw [if_pos h]; exact .inr (.inr (.inl rfl))
      · rw [if_neg h]; exact .inr (.inr (.inr rfl))
/-- what a finding of a kind is told, and what it is then -/
def spFI : Sp := fun vs H Q _ => ∃ (a C dx : Addr) (x y : V), vs = [.ref a, x, y] ∧ isF C ∧ H a = some (.ins C dx []) ∧ ∀ H', Chg a (.ins C dx [("word", x), ("fields", y)]) H H' → Q .non H'
def spInitF (k : Int) : Sp := fun vs H Q _ => ∃ (a dx : Addr) (xs : List V), vs = .ref a :: xs ∧ xs.length = manyF k ∧ H a = some (.ins (clsF k) dx []) ∧ ∀ H' t, Chg a (finO k dx t xs) H H' → H' t = some (.tup xs) → Q .non H'
def spMkF (k : Int) : Sp := fun vs H Q _ => vs.length = manyF k ∧ ∀ x dx t H', Same H H' → H' x = some (finO k dx t vs) → H' t = some (.tup vs) → Q (.ref x) H'
theorem mkF {k : Int} {vs : List V} {H : Hp} {Q : VK} {E : XK} (h : spMkF k vs H Q E) : spMk (clsF k) (spInitF k) vs H Q E := by
  obtain ⟨hl, q⟩ := h
  intro x dx hx hdx hne
  refine ⟨x, dx, vs, rfl, hl, upd_same, fun H' t c ht => ⟨rfl, q x dx t H' (fun b u hb => ?_) c.at_ ht⟩⟩
  have h1 : b ≠ x := fun e => by rw [e, hx] at hb; cases hb
  have h2 : b ≠ dx := fun e => by rw [e, hdx] at hb; cases hb
  exact c.ne b u h1 (by rw [upd_ne h1, upd_ne h2]; exact hb)
/-- a finding at a, of kind k, with the fields xs, whose data are ds -/
def FinAt (K : PySem.W.Frag) (H : Hp) (a : Addr) (k : Int) (ds : List PyData) : Prop := ∃ dx t xs, H a = some (finO k dx t xs) ∧ H t = some (.tup xs) ∧ xs.length = manyF k ∧ DqAll K H xs ds ∧ okQAll ds = true ∧ PyData.depthAll ds ≤ 50
theorem word_eq (k k' : Int) (h0 : 0 ≤ k) (h4 : k < 4) (h0' : 0 ≤ k') (h4' : k' < 4) : decide (V.str (wordF k) = V.str (wordF k')) = decide (k = k') := by
  obtain rfl | rfl | rfl | rfl : k = 0 ∨ k = 1 ∨ k = 2 ∨ k = 3 := by omega
  all_goals (obtain rfl | rfl | rfl | rfl : k' = 0 ∨ k' = 1 ∨ k' = 2 ∨ k' = 3 := by omega) <;> decide +kernel
def eqF (k : Int) (ds : List PyData) (k' : Int) (es : List PyData) : Bool := decide (k = k') && eqQAll ds es
/-- some value that is no finding -/
def noF (K : PySem.W.Frag) (H : Hp) (y : V) : Prop := ∃ d, Dq K H y d
def spEqF (K : PySem.W.Frag) : Sp := fun vs H Q _ => ∃ (a : Addr) (y : V) (k : Int) (ds : List PyData), vs = [.ref a, y] ∧ 0 ≤ k ∧ k < 4 ∧ FinAt K H a k ds ∧
  ((∃ b k' es, y = .ref b ∧ 0 ≤ k' ∧ k' < 4 ∧ FinAt K H b k' es ∧ Q (.bl (eqF k ds k' es)) H) ∨ (noF K H y ∧ Q (.bl false) H))
def spB1 (b : Bool) : Sp := fun vs H Q _ => ∃ a : Addr, vs = [.ref a] ∧ Q (.bl b) H
def spBoolF (C : Addr) : Sp := spB1 (decide (C = 159))
section
variable {mg : PySem.Str → Option Value} {base : Heap} {w : World}
theorem clsf (w : World) (C : Addr) (h : isF C) : Cls (hd65.heap_39 w.params) C := by
  rcases h with rfl | rfl | rfl | rfl
  · exact cls_Still w
  · exact cls_Clash w
  · exact cls_Wrong w
  · exact cls_Right w
theorem naf_word (w : World) (C : Addr) (h : isF C) : NoAttr (hd65.heap_39 w.params) C "word" := by
  rcases h with rfl | rfl | rfl | rfl
  · exact na_Still_word w
  · exact na_Clash_word w
  · exact na_Wrong_word w
  · exact na_Right_word w
theorem naf_fields (w : World) (C : Addr) (h : isF C) : NoAttr (hd65.heap_39 w.params) C "fields" := by
  rcases h with rfl | rfl | rfl | rfl
  · exact na_Still_fields w
  · exact na_Clash_fields w
  · exact na_Wrong_fields w
  · exact na_Right_fields w
theorem tyc_fin (w : World) (C : Addr) (h : isF C) : TyC (hd65.heap_39 w.params) C := by
  rcases h with rfl | rfl | rfl | rfl
  · exact tyc_Still w
  · exact tyc_Clash w
  · exact tyc_Wrong w
  · exact tyc_Right w
theorem kt_fin' (w : World) (C : Addr) (h : isF C) : PySem.W.kitOne (hd65.heap_39 w.params) (.ref C) (.ref 45) = some true := by
  have z := List.all_eq_true.mp (kt_fin w) C (by rcases h with rfl | rfl | rfl | rfl <;> simp)
  exact beq_iff_eq.mp z
theorem kt_ty' (w : World) (d : PyData) : PySem.W.kitOne (hd65.heap_39 w.params) (.type (tyD d)) (.ref 45) = some false := by
  have z := List.all_eq_true.mp (kt_ty w) (tyD d) (by cases d <;> simp [tyD])
  exact beq_iff_eq.mp z
theorem ok_Finding___init__ (M : Mod (hd65.heap_39 w.params) mg base) : CallG PP w (hd65.heap_39 w.params) mg base 1 (.ref 28) (pos spFI) := by
  obtain ⟨fd, F⟩ := fn_Finding___init__ w
  refine def_pos F sc_Finding___init__ (fun vs H Q E h => ?_) (fun _ _ _ _ _ _ us hl => match us, hl with | [_, _, _], _ => rfl) (fun cdv A outer s H vs Q E hr hg h => ?_)
  · obtain ⟨a, C, dx, x, y, rfl, _⟩ := h; rfl
  have nd := sc_Finding___init__.nd
  obtain ⟨a, C, dx, x, y, rfl, hC, ha, q⟩ := h
  refine ⟨_, (pss_cons (ps_fld (pv 0) (pv 1) rfl)
      (pss_one (ps_fld (pv 0) (pv 2) rfl))), ?_⟩
  refine ⟨_, rfl, _, rfl, a, C, dx, _, rfl, ha, clsf w C hC, naf_word w C hC, Nat.le_of_ble_eq_true rfl, ?_⟩
  refine ⟨_, rfl, _, rfl, a, C, dx, _, rfl, upd_same, clsf w C hC, naf_fields w C hC, Nat.le_of_ble_eq_true rfl, ?_⟩
  exact q _ (Chg.upd.trans Chg.upd)
theorem ok_Still___init__ (M : Mod (hd65.heap_39 w.params) mg base) : CallG PP w (hd65.heap_39 w.params) mg base 3 (.ref 65) (pos (spInitF 0)) := by
  refine def_S (fn_Still___init__ w) sc_Still___init__ (fun vs H Q E h => ?_) (fun _ _ _ _ _ us hl => match us, hl with | [_, _], _ => rfl) (fun A outer s H vs Q E hr hg h => ?_)
  · obtain ⟨a, dx, xs, rfl, hl, _⟩ := h; show xs.length + 1 = _; rw [hl] <;> rfl
  have nd := sc_Still___init__.nd
  obtain ⟨a, dx, xs, rfl, hl, ha, q⟩ := h
  obtain ⟨x0, rfl⟩ : ∃ x0, xs = [x0] := by
    match xs, hl with
    | [x0], _ => exact ⟨x0, rfl⟩
  refine ⟨_, (psst_expr (pet_super (takes_of rfl rfl rfl rfl) (fn_Still___init__ w) sc_Still___init__ (sup_Still___init__ w) (ok_Finding___init__ M) (hr.mono (by decide)) hg rfl rfl rfl rfl rfl (by decide) (pa_cons pe_str (pa_cons (pe_tup (pa_cons (pv 1) pa_nil)) pa_nil))) (psst_of (pss_one (ps_fld (pv 0) (pv 1) rfl)))), ?_⟩
  have ha : H a = some (.ins 75 dx []) := ha
  refine ⟨a, 75, dx, [], rfl, ha, supc_Still w, _, rfl, Nat.le_of_ble_eq_true rfl, fun t ht => ?_⟩
  refine ⟨rfl, a, 75, dx, _, _, rfl, clsF_is 0, at_new ht ha, fun H1 c1 => ?_⟩
  have h1 := c1.at_
  have ta : t ≠ a := fun e => by rw [e, ha] at ht; cases ht
  refine ⟨_, rfl, _, rfl, a, 75, dx, _, rfl, h1, cls_Still w, na_Still_ring w, Nat.le_of_ble_eq_true rfl, ?_⟩
  exact q _ t (Chg.same (same_new ht) (c1.trans Chg.upd)) ((c1.trans Chg.upd).ne t _ ta upd_same)
theorem ok_Clash___init__ (M : Mod (hd65.heap_39 w.params) mg base) : CallG PP w (hd65.heap_39 w.params) mg base 3 (.ref 93) (pos (spInitF 1)) := by
  refine def_S (fn_Clash___init__ w) sc_Clash___init__ (fun vs H Q E h => ?_) (fun _ _ _ _ _ us hl => match us, hl with | [_, _, _, _], _ => rfl) (fun A outer s H vs Q E hr hg h => ?_)
  · obtain ⟨a, dx, xs, rfl, hl, _⟩ := h; show xs.length + 1 = _; rw [hl] <;> rfl
  have nd := sc_Clash___init__.nd
  obtain ⟨a, dx, xs, rfl, hl, ha, q⟩ := h
  obtain ⟨x0, x1, x2, rfl⟩ : ∃ x0 x1 x2, xs = [x0, x1, x2] := by
    match xs, hl with
    | [x0, x1, x2], _ => exact ⟨x0, x1, x2, rfl⟩
  refine ⟨_, (psst_expr (pet_super (takes_of rfl rfl rfl rfl) (fn_Clash___init__ w) sc_Clash___init__ (sup_Clash___init__ w) (ok_Finding___init__ M) (hr.mono (by decide)) hg rfl rfl rfl rfl rfl (by decide) (pa_cons pe_str (pa_cons (pe_tup (pa_cons (pv 1) (pa_cons (pv 2) (pa_cons (pv 3) pa_nil)))) pa_nil))) (psst_of (pss_cons (ps_fld (pv 0) (pv 1) rfl)
      (pss_cons (ps_fld (pv 0) (pv 2) rfl)
      (pss_one (ps_fld (pv 0) (pv 3) rfl)))))), ?_⟩
  have ha : H a = some (.ins 103 dx []) := ha
  refine ⟨a, 103, dx, [], rfl, ha, supc_Clash w, _, rfl, _, rfl, _, rfl, Nat.le_of_ble_eq_true rfl, fun t ht => ?_⟩
  refine ⟨rfl, a, 103, dx, _, _, rfl, clsF_is 1, at_new ht ha, fun H1 c1 => ?_⟩
  have h1 := c1.at_
  have ta : t ≠ a := fun e => by rw [e, ha] at ht; cases ht
  refine ⟨_, rfl, _, rfl, a, 103, dx, _, rfl, h1, cls_Clash w, na_Clash_one w, Nat.le_of_ble_eq_true rfl, ?_⟩
  refine ⟨_, rfl, _, rfl, a, 103, dx, _, rfl, upd_same, cls_Clash w, na_Clash_other w, Nat.le_of_ble_eq_true rfl, ?_⟩
  refine ⟨_, rfl, _, rfl, a, 103, dx, _, rfl, upd_same, cls_Clash w, na_Clash_run w, Nat.le_of_ble_eq_true rfl, ?_⟩
  exact q _ t (Chg.same (same_new ht) (c1.trans ((Chg.upd.trans Chg.upd).trans Chg.upd))) ((c1.trans ((Chg.upd.trans Chg.upd).trans Chg.upd)).ne t _ ta upd_same)
theorem ok_Wrong___init__ (M : Mod (hd65.heap_39 w.params) mg base) : CallG PP w (hd65.heap_39 w.params) mg base 3 (.ref 121) (pos (spInitF 2)) := by
  refine def_S (fn_Wrong___init__ w) sc_Wrong___init__ (fun vs H Q E h => ?_) (fun _ _ _ _ _ us hl => match us, hl with | [_, _, _, _], _ => rfl) (fun A outer s H vs Q E hr hg h => ?_)
  · obtain ⟨a, dx, xs, rfl, hl, _⟩ := h; show xs.length + 1 = _; rw [hl] <;> rfl
  have nd := sc_Wrong___init__.nd
  obtain ⟨a, dx, xs, rfl, hl, ha, q⟩ := h
  obtain ⟨x0, x1, x2, rfl⟩ : ∃ x0 x1 x2, xs = [x0, x1, x2] := by
    match xs, hl with
    | [x0, x1, x2], _ => exact ⟨x0, x1, x2, rfl⟩
  refine ⟨_, (psst_expr (pet_super (takes_of rfl rfl rfl rfl) (fn_Wrong___init__ w) sc_Wrong___init__ (sup_Wrong___init__ w) (ok_Finding___init__ M) (hr.mono (by decide)) hg rfl rfl rfl rfl rfl (by decide) (pa_cons pe_str (pa_cons (pe_tup (pa_cons (pv 1) (pa_cons (pv 2) (pa_cons (pv 3) pa_nil)))) pa_nil))) (psst_of (pss_cons (ps_fld (pv 0) (pv 1) rfl)
      (pss_cons (ps_fld (pv 0) (pv 2) rfl)
      (pss_one (ps_fld (pv 0) (pv 3) rfl)))))), ?_⟩
  have ha : H a = some (.ins 131 dx []) := ha
  refine ⟨a, 131, dx, [], rfl, ha, supc_Wrong w, _, rfl, _, rfl, _, rfl, Nat.le_of_ble_eq_true rfl, fun t ht => ?_⟩
  refine ⟨rfl, a, 131, dx, _, _, rfl, clsF_is 2, at_new ht ha, fun H1 c1 => ?_⟩
  have h1 := c1.at_
  have ta : t ≠ a := fun e => by rw [e, ha] at ht; cases ht
  refine ⟨_, rfl, _, rfl, a, 131, dx, _, rfl, h1, cls_Wrong w, na_Wrong_rows w, Nat.le_of_ble_eq_true rfl, ?_⟩
  refine ⟨_, rfl, _, rfl, a, 131, dx, _, rfl, upd_same, cls_Wrong w, na_Wrong_eager w, Nat.le_of_ble_eq_true rfl, ?_⟩
  refine ⟨_, rfl, _, rfl, a, 131, dx, _, rfl, upd_same, cls_Wrong w, na_Wrong_whole w, Nat.le_of_ble_eq_true rfl, ?_⟩
  exact q _ t (Chg.same (same_new ht) (c1.trans ((Chg.upd.trans Chg.upd).trans Chg.upd))) ((c1.trans ((Chg.upd.trans Chg.upd).trans Chg.upd)).ne t _ ta upd_same)
theorem ok_Right___init__ (M : Mod (hd65.heap_39 w.params) mg base) : CallG PP w (hd65.heap_39 w.params) mg base 3 (.ref 149) (pos (spInitF 3)) := by
  refine def_S (fn_Right___init__ w) sc_Right___init__ (fun vs H Q E h => ?_) (fun _ _ _ _ _ us hl => match us, hl with | [_, _, _, _, _], _ => rfl) (fun A outer s H vs Q E hr hg h => ?_)
  · obtain ⟨a, dx, xs, rfl, hl, _⟩ := h; show xs.length + 1 = _; rw [hl] <;> rfl
  have nd := sc_Right___init__.nd
  obtain ⟨a, dx, xs, rfl, hl, ha, q⟩ := h
  obtain ⟨x0, x1, x2, x3, rfl⟩ : ∃ x0 x1 x2 x3, xs = [x0, x1, x2, x3] := by
    match xs, hl with
    | [x0, x1, x2, x3], _ => exact ⟨x0, x1, x2, x3, rfl⟩
  refine ⟨_, (psst_expr (pet_super (takes_of rfl rfl rfl rfl) (fn_Right___init__ w) sc_Right___init__ (sup_Right___init__ w) (ok_Finding___init__ M) (hr.mono (by decide)) hg rfl rfl rfl rfl rfl (by decide) (pa_cons pe_str (pa_cons (pe_tup (pa_cons (pv 1) (pa_cons (pv 2) (pa_cons (pv 3) (pa_cons (pv 4) pa_nil))))) pa_nil))) (psst_of (pss_cons (ps_fld (pv 0) (pv 1) rfl)
      (pss_cons (ps_fld (pv 0) (pv 2) rfl)
      (pss_cons (ps_fld (pv 0) (pv 3) rfl)
      (pss_one (ps_fld (pv 0) (pv 4) rfl))))))), ?_⟩
  have ha : H a = some (.ins 159 dx []) := ha
  refine ⟨a, 159, dx, [], rfl, ha, supc_Right w, _, rfl, _, rfl, _, rfl, _, rfl, Nat.le_of_ble_eq_true rfl, fun t ht => ?_⟩
  refine ⟨rfl, a, 159, dx, _, _, rfl, clsF_is 3, at_new ht ha, fun H1 c1 => ?_⟩
  have h1 := c1.at_
  have ta : t ≠ a := fun e => by rw [e, ha] at ht; cases ht
  refine ⟨_, rfl, _, rfl, a, 159, dx, _, rfl, h1, cls_Right w, na_Right_steps w, Nat.le_of_ble_eq_true rfl, ?_⟩
  refine ⟨_, rfl, _, rfl, a, 159, dx, _, rfl, upd_same, cls_Right w, na_Right_ways w, Nat.le_of_ble_eq_true rfl, ?_⟩
  refine ⟨_, rfl, _, rfl, a, 159, dx, _, rfl, upd_same, cls_Right w, na_Right_eager w, Nat.le_of_ble_eq_true rfl, ?_⟩
  refine ⟨_, rfl, _, rfl, a, 159, dx, _, rfl, upd_same, cls_Right w, na_Right_whole w, Nat.le_of_ble_eq_true rfl, ?_⟩
  exact q _ t (Chg.same (same_new ht) (c1.trans (((Chg.upd.trans Chg.upd).trans Chg.upd).trans Chg.upd))) ((c1.trans (((Chg.upd.trans Chg.upd).trans Chg.upd).trans Chg.upd)).ne t _ ta upd_same)
theorem ok_Finding___eq__ (M : Mod (hd65.heap_39 w.params) mg base) : CallG PP w (hd65.heap_39 w.params) mg base 2 (.ref 42) (pos (spEqF (hd65.heap_39 w.params))) := by
  obtain ⟨fd, F⟩ := fn_Finding___eq__ w
  refine def_pos F sc_Finding___eq__ (fun vs H Q E h => ?_) (fun _ _ _ _ _ _ us hl => match us, hl with | [_, _], _ => rfl) (fun cdv A outer s H vs Q E hr hg h => ?_)
  · obtain ⟨a, y, k, ds, rfl, _⟩ := h; rfl
  have nd := sc_Finding___eq__.nd
  obtain ⟨a, y, k, ds, rfl, hk0, hk4, ⟨dx, t, xs, ha, ht, hl, hd, ok, dp⟩, q⟩ := h
  refine ⟨_, (pss_one (ps_ret (pe_and (pe_callB call_isi (by rfl) (mn_isinstance M) (by decide +kernel) (pa_cons (pv 1) (pa_cons (pe_glob (v := .ref 45) rfl (mg_Finding M) rfl) pa_nil))) (pe_and (pe_cmpR op_eq (pe_fld (pv 0) rfl) (pe_fld (pv 1) rfl) (nomark _)) (pe_one (pe_cmpR (op_eqQ (hu_big hr)) (pe_fld (pv 0) rfl) (pe_fld (pv 1) rfl) (nomark _))))))), ?_⟩
  rcases q with ⟨b, k', es, rfl, h0, h4, ⟨dx', t', ys, hb, ht', hl', hd', ok', dp'⟩, q⟩ | ⟨⟨d, hd2⟩, q⟩
  · refine ⟨_, rfl, _, _, _, _, _, rfl, .own 45, (tyc_fin w _ (clsF_is k')).ty hb, kt_fin' w _ (clsF_is k'), _, rfl, ifT rfl ?_⟩
    refine ⟨_, rfl, a, clsF k, dx, _, _, rfl, ha, clsf w _ (clsF_is k), naf_word w _ (clsF_is k), rfl, ?_⟩
    refine ⟨_, rfl, b, clsF k', dx', _, _, rfl, hb, clsf w _ (clsF_is k'), naf_word w _ (clsF_is k'), rfl, ?_⟩
    have ew := word_eq k k' hk0 hk4 h0 h4
    refine ⟨rfl, _, rfl, ite_b (fun e => ?_) (fun e => ?_)⟩
    · refine ⟨_, rfl, a, clsF k, dx, _, _, rfl, ha, clsf w _ (clsF_is k), naf_fields w _ (clsF_is k), rfl, ?_⟩
      refine ⟨_, rfl, b, clsF k', dx', _, _, rfl, hb, clsf w _ (clsF_is k'), naf_fields w _ (clsF_is k'), rfl, ?_⟩
      have y : eqF k ds k' es = eqQ (.tuple ds) (.tuple es) := by
        show (decide (k = k') && _) = _
        rw [← ew, e, Bool.true_and] <;> rfl
      rw [y] at q
      exact ⟨.tuple ds, .tuple es, .tup (SqT.of ht) hd, .tup (SqT.of ht') hd', ok, ok', (show PyData.depthAll ds + 1 ≤ 60 by omega), .inr ⟨_, _, rfl, rfl⟩, q⟩
    · have y : eqF k ds k' es = false := by
        show (decide (k = k') && _) = _
        rw [← ew, e, Bool.false_and]
      rw [y] at q
      exact q
  · exact ⟨_, rfl, _, _, _, _, _, rfl, .own 45, dq_ty hd2, kt_ty' w d, _, rfl, ifF rfl q⟩
theorem ok_Still___bool__ (M : Mod (hd65.heap_39 w.params) mg base) : CallG PP w (hd65.heap_39 w.params) mg base 1 (.ref 72) (pos (spB1 false)) := by
  obtain ⟨fd, F⟩ := fn_Still___bool__ w
  refine def_pos F sc_Still___bool__ (fun vs H Q E h => ?_) (fun _ _ _ _ _ _ us hl => match us, hl with | [_], _ => rfl) (fun cdv A outer s H vs Q E hr hg h => ?_)
  · obtain ⟨a, rfl, _⟩ := h; rfl
  have nd := sc_Still___bool__.nd
  obtain ⟨a, rfl, q⟩ := h
  exact ⟨_, (pss_one (ps_ret pe_bl)), q⟩
theorem ok_Clash___bool__ (M : Mod (hd65.heap_39 w.params) mg base) : CallG PP w (hd65.heap_39 w.params) mg base 1 (.ref 100) (pos (spB1 false)) := by
  obtain ⟨fd, F⟩ := fn_Clash___bool__ w
  refine def_pos F sc_Clash___bool__ (fun vs H Q E h => ?_) (fun _ _ _ _ _ _ us hl => match us, hl with | [_], _ => rfl) (fun cdv A outer s H vs Q E hr hg h => ?_)
  · obtain ⟨a, rfl, _⟩ := h; rfl
  have nd := sc_Clash___bool__.nd
  obtain ⟨a, rfl, q⟩ := h
  exact ⟨_, (pss_one (ps_ret pe_bl)), q⟩
theorem ok_Wrong___bool__ (M : Mod (hd65.heap_39 w.params) mg base) : CallG PP w (hd65.heap_39 w.params) mg base 1 (.ref 128) (pos (spB1 false)) := by
  obtain ⟨fd, F⟩ := fn_Wrong___bool__ w
  refine def_pos F sc_Wrong___bool__ (fun vs H Q E h => ?_) (fun _ _ _ _ _ _ us hl => match us, hl with | [_], _ => rfl) (fun cdv A outer s H vs Q E hr hg h => ?_)
  · obtain ⟨a, rfl, _⟩ := h; rfl
  have nd := sc_Wrong___bool__.nd
  obtain ⟨a, rfl, q⟩ := h
  exact ⟨_, (pss_one (ps_ret pe_bl)), q⟩
theorem ok_Right___bool__ (M : Mod (hd65.heap_39 w.params) mg base) : CallG PP w (hd65.heap_39 w.params) mg base 1 (.ref 156) (pos (spB1 true)) := by
  obtain ⟨fd, F⟩ := fn_Right___bool__ w
  refine def_pos F sc_Right___bool__ (fun vs H Q E h => ?_) (fun _ _ _ _ _ _ us hl => match us, hl with | [_], _ => rfl) (fun cdv A outer s H vs Q E hr hg h => ?_)
  · obtain ⟨a, rfl, _⟩ := h; rfl
  have nd := sc_Right___bool__.nd
  obtain ⟨a, rfl, q⟩ := h
  exact ⟨_, (pss_one (ps_ret pe_bl)), q⟩
def boolF (C : Addr) : Addr := if C = 75 then 72 else if C = 103 then 100 else if C = 131 then 128 else 156
theorem bool_ok (M : Mod (hd65.heap_39 w.params) mg base) (C : Addr) (h : isF C) : CallG PP w (hd65.heap_39 w.params) mg base 1 (.ref (boolF C)) (pos (spBoolF C)) := by
  rcases h with rfl | rfl | rfl | rfl
  · exact ok_Still___bool__ M
  · exact ok_Clash___bool__ M
  · exact ok_Wrong___bool__ M
  · exact ok_Right___bool__ M
end
end M65

namespace M65
open PySem PySem.Spec PyProof.Rows L2 StX Uk

theorem dqAll_mem {K : PySem.W.Frag} {H : Hp} : ∀ {vs : List V} {ds : List PyData} {v : V}, DqAll K H vs ds → v ∈ vs → ∃ d ∈ ds, Dq K H v d
  | [], _, _, _, m => nomatch m
  | x :: vs, d :: ds, v, .cons h r, m => by
    rcases List.mem_cons.mp m with e | e
    · rw [e]
      exact ⟨d, List.mem_cons_self, h⟩
    · obtain ⟨d', m', q⟩ := dqAll_mem r e
      exact ⟨d', List.mem_cons_of_mem _ m', q⟩

local macro_rules | `(tactic| wtm_at "off0") => `(tactic| first | with_reducible assumption | (with_reducible apply Off.mk; wtm_at "pen"; assumption))
local macro_rules | `(tactic| wtm_at "at0") => `(tactic| first | with_reducible assumption | with_reducible exact upd_same | (with_reducible apply Off.at; wtm_at "off0"))
local macro_rules | `(tactic| wtm_at "off1") => `(tactic| first | with_reducible assumption | (with_reducible apply Off.mk; wtm_at "pen"; assumption) | (with_reducible refine Off.new (by assumption) _ _ ?_; wtm_at "off0") | (with_reducible refine at_same (by with_reducible assumption) ?_; wtm_at "off0"))
local macro_rules | `(tactic| wtm_at "at1") => `(tactic| first | with_reducible assumption | with_reducible exact upd_same | (with_reducible refine at_new (by assumption) ?_; wtm_at "at0") | (with_reducible refine at_same (by with_reducible assumption) ?_; wtm_at "at0") | (with_reducible apply Off.at; wtm_at "off1"))
local macro_rules | `(tactic| wtm_at "off2") => `(tactic| first | with_reducible assumption | (with_reducible apply Off.mk; wtm_at "pen"; assumption) | (with_reducible refine Off.new (by assumption) _ _ ?_; wtm_at "off1") | (with_reducible refine at_same (by with_reducible assumption) ?_; wtm_at "off1"))
local macro_rules | `(tactic| wtm_at "at2") => `(tactic| first | with_reducible assumption | with_reducible exact upd_same | (with_reducible refine at_new (by assumption) ?_; wtm_at "at1") | (with_reducible refine at_same (by with_reducible assumption) ?_; wtm_at "at1") | (with_reducible apply Off.at; wtm_at "off2"))
local macro_rules | `(tactic| wtm_at "off3") => `(tactic| first | with_reducible assumption | (with_reducible apply Off.mk; wtm_at "pen"; assumption) | (with_reducible refine Off.new (by assumption) _ _ ?_; wtm_at "off2") | (with_reducible refine at_same (by with_reducible assumption) ?_; wtm_at "off2"))
local macro_rules | `(tactic| wtm_at "at3") => `(tactic| first | with_reducible assumption | with_reducible exact upd_same | (with_reducible refine at_new (by assumption) ?_; wtm_at "at2") | (with_reducible refine at_same (by with_reducible assumption) ?_; wtm_at "at2") | (with_reducible apply Off.at; wtm_at "off3"))
local macro_rules | `(tactic| wtm_at "off4") => `(tactic| first | with_reducible assumption | (with_reducible apply Off.mk; wtm_at "pen"; assumption) | (with_reducible refine Off.new (by assumption) _ _ ?_; wtm_at "off3") | (with_reducible refine at_same (by with_reducible assumption) ?_; wtm_at "off3"))
local macro_rules | `(tactic| wtm_at "at4") => `(tactic| first | with_reducible assumption | with_reducible exact upd_same | (with_reducible refine at_new (by assumption) ?_; wtm_at "at3") | (with_reducible refine at_same (by with_reducible assumption) ?_; wtm_at "at3") | (with_reducible apply Off.at; wtm_at "off4"))
local macro_rules | `(tactic| wtm_at "off5") => `(tactic| first | with_reducible assumption | (with_reducible apply Off.mk; wtm_at "pen"; assumption) | (with_reducible refine Off.new (by assumption) _ _ ?_; wtm_at "off4") | (with_reducible refine at_same (by with_reducible assumption) ?_; wtm_at "off4"))
local macro_rules | `(tactic| wtm_at "at5") => `(tactic| first | with_reducible assumption | with_reducible exact upd_same | (with_reducible refine at_new (by assumption) ?_; wtm_at "at4") | (with_reducible refine at_same (by with_reducible assumption) ?_; wtm_at "at4") | (with_reducible apply Off.at; wtm_at "off5"))
local macro_rules | `(tactic| wtm_at "off6") => `(tactic| first | with_reducible assumption | (with_reducible apply Off.mk; wtm_at "pen"; assumption) | (with_reducible refine Off.new (by assumption) _ _ ?_; wtm_at "off5") | (with_reducible refine at_same (by with_reducible assumption) ?_; wtm_at "off5"))
local macro_rules | `(tactic| wtm_at "at6") => `(tactic| first | with_reducible assumption | with_reducible exact upd_same | (with_reducible refine at_new (by assumption) ?_; wtm_at "at5") | (with_reducible refine at_same (by with_reducible assumption) ?_; wtm_at "at5") | (with_reducible apply Off.at; wtm_at "off6"))
local macro_rules | `(tactic| wtm_at "off7") => `(tactic| first | with_reducible assumption | (with_reducible apply Off.mk; wtm_at "pen"; assumption) | (with_reducible refine Off.new (by assumption) _ _ ?_; wtm_at "off6") | (with_reducible refine at_same (by with_reducible assumption) ?_; wtm_at "off6"))
local macro_rules | `(tactic| wtm_at "at7") => `(tactic| first | with_reducible assumption | with_reducible exact upd_same | (with_reducible refine at_new (by assumption) ?_; wtm_at "at6") | (with_reducible refine at_same (by with_reducible assumption) ?_; wtm_at "at6") | (with_reducible apply Off.at; wtm_at "off7"))
local macro_rules | `(tactic| wtm_at "off8") => `(tactic| first | with_reducible assumption | (with_reducible apply Off.mk; wtm_at "pen"; assumption) | (with_reducible refine Off.new (by assumption) _ _ ?_; wtm_at "off7") | (with_reducible refine at_same (by with_reducible assumption) ?_; wtm_at "off7"))
local macro_rules | `(tactic| wtm_at "at8") => `(tactic| first | with_reducible assumption | with_reducible exact upd_same | (with_reducible refine at_new (by assumption) ?_; wtm_at "at7") | (with_reducible refine at_same (by with_reducible assumption) ?_; wtm_at "at7") | (with_reducible apply Off.at; wtm_at "off8"))
local macro_rules | `(tactic| wtm_at "off9") => `(tactic| first | with_reducible assumption | (with_reducible apply Off.mk; wtm_at "pen"; assumption) | (with_reducible refine Off.new (by assumption) _ _ ?_; wtm_at "off8") | (with_reducible refine at_same (by with_reducible assumption) ?_; wtm_at "off8"))
local macro_rules | `(tactic| wtm_at "at9") => `(tactic| first | with_reducible assumption | with_reducible exact upd_same | (with_reducible refine at_new (by assumption) ?_; wtm_at "at8") | (with_reducible refine at_same (by with_reducible assumption) ?_; wtm_at "at8") | (with_reducible apply Off.at; wtm_at "off9"))
local macro_rules | `(tactic| wtm_at "off10") => `(tactic| first | with_reducible assumption | (with_reducible apply Off.mk; wtm_at "pen"; assumption) | (with_reducible refine Off.new (by assumption) _ _ ?_; wtm_at "off9") | (with_reducible refine at_same (by with_reducible assumption) ?_; wtm_at "off9"))
local macro_rules | `(tactic| wtm_at "at10") => `(tactic| first | with_reducible assumption | with_reducible exact upd_same | (with_reducible refine at_new (by assumption) ?_; wtm_at "at9") | (with_reducible refine at_same (by with_reducible assumption) ?_; wtm_at "at9") | (with_reducible apply Off.at; wtm_at "off10"))
local macro_rules | `(tactic| wtm_at "off11") => `(tactic| first | with_reducible assumption | (with_reducible apply Off.mk; wtm_at "pen"; assumption) | (with_reducible refine Off.new (by assumption) _ _ ?_; wtm_at "off10") | (with_reducible refine at_same (by with_reducible assumption) ?_; wtm_at "off10"))
local macro_rules | `(tactic| wtm_at "at11") => `(tactic| first | with_reducible assumption | with_reducible exact upd_same | (with_reducible refine at_new (by assumption) ?_; wtm_at "at10") | (with_reducible refine at_same (by with_reducible assumption) ?_; wtm_at "at10") | (with_reducible apply Off.at; wtm_at "off11"))
local macro_rules | `(tactic| wtm_at "off12") => `(tactic| first | with_reducible assumption | (with_reducible apply Off.mk; wtm_at "pen"; assumption) | (with_reducible refine Off.new (by assumption) _ _ ?_; wtm_at "off11") | (with_reducible refine at_same (by with_reducible assumption) ?_; wtm_at "off11"))
local macro_rules | `(tactic| wtm_at "at12") => `(tactic| first | with_reducible assumption | with_reducible exact upd_same | (with_reducible refine at_new (by assumption) ?_; wtm_at "at11") | (with_reducible refine at_same (by with_reducible assumption) ?_; wtm_at "at11") | (with_reducible apply Off.at; wtm_at "off12"))
local macro_rules | `(tactic| wtm_at "off13") => `(tactic| first | with_reducible assumption | (with_reducible apply Off.mk; wtm_at "pen"; assumption) | (with_reducible refine Off.new (by assumption) _ _ ?_; wtm_at "off12") | (with_reducible refine at_same (by with_reducible assumption) ?_; wtm_at "off12"))
local macro_rules | `(tactic| wtm_at "at13") => `(tactic| first | with_reducible assumption | with_reducible exact upd_same | (with_reducible refine at_new (by assumption) ?_; wtm_at "at12") | (with_reducible refine at_same (by with_reducible assumption) ?_; wtm_at "at12") | (with_reducible apply Off.at; wtm_at "off13"))
local macro_rules | `(tactic| wtm_at "off14") => `(tactic| first | with_reducible assumption | (with_reducible apply Off.mk; wtm_at "pen"; assumption) | (with_reducible refine Off.new (by assumption) _ _ ?_; wtm_at "off13") | (with_reducible refine at_same (by with_reducible assumption) ?_; wtm_at "off13"))
local macro_rules | `(tactic| wtm_at "at14") => `(tactic| first | with_reducible assumption | with_reducible exact upd_same | (with_reducible refine at_new (by assumption) ?_; wtm_at "at13") | (with_reducible refine at_same (by with_reducible assumption) ?_; wtm_at "at13") | (with_reducible apply Off.at; wtm_at "off14"))
local macro_rules | `(tactic| wtm_at "off15") => `(tactic| first | with_reducible assumption | (with_reducible apply Off.mk; wtm_at "pen"; assumption) | (with_reducible refine Off.new (by assumption) _ _ ?_; wtm_at "off14") | (with_reducible refine at_same (by with_reducible assumption) ?_; wtm_at "off14"))
local macro_rules | `(tactic| wtm_at "at15") => `(tactic| first | with_reducible assumption | with_reducible exact upd_same | (with_reducible refine at_new (by assumption) ?_; wtm_at "at14") | (with_reducible refine at_same (by with_reducible assumption) ?_; wtm_at "at14") | (with_reducible apply Off.at; wtm_at "off15"))
local macro_rules | `(tactic| wtm_at "off16") => `(tactic| first | with_reducible assumption | (with_reducible apply Off.mk; wtm_at "pen"; assumption) | (with_reducible refine Off.new (by assumption) _ _ ?_; wtm_at "off15") | (with_reducible refine at_same (by with_reducible assumption) ?_; wtm_at "off15"))
local macro_rules | `(tactic| wtm_at "at16") => `(tactic| first | with_reducible assumption | with_reducible exact upd_same | (with_reducible refine at_new (by assumption) ?_; wtm_at "at15") | (with_reducible refine at_same (by with_reducible assumption) ?_; wtm_at "at15") | (with_reducible apply Off.at; wtm_at "off16"))
local macro_rules | `(tactic| wtm_at "off17") => `(tactic| first | with_reducible assumption | (with_reducible apply Off.mk; wtm_at "pen"; assumption) | (with_reducible refine Off.new (by assumption) _ _ ?_; wtm_at "off16") | (with_reducible refine at_same (by with_reducible assumption) ?_; wtm_at "off16"))
local macro_rules | `(tactic| wtm_at "at17") => `(tactic| first | with_reducible assumption | with_reducible exact upd_same | (with_reducible refine at_new (by assumption) ?_; wtm_at "at16") | (with_reducible refine at_same (by with_reducible assumption) ?_; wtm_at "at16") | (with_reducible apply Off.at; wtm_at "off17"))
local macro_rules | `(tactic| wtm_at "off18") => `(tactic| first | with_reducible assumption | (with_reducible apply Off.mk; wtm_at "pen"; assumption) | (with_reducible refine Off.new (by assumption) _ _ ?_; wtm_at "off17") | (with_reducible refine at_same (by with_reducible assumption) ?_; wtm_at "off17"))
local macro_rules | `(tactic| wtm_at "at18") => `(tactic| first | with_reducible assumption | with_reducible exact upd_same | (with_reducible refine at_new (by assumption) ?_; wtm_at "at17") | (with_reducible refine at_same (by with_reducible assumption) ?_; wtm_at "at17") | (with_reducible apply Off.at; wtm_at "off18"))
local macro_rules | `(tactic| wtm_at "off19") => `(tactic| first | with_reducible assumption | (with_reducible apply Off.mk; wtm_at "pen"; assumption) | (with_reducible refine Off.new (by assumption) _ _ ?_; wtm_at "off18") | (with_reducible refine at_same (by with_reducible assumption) ?_; wtm_at "off18"))
local macro_rules | `(tactic| wtm_at "at19") => `(tactic| first | with_reducible assumption | with_reducible exact upd_same | (with_reducible refine at_new (by assumption) ?_; wtm_at "at18") | (with_reducible refine at_same (by with_reducible assumption) ?_; wtm_at "at18") | (with_reducible apply Off.at; wtm_at "off19"))
local macro_rules | `(tactic| wtm_at "off20") => `(tactic| first | with_reducible assumption | (with_reducible apply Off.mk; wtm_at "pen"; assumption) | (with_reducible refine Off.new (by assumption) _ _ ?_; wtm_at "off19") | (with_reducible refine at_same (by with_reducible assumption) ?_; wtm_at "off19"))
local macro_rules | `(tactic| wtm_at "at20") => `(tactic| first | with_reducible assumption | with_reducible exact upd_same | (with_reducible refine at_new (by assumption) ?_; wtm_at "at19") | (with_reducible refine at_same (by with_reducible assumption) ?_; wtm_at "at19") | (with_reducible apply Off.at; wtm_at "off20"))
local macro_rules | `(tactic| wtm_at "off21") => `(tactic| first | with_reducible assumption | (with_reducible apply Off.mk; wtm_at "pen"; assumption) | (with_reducible refine Off.new (by assumption) _ _ ?_; wtm_at "off20") | (with_reducible refine at_same (by with_reducible assumption) ?_; wtm_at "off20"))
local macro_rules | `(tactic| wtm_at "at21") => `(tactic| first | with_reducible assumption | with_reducible exact upd_same | (with_reducible refine at_new (by assumption) ?_; wtm_at "at20") | (with_reducible refine at_same (by with_reducible assumption) ?_; wtm_at "at20") | (with_reducible apply Off.at; wtm_at "off21"))
local macro_rules | `(tactic| wtm_at "off22") => `(tactic| first | with_reducible assumption | (with_reducible apply Off.mk; wtm_at "pen"; assumption) | (with_reducible refine Off.new (by assumption) _ _ ?_; wtm_at "off21") | (with_reducible refine at_same (by with_reducible assumption) ?_; wtm_at "off21"))
local macro_rules | `(tactic| wtm_at "at22") => `(tactic| first | with_reducible assumption | with_reducible exact upd_same | (with_reducible refine at_new (by assumption) ?_; wtm_at "at21") | (with_reducible refine at_same (by with_reducible assumption) ?_; wtm_at "at21") | (with_reducible apply Off.at; wtm_at "off22"))
local macro_rules | `(tactic| wtm_at "off23") => `(tactic| first | with_reducible assumption | (with_reducible apply Off.mk; wtm_at "pen"; assumption) | (with_reducible refine Off.new (by assumption) _ _ ?_; wtm_at "off22") | (with_reducible refine at_same (by with_reducible assumption) ?_; wtm_at "off22"))
local macro_rules | `(tactic| wtm_at "at23") => `(tactic| first | with_reducible assumption | with_reducible exact upd_same | (with_reducible refine at_new (by assumption) ?_; wtm_at "at22") | (with_reducible refine at_same (by with_reducible assumption) ?_; wtm_at "at22") | (with_reducible apply Off.at; wtm_at "off23"))
local macro_rules | `(tactic| wtm_at "off24") => `(tactic| first | with_reducible assumption | (with_reducible apply Off.mk; wtm_at "pen"; assumption) | (with_reducible refine Off.new (by assumption) _ _ ?_; wtm_at "off23") | (with_reducible refine at_same (by with_reducible assumption) ?_; wtm_at "off23"))
local macro_rules | `(tactic| wtm_at "at24") => `(tactic| first | with_reducible assumption | with_reducible exact upd_same | (with_reducible refine at_new (by assumption) ?_; wtm_at "at23") | (with_reducible refine at_same (by with_reducible assumption) ?_; wtm_at "at23") | (with_reducible apply Off.at; wtm_at "off24"))
local macro_rules | `(tactic| wtm_at "off25") => `(tactic| first | with_reducible assumption | (with_reducible apply Off.mk; wtm_at "pen"; assumption) | (with_reducible refine Off.new (by assumption) _ _ ?_; wtm_at "off24") | (with_reducible refine at_same (by with_reducible assumption) ?_; wtm_at "off24"))
local macro_rules | `(tactic| wtm_at "at25") => `(tactic| first | with_reducible assumption | with_reducible exact upd_same | (with_reducible refine at_new (by assumption) ?_; wtm_at "at24") | (with_reducible refine at_same (by with_reducible assumption) ?_; wtm_at "at24") | (with_reducible apply Off.at; wtm_at "off25"))
local macro_rules | `(tactic| wtm_at "off26") => `(tactic| first | with_reducible assumption | (with_reducible apply Off.mk; wtm_at "pen"; assumption) | (with_reducible refine Off.new (by assumption) _ _ ?_; wtm_at "off25") | (with_reducible refine at_same (by with_reducible assumption) ?_; wtm_at "off25"))
local macro_rules | `(tactic| wtm_at "at26") => `(tactic| first | with_reducible assumption | with_reducible exact upd_same | (with_reducible refine at_new (by assumption) ?_; wtm_at "at25") | (with_reducible refine at_same (by with_reducible assumption) ?_; wtm_at "at25") | (with_reducible apply Off.at; wtm_at "off26"))
local macro_rules | `(tactic| wtm_at "off27") => `(tactic| first | with_reducible assumption | (with_reducible apply Off.mk; wtm_at "pen"; assumption) | (with_reducible refine Off.new (by assumption) _ _ ?_; wtm_at "off26") | (with_reducible refine at_same (by with_reducible assumption) ?_; wtm_at "off26"))
local macro_rules | `(tactic| wtm_at "at27") => `(tactic| first | with_reducible assumption | with_reducible exact upd_same | (with_reducible refine at_new (by assumption) ?_; wtm_at "at26") | (with_reducible refine at_same (by with_reducible assumption) ?_; wtm_at "at26") | (with_reducible apply Off.at; wtm_at "off27"))
local macro_rules | `(tactic| wtm_at "off28") => `(tactic| first | with_reducible assumption | (with_reducible apply Off.mk; wtm_at "pen"; assumption) | (with_reducible refine Off.new (by assumption) _ _ ?_; wtm_at "off27") | (with_reducible refine at_same (by with_reducible assumption) ?_; wtm_at "off27"))
local macro_rules | `(tactic| wtm_at "at28") => `(tactic| first | with_reducible assumption | with_reducible exact upd_same | (with_reducible refine at_new (by assumption) ?_; wtm_at "at27") | (with_reducible refine at_same (by with_reducible assumption) ?_; wtm_at "at27") | (with_reducible apply Off.at; wtm_at "off28"))
local macro_rules | `(tactic| wtm_at "off29") => `(tactic| first | with_reducible assumption | (with_reducible apply Off.mk; wtm_at "pen"; assumption) | (with_reducible refine Off.new (by assumption) _ _ ?_; wtm_at "off28") | (with_reducible refine at_same (by with_reducible assumption) ?_; wtm_at "off28"))
local macro_rules | `(tactic| wtm_at "at29") => `(tactic| first | with_reducible assumption | with_reducible exact upd_same | (with_reducible refine at_new (by assumption) ?_; wtm_at "at28") | (with_reducible refine at_same (by with_reducible assumption) ?_; wtm_at "at28") | (with_reducible apply Off.at; wtm_at "off29"))
local macro_rules | `(tactic| wtm_at "off30") => `(tactic| first | with_reducible assumption | (with_reducible apply Off.mk; wtm_at "pen"; assumption) | (with_reducible refine Off.new (by assumption) _ _ ?_; wtm_at "off29") | (with_reducible refine at_same (by with_reducible assumption) ?_; wtm_at "off29"))
local macro_rules | `(tactic| wtm_at "at30") => `(tactic| first | with_reducible assumption | with_reducible exact upd_same | (with_reducible refine at_new (by assumption) ?_; wtm_at "at29") | (with_reducible refine at_same (by with_reducible assumption) ?_; wtm_at "at29") | (with_reducible apply Off.at; wtm_at "off30"))
local macro_rules | `(tactic| wtm_at "off31") => `(tactic| first | with_reducible assumption | (with_reducible apply Off.mk; wtm_at "pen"; assumption) | (with_reducible refine Off.new (by assumption) _ _ ?_; wtm_at "off30") | (with_reducible refine at_same (by with_reducible assumption) ?_; wtm_at "off30"))
local macro_rules | `(tactic| wtm_at "at31") => `(tactic| first | with_reducible assumption | with_reducible exact upd_same | (with_reducible refine at_new (by assumption) ?_; wtm_at "at30") | (with_reducible refine at_same (by with_reducible assumption) ?_; wtm_at "at30") | (with_reducible apply Off.at; wtm_at "off31"))
local macro_rules | `(tactic| wtm_at "off32") => `(tactic| first | with_reducible assumption | (with_reducible apply Off.mk; wtm_at "pen"; assumption) | (with_reducible refine Off.new (by assumption) _ _ ?_; wtm_at "off31") | (with_reducible refine at_same (by with_reducible assumption) ?_; wtm_at "off31"))
local macro_rules | `(tactic| wtm_at "at32") => `(tactic| first | with_reducible assumption | with_reducible exact upd_same | (with_reducible refine at_new (by assumption) ?_; wtm_at "at31") | (with_reducible refine at_same (by with_reducible assumption) ?_; wtm_at "at31") | (with_reducible apply Off.at; wtm_at "off32"))
local macro_rules | `(tactic| wtm_at "off33") => `(tactic| first | with_reducible assumption | (with_reducible apply Off.mk; wtm_at "pen"; assumption) | (with_reducible refine Off.new (by assumption) _ _ ?_; wtm_at "off32") | (with_reducible refine at_same (by with_reducible assumption) ?_; wtm_at "off32"))
local macro_rules | `(tactic| wtm_at "at33") => `(tactic| first | with_reducible assumption | with_reducible exact upd_same | (with_reducible refine at_new (by assumption) ?_; wtm_at "at32") | (with_reducible refine at_same (by with_reducible assumption) ?_; wtm_at "at32") | (with_reducible apply Off.at; wtm_at "off33"))
local macro_rules | `(tactic| wtm_at "off34") => `(tactic| first | with_reducible assumption | (with_reducible apply Off.mk; wtm_at "pen"; assumption) | (with_reducible refine Off.new (by assumption) _ _ ?_; wtm_at "off33") | (with_reducible refine at_same (by with_reducible assumption) ?_; wtm_at "off33"))
local macro_rules | `(tactic| wtm_at "at34") => `(tactic| first | with_reducible assumption | with_reducible exact upd_same | (with_reducible refine at_new (by assumption) ?_; wtm_at "at33") | (with_reducible refine at_same (by with_reducible assumption) ?_; wtm_at "at33") | (with_reducible apply Off.at; wtm_at "off34"))
local macro_rules | `(tactic| wtm_at "off35") => `(tactic| first | with_reducible assumption | (with_reducible apply Off.mk; wtm_at "pen"; assumption) | (with_reducible refine Off.new (by assumption) _ _ ?_; wtm_at "off34") | (with_reducible refine at_same (by with_reducible assumption) ?_; wtm_at "off34"))
local macro_rules | `(tactic| wtm_at "at35") => `(tactic| first | with_reducible assumption | with_reducible exact upd_same | (with_reducible refine at_new (by assumption) ?_; wtm_at "at34") | (with_reducible refine at_same (by with_reducible assumption) ?_; wtm_at "at34") | (with_reducible apply Off.at; wtm_at "off35"))
local macro_rules | `(tactic| wtm_at "off36") => `(tactic| first | with_reducible assumption | (with_reducible apply Off.mk; wtm_at "pen"; assumption) | (with_reducible refine Off.new (by assumption) _ _ ?_; wtm_at "off35") | (with_reducible refine at_same (by with_reducible assumption) ?_; wtm_at "off35"))
local macro_rules | `(tactic| wtm_at "at36") => `(tactic| first | with_reducible assumption | with_reducible exact upd_same | (with_reducible refine at_new (by assumption) ?_; wtm_at "at35") | (with_reducible refine at_same (by with_reducible assumption) ?_; wtm_at "at35") | (with_reducible apply Off.at; wtm_at "off36"))
local macro_rules | `(tactic| wtm_at "off37") => `(tactic| first | with_reducible assumption | (with_reducible apply Off.mk; wtm_at "pen"; assumption) | (with_reducible refine Off.new (by assumption) _ _ ?_; wtm_at "off36") | (with_reducible refine at_same (by with_reducible assumption) ?_; wtm_at "off36"))
local macro_rules | `(tactic| wtm_at "at37") => `(tactic| first | with_reducible assumption | with_reducible exact upd_same | (with_reducible refine at_new (by assumption) ?_; wtm_at "at36") | (with_reducible refine at_same (by with_reducible assumption) ?_; wtm_at "at36") | (with_reducible apply Off.at; wtm_at "off37"))
local macro_rules | `(tactic| wtm_at "off38") => `(tactic| first | with_reducible assumption | (with_reducible apply Off.mk; wtm_at "pen"; assumption) | (with_reducible refine Off.new (by assumption) _ _ ?_; wtm_at "off37") | (with_reducible refine at_same (by with_reducible assumption) ?_; wtm_at "off37"))
local macro_rules | `(tactic| wtm_at "at38") => `(tactic| first | with_reducible assumption | with_reducible exact upd_same | (with_reducible refine at_new (by assumption) ?_; wtm_at "at37") | (with_reducible refine at_same (by with_reducible assumption) ?_; wtm_at "at37") | (with_reducible apply Off.at; wtm_at "off38"))
local macro_rules | `(tactic| wtm_at "off39") => `(tactic| first | with_reducible assumption | (with_reducible apply Off.mk; wtm_at "pen"; assumption) | (with_reducible refine Off.new (by assumption) _ _ ?_; wtm_at "off38") | (with_reducible refine at_same (by with_reducible assumption) ?_; wtm_at "off38"))
local macro_rules | `(tactic| wtm_at "at39") => `(tactic| first | with_reducible assumption | with_reducible exact upd_same | (with_reducible refine at_new (by assumption) ?_; wtm_at "at38") | (with_reducible refine at_same (by with_reducible assumption) ?_; wtm_at "at38") | (with_reducible apply Off.at; wtm_at "off39"))
local macro_rules | `(tactic| wtm_at "at") => `(tactic| wtm_at "at39")
local macro_rules | `(tactic| wtm_at "off") => `(tactic| wtm_at "off39")
local macro_rules | `(tactic| wtm_at "pen") => `(tactic| first
  | assumption | (refine Pen.new (by assumption) ?_; wtm_at "pen") | (refine Pen.same (by assumption) ?_; wtm_at "pen"))
local macro_rules | `(tactic| wtm_at "same") => `(tactic| first
  | exact fun _ _ h => h | assumption | exact same_new (by assumption) | (refine same_trans ?_ (same_new (by assumption)); wtm_at "same") | (refine same_trans ?_ (by assumption); wtm_at "same")
  | (refine same_trans ?_ (Off.new (by assumption)); wtm_at "same") | (refine same_trans ?_ (Off.same (by assumption)); wtm_at "same"))
local macro_rules | `(tactic| wtm_at "dps") => `(tactic| first
  | exact .nil | (apply DpAll.cons; wtm_at "dp"; wtm_at "dps") | exact dpAll_ints _)
local macro_rules | `(tactic| wtm_at "dp") => `(tactic| first
  | exact .non | exact .bl _ | exact .int _ | exact .str _ | (fail) | (apply Dp.lst; (apply SqL.of; wtm_at "at"); wtm_at "dps") | (apply Dp.tup; (apply SqT.of; wtm_at "at"); wtm_at "dps"))
local macro_rules | `(tactic| wtm_at "side") => `(tactic| first
  | exact ⟨by decide, by decide⟩ | exact ⟨by decide, by decide, by decide⟩ | exact .inl ⟨by decide, by decide⟩ | exact .inr ⟨by decide, by decide⟩ | (show ¬ _ = _; decide))
local macro_rules | `(tactic| wtm_at "sml") => `(tactic| first
  | exact sml_none (by decide) | exact sml_bool (by decide) | exact sml_int (by decide) (by omega) | (fail) | exact sml_list (n := 19) (k := 0) (by wtm_at "smls") (by decide) (by decide))
local macro_rules | `(tactic| wtm_at "smls") => `(tactic| first | exact smlAll_nil (m := 0) | (apply smlAll_cons; wtm_at "sml"; wtm_at "smls"))
local macro_rules | `(tactic| wtm_at "shw") => `(tactic| exact Sml.shw (n := 10000) (k := 50) (by wtm_at "sml") (by decide) (by decide))
local macro_rules | `(tactic| wtm_at "rd") => `(tactic| first
  | refine ⟨_, rfl, ?_⟩ | refine ⟨_, _, rfl, rfl, ?_⟩ | refine ifT rfl ?_ | refine ifF rfl ?_ | refine ⟨rfl, ?_⟩
  | refine ⟨_, _, by rfl, by wtm_at "dp", by wtm_at "shw", ?_⟩
  | refine ⟨_, _, _, _, _, rfl, by wtm_at "at", by wtm_at "cls", by wtm_at "na", by rfl, ?_⟩
  | refine ⟨_, _, rfl, .inr (SqT.of (by wtm_at "at")), ?_⟩ | refine ⟨_, _, rfl, .inl (SqL.of (by wtm_at "at")), ?_⟩
  | refine ⟨_, _, rfl, .inr (SqT.of (by wtm_at "at")), by rfl, by rfl, ?_⟩ | refine ⟨_, _, rfl, .inl (SqL.of (by wtm_at "at")), by rfl, by rfl, ?_⟩
  | refine ⟨_, _, _, _, rfl, rfl, SqT.of (by wtm_at "at"), by rfl, ?_⟩ | refine ⟨_, _, _, _, rfl, rfl, SqL.of (by wtm_at "at"), by rfl, ?_⟩
  | refine ⟨_, _, rfl, rfl, by wtm_at "side", ?_⟩
  | refine ⟨_, _, by wtm_at "dp", by wtm_at "dp", by first | rfl | decide +kernel, by first | rfl | decide +kernel, ?_⟩
  | refine ⟨_, _, [_, _], [_, _], rfl, rfl, sqI2 (by wtm_at "at"), sqI2 (by wtm_at "at"), ?_⟩
  | refine ⟨_, _, rfl, ?_⟩
  | refine ⟨Nat.le_of_ble_eq_true rfl, fun _ _ => ?_⟩
  | refine ifF (by decide +kernel) ?_ | refine ifF (nd_refl _) ?_ | refine ifT (de_refl _) ?_)

/-- what is new in H' beside H -/
def Nw (H H' : Hp) : Hp := fun a => if (H a).isSome = true then none else H' a
theorem Nw.of {H H' : Hp} {a : Addr} {u : HO} (h : H a = none) (e : H' a = some u) : Nw H H' a = some u := by
  unfold Nw
  rw [h]
  exact e
theorem Nw.at {H H' : Hp} {a : Addr} {u : HO} (e : Nw H H' a = some u) : H' a = some u ∧ H a = none := by
  unfold Nw at e
  cases h : H a with
  | none => rw [h] at e; exact ⟨e, rfl⟩
  | some o => rw [h] at e; cases e
theorem upd_none {H : Hp} {a b : Addr} {o : HO} (h : upd H a o b = none) : H b = none := by
  by_cases e : b = a
  · rw [e, upd_same] at h; cases h
  · rw [upd_ne e] at h; exact h

theorem pen_cut (ns : List Int) : ∃ ms : List Int, cutV (ns.map V.int) none (some 63) = ms.map V.int ∧ ms.length ≤ 63 := by
  refine ⟨ns.take (HT.sIx ns.length ns.length (some 63)), ?_, ?_⟩
  · unfold cutV
    rw [List.length_map, HT.sIx_none, List.drop_zero, Nat.sub_zero, List.map_take]
  · rw [List.length_take]
    have : HT.sIx ns.length ns.length (some 63) = min 63 ns.length := HT.sIx_nat _ _ 63
    omega
def spPen (K : PySem.W.Frag) : Sp := fun vs H Q _ => ∃ (a : Addr) (ns : List Int), vs = [.ref a] ∧ SqL K H a (ns.map V.int) ∧ ∀ p c H', Same H H' → Pen H' p c 0 → Q (.ref p) H'

def fieldData (a m : Int) : List PyData := [.tuple [.tuple [.int 0, .int a], .tuple [.int 1, .int m]], .tuple [.int a, .int m], .str "still", .none, .bool true, .bool false, .int m, .tuple [], .list [.int a], .dict [(.str "a", .int a)], .int ((10 : Int) ^ Int.toNat 30), .tuple [.tuple [.str "step", .str "cpu"], .tuple [.str "fetch", .str "cpu", .int a]], .list [.list [], .tuple []], .str "", .int (-1 - a), .tuple [.tuple [.int a, .int m]]]
def FdD (d : PyData) : Prop := ∃ a m : Nat, a < 4 ∧ m < 9 ∧ d ∈ fieldData a m
def fldB (d : PyData) : Bool := d.showable && decide (d.shown.length ≤ 100) && decide (d.depth ≤ 5) && okQ d
theorem fld_all : ((List.range 4).all fun a => (List.range 9).all fun m => (fieldData a m).all fldB) = true := by decide +kernel
theorem fld_of {d : PyData} (h : FdD d) : Sml 100 5 d ∧ okQ d = true := by
  obtain ⟨a, m, ha, hm, hd⟩ := h
  have z := List.all_eq_true.mp (List.all_eq_true.mp (List.all_eq_true.mp fld_all a (List.mem_range.mpr ha)) m (List.mem_range.mpr hm)) d hd
  unfold fldB at z
  rw [Bool.and_eq_true, Bool.and_eq_true, Bool.and_eq_true, decide_eq_true_eq, decide_eq_true_eq] at z
  exact ⟨⟨z.1.1.1, z.1.1.2, z.1.2⟩, z.2⟩
def spField (K : PySem.W.Frag) : Sp := fun vs H Q _ => ∃ (p c : Addr) (m : Int), vs = [.ref p] ∧ Pen H p c m ∧ m ≤ 99000 ∧ ∀ v d H', Dq K (Nw H H') v d → FdD d → Same (Off p H) (Off p H') → Pen H' p c (m + 3) → Q v H'
section
variable {mg : PySem.Str → Option Value} {base : Heap} {w : World}
theorem ok__law_pen (M : Mod (hd65.heap_39 w.params) mg base) : CallG PP w (hd65.heap_39 w.params) mg base 1 (.ref 168) (pos (spPen (hd65.heap_39 w.params))) := by
  obtain ⟨fd, F⟩ := fn__law_pen w
  refine def_pos F sc__law_pen (fun vs H Q E h => ?_) (fun _ _ _ _ _ _ us hl => match us, hl with | [_], _ => rfl) (fun cdv A outer s H vs Q E hr hg h => ?_)
  · obtain ⟨a, ns, rfl, _⟩ := h; rfl
  have nd := sc__law_pen.nd
  obtain ⟨a, ns, rfl, ha, q⟩ := h
  refine ⟨_, (pss_one (ps_ret (pe_lst (pa_cons (pe_callTy call_list_of (by rfl) (mn_list M) (by decide +kernel) (pa_cons (pe_slice sl_list (pv 0) po_none (po_some pe_int)) pa_nil)) (pa_cons pe_int (pa_cons pe_int pa_nil)))))), ?_⟩
  repeat wtm_at "rd"
  refine ⟨a, _, rfl, ha, fun p hp => ⟨p, _, rfl, .inl (SqL.of upd_same), fun l hl => ⟨Nat.le_of_ble_eq_true rfl, fun z hz => ?_⟩⟩⟩
  obtain ⟨ms, em, lm⟩ := pen_cut ns
  refine q z l _ (by wtm_at "same") ⟨0, 0, ms, upd_same, ?_, lm, Int.le_refl _, Int.le_refl _⟩
  rw [← em]
  wtm_at "at"
theorem ok__law_field (M : Mod (hd65.heap_39 w.params) mg base) : CallG PP w (hd65.heap_39 w.params) mg base 3 (.ref 182) (pos (spField (hd65.heap_39 w.params))) := by
  obtain ⟨fd, F⟩ := fn__law_field w
  refine def_pos F sc__law_field (fun vs H Q E h => ?_) (fun _ _ _ _ _ _ us hl => match us, hl with | [_], _ => rfl) (fun cdv A outer s H vs Q E hr hg h => ?_)
  · obtain ⟨p, c, m, rfl, _⟩ := h; rfl
  have nd := sc__law_field.nd
  obtain ⟨p, c, m, rfl, P, hm, q⟩ := h
  refine ⟨_, (pss_cons (ps_par (i := 1) (j := 2) (by rfl) nd rfl rfl (by decide) rfl rfl (pa_cons (pe_cl (takes_of rfl rfl rfl rfl) (ok_drawP M) (hr.mono (by decide)) hg rfl (mg__law_draw M) (kp__law_draw w) (pa_cons (pv 0) (pa_cons pe_int pa_nil))) (pa_cons (pe_cl (takes_of rfl rfl rfl rfl) (ok_drawP M) (hr.mono (by decide)) hg rfl (mg__law_draw M) (kp__law_draw w) (pa_cons (pv 0) (pa_cons pe_int pa_nil))) pa_nil)) (by rfl))
      (pss_cons (ps_set (i := 3) nd rfl (.inl rfl) (pe_lst (pa_cons (pe_tup (pa_cons (pe_tup (pa_cons pe_int (pa_cons (pv 1) pa_nil))) (pa_cons (pe_tup (pa_cons pe_int (pa_cons (pv 2) pa_nil))) pa_nil))) (pa_cons (pe_tup (pa_cons (pv 1) (pa_cons (pv 2) pa_nil))) (pa_cons pe_str (pa_cons pe_non (pa_cons pe_bl (pa_cons pe_bl (pa_cons (pv 2) (pa_cons (pe_tup pa_nil) pa_nil))))))))))
      (pss_cons (ps_set (i := 3) nd rfl (.inl rfl) (pe_op op_cat (pv 3) (pe_lst (pa_cons (pe_lst (pa_cons (pv 1) pa_nil)) (pa_cons (pe_disp (pps_cons pe_str (pv 1) pps_nil) rfl rfl (by simp) (by decide)) (pa_cons (pe_op op_pow pe_int pe_int) (pa_cons (pe_tup (pa_cons (pe_tup (pa_cons pe_str (pa_cons pe_str pa_nil))) (pa_cons (pe_tup (pa_cons pe_str (pa_cons pe_str (pa_cons (pv 1) pa_nil)))) pa_nil))) pa_nil)))))))
      (pss_cons (ps_set (i := 3) nd rfl (.inl rfl) (pe_op op_cat (pv 3) (pe_lst (pa_cons (pe_lst (pa_cons (pe_lst pa_nil) (pa_cons (pe_tup pa_nil) pa_nil))) (pa_cons pe_str (pa_cons (pe_op op_sub (pe_un un_neg pe_int) (pv 1)) (pa_cons (pe_tup (pa_cons (pe_tup (pa_cons (pv 1) (pa_cons (pv 2) pa_nil))) pa_nil)) pa_nil)))))))
      (pss_one (ps_ret (pe_ix ix_list (pv 3) (pe_cl (takes_of rfl rfl rfl rfl) (ok_drawP M) (hr.mono (by decide)) hg rfl (mg__law_draw M) (kp__law_draw w) (pa_cons (pv 0) (pa_cons (pe_callB call_len_seq (by rfl) (mn_len M) (by decide +kernel) (pa_cons (pv 3) pa_nil)) pa_nil))) (fun _ _ => rfl)))))))), ?_⟩
  refine ⟨_, rfl, rfl, p, c, m, 4, rfl, P, by omega, by decide, by decide, fun a H1 a0 a4 s1 P1 => ?_⟩
  refine ⟨_, rfl, rfl, p, c, m + 1, 9, rfl, P1, by omega, by decide, by decide, fun b H2 b0 b9 s2 P2 => ?_⟩
  have sA : Same (Off p H) (Off p H2) := same_trans s1 s2
  refine ⟨_, _, rfl, ?_⟩
  refine ⟨_, rfl, Nat.le_of_ble_eq_true rfl, fun t1 g1 => ⟨_, rfl, Nat.le_of_ble_eq_true rfl, fun t2 g2 => ⟨Nat.le_of_ble_eq_true rfl, fun t3 g3 => ⟨_, rfl, _, rfl, Nat.le_of_ble_eq_true rfl, fun t4 g4 => ⟨_, rfl, Nat.le_of_ble_eq_true rfl, fun t5 g5 => ⟨Nat.le_of_ble_eq_true rfl, fun z1 hz1 => ?_⟩⟩⟩⟩⟩⟩
  refine ⟨_, rfl, _, rfl, Nat.le_of_ble_eq_true rfl, fun l1 gl1 => fun d1 gd1 => ?_⟩
  refine ⟨_, rfl, upd_same, [(.inr "a", .int a)], rfl, Nat.le_of_ble_eq_true rfl, ?_⟩
  rw [upd_upd]
  refine ⟨_, _, rfl, rfl, ⟨by decide, by decide, by decide⟩, ?_⟩
  refine ⟨Nat.le_of_ble_eq_true rfl, fun t6 g6 => ⟨_, rfl, Nat.le_of_ble_eq_true rfl, fun t7 g7 => ⟨Nat.le_of_ble_eq_true rfl, fun t8 g8 => ⟨Nat.le_of_ble_eq_true rfl, fun z2 hz2 => ?_⟩⟩⟩⟩
  refine ⟨z1, z2, _, _, rfl, rfl, by wtm_at "at", upd_same, Nat.le_of_ble_eq_true rfl, fun z3 hz3 => ?_⟩
  refine ⟨_, rfl, Nat.le_of_ble_eq_true rfl, fun l2 gl2 => ⟨Nat.le_of_ble_eq_true rfl, fun t9 g9 => ⟨Nat.le_of_ble_eq_true rfl, fun l3 gl3 => ?_⟩⟩⟩
  refine ⟨_, rfl, _, rfl, _, _, rfl, rfl, _, rfl, _, rfl, Nat.le_of_ble_eq_true rfl, fun t10 g10 => ⟨Nat.le_of_ble_eq_true rfl, fun t11 g11 => ⟨Nat.le_of_ble_eq_true rfl, fun z4 hz4 => ?_⟩⟩⟩
  refine ⟨z3, z4, _, _, rfl, rfl, by wtm_at "at", upd_same, Nat.le_of_ble_eq_true rfl, fun z5 hz5 => ?_⟩
  refine ⟨_, rfl, _, rfl, _, rfl, z5, _, rfl, .inl (SqL.of upd_same), rfl, p, c, m + 1 + 1, _, rfl, ((((((((((((((((((((P2.new g1).new g2).new g3).new g4).new g5).new hz1).new gl1).new gd1).new g6).new g7).new g8).new hz2).new hz3).new gl2).new g9).new gl3).new g10).new g11).new hz4).new hz5), by omega, (show (1 : Int) ≤ ((16 : Nat) : Int) by decide), (show ((16 : Nat) : Int) ≤ 100000 by decide), fun d H' d0 dd s3 P3 => ?_⟩
  have n_t1 : H t1 = none := by
    have h := g1
    repeat (replace h := upd_none h)
    exact old_none sA P2 h
  have f_t1 : Nw H H' t1 = some (.tup [.int 0, .int a]) := Nw.of n_t1 (Uk.Off.at (s3 _ _ (Uk.Off.of (by wtm_at "at") (P.ne n_t1))))
  have n_t2 : H t2 = none := by
    have h := g2
    repeat (replace h := upd_none h)
    exact old_none sA P2 h
  have f_t2 : Nw H H' t2 = some (.tup [.int 1, .int b]) := Nw.of n_t2 (Uk.Off.at (s3 _ _ (Uk.Off.of (by wtm_at "at") (P.ne n_t2))))
  have n_t3 : H t3 = none := by
    have h := g3
    repeat (replace h := upd_none h)
    exact old_none sA P2 h
  have f_t3 : Nw H H' t3 = some (.tup [.ref t1, .ref t2]) := Nw.of n_t3 (Uk.Off.at (s3 _ _ (Uk.Off.of (by wtm_at "at") (P.ne n_t3))))
  have n_t4 : H t4 = none := by
    have h := g4
    repeat (replace h := upd_none h)
    exact old_none sA P2 h
  have f_t4 : Nw H H' t4 = some (.tup [.int a, .int b]) := Nw.of n_t4 (Uk.Off.at (s3 _ _ (Uk.Off.of (by wtm_at "at") (P.ne n_t4))))
  have n_t5 : H t5 = none := by
    have h := g5
    repeat (replace h := upd_none h)
    exact old_none sA P2 h
  have f_t5 : Nw H H' t5 = some (.tup []) := Nw.of n_t5 (Uk.Off.at (s3 _ _ (Uk.Off.of (by wtm_at "at") (P.ne n_t5))))
  have n_l1 : H l1 = none := by
    have h := gl1
    repeat (replace h := upd_none h)
    exact old_none sA P2 h
  have f_l1 : Nw H H' l1 = some (.lst [.int a]) := Nw.of n_l1 (Uk.Off.at (s3 _ _ (Uk.Off.of (by wtm_at "at") (P.ne n_l1))))
  have n_d1 : H d1 = none := by
    have h := gd1
    repeat (replace h := upd_none h)
    exact old_none sA P2 h
  have f_d1 : Nw H H' d1 = some (.dK (mergeK [] [(.inr "a", .int a)])) := Nw.of n_d1 (Uk.Off.at (s3 _ _ (Uk.Off.of (by wtm_at "at") (P.ne n_d1))))
  have n_t6 : H t6 = none := by
    have h := g6
    repeat (replace h := upd_none h)
    exact old_none sA P2 h
  have f_t6 : Nw H H' t6 = some (.tup [.str "step", .str "cpu"]) := Nw.of n_t6 (Uk.Off.at (s3 _ _ (Uk.Off.of (by wtm_at "at") (P.ne n_t6))))
  have n_t7 : H t7 = none := by
    have h := g7
    repeat (replace h := upd_none h)
    exact old_none sA P2 h
  have f_t7 : Nw H H' t7 = some (.tup [.str "fetch", .str "cpu", .int a]) := Nw.of n_t7 (Uk.Off.at (s3 _ _ (Uk.Off.of (by wtm_at "at") (P.ne n_t7))))
  have n_t8 : H t8 = none := by
    have h := g8
    repeat (replace h := upd_none h)
    exact old_none sA P2 h
  have f_t8 : Nw H H' t8 = some (.tup [.ref t6, .ref t7]) := Nw.of n_t8 (Uk.Off.at (s3 _ _ (Uk.Off.of (by wtm_at "at") (P.ne n_t8))))
  have n_l2 : H l2 = none := by
    have h := gl2
    repeat (replace h := upd_none h)
    exact old_none sA P2 h
  have f_l2 : Nw H H' l2 = some (.lst []) := Nw.of n_l2 (Uk.Off.at (s3 _ _ (Uk.Off.of (by wtm_at "at") (P.ne n_l2))))
  have n_t9 : H t9 = none := by
    have h := g9
    repeat (replace h := upd_none h)
    exact old_none sA P2 h
  have f_t9 : Nw H H' t9 = some (.tup []) := Nw.of n_t9 (Uk.Off.at (s3 _ _ (Uk.Off.of (by wtm_at "at") (P.ne n_t9))))
  have n_l3 : H l3 = none := by
    have h := gl3
    repeat (replace h := upd_none h)
    exact old_none sA P2 h
  have f_l3 : Nw H H' l3 = some (.lst [.ref l2, .ref t9]) := Nw.of n_l3 (Uk.Off.at (s3 _ _ (Uk.Off.of (by wtm_at "at") (P.ne n_l3))))
  have n_t10 : H t10 = none := by
    have h := g10
    repeat (replace h := upd_none h)
    exact old_none sA P2 h
  have f_t10 : Nw H H' t10 = some (.tup [.int a, .int b]) := Nw.of n_t10 (Uk.Off.at (s3 _ _ (Uk.Off.of (by wtm_at "at") (P.ne n_t10))))
  have n_t11 : H t11 = none := by
    have h := g11
    repeat (replace h := upd_none h)
    exact old_none sA P2 h
  have f_t11 : Nw H H' t11 = some (.tup [.ref t10]) := Nw.of n_t11 (Uk.Off.at (s3 _ _ (Uk.Off.of (by wtm_at "at") (P.ne n_t11))))
  have f_d1 : Nw H H' d1 = some (.dK [(.inr "a", .int a)]) := f_d1
  have n_z5 : H z5 = none := by
    have h := hz5
    repeat (replace h := upd_none h)
    exact old_none sA P2 h
  have f_z5 := Uk.Off.at (s3 _ _ (Uk.Off.of upd_same (P.ne n_z5)))
  have all : DqAll (hd65.heap_39 w.params) (Nw H H') ([V.ref t3, V.ref t4, V.str "still", V.non, V.bl true, V.bl false, V.int b, V.ref t5] ++ [V.ref l1, V.ref d1, V.int ((10 : Int) ^ Int.toNat 30), V.ref t8] ++ [V.ref l3, V.str "", V.int (-1 - a), V.ref t11]) (fieldData a b) := by
    simp only [List.cons_append, List.nil_append]
    unfold fieldData
    exact .cons (.tup (SqT.of f_t3) (.cons (.tup (SqT.of f_t1) (.cons (.int _) (.cons (.int _) .nil))) (.cons (.tup (SqT.of f_t2) (.cons (.int _) (.cons (.int _) .nil))) .nil))) (.cons (.tup (SqT.of f_t4) (.cons (.int _) (.cons (.int _) .nil))) (.cons (.str _) (.cons .non (.cons (.bl _) (.cons (.bl _) (.cons (.int _) (.cons (.tup (SqT.of f_t5) .nil)
      (.cons (.lst f_l1 (.cons (.int _) .nil)) (.cons (.dct f_d1 (.cons (k := .inr _) (.int _) .nil)) (.cons (.int _) (.cons (.tup (SqT.of f_t8) (.cons (.tup (SqT.of f_t6) (.cons (.str _) (.cons (.str _) .nil))) (.cons (.tup (SqT.of f_t7) (.cons (.str _) (.cons (.str _) (.cons (.int _) .nil)))) .nil)))
      (.cons (.lst f_l3 (.cons (.lst f_l2 .nil) (.cons (.tup (SqT.of f_t9) .nil) .nil))) (.cons (.str _) (.cons (.int _) (.cons (.tup (SqT.of f_t11) (.cons (.tup (SqT.of f_t10) (.cons (.int _) (.cons (.int _) .nil))) .nil)) .nil)))))))))))))))
  obtain ⟨v, hv, hmv⟩ := atI_mem d0 dd
  obtain ⟨e, me, qe⟩ := dqAll_mem all hmv
  refine ⟨z5, _, d, v, rfl, rfl, SqL.of f_z5, hv, q v e H' qe ⟨a.toNat, b.toNat, by omega, by omega, ?_⟩ (same_trans sA (same_trans (Uk.Off.same (by wtm_at "same")) s3)) (P3.mono (by omega))⟩
  rw [Int.toNat_of_nonneg a0, Int.toNat_of_nonneg b0]
  exact me
end
end M65

namespace M65
open PySem PySem.Spec PyProof.Rows L2 StX Uk

local macro_rules | `(tactic| wtm_at "off0") => `(tactic| first | with_reducible assumption | (with_reducible apply Off.mk; wtm_at "pen"; assumption))
local macro_rules | `(tactic| wtm_at "at0") => `(tactic| first | with_reducible assumption | with_reducible exact upd_same | (with_reducible apply Off.at; wtm_at "off0"))
local macro_rules | `(tactic| wtm_at "off1") => `(tactic| first | with_reducible assumption | (with_reducible apply Off.mk; wtm_at "pen"; assumption) | (with_reducible refine Off.new (by assumption) _ _ ?_; wtm_at "off0") | (with_reducible refine at_same (by with_reducible assumption) ?_; wtm_at "off0"))
local macro_rules | `(tactic| wtm_at "at1") => `(tactic| first | with_reducible assumption | with_reducible exact upd_same | (with_reducible refine at_new (by assumption) ?_; wtm_at "at0") | (with_reducible refine at_same (by with_reducible assumption) ?_; wtm_at "at0") | (with_reducible apply Off.at; wtm_at "off1"))
local macro_rules | `(tactic| wtm_at "off2") => `(tactic| first | with_reducible assumption | (with_reducible apply Off.mk; wtm_at "pen"; assumption) | (with_reducible refine Off.new (by assumption) _ _ ?_; wtm_at "off1") | (with_reducible refine at_same (by with_reducible assumption) ?_; wtm_at "off1"))
local macro_rules | `(tactic| wtm_at "at2") => `(tactic| first | with_reducible assumption | with_reducible exact upd_same | (with_reducible refine at_new (by assumption) ?_; wtm_at "at1") | (with_reducible refine at_same (by with_reducible assumption) ?_; wtm_at "at1") | (with_reducible apply Off.at; wtm_at "off2"))
local macro_rules | `(tactic| wtm_at "off3") => `(tactic| first | with_reducible assumption | (with_reducible apply Off.mk; wtm_at "pen"; assumption) | (with_reducible refine Off.new (by assumption) _ _ ?_; wtm_at "off2") | (with_reducible refine at_same (by with_reducible assumption) ?_; wtm_at "off2"))
local macro_rules | `(tactic| wtm_at "at3") => `(tactic| first | with_reducible assumption | with_reducible exact upd_same | (with_reducible refine at_new (by assumption) ?_; wtm_at "at2") | (with_reducible refine at_same (by with_reducible assumption) ?_; wtm_at "at2") | (with_reducible apply Off.at; wtm_at "off3"))
local macro_rules | `(tactic| wtm_at "off4") => `(tactic| first | with_reducible assumption | (with_reducible apply Off.mk; wtm_at "pen"; assumption) | (with_reducible refine Off.new (by assumption) _ _ ?_; wtm_at "off3") | (with_reducible refine at_same (by with_reducible assumption) ?_; wtm_at "off3"))
local macro_rules | `(tactic| wtm_at "at4") => `(tactic| first | with_reducible assumption | with_reducible exact upd_same | (with_reducible refine at_new (by assumption) ?_; wtm_at "at3") | (with_reducible refine at_same (by with_reducible assumption) ?_; wtm_at "at3") | (with_reducible apply Off.at; wtm_at "off4"))
local macro_rules | `(tactic| wtm_at "off5") => `(tactic| first | with_reducible assumption | (with_reducible apply Off.mk; wtm_at "pen"; assumption) | (with_reducible refine Off.new (by assumption) _ _ ?_; wtm_at "off4") | (with_reducible refine at_same (by with_reducible assumption) ?_; wtm_at "off4"))
local macro_rules | `(tactic| wtm_at "at5") => `(tactic| first | with_reducible assumption | with_reducible exact upd_same | (with_reducible refine at_new (by assumption) ?_; wtm_at "at4") | (with_reducible refine at_same (by with_reducible assumption) ?_; wtm_at "at4") | (with_reducible apply Off.at; wtm_at "off5"))
local macro_rules | `(tactic| wtm_at "off6") => `(tactic| first | with_reducible assumption | (with_reducible apply Off.mk; wtm_at "pen"; assumption) | (with_reducible refine Off.new (by assumption) _ _ ?_; wtm_at "off5") | (with_reducible refine at_same (by with_reducible assumption) ?_; wtm_at "off5"))
local macro_rules | `(tactic| wtm_at "at6") => `(tactic| first | with_reducible assumption | with_reducible exact upd_same | (with_reducible refine at_new (by assumption) ?_; wtm_at "at5") | (with_reducible refine at_same (by with_reducible assumption) ?_; wtm_at "at5") | (with_reducible apply Off.at; wtm_at "off6"))
local macro_rules | `(tactic| wtm_at "off7") => `(tactic| first | with_reducible assumption | (with_reducible apply Off.mk; wtm_at "pen"; assumption) | (with_reducible refine Off.new (by assumption) _ _ ?_; wtm_at "off6") | (with_reducible refine at_same (by with_reducible assumption) ?_; wtm_at "off6"))
local macro_rules | `(tactic| wtm_at "at7") => `(tactic| first | with_reducible assumption | with_reducible exact upd_same | (with_reducible refine at_new (by assumption) ?_; wtm_at "at6") | (with_reducible refine at_same (by with_reducible assumption) ?_; wtm_at "at6") | (with_reducible apply Off.at; wtm_at "off7"))
local macro_rules | `(tactic| wtm_at "off8") => `(tactic| first | with_reducible assumption | (with_reducible apply Off.mk; wtm_at "pen"; assumption) | (with_reducible refine Off.new (by assumption) _ _ ?_; wtm_at "off7") | (with_reducible refine at_same (by with_reducible assumption) ?_; wtm_at "off7"))
local macro_rules | `(tactic| wtm_at "at8") => `(tactic| first | with_reducible assumption | with_reducible exact upd_same | (with_reducible refine at_new (by assumption) ?_; wtm_at "at7") | (with_reducible refine at_same (by with_reducible assumption) ?_; wtm_at "at7") | (with_reducible apply Off.at; wtm_at "off8"))
local macro_rules | `(tactic| wtm_at "off9") => `(tactic| first | with_reducible assumption | (with_reducible apply Off.mk; wtm_at "pen"; assumption) | (with_reducible refine Off.new (by assumption) _ _ ?_; wtm_at "off8") | (with_reducible refine at_same (by with_reducible assumption) ?_; wtm_at "off8"))
local macro_rules | `(tactic| wtm_at "at9") => `(tactic| first | with_reducible assumption | with_reducible exact upd_same | (with_reducible refine at_new (by assumption) ?_; wtm_at "at8") | (with_reducible refine at_same (by with_reducible assumption) ?_; wtm_at "at8") | (with_reducible apply Off.at; wtm_at "off9"))
local macro_rules | `(tactic| wtm_at "off10") => `(tactic| first | with_reducible assumption | (with_reducible apply Off.mk; wtm_at "pen"; assumption) | (with_reducible refine Off.new (by assumption) _ _ ?_; wtm_at "off9") | (with_reducible refine at_same (by with_reducible assumption) ?_; wtm_at "off9"))
local macro_rules | `(tactic| wtm_at "at10") => `(tactic| first | with_reducible assumption | with_reducible exact upd_same | (with_reducible refine at_new (by assumption) ?_; wtm_at "at9") | (with_reducible refine at_same (by with_reducible assumption) ?_; wtm_at "at9") | (with_reducible apply Off.at; wtm_at "off10"))
local macro_rules | `(tactic| wtm_at "off11") => `(tactic| first | with_reducible assumption | (with_reducible apply Off.mk; wtm_at "pen"; assumption) | (with_reducible refine Off.new (by assumption) _ _ ?_; wtm_at "off10") | (with_reducible refine at_same (by with_reducible assumption) ?_; wtm_at "off10"))
local macro_rules | `(tactic| wtm_at "at11") => `(tactic| first | with_reducible assumption | with_reducible exact upd_same | (with_reducible refine at_new (by assumption) ?_; wtm_at "at10") | (with_reducible refine at_same (by with_reducible assumption) ?_; wtm_at "at10") | (with_reducible apply Off.at; wtm_at "off11"))
local macro_rules | `(tactic| wtm_at "off12") => `(tactic| first | with_reducible assumption | (with_reducible apply Off.mk; wtm_at "pen"; assumption) | (with_reducible refine Off.new (by assumption) _ _ ?_; wtm_at "off11") | (with_reducible refine at_same (by with_reducible assumption) ?_; wtm_at "off11"))
local macro_rules | `(tactic| wtm_at "at12") => `(tactic| first | with_reducible assumption | with_reducible exact upd_same | (with_reducible refine at_new (by assumption) ?_; wtm_at "at11") | (with_reducible refine at_same (by with_reducible assumption) ?_; wtm_at "at11") | (with_reducible apply Off.at; wtm_at "off12"))
local macro_rules | `(tactic| wtm_at "off13") => `(tactic| first | with_reducible assumption | (with_reducible apply Off.mk; wtm_at "pen"; assumption) | (with_reducible refine Off.new (by assumption) _ _ ?_; wtm_at "off12") | (with_reducible refine at_same (by with_reducible assumption) ?_; wtm_at "off12"))
local macro_rules | `(tactic| wtm_at "at13") => `(tactic| first | with_reducible assumption | with_reducible exact upd_same | (with_reducible refine at_new (by assumption) ?_; wtm_at "at12") | (with_reducible refine at_same (by with_reducible assumption) ?_; wtm_at "at12") | (with_reducible apply Off.at; wtm_at "off13"))
local macro_rules | `(tactic| wtm_at "off14") => `(tactic| first | with_reducible assumption | (with_reducible apply Off.mk; wtm_at "pen"; assumption) | (with_reducible refine Off.new (by assumption) _ _ ?_; wtm_at "off13") | (with_reducible refine at_same (by with_reducible assumption) ?_; wtm_at "off13"))
local macro_rules | `(tactic| wtm_at "at14") => `(tactic| first | with_reducible assumption | with_reducible exact upd_same | (with_reducible refine at_new (by assumption) ?_; wtm_at "at13") | (with_reducible refine at_same (by with_reducible assumption) ?_; wtm_at "at13") | (with_reducible apply Off.at; wtm_at "off14"))
local macro_rules | `(tactic| wtm_at "off15") => `(tactic| first | with_reducible assumption | (with_reducible apply Off.mk; wtm_at "pen"; assumption) | (with_reducible refine Off.new (by assumption) _ _ ?_; wtm_at "off14") | (with_reducible refine at_same (by with_reducible assumption) ?_; wtm_at "off14"))
local macro_rules | `(tactic| wtm_at "at15") => `(tactic| first | with_reducible assumption | with_reducible exact upd_same | (with_reducible refine at_new (by assumption) ?_; wtm_at "at14") | (with_reducible refine at_same (by with_reducible assumption) ?_; wtm_at "at14") | (with_reducible apply Off.at; wtm_at "off15"))
local macro_rules | `(tactic| wtm_at "off16") => `(tactic| first | with_reducible assumption | (with_reducible apply Off.mk; wtm_at "pen"; assumption) | (with_reducible refine Off.new (by assumption) _ _ ?_; wtm_at "off15") | (with_reducible refine at_same (by with_reducible assumption) ?_; wtm_at "off15"))
local macro_rules | `(tactic| wtm_at "at16") => `(tactic| first | with_reducible assumption | with_reducible exact upd_same | (with_reducible refine at_new (by assumption) ?_; wtm_at "at15") | (with_reducible refine at_same (by with_reducible assumption) ?_; wtm_at "at15") | (with_reducible apply Off.at; wtm_at "off16"))
local macro_rules | `(tactic| wtm_at "off17") => `(tactic| first | with_reducible assumption | (with_reducible apply Off.mk; wtm_at "pen"; assumption) | (with_reducible refine Off.new (by assumption) _ _ ?_; wtm_at "off16") | (with_reducible refine at_same (by with_reducible assumption) ?_; wtm_at "off16"))
local macro_rules | `(tactic| wtm_at "at17") => `(tactic| first | with_reducible assumption | with_reducible exact upd_same | (with_reducible refine at_new (by assumption) ?_; wtm_at "at16") | (with_reducible refine at_same (by with_reducible assumption) ?_; wtm_at "at16") | (with_reducible apply Off.at; wtm_at "off17"))
local macro_rules | `(tactic| wtm_at "off18") => `(tactic| first | with_reducible assumption | (with_reducible apply Off.mk; wtm_at "pen"; assumption) | (with_reducible refine Off.new (by assumption) _ _ ?_; wtm_at "off17") | (with_reducible refine at_same (by with_reducible assumption) ?_; wtm_at "off17"))
local macro_rules | `(tactic| wtm_at "at18") => `(tactic| first | with_reducible assumption | with_reducible exact upd_same | (with_reducible refine at_new (by assumption) ?_; wtm_at "at17") | (with_reducible refine at_same (by with_reducible assumption) ?_; wtm_at "at17") | (with_reducible apply Off.at; wtm_at "off18"))
local macro_rules | `(tactic| wtm_at "off19") => `(tactic| first | with_reducible assumption | (with_reducible apply Off.mk; wtm_at "pen"; assumption) | (with_reducible refine Off.new (by assumption) _ _ ?_; wtm_at "off18") | (with_reducible refine at_same (by with_reducible assumption) ?_; wtm_at "off18"))
local macro_rules | `(tactic| wtm_at "at19") => `(tactic| first | with_reducible assumption | with_reducible exact upd_same | (with_reducible refine at_new (by assumption) ?_; wtm_at "at18") | (with_reducible refine at_same (by with_reducible assumption) ?_; wtm_at "at18") | (with_reducible apply Off.at; wtm_at "off19"))
local macro_rules | `(tactic| wtm_at "off20") => `(tactic| first | with_reducible assumption | (with_reducible apply Off.mk; wtm_at "pen"; assumption) | (with_reducible refine Off.new (by assumption) _ _ ?_; wtm_at "off19") | (with_reducible refine at_same (by with_reducible assumption) ?_; wtm_at "off19"))
local macro_rules | `(tactic| wtm_at "at20") => `(tactic| first | with_reducible assumption | with_reducible exact upd_same | (with_reducible refine at_new (by assumption) ?_; wtm_at "at19") | (with_reducible refine at_same (by with_reducible assumption) ?_; wtm_at "at19") | (with_reducible apply Off.at; wtm_at "off20"))
local macro_rules | `(tactic| wtm_at "off21") => `(tactic| first | with_reducible assumption | (with_reducible apply Off.mk; wtm_at "pen"; assumption) | (with_reducible refine Off.new (by assumption) _ _ ?_; wtm_at "off20") | (with_reducible refine at_same (by with_reducible assumption) ?_; wtm_at "off20"))
local macro_rules | `(tactic| wtm_at "at21") => `(tactic| first | with_reducible assumption | with_reducible exact upd_same | (with_reducible refine at_new (by assumption) ?_; wtm_at "at20") | (with_reducible refine at_same (by with_reducible assumption) ?_; wtm_at "at20") | (with_reducible apply Off.at; wtm_at "off21"))
local macro_rules | `(tactic| wtm_at "off22") => `(tactic| first | with_reducible assumption | (with_reducible apply Off.mk; wtm_at "pen"; assumption) | (with_reducible refine Off.new (by assumption) _ _ ?_; wtm_at "off21") | (with_reducible refine at_same (by with_reducible assumption) ?_; wtm_at "off21"))
local macro_rules | `(tactic| wtm_at "at22") => `(tactic| first | with_reducible assumption | with_reducible exact upd_same | (with_reducible refine at_new (by assumption) ?_; wtm_at "at21") | (with_reducible refine at_same (by with_reducible assumption) ?_; wtm_at "at21") | (with_reducible apply Off.at; wtm_at "off22"))
local macro_rules | `(tactic| wtm_at "off23") => `(tactic| first | with_reducible assumption | (with_reducible apply Off.mk; wtm_at "pen"; assumption) | (with_reducible refine Off.new (by assumption) _ _ ?_; wtm_at "off22") | (with_reducible refine at_same (by with_reducible assumption) ?_; wtm_at "off22"))
local macro_rules | `(tactic| wtm_at "at23") => `(tactic| first | with_reducible assumption | with_reducible exact upd_same | (with_reducible refine at_new (by assumption) ?_; wtm_at "at22") | (with_reducible refine at_same (by with_reducible assumption) ?_; wtm_at "at22") | (with_reducible apply Off.at; wtm_at "off23"))
local macro_rules | `(tactic| wtm_at "off24") => `(tactic| first | with_reducible assumption | (with_reducible apply Off.mk; wtm_at "pen"; assumption) | (with_reducible refine Off.new (by assumption) _ _ ?_; wtm_at "off23") | (with_reducible refine at_same (by with_reducible assumption) ?_; wtm_at "off23"))
local macro_rules | `(tactic| wtm_at "at24") => `(tactic| first | with_reducible assumption | with_reducible exact upd_same | (with_reducible refine at_new (by assumption) ?_; wtm_at "at23") | (with_reducible refine at_same (by with_reducible assumption) ?_; wtm_at "at23") | (with_reducible apply Off.at; wtm_at "off24"))
local macro_rules | `(tactic| wtm_at "off25") => `(tactic| first | with_reducible assumption | (with_reducible apply Off.mk; wtm_at "pen"; assumption) | (with_reducible refine Off.new (by assumption) _ _ ?_; wtm_at "off24") | (with_reducible refine at_same (by with_reducible assumption) ?_; wtm_at "off24"))
local macro_rules | `(tactic| wtm_at "at25") => `(tactic| first | with_reducible assumption | with_reducible exact upd_same | (with_reducible refine at_new (by assumption) ?_; wtm_at "at24") | (with_reducible refine at_same (by with_reducible assumption) ?_; wtm_at "at24") | (with_reducible apply Off.at; wtm_at "off25"))
local macro_rules | `(tactic| wtm_at "off26") => `(tactic| first | with_reducible assumption | (with_reducible apply Off.mk; wtm_at "pen"; assumption) | (with_reducible refine Off.new (by assumption) _ _ ?_; wtm_at "off25") | (with_reducible refine at_same (by with_reducible assumption) ?_; wtm_at "off25"))
local macro_rules | `(tactic| wtm_at "at26") => `(tactic| first | with_reducible assumption | with_reducible exact upd_same | (with_reducible refine at_new (by assumption) ?_; wtm_at "at25") | (with_reducible refine at_same (by with_reducible assumption) ?_; wtm_at "at25") | (with_reducible apply Off.at; wtm_at "off26"))
local macro_rules | `(tactic| wtm_at "off27") => `(tactic| first | with_reducible assumption | (with_reducible apply Off.mk; wtm_at "pen"; assumption) | (with_reducible refine Off.new (by assumption) _ _ ?_; wtm_at "off26") | (with_reducible refine at_same (by with_reducible assumption) ?_; wtm_at "off26"))
local macro_rules | `(tactic| wtm_at "at27") => `(tactic| first | with_reducible assumption | with_reducible exact upd_same | (with_reducible refine at_new (by assumption) ?_; wtm_at "at26") | (with_reducible refine at_same (by with_reducible assumption) ?_; wtm_at "at26") | (with_reducible apply Off.at; wtm_at "off27"))
local macro_rules | `(tactic| wtm_at "off28") => `(tactic| first | with_reducible assumption | (with_reducible apply Off.mk; wtm_at "pen"; assumption) | (with_reducible refine Off.new (by assumption) _ _ ?_; wtm_at "off27") | (with_reducible refine at_same (by with_reducible assumption) ?_; wtm_at "off27"))
local macro_rules | `(tactic| wtm_at "at28") => `(tactic| first | with_reducible assumption | with_reducible exact upd_same | (with_reducible refine at_new (by assumption) ?_; wtm_at "at27") | (with_reducible refine at_same (by with_reducible assumption) ?_; wtm_at "at27") | (with_reducible apply Off.at; wtm_at "off28"))
local macro_rules | `(tactic| wtm_at "off29") => `(tactic| first | with_reducible assumption | (with_reducible apply Off.mk; wtm_at "pen"; assumption) | (with_reducible refine Off.new (by assumption) _ _ ?_; wtm_at "off28") | (with_reducible refine at_same (by with_reducible assumption) ?_; wtm_at "off28"))
local macro_rules | `(tactic| wtm_at "at29") => `(tactic| first | with_reducible assumption | with_reducible exact upd_same | (with_reducible refine at_new (by assumption) ?_; wtm_at "at28") | (with_reducible refine at_same (by with_reducible assumption) ?_; wtm_at "at28") | (with_reducible apply Off.at; wtm_at "off29"))
local macro_rules | `(tactic| wtm_at "off30") => `(tactic| first | with_reducible assumption | (with_reducible apply Off.mk; wtm_at "pen"; assumption) | (with_reducible refine Off.new (by assumption) _ _ ?_; wtm_at "off29") | (with_reducible refine at_same (by with_reducible assumption) ?_; wtm_at "off29"))
local macro_rules | `(tactic| wtm_at "at30") => `(tactic| first | with_reducible assumption | with_reducible exact upd_same | (with_reducible refine at_new (by assumption) ?_; wtm_at "at29") | (with_reducible refine at_same (by with_reducible assumption) ?_; wtm_at "at29") | (with_reducible apply Off.at; wtm_at "off30"))
local macro_rules | `(tactic| wtm_at "off31") => `(tactic| first | with_reducible assumption | (with_reducible apply Off.mk; wtm_at "pen"; assumption) | (with_reducible refine Off.new (by assumption) _ _ ?_; wtm_at "off30") | (with_reducible refine at_same (by with_reducible assumption) ?_; wtm_at "off30"))
local macro_rules | `(tactic| wtm_at "at31") => `(tactic| first | with_reducible assumption | with_reducible exact upd_same | (with_reducible refine at_new (by assumption) ?_; wtm_at "at30") | (with_reducible refine at_same (by with_reducible assumption) ?_; wtm_at "at30") | (with_reducible apply Off.at; wtm_at "off31"))
local macro_rules | `(tactic| wtm_at "off32") => `(tactic| first | with_reducible assumption | (with_reducible apply Off.mk; wtm_at "pen"; assumption) | (with_reducible refine Off.new (by assumption) _ _ ?_; wtm_at "off31") | (with_reducible refine at_same (by with_reducible assumption) ?_; wtm_at "off31"))
local macro_rules | `(tactic| wtm_at "at32") => `(tactic| first | with_reducible assumption | with_reducible exact upd_same | (with_reducible refine at_new (by assumption) ?_; wtm_at "at31") | (with_reducible refine at_same (by with_reducible assumption) ?_; wtm_at "at31") | (with_reducible apply Off.at; wtm_at "off32"))
local macro_rules | `(tactic| wtm_at "off33") => `(tactic| first | with_reducible assumption | (with_reducible apply Off.mk; wtm_at "pen"; assumption) | (with_reducible refine Off.new (by assumption) _ _ ?_; wtm_at "off32") | (with_reducible refine at_same (by with_reducible assumption) ?_; wtm_at "off32"))
local macro_rules | `(tactic| wtm_at "at33") => `(tactic| first | with_reducible assumption | with_reducible exact upd_same | (with_reducible refine at_new (by assumption) ?_; wtm_at "at32") | (with_reducible refine at_same (by with_reducible assumption) ?_; wtm_at "at32") | (with_reducible apply Off.at; wtm_at "off33"))
local macro_rules | `(tactic| wtm_at "off34") => `(tactic| first | with_reducible assumption | (with_reducible apply Off.mk; wtm_at "pen"; assumption) | (with_reducible refine Off.new (by assumption) _ _ ?_; wtm_at "off33") | (with_reducible refine at_same (by with_reducible assumption) ?_; wtm_at "off33"))
local macro_rules | `(tactic| wtm_at "at34") => `(tactic| first | with_reducible assumption | with_reducible exact upd_same | (with_reducible refine at_new (by assumption) ?_; wtm_at "at33") | (with_reducible refine at_same (by with_reducible assumption) ?_; wtm_at "at33") | (with_reducible apply Off.at; wtm_at "off34"))
local macro_rules | `(tactic| wtm_at "off35") => `(tactic| first | with_reducible assumption | (with_reducible apply Off.mk; wtm_at "pen"; assumption) | (with_reducible refine Off.new (by assumption) _ _ ?_; wtm_at "off34") | (with_reducible refine at_same (by with_reducible assumption) ?_; wtm_at "off34"))
local macro_rules | `(tactic| wtm_at "at35") => `(tactic| first | with_reducible assumption | with_reducible exact upd_same | (with_reducible refine at_new (by assumption) ?_; wtm_at "at34") | (with_reducible refine at_same (by with_reducible assumption) ?_; wtm_at "at34") | (with_reducible apply Off.at; wtm_at "off35"))
local macro_rules | `(tactic| wtm_at "off36") => `(tactic| first | with_reducible assumption | (with_reducible apply Off.mk; wtm_at "pen"; assumption) | (with_reducible refine Off.new (by assumption) _ _ ?_; wtm_at "off35") | (with_reducible refine at_same (by with_reducible assumption) ?_; wtm_at "off35"))
local macro_rules | `(tactic| wtm_at "at36") => `(tactic| first | with_reducible assumption | with_reducible exact upd_same | (with_reducible refine at_new (by assumption) ?_; wtm_at "at35") | (with_reducible refine at_same (by with_reducible assumption) ?_; wtm_at "at35") | (with_reducible apply Off.at; wtm_at "off36"))
local macro_rules | `(tactic| wtm_at "off37") => `(tactic| first | with_reducible assumption | (with_reducible apply Off.mk; wtm_at "pen"; assumption) | (with_reducible refine Off.new (by assumption) _ _ ?_; wtm_at "off36") | (with_reducible refine at_same (by with_reducible assumption) ?_; wtm_at "off36"))
local macro_rules | `(tactic| wtm_at "at37") => `(tactic| first | with_reducible assumption | with_reducible exact upd_same | (with_reducible refine at_new (by assumption) ?_; wtm_at "at36") | (with_reducible refine at_same (by with_reducible assumption) ?_; wtm_at "at36") | (with_reducible apply Off.at; wtm_at "off37"))
local macro_rules | `(tactic| wtm_at "off38") => `(tactic| first | with_reducible assumption | (with_reducible apply Off.mk; wtm_at "pen"; assumption) | (with_reducible refine Off.new (by assumption) _ _ ?_; wtm_at "off37") | (with_reducible refine at_same (by with_reducible assumption) ?_; wtm_at "off37"))
local macro_rules | `(tactic| wtm_at "at38") => `(tactic| first | with_reducible assumption | with_reducible exact upd_same | (with_reducible refine at_new (by assumption) ?_; wtm_at "at37") | (with_reducible refine at_same (by with_reducible assumption) ?_; wtm_at "at37") | (with_reducible apply Off.at; wtm_at "off38"))
local macro_rules | `(tactic| wtm_at "off39") => `(tactic| first | with_reducible assumption | (with_reducible apply Off.mk; wtm_at "pen"; assumption) | (with_reducible refine Off.new (by assumption) _ _ ?_; wtm_at "off38") | (with_reducible refine at_same (by with_reducible assumption) ?_; wtm_at "off38"))
local macro_rules | `(tactic| wtm_at "at39") => `(tactic| first | with_reducible assumption | with_reducible exact upd_same | (with_reducible refine at_new (by assumption) ?_; wtm_at "at38") | (with_reducible refine at_same (by with_reducible assumption) ?_; wtm_at "at38") | (with_reducible apply Off.at; wtm_at "off39"))
local macro_rules | `(tactic| wtm_at "at") => `(tactic| wtm_at "at39")
local macro_rules | `(tactic| wtm_at "off") => `(tactic| wtm_at "off39")
local macro_rules | `(tactic| wtm_at "pen") => `(tactic| first
  | assumption | (refine Pen.new (by assumption) ?_; wtm_at "pen") | (refine Pen.same (by assumption) ?_; wtm_at "pen"))
local macro_rules | `(tactic| wtm_at "same") => `(tactic| first
  | exact fun _ _ h => h | assumption | exact same_new (by assumption) | (refine same_trans ?_ (same_new (by assumption)); wtm_at "same") | (refine same_trans ?_ (by assumption); wtm_at "same")
  | (refine same_trans ?_ (Off.new (by assumption)); wtm_at "same") | (refine same_trans ?_ (Off.same (by assumption)); wtm_at "same"))
local macro_rules | `(tactic| wtm_at "dps") => `(tactic| first
  | exact .nil | (apply DpAll.cons; wtm_at "dp"; wtm_at "dps") | exact dpAll_ints _)
local macro_rules | `(tactic| wtm_at "dp") => `(tactic| first
  | exact .non | exact .bl _ | exact .int _ | exact .str _ | (fail) | (apply Dp.lst; (apply SqL.of; wtm_at "at"); wtm_at "dps") | (apply Dp.tup; (apply SqT.of; wtm_at "at"); wtm_at "dps"))
local macro_rules | `(tactic| wtm_at "side") => `(tactic| first
  | exact ⟨by decide, by decide⟩ | exact ⟨by decide, by decide, by decide⟩ | exact .inl ⟨by decide, by decide⟩ | exact .inr ⟨by decide, by decide⟩ | (show ¬ _ = _; decide))
local macro_rules | `(tactic| wtm_at "sml") => `(tactic| first
  | exact sml_none (by decide) | exact sml_bool (by decide) | exact sml_int (by decide) (by omega) | (fail) | exact sml_list (n := 19) (k := 0) (by wtm_at "smls") (by decide) (by decide))
local macro_rules | `(tactic| wtm_at "smls") => `(tactic| first | exact smlAll_nil (m := 0) | (apply smlAll_cons; wtm_at "sml"; wtm_at "smls"))
local macro_rules | `(tactic| wtm_at "shw") => `(tactic| exact Sml.shw (n := 10000) (k := 50) (by wtm_at "sml") (by decide) (by decide))
local macro_rules | `(tactic| wtm_at "rd") => `(tactic| first
  | refine ⟨_, rfl, ?_⟩ | refine ⟨_, _, rfl, rfl, ?_⟩ | refine ifT rfl ?_ | refine ifF rfl ?_ | refine ⟨rfl, ?_⟩
  | refine ⟨_, _, by rfl, by wtm_at "dp", by wtm_at "shw", ?_⟩
  | refine ⟨_, _, _, _, _, rfl, by wtm_at "at", by wtm_at "cls", by wtm_at "na", by rfl, ?_⟩
  | refine ⟨_, _, rfl, .inr (SqT.of (by wtm_at "at")), ?_⟩ | refine ⟨_, _, rfl, .inl (SqL.of (by wtm_at "at")), ?_⟩
  | refine ⟨_, _, rfl, .inr (SqT.of (by wtm_at "at")), by rfl, by rfl, ?_⟩ | refine ⟨_, _, rfl, .inl (SqL.of (by wtm_at "at")), by rfl, by rfl, ?_⟩
  | refine ⟨_, _, _, _, rfl, rfl, SqT.of (by wtm_at "at"), by rfl, ?_⟩ | refine ⟨_, _, _, _, rfl, rfl, SqL.of (by wtm_at "at"), by rfl, ?_⟩
  | refine ⟨_, _, rfl, rfl, by wtm_at "side", ?_⟩
  | refine ⟨_, _, by wtm_at "dp", by wtm_at "dp", by first | rfl | decide +kernel, by first | rfl | decide +kernel, ?_⟩
  | refine ⟨_, _, [_, _], [_, _], rfl, rfl, sqI2 (by wtm_at "at"), sqI2 (by wtm_at "at"), ?_⟩
  | refine ⟨_, _, rfl, ?_⟩
  | refine ⟨Nat.le_of_ble_eq_true rfl, fun _ _ => ?_⟩
  | refine ifF (by decide +kernel) ?_ | refine ifF (nd_refl _) ?_ | refine ifT (de_refl _) ?_)
local macro_rules | `(tactic| wtm_at "cls") => `(tactic| first | exact cls_Finding _)
local macro_rules | `(tactic| wtm_at "na") => `(tactic| first | exact na_Finding_word _ | exact na_Finding_fields _)

theorem smlAll_of {n k : Nat} : ∀ {ds : List PyData}, (∀ d ∈ ds, Sml n k d) → SmlAll n k ds.length ds
  | [], _ => smlAll_nil
  | d :: ds, h => smlAll_cons (h d List.mem_cons_self) (smlAll_of fun e he => h e (List.mem_cons_of_mem _ he))
def spMadeF (K : PySem.W.Frag) : Sp := fun vs H Q _ => ∃ (k : Int) (l : Addr) (xs : List V), vs = [.int k, .ref l] ∧ 0 ≤ k ∧ k < 4 ∧ H l = some (.lst xs) ∧ xs.length = 4 ∧ ∀ x dx t H', Same H H' → H' x = some (finO k dx t (xs.take (manyF k))) → H' t = some (.tup (xs.take (manyF k))) → Q (.ref x) H'
def spKept : Sp := fun vs H Q _ => ∃ (k : Int) (a dx t : Addr) (xs : List V), vs = [.int k, .ref a] ∧ 0 ≤ k ∧ k < 4 ∧ H a = some (finO k dx t xs) ∧ xs.length = manyF k ∧ ∀ l, H l = none → Q (.ref l) (upd H l (.lst xs))
def sortsF (k : Int) : List Bool := [decide (k = 0), decide (k = 1), decide (k = 2), decide (k = 3), true]
def spSorts : Sp := fun vs H Q _ => ∃ (k : Int) (a dx t : Addr) (xs : List V), vs = [.ref a] ∧ 0 ≤ k ∧ k < 4 ∧ H a = some (finO k dx t xs) ∧ ∀ l H', Same H H' → H' l = some (.lst ((sortsF k).map V.bl)) → Q (.ref l) H'
/-- fields that were drawn -/
def Flds (K : PySem.W.Frag) (H : Hp) (xs : List V) (ds : List PyData) : Prop := DqAll K H xs ds ∧ ds.length = 4 ∧ ∀ d ∈ ds, FdD d
def spTold (K : PySem.W.Frag) : Sp := fun vs H Q _ => ∃ (k : Int) (l : Addr) (xs : List V) (ds : List PyData), vs = [.int k, .ref l] ∧ 0 ≤ k ∧ k < 4 ∧ H l = some (.lst xs) ∧ Flds K H xs ds ∧ ∀ H', Same H H' → Q (.bl true) H'
section
variable {mg : PySem.Str → Option Value} {base : Heap} {w : World}
theorem own_bool (w : World) (C : Addr) (h : isF C) : Own (hd65.heap_39 w.params) C "__bool__" (boolF C) := by
  rcases h with rfl | rfl | rfl | rfl
  · exact own_Still_bool w
  · exact own_Clash_bool w
  · exact own_Wrong_bool w
  · exact own_Right_bool w
theorem ktp (w : World) (C D : Addr) (h : isF C) (h2 : isF D) : PySem.W.kitOne (hd65.heap_39 w.params) (.ref C) (.ref D) = some (C == D) := by
  have z := List.all_eq_true.mp (List.all_eq_true.mp (kt_all w) C (by rcases h with rfl | rfl | rfl | rfl <;> simp)) D (by rcases h2 with rfl | rfl | rfl | rfl <;> simp)
  exact beq_iff_eq.mp z
theorem ok__law_made (M : Mod (hd65.heap_39 w.params) mg base) : CallG PP w (hd65.heap_39 w.params) mg base 5 (.ref 189) (pos (spMadeF (hd65.heap_39 w.params))) := by
  obtain ⟨fd, F⟩ := fn__law_made w
  refine def_pos F sc__law_made (fun vs H Q E h => ?_) (fun _ _ _ _ _ _ us hl => match us, hl with | [_, _], _ => rfl) (fun cdv A outer s H vs Q E hr hg h => ?_)
  · obtain ⟨k, l, xs, rfl, _⟩ := h; rfl
  have nd := sc__law_made.nd
  obtain ⟨k, l, xs, rfl, hk0, hk4, hl, hx, q⟩ := h
  refine ⟨_, (pss_cons (ps_if (pt_cmpR op_eq (pv 0) pe_int (nomark _)) (pss_one (ps_ret (pe_mkG (takes_of rfl rfl rfl rfl) (mk_Still w) (ok_Still___init__ M) (hr.mono (by decide)) hg rfl (mg_Still M) (pa_cons (pe_ix ix_list (pv 1) pe_int (fun _ _ => rfl)) pa_nil)))) pss_nil)
      (pss_cons (ps_if (pt_cmpR op_eq (pv 0) pe_int (nomark _)) (pss_one (ps_ret (pe_mkG (takes_of rfl rfl rfl rfl) (mk_Clash w) (ok_Clash___init__ M) (hr.mono (by decide)) hg rfl (mg_Clash M) (pa_cons (pe_ix ix_list (pv 1) pe_int (fun _ _ => rfl)) (pa_cons (pe_ix ix_list (pv 1) pe_int (fun _ _ => rfl)) (pa_cons (pe_ix ix_list (pv 1) pe_int (fun _ _ => rfl)) pa_nil)))))) pss_nil)
      (pss_cons (ps_if (pt_cmpR op_eq (pv 0) pe_int (nomark _)) (pss_one (ps_ret (pe_mkG (takes_of rfl rfl rfl rfl) (mk_Wrong w) (ok_Wrong___init__ M) (hr.mono (by decide)) hg rfl (mg_Wrong M) (pa_cons (pe_ix ix_list (pv 1) pe_int (fun _ _ => rfl)) (pa_cons (pe_ix ix_list (pv 1) pe_int (fun _ _ => rfl)) (pa_cons (pe_ix ix_list (pv 1) pe_int (fun _ _ => rfl)) pa_nil)))))) pss_nil)
      (pss_one (ps_ret (pe_mkG (takes_of rfl rfl rfl rfl) (mk_Right w) (ok_Right___init__ M) (hr.mono (by decide)) hg rfl (mg_Right M) (pa_cons (pe_ix ix_list (pv 1) pe_int (fun _ _ => rfl)) (pa_cons (pe_ix ix_list (pv 1) pe_int (fun _ _ => rfl)) (pa_cons (pe_ix ix_list (pv 1) pe_int (fun _ _ => rfl)) (pa_cons (pe_ix ix_list (pv 1) pe_int (fun _ _ => rfl)) pa_nil)))))))))), ?_⟩
  obtain ⟨x0, x1, x2, x3, rfl⟩ : ∃ x0 x1 x2 x3, xs = [x0, x1, x2, x3] := by
    match xs, hx with
    | [x0, x1, x2, x3], _ => exact ⟨x0, x1, x2, x3, rfl⟩
  obtain rfl | rfl | rfl | rfl : k = 0 ∨ k = 1 ∨ k = 2 ∨ k = 3 := by omega
  · refine ⟨_, rfl, rfl, _, rfl, ifT rfl ?_⟩
    exact ⟨_, rfl, l, _, 0, x0, rfl, rfl, SqL.of hl, rfl, rfl, mkF ⟨rfl, fun x dx t H2 s hx ht => q x dx t H2 s hx ht⟩⟩
  · refine ⟨_, rfl, rfl, _, rfl, ifF rfl ?_⟩
    refine ⟨_, rfl, rfl, _, rfl, ifT rfl ?_⟩
    exact ⟨_, rfl, l, _, 0, x0, rfl, rfl, SqL.of hl, rfl, _, rfl, l, _, 1, x1, rfl, rfl, SqL.of hl, rfl, _, rfl, l, _, 2, x2, rfl, rfl, SqL.of hl, rfl, rfl, mkF ⟨rfl, fun x dx t H2 s hx ht => q x dx t H2 s hx ht⟩⟩
  · refine ⟨_, rfl, rfl, _, rfl, ifF rfl ?_⟩
    refine ⟨_, rfl, rfl, _, rfl, ifF rfl ?_⟩
    refine ⟨_, rfl, rfl, _, rfl, ifT rfl ?_⟩
    exact ⟨_, rfl, l, _, 0, x0, rfl, rfl, SqL.of hl, rfl, _, rfl, l, _, 1, x1, rfl, rfl, SqL.of hl, rfl, _, rfl, l, _, 2, x2, rfl, rfl, SqL.of hl, rfl, rfl, mkF ⟨rfl, fun x dx t H2 s hx ht => q x dx t H2 s hx ht⟩⟩
  · refine ⟨_, rfl, rfl, _, rfl, ifF rfl ?_⟩
    refine ⟨_, rfl, rfl, _, rfl, ifF rfl ?_⟩
    refine ⟨_, rfl, rfl, _, rfl, ifF rfl ?_⟩
    exact ⟨_, rfl, l, _, 0, x0, rfl, rfl, SqL.of hl, rfl, _, rfl, l, _, 1, x1, rfl, rfl, SqL.of hl, rfl, _, rfl, l, _, 2, x2, rfl, rfl, SqL.of hl, rfl, _, rfl, l, _, 3, x3, rfl, rfl, SqL.of hl, rfl, rfl, mkF ⟨rfl, fun x dx t H2 s hx ht => q x dx t H2 s hx ht⟩⟩
theorem ok__law_kept (M : Mod (hd65.heap_39 w.params) mg base) : CallG PP w (hd65.heap_39 w.params) mg base 1 (.ref 196) (pos spKept) := by
  obtain ⟨fd, F⟩ := fn__law_kept w
  refine def_pos F sc__law_kept (fun vs H Q E h => ?_) (fun _ _ _ _ _ _ us hl => match us, hl with | [_, _], _ => rfl) (fun cdv A outer s H vs Q E hr hg h => ?_)
  · obtain ⟨k, a, dx, t, xs, rfl, _⟩ := h; rfl
  have nd := sc__law_kept.nd
  obtain ⟨k, a, dx, t, xs, rfl, hk0, hk4, ha, hx, q⟩ := h
  refine ⟨_, (pss_cons (ps_if (pt_cmpR op_eq (pv 0) pe_int (nomark _)) (pss_one (ps_ret (pe_lst (pa_cons (pe_fld (pv 1) rfl) pa_nil)))) pss_nil)
      (pss_cons (ps_if (pt_cmpR op_eq (pv 0) pe_int (nomark _)) (pss_one (ps_ret (pe_lst (pa_cons (pe_fld (pv 1) rfl) (pa_cons (pe_fld (pv 1) rfl) (pa_cons (pe_fld (pv 1) rfl) pa_nil)))))) pss_nil)
      (pss_cons (ps_if (pt_cmpR op_eq (pv 0) pe_int (nomark _)) (pss_one (ps_ret (pe_lst (pa_cons (pe_fld (pv 1) rfl) (pa_cons (pe_fld (pv 1) rfl) (pa_cons (pe_fld (pv 1) rfl) pa_nil)))))) pss_nil)
      (pss_one (ps_ret (pe_lst (pa_cons (pe_fld (pv 1) rfl) (pa_cons (pe_fld (pv 1) rfl) (pa_cons (pe_fld (pv 1) rfl) (pa_cons (pe_fld (pv 1) rfl) pa_nil)))))))))), ?_⟩
  obtain rfl | rfl | rfl | rfl : k = 0 ∨ k = 1 ∨ k = 2 ∨ k = 3 := by omega
  · obtain ⟨x0, rfl⟩ : ∃ x0, xs = [x0] := by
      match xs, hx with
      | [x0], _ => exact ⟨x0, rfl⟩
    refine ⟨_, rfl, rfl, _, rfl, ifT rfl ?_⟩
    exact ⟨_, rfl, a, 75, dx, _, x0, rfl, ha, cls_Still w, na_Still_ring w, rfl, Nat.le_of_ble_eq_true rfl, fun l hl => q l hl⟩
  · obtain ⟨x0, x1, x2, rfl⟩ : ∃ x0 x1 x2, xs = [x0, x1, x2] := by
      match xs, hx with
      | [x0, x1, x2], _ => exact ⟨x0, x1, x2, rfl⟩
    refine ⟨_, rfl, rfl, _, rfl, ifF rfl ?_⟩
    refine ⟨_, rfl, rfl, _, rfl, ifT rfl ?_⟩
    exact ⟨_, rfl, a, 103, dx, _, x0, rfl, ha, cls_Clash w, na_Clash_one w, rfl, _, rfl, a, 103, dx, _, x1, rfl, ha, cls_Clash w, na_Clash_other w, rfl, _, rfl, a, 103, dx, _, x2, rfl, ha, cls_Clash w, na_Clash_run w, rfl, Nat.le_of_ble_eq_true rfl, fun l hl => q l hl⟩
  · obtain ⟨x0, x1, x2, rfl⟩ : ∃ x0 x1 x2, xs = [x0, x1, x2] := by
      match xs, hx with
      | [x0, x1, x2], _ => exact ⟨x0, x1, x2, rfl⟩
    refine ⟨_, rfl, rfl, _, rfl, ifF rfl ?_⟩
    refine ⟨_, rfl, rfl, _, rfl, ifF rfl ?_⟩
    refine ⟨_, rfl, rfl, _, rfl, ifT rfl ?_⟩
    exact ⟨_, rfl, a, 131, dx, _, x0, rfl, ha, cls_Wrong w, na_Wrong_rows w, rfl, _, rfl, a, 131, dx, _, x1, rfl, ha, cls_Wrong w, na_Wrong_eager w, rfl, _, rfl, a, 131, dx, _, x2, rfl, ha, cls_Wrong w, na_Wrong_whole w, rfl, Nat.le_of_ble_eq_true rfl, fun l hl => q l hl⟩
  · obtain ⟨x0, x1, x2, x3, rfl⟩ : ∃ x0 x1 x2 x3, xs = [x0, x1, x2, x3] := by
      match xs, hx with
      | [x0, x1, x2, x3], _ => exact ⟨x0, x1, x2, x3, rfl⟩
    refine ⟨_, rfl, rfl, _, rfl, ifF rfl ?_⟩
    refine ⟨_, rfl, rfl, _, rfl, ifF rfl ?_⟩
    refine ⟨_, rfl, rfl, _, rfl, ifF rfl ?_⟩
    exact ⟨_, rfl, a, 159, dx, _, x0, rfl, ha, cls_Right w, na_Right_steps w, rfl, _, rfl, a, 159, dx, _, x1, rfl, ha, cls_Right w, na_Right_ways w, rfl, _, rfl, a, 159, dx, _, x2, rfl, ha, cls_Right w, na_Right_eager w, rfl, _, rfl, a, 159, dx, _, x3, rfl, ha, cls_Right w, na_Right_whole w, rfl, Nat.le_of_ble_eq_true rfl, fun l hl => q l hl⟩
theorem ok__law_sorts (M : Mod (hd65.heap_39 w.params) mg base) : CallG PP w (hd65.heap_39 w.params) mg base 1 (.ref 203) (pos spSorts) := by
  obtain ⟨fd, F⟩ := fn__law_sorts w
  refine def_pos F sc__law_sorts (fun vs H Q E h => ?_) (fun _ _ _ _ _ _ us hl => match us, hl with | [_], _ => rfl) (fun cdv A outer s H vs Q E hr hg h => ?_)
  · obtain ⟨k, a, dx, t, xs, rfl, _⟩ := h; rfl
  have nd := sc__law_sorts.nd
  obtain ⟨k, a, dx, t, xs, rfl, hk0, hk4, ha, q⟩ := h
  refine ⟨_, (pss_cons (ps_set (i := 1) nd rfl (.inl rfl) (pe_lst (pa_cons (pe_callB call_isi (by rfl) (mn_isinstance M) (by decide +kernel) (pa_cons (pv 0) (pa_cons (pe_glob (v := .ref 75) rfl (mg_Still M) rfl) pa_nil))) (pa_cons (pe_callB call_isi (by rfl) (mn_isinstance M) (by decide +kernel) (pa_cons (pv 0) (pa_cons (pe_glob (v := .ref 103) rfl (mg_Clash M) rfl) pa_nil))) (pa_cons (pe_callB call_isi (by rfl) (mn_isinstance M) (by decide +kernel) (pa_cons (pv 0) (pa_cons (pe_glob (v := .ref 131) rfl (mg_Wrong M) rfl) pa_nil))) pa_nil)))))
      (pss_one (ps_ret (pe_op op_cat (pv 1) (pe_lst (pa_cons (pe_callB call_isi (by rfl) (mn_isinstance M) (by decide +kernel) (pa_cons (pv 0) (pa_cons (pe_glob (v := .ref 159) rfl (mg_Right M) rfl) pa_nil))) (pa_cons (pe_callB call_isi (by rfl) (mn_isinstance M) (by decide +kernel) (pa_cons (pv 0) (pa_cons (pe_glob (v := .ref 45) rfl (mg_Finding M) rfl) pa_nil))) pa_nil))))))), ?_⟩
  obtain rfl | rfl | rfl | rfl : k = 0 ∨ k = 1 ∨ k = 2 ∨ k = 3 := by omega
  · have ha : H a = some (.ins 75 dx _) := ha
    refine ⟨_, rfl, _, _, _, _, _, rfl, .own 75, (tyc_Still w).ty ha, ktp w 75 75 (.inl rfl) (.inl rfl), ?_⟩
    refine ⟨_, rfl, _, _, _, _, _, rfl, .own 103, (tyc_Still w).ty ha, ktp w 75 103 (.inl rfl) (.inr (.inl rfl)), ?_⟩
    refine ⟨_, rfl, _, _, _, _, _, rfl, .own 131, (tyc_Still w).ty ha, ktp w 75 131 (.inl rfl) (.inr (.inr (.inl rfl))), ?_⟩
    refine ⟨Nat.le_of_ble_eq_true rfl, fun z1 h1 => ⟨_, rfl, ?_⟩⟩
    refine ⟨_, rfl, _, _, _, _, _, rfl, .own 159, (tyc_Still w).ty (at_new h1 ha), ktp w 75 159 (.inl rfl) (.inr (.inr (.inr rfl))), ?_⟩
    refine ⟨_, rfl, _, _, _, _, _, rfl, .own 45, (tyc_Still w).ty (at_new h1 ha), kt_fin' w 75 (.inl rfl), ?_⟩
    refine ⟨Nat.le_of_ble_eq_true rfl, fun z2 h2 => ?_⟩
    refine ⟨z1, z2, _, _, rfl, rfl, at_new h2 upd_same, upd_same, Nat.le_of_ble_eq_true rfl, fun z3 h3 => ?_⟩
    exact q z3 _ (same_trans (same_new h1) (same_trans (same_new h2) (same_new h3))) upd_same
  · have ha : H a = some (.ins 103 dx _) := ha
    refine ⟨_, rfl, _, _, _, _, _, rfl, .own 75, (tyc_Clash w).ty ha, ktp w 103 75 (.inr (.inl rfl)) (.inl rfl), ?_⟩
    refine ⟨_, rfl, _, _, _, _, _, rfl, .own 103, (tyc_Clash w).ty ha, ktp w 103 103 (.inr (.inl rfl)) (.inr (.inl rfl)), ?_⟩
    refine ⟨_, rfl, _, _, _, _, _, rfl, .own 131, (tyc_Clash w).ty ha, ktp w 103 131 (.inr (.inl rfl)) (.inr (.inr (.inl rfl))), ?_⟩
    refine ⟨Nat.le_of_ble_eq_true rfl, fun z1 h1 => ⟨_, rfl, ?_⟩⟩
    refine ⟨_, rfl, _, _, _, _, _, rfl, .own 159, (tyc_Clash w).ty (at_new h1 ha), ktp w 103 159 (.inr (.inl rfl)) (.inr (.inr (.inr rfl))), ?_⟩
    refine ⟨_, rfl, _, _, _, _, _, rfl, .own 45, (tyc_Clash w).ty (at_new h1 ha), kt_fin' w 103 (.inr (.inl rfl)), ?_⟩
    refine ⟨Nat.le_of_ble_eq_true rfl, fun z2 h2 => ?_⟩
    refine ⟨z1, z2, _, _, rfl, rfl, at_new h2 upd_same, upd_same, Nat.le_of_ble_eq_true rfl, fun z3 h3 => ?_⟩
    exact q z3 _ (same_trans (same_new h1) (same_trans (same_new h2) (same_new h3))) upd_same
  · have ha : H a = some (.ins 131 dx _) := ha
    refine ⟨_, rfl, _, _, _, _, _, rfl, .own 75, (tyc_Wrong w).ty ha, ktp w 131 75 (.inr (.inr (.inl rfl))) (.inl rfl), ?_⟩
    refine ⟨_, rfl, _, _, _, _, _, rfl, .own 103, (tyc_Wrong w).ty ha, ktp w 131 103 (.inr (.inr (.inl rfl))) (.inr (.inl rfl)), ?_⟩
    refine ⟨_, rfl, _, _, _, _, _, rfl, .own 131, (tyc_Wrong w).ty ha, ktp w 131 131 (.inr (.inr (.inl rfl))) (.inr (.inr (.inl rfl))), ?_⟩
    refine ⟨Nat.le_of_ble_eq_true rfl, fun z1 h1 => ⟨_, rfl, ?_⟩⟩
    refine ⟨_, rfl, _, _, _, _, _, rfl, .own 159, (tyc_Wrong w).ty (at_new h1 ha), ktp w 131 159 (.inr (.inr (.inl rfl))) (.inr (.inr (.inr rfl))), ?_⟩
    refine ⟨_, rfl, _, _, _, _, _, rfl, .own 45, (tyc_Wrong w).ty (at_new h1 ha), kt_fin' w 131 (.inr (.inr (.inl rfl))), ?_⟩
    refine ⟨Nat.le_of_ble_eq_true rfl, fun z2 h2 => ?_⟩
    refine ⟨z1, z2, _, _, rfl, rfl, at_new h2 upd_same, upd_same, Nat.le_of_ble_eq_true rfl, fun z3 h3 => ?_⟩
    exact q z3 _ (same_trans (same_new h1) (same_trans (same_new h2) (same_new h3))) upd_same
  · have ha : H a = some (.ins 159 dx _) := ha
    refine ⟨_, rfl, _, _, _, _, _, rfl, .own 75, (tyc_Right w).ty ha, ktp w 159 75 (.inr (.inr (.inr rfl))) (.inl rfl), ?_⟩
    refine ⟨_, rfl, _, _, _, _, _, rfl, .own 103, (tyc_Right w).ty ha, ktp w 159 103 (.inr (.inr (.inr rfl))) (.inr (.inl rfl)), ?_⟩
    refine ⟨_, rfl, _, _, _, _, _, rfl, .own 131, (tyc_Right w).ty ha, ktp w 159 131 (.inr (.inr (.inr rfl))) (.inr (.inr (.inl rfl))), ?_⟩
    refine ⟨Nat.le_of_ble_eq_true rfl, fun z1 h1 => ⟨_, rfl, ?_⟩⟩
    refine ⟨_, rfl, _, _, _, _, _, rfl, .own 159, (tyc_Right w).ty (at_new h1 ha), ktp w 159 159 (.inr (.inr (.inr rfl))) (.inr (.inr (.inr rfl))), ?_⟩
    refine ⟨_, rfl, _, _, _, _, _, rfl, .own 45, (tyc_Right w).ty (at_new h1 ha), kt_fin' w 159 (.inr (.inr (.inr rfl))), ?_⟩
    refine ⟨Nat.le_of_ble_eq_true rfl, fun z2 h2 => ?_⟩
    refine ⟨z1, z2, _, _, rfl, rfl, at_new h2 upd_same, upd_same, Nat.le_of_ble_eq_true rfl, fun z3 h3 => ?_⟩
    exact q z3 _ (same_trans (same_new h1) (same_trans (same_new h2) (same_new h3))) upd_same
end
end M65

namespace M65
open PySem PySem.Spec PyProof.Rows L2 StX Uk

local macro_rules | `(tactic| wtm_at "off0") => `(tactic| first | with_reducible assumption | (with_reducible apply Off.mk; wtm_at "pen"; assumption))
local macro_rules | `(tactic| wtm_at "at0") => `(tactic| first | with_reducible assumption | with_reducible exact upd_same | (with_reducible apply Off.at; wtm_at "off0"))
local macro_rules | `(tactic| wtm_at "off1") => `(tactic| first | with_reducible assumption | (with_reducible apply Off.mk; wtm_at "pen"; assumption) | (with_reducible refine Off.new (by assumption) _ _ ?_; wtm_at "off0") | (with_reducible refine at_same (by with_reducible assumption) ?_; wtm_at "off0"))
local macro_rules | `(tactic| wtm_at "at1") => `(tactic| first | with_reducible assumption | with_reducible exact upd_same | (with_reducible refine at_new (by assumption) ?_; wtm_at "at0") | (with_reducible refine at_same (by with_reducible assumption) ?_; wtm_at "at0") | (with_reducible apply Off.at; wtm_at "off1"))
local macro_rules | `(tactic| wtm_at "off2") => `(tactic| first | with_reducible assumption | (with_reducible apply Off.mk; wtm_at "pen"; assumption) | (with_reducible refine Off.new (by assumption) _ _ ?_; wtm_at "off1") | (with_reducible refine at_same (by with_reducible assumption) ?_; wtm_at "off1"))
local macro_rules | `(tactic| wtm_at "at2") => `(tactic| first | with_reducible assumption | with_reducible exact upd_same | (with_reducible refine at_new (by assumption) ?_; wtm_at "at1") | (with_reducible refine at_same (by with_reducible assumption) ?_; wtm_at "at1") | (with_reducible apply Off.at; wtm_at "off2"))
local macro_rules | `(tactic| wtm_at "off3") => `(tactic| first | with_reducible assumption | (with_reducible apply Off.mk; wtm_at "pen"; assumption) | (with_reducible refine Off.new (by assumption) _ _ ?_; wtm_at "off2") | (with_reducible refine at_same (by with_reducible assumption) ?_; wtm_at "off2"))
local macro_rules | `(tactic| wtm_at "at3") => `(tactic| first | with_reducible assumption | with_reducible exact upd_same | (with_reducible refine at_new (by assumption) ?_; wtm_at "at2") | (with_reducible refine at_same (by with_reducible assumption) ?_; wtm_at "at2") | (with_reducible apply Off.at; wtm_at "off3"))
local macro_rules | `(tactic| wtm_at "off4") => `(tactic| first | with_reducible assumption | (with_reducible apply Off.mk; wtm_at "pen"; assumption) | (with_reducible refine Off.new (by assumption) _ _ ?_; wtm_at "off3") | (with_reducible refine at_same (by with_reducible assumption) ?_; wtm_at "off3"))
local macro_rules | `(tactic| wtm_at "at4") => `(tactic| first | with_reducible assumption | with_reducible exact upd_same | (with_reducible refine at_new (by assumption) ?_; wtm_at "at3") | (with_reducible refine at_same (by with_reducible assumption) ?_; wtm_at "at3") | (with_reducible apply Off.at; wtm_at "off4"))
local macro_rules | `(tactic| wtm_at "off5") => `(tactic| first | with_reducible assumption | (with_reducible apply Off.mk; wtm_at "pen"; assumption) | (with_reducible refine Off.new (by assumption) _ _ ?_; wtm_at "off4") | (with_reducible refine at_same (by with_reducible assumption) ?_; wtm_at "off4"))
local macro_rules | `(tactic| wtm_at "at5") => `(tactic| first | with_reducible assumption | with_reducible exact upd_same | (with_reducible refine at_new (by assumption) ?_; wtm_at "at4") | (with_reducible refine at_same (by with_reducible assumption) ?_; wtm_at "at4") | (with_reducible apply Off.at; wtm_at "off5"))
local macro_rules | `(tactic| wtm_at "off6") => `(tactic| first | with_reducible assumption | (with_reducible apply Off.mk; wtm_at "pen"; assumption) | (with_reducible refine Off.new (by assumption) _ _ ?_; wtm_at "off5") | (with_reducible refine at_same (by with_reducible assumption) ?_; wtm_at "off5"))
local macro_rules | `(tactic| wtm_at "at6") => `(tactic| first | with_reducible assumption | with_reducible exact upd_same | (with_reducible refine at_new (by assumption) ?_; wtm_at "at5") | (with_reducible refine at_same (by with_reducible assumption) ?_; wtm_at "at5") | (with_reducible apply Off.at; wtm_at "off6"))
local macro_rules | `(tactic| wtm_at "off7") => `(tactic| first | with_reducible assumption | (with_reducible apply Off.mk; wtm_at "pen"; assumption) | (with_reducible refine Off.new (by assumption) _ _ ?_; wtm_at "off6") | (with_reducible refine at_same (by with_reducible assumption) ?_; wtm_at "off6"))
local macro_rules | `(tactic| wtm_at "at7") => `(tactic| first | with_reducible assumption | with_reducible exact upd_same | (with_reducible refine at_new (by assumption) ?_; wtm_at "at6") | (with_reducible refine at_same (by with_reducible assumption) ?_; wtm_at "at6") | (with_reducible apply Off.at; wtm_at "off7"))
local macro_rules | `(tactic| wtm_at "off8") => `(tactic| first | with_reducible assumption | (with_reducible apply Off.mk; wtm_at "pen"; assumption) | (with_reducible refine Off.new (by assumption) _ _ ?_; wtm_at "off7") | (with_reducible refine at_same (by with_reducible assumption) ?_; wtm_at "off7"))
local macro_rules | `(tactic| wtm_at "at8") => `(tactic| first | with_reducible assumption | with_reducible exact upd_same | (with_reducible refine at_new (by assumption) ?_; wtm_at "at7") | (with_reducible refine at_same (by with_reducible assumption) ?_; wtm_at "at7") | (with_reducible apply Off.at; wtm_at "off8"))
local macro_rules | `(tactic| wtm_at "off9") => `(tactic| first | with_reducible assumption | (with_reducible apply Off.mk; wtm_at "pen"; assumption) | (with_reducible refine Off.new (by assumption) _ _ ?_; wtm_at "off8") | (with_reducible refine at_same (by with_reducible assumption) ?_; wtm_at "off8"))
local macro_rules | `(tactic| wtm_at "at9") => `(tactic| first | with_reducible assumption | with_reducible exact upd_same | (with_reducible refine at_new (by assumption) ?_; wtm_at "at8") | (with_reducible refine at_same (by with_reducible assumption) ?_; wtm_at "at8") | (with_reducible apply Off.at; wtm_at "off9"))
local macro_rules | `(tactic| wtm_at "off10") => `(tactic| first | with_reducible assumption | (with_reducible apply Off.mk; wtm_at "pen"; assumption) | (with_reducible refine Off.new (by assumption) _ _ ?_; wtm_at "off9") | (with_reducible refine at_same (by with_reducible assumption) ?_; wtm_at "off9"))
local macro_rules | `(tactic| wtm_at "at10") => `(tactic| first | with_reducible assumption | with_reducible exact upd_same | (with_reducible refine at_new (by assumption) ?_; wtm_at "at9") | (with_reducible refine at_same (by with_reducible assumption) ?_; wtm_at "at9") | (with_reducible apply Off.at; wtm_at "off10"))
local macro_rules | `(tactic| wtm_at "off11") => `(tactic| first | with_reducible assumption | (with_reducible apply Off.mk; wtm_at "pen"; assumption) | (with_reducible refine Off.new (by assumption) _ _ ?_; wtm_at "off10") | (with_reducible refine at_same (by with_reducible assumption) ?_; wtm_at "off10"))
local macro_rules | `(tactic| wtm_at "at11") => `(tactic| first | with_reducible assumption | with_reducible exact upd_same | (with_reducible refine at_new (by assumption) ?_; wtm_at "at10") | (with_reducible refine at_same (by with_reducible assumption) ?_; wtm_at "at10") | (with_reducible apply Off.at; wtm_at "off11"))
local macro_rules | `(tactic| wtm_at "off12") => `(tactic| first | with_reducible assumption | (with_reducible apply Off.mk; wtm_at "pen"; assumption) | (with_reducible refine Off.new (by assumption) _ _ ?_; wtm_at "off11") | (with_reducible refine at_same (by with_reducible assumption) ?_; wtm_at "off11"))
local macro_rules | `(tactic| wtm_at "at12") => `(tactic| first | with_reducible assumption | with_reducible exact upd_same | (with_reducible refine at_new (by assumption) ?_; wtm_at "at11") | (with_reducible refine at_same (by with_reducible assumption) ?_; wtm_at "at11") | (with_reducible apply Off.at; wtm_at "off12"))
local macro_rules | `(tactic| wtm_at "off13") => `(tactic| first | with_reducible assumption | (with_reducible apply Off.mk; wtm_at "pen"; assumption) | (with_reducible refine Off.new (by assumption) _ _ ?_; wtm_at "off12") | (with_reducible refine at_same (by with_reducible assumption) ?_; wtm_at "off12"))
local macro_rules | `(tactic| wtm_at "at13") => `(tactic| first | with_reducible assumption | with_reducible exact upd_same | (with_reducible refine at_new (by assumption) ?_; wtm_at "at12") | (with_reducible refine at_same (by with_reducible assumption) ?_; wtm_at "at12") | (with_reducible apply Off.at; wtm_at "off13"))
local macro_rules | `(tactic| wtm_at "off14") => `(tactic| first | with_reducible assumption | (with_reducible apply Off.mk; wtm_at "pen"; assumption) | (with_reducible refine Off.new (by assumption) _ _ ?_; wtm_at "off13") | (with_reducible refine at_same (by with_reducible assumption) ?_; wtm_at "off13"))
local macro_rules | `(tactic| wtm_at "at14") => `(tactic| first | with_reducible assumption | with_reducible exact upd_same | (with_reducible refine at_new (by assumption) ?_; wtm_at "at13") | (with_reducible refine at_same (by with_reducible assumption) ?_; wtm_at "at13") | (with_reducible apply Off.at; wtm_at "off14"))
local macro_rules | `(tactic| wtm_at "off15") => `(tactic| first | with_reducible assumption | (with_reducible apply Off.mk; wtm_at "pen"; assumption) | (with_reducible refine Off.new (by assumption) _ _ ?_; wtm_at "off14") | (with_reducible refine at_same (by with_reducible assumption) ?_; wtm_at "off14"))
local macro_rules | `(tactic| wtm_at "at15") => `(tactic| first | with_reducible assumption | with_reducible exact upd_same | (with_reducible refine at_new (by assumption) ?_; wtm_at "at14") | (with_reducible refine at_same (by with_reducible assumption) ?_; wtm_at "at14") | (with_reducible apply Off.at; wtm_at "off15"))
local macro_rules | `(tactic| wtm_at "off16") => `(tactic| first | with_reducible assumption | (with_reducible apply Off.mk; wtm_at "pen"; assumption) | (with_reducible refine Off.new (by assumption) _ _ ?_; wtm_at "off15") | (with_reducible refine at_same (by with_reducible assumption) ?_; wtm_at "off15"))
local macro_rules | `(tactic| wtm_at "at16") => `(tactic| first | with_reducible assumption | with_reducible exact upd_same | (with_reducible refine at_new (by assumption) ?_; wtm_at "at15") | (with_reducible refine at_same (by with_reducible assumption) ?_; wtm_at "at15") | (with_reducible apply Off.at; wtm_at "off16"))
local macro_rules | `(tactic| wtm_at "off17") => `(tactic| first | with_reducible assumption | (with_reducible apply Off.mk; wtm_at "pen"; assumption) | (with_reducible refine Off.new (by assumption) _ _ ?_; wtm_at "off16") | (with_reducible refine at_same (by with_reducible assumption) ?_; wtm_at "off16"))
local macro_rules | `(tactic| wtm_at "at17") => `(tactic| first | with_reducible assumption | with_reducible exact upd_same | (with_reducible refine at_new (by assumption) ?_; wtm_at "at16") | (with_reducible refine at_same (by with_reducible assumption) ?_; wtm_at "at16") | (with_reducible apply Off.at; wtm_at "off17"))
local macro_rules | `(tactic| wtm_at "off18") => `(tactic| first | with_reducible assumption | (with_reducible apply Off.mk; wtm_at "pen"; assumption) | (with_reducible refine Off.new (by assumption) _ _ ?_; wtm_at "off17") | (with_reducible refine at_same (by with_reducible assumption) ?_; wtm_at "off17"))
local macro_rules | `(tactic| wtm_at "at18") => `(tactic| first | with_reducible assumption | with_reducible exact upd_same | (with_reducible refine at_new (by assumption) ?_; wtm_at "at17") | (with_reducible refine at_same (by with_reducible assumption) ?_; wtm_at "at17") | (with_reducible apply Off.at; wtm_at "off18"))
local macro_rules | `(tactic| wtm_at "off19") => `(tactic| first | with_reducible assumption | (with_reducible apply Off.mk; wtm_at "pen"; assumption) | (with_reducible refine Off.new (by assumption) _ _ ?_; wtm_at "off18") | (with_reducible refine at_same (by with_reducible assumption) ?_; wtm_at "off18"))
local macro_rules | `(tactic| wtm_at "at19") => `(tactic| first | with_reducible assumption | with_reducible exact upd_same | (with_reducible refine at_new (by assumption) ?_; wtm_at "at18") | (with_reducible refine at_same (by with_reducible assumption) ?_; wtm_at "at18") | (with_reducible apply Off.at; wtm_at "off19"))
local macro_rules | `(tactic| wtm_at "off20") => `(tactic| first | with_reducible assumption | (with_reducible apply Off.mk; wtm_at "pen"; assumption) | (with_reducible refine Off.new (by assumption) _ _ ?_; wtm_at "off19") | (with_reducible refine at_same (by with_reducible assumption) ?_; wtm_at "off19"))
local macro_rules | `(tactic| wtm_at "at20") => `(tactic| first | with_reducible assumption | with_reducible exact upd_same | (with_reducible refine at_new (by assumption) ?_; wtm_at "at19") | (with_reducible refine at_same (by with_reducible assumption) ?_; wtm_at "at19") | (with_reducible apply Off.at; wtm_at "off20"))
local macro_rules | `(tactic| wtm_at "off21") => `(tactic| first | with_reducible assumption | (with_reducible apply Off.mk; wtm_at "pen"; assumption) | (with_reducible refine Off.new (by assumption) _ _ ?_; wtm_at "off20") | (with_reducible refine at_same (by with_reducible assumption) ?_; wtm_at "off20"))
local macro_rules | `(tactic| wtm_at "at21") => `(tactic| first | with_reducible assumption | with_reducible exact upd_same | (with_reducible refine at_new (by assumption) ?_; wtm_at "at20") | (with_reducible refine at_same (by with_reducible assumption) ?_; wtm_at "at20") | (with_reducible apply Off.at; wtm_at "off21"))
local macro_rules | `(tactic| wtm_at "off22") => `(tactic| first | with_reducible assumption | (with_reducible apply Off.mk; wtm_at "pen"; assumption) | (with_reducible refine Off.new (by assumption) _ _ ?_; wtm_at "off21") | (with_reducible refine at_same (by with_reducible assumption) ?_; wtm_at "off21"))
local macro_rules | `(tactic| wtm_at "at22") => `(tactic| first | with_reducible assumption | with_reducible exact upd_same | (with_reducible refine at_new (by assumption) ?_; wtm_at "at21") | (with_reducible refine at_same (by with_reducible assumption) ?_; wtm_at "at21") | (with_reducible apply Off.at; wtm_at "off22"))
local macro_rules | `(tactic| wtm_at "off23") => `(tactic| first | with_reducible assumption | (with_reducible apply Off.mk; wtm_at "pen"; assumption) | (with_reducible refine Off.new (by assumption) _ _ ?_; wtm_at "off22") | (with_reducible refine at_same (by with_reducible assumption) ?_; wtm_at "off22"))
local macro_rules | `(tactic| wtm_at "at23") => `(tactic| first | with_reducible assumption | with_reducible exact upd_same | (with_reducible refine at_new (by assumption) ?_; wtm_at "at22") | (with_reducible refine at_same (by with_reducible assumption) ?_; wtm_at "at22") | (with_reducible apply Off.at; wtm_at "off23"))
local macro_rules | `(tactic| wtm_at "off24") => `(tactic| first | with_reducible assumption | (with_reducible apply Off.mk; wtm_at "pen"; assumption) | (with_reducible refine Off.new (by assumption) _ _ ?_; wtm_at "off23") | (with_reducible refine at_same (by with_reducible assumption) ?_; wtm_at "off23"))
local macro_rules | `(tactic| wtm_at "at24") => `(tactic| first | with_reducible assumption | with_reducible exact upd_same | (with_reducible refine at_new (by assumption) ?_; wtm_at "at23") | (with_reducible refine at_same (by with_reducible assumption) ?_; wtm_at "at23") | (with_reducible apply Off.at; wtm_at "off24"))
local macro_rules | `(tactic| wtm_at "off25") => `(tactic| first | with_reducible assumption | (with_reducible apply Off.mk; wtm_at "pen"; assumption) | (with_reducible refine Off.new (by assumption) _ _ ?_; wtm_at "off24") | (with_reducible refine at_same (by with_reducible assumption) ?_; wtm_at "off24"))
local macro_rules | `(tactic| wtm_at "at25") => `(tactic| first | with_reducible assumption | with_reducible exact upd_same | (with_reducible refine at_new (by assumption) ?_; wtm_at "at24") | (with_reducible refine at_same (by with_reducible assumption) ?_; wtm_at "at24") | (with_reducible apply Off.at; wtm_at "off25"))
local macro_rules | `(tactic| wtm_at "off26") => `(tactic| first | with_reducible assumption | (with_reducible apply Off.mk; wtm_at "pen"; assumption) | (with_reducible refine Off.new (by assumption) _ _ ?_; wtm_at "off25") | (with_reducible refine at_same (by with_reducible assumption) ?_; wtm_at "off25"))
local macro_rules | `(tactic| wtm_at "at26") => `(tactic| first | with_reducible assumption | with_reducible exact upd_same | (with_reducible refine at_new (by assumption) ?_; wtm_at "at25") | (with_reducible refine at_same (by with_reducible assumption) ?_; wtm_at "at25") | (with_reducible apply Off.at; wtm_at "off26"))
local macro_rules | `(tactic| wtm_at "off27") => `(tactic| first | with_reducible assumption | (with_reducible apply Off.mk; wtm_at "pen"; assumption) | (with_reducible refine Off.new (by assumption) _ _ ?_; wtm_at "off26") | (with_reducible refine at_same (by with_reducible assumption) ?_; wtm_at "off26"))
local macro_rules | `(tactic| wtm_at "at27") => `(tactic| first | with_reducible assumption | with_reducible exact upd_same | (with_reducible refine at_new (by assumption) ?_; wtm_at "at26") | (with_reducible refine at_same (by with_reducible assumption) ?_; wtm_at "at26") | (with_reducible apply Off.at; wtm_at "off27"))
local macro_rules | `(tactic| wtm_at "off28") => `(tactic| first | with_reducible assumption | (with_reducible apply Off.mk; wtm_at "pen"; assumption) | (with_reducible refine Off.new (by assumption) _ _ ?_; wtm_at "off27") | (with_reducible refine at_same (by with_reducible assumption) ?_; wtm_at "off27"))
local macro_rules | `(tactic| wtm_at "at28") => `(tactic| first | with_reducible assumption | with_reducible exact upd_same | (with_reducible refine at_new (by assumption) ?_; wtm_at "at27") | (with_reducible refine at_same (by with_reducible assumption) ?_; wtm_at "at27") | (with_reducible apply Off.at; wtm_at "off28"))
local macro_rules | `(tactic| wtm_at "off29") => `(tactic| first | with_reducible assumption | (with_reducible apply Off.mk; wtm_at "pen"; assumption) | (with_reducible refine Off.new (by assumption) _ _ ?_; wtm_at "off28") | (with_reducible refine at_same (by with_reducible assumption) ?_; wtm_at "off28"))
local macro_rules | `(tactic| wtm_at "at29") => `(tactic| first | with_reducible assumption | with_reducible exact upd_same | (with_reducible refine at_new (by assumption) ?_; wtm_at "at28") | (with_reducible refine at_same (by with_reducible assumption) ?_; wtm_at "at28") | (with_reducible apply Off.at; wtm_at "off29"))
local macro_rules | `(tactic| wtm_at "off30") => `(tactic| first | with_reducible assumption | (with_reducible apply Off.mk; wtm_at "pen"; assumption) | (with_reducible refine Off.new (by assumption) _ _ ?_; wtm_at "off29") | (with_reducible refine at_same (by with_reducible assumption) ?_; wtm_at "off29"))
local macro_rules | `(tactic| wtm_at "at30") => `(tactic| first | with_reducible assumption | with_reducible exact upd_same | (with_reducible refine at_new (by assumption) ?_; wtm_at "at29") | (with_reducible refine at_same (by with_reducible assumption) ?_; wtm_at "at29") | (with_reducible apply Off.at; wtm_at "off30"))
local macro_rules | `(tactic| wtm_at "off31") => `(tactic| first | with_reducible assumption | (with_reducible apply Off.mk; wtm_at "pen"; assumption) | (with_reducible refine Off.new (by assumption) _ _ ?_; wtm_at "off30") | (with_reducible refine at_same (by with_reducible assumption) ?_; wtm_at "off30"))
local macro_rules | `(tactic| wtm_at "at31") => `(tactic| first | with_reducible assumption | with_reducible exact upd_same | (with_reducible refine at_new (by assumption) ?_; wtm_at "at30") | (with_reducible refine at_same (by with_reducible assumption) ?_; wtm_at "at30") | (with_reducible apply Off.at; wtm_at "off31"))
local macro_rules | `(tactic| wtm_at "off32") => `(tactic| first | with_reducible assumption | (with_reducible apply Off.mk; wtm_at "pen"; assumption) | (with_reducible refine Off.new (by assumption) _ _ ?_; wtm_at "off31") | (with_reducible refine at_same (by with_reducible assumption) ?_; wtm_at "off31"))
local macro_rules | `(tactic| wtm_at "at32") => `(tactic| first | with_reducible assumption | with_reducible exact upd_same | (with_reducible refine at_new (by assumption) ?_; wtm_at "at31") | (with_reducible refine at_same (by with_reducible assumption) ?_; wtm_at "at31") | (with_reducible apply Off.at; wtm_at "off32"))
local macro_rules | `(tactic| wtm_at "off33") => `(tactic| first | with_reducible assumption | (with_reducible apply Off.mk; wtm_at "pen"; assumption) | (with_reducible refine Off.new (by assumption) _ _ ?_; wtm_at "off32") | (with_reducible refine at_same (by with_reducible assumption) ?_; wtm_at "off32"))
local macro_rules | `(tactic| wtm_at "at33") => `(tactic| first | with_reducible assumption | with_reducible exact upd_same | (with_reducible refine at_new (by assumption) ?_; wtm_at "at32") | (with_reducible refine at_same (by with_reducible assumption) ?_; wtm_at "at32") | (with_reducible apply Off.at; wtm_at "off33"))
local macro_rules | `(tactic| wtm_at "off34") => `(tactic| first | with_reducible assumption | (with_reducible apply Off.mk; wtm_at "pen"; assumption) | (with_reducible refine Off.new (by assumption) _ _ ?_; wtm_at "off33") | (with_reducible refine at_same (by with_reducible assumption) ?_; wtm_at "off33"))
local macro_rules | `(tactic| wtm_at "at34") => `(tactic| first | with_reducible assumption | with_reducible exact upd_same | (with_reducible refine at_new (by assumption) ?_; wtm_at "at33") | (with_reducible refine at_same (by with_reducible assumption) ?_; wtm_at "at33") | (with_reducible apply Off.at; wtm_at "off34"))
local macro_rules | `(tactic| wtm_at "off35") => `(tactic| first | with_reducible assumption | (with_reducible apply Off.mk; wtm_at "pen"; assumption) | (with_reducible refine Off.new (by assumption) _ _ ?_; wtm_at "off34") | (with_reducible refine at_same (by with_reducible assumption) ?_; wtm_at "off34"))
local macro_rules | `(tactic| wtm_at "at35") => `(tactic| first | with_reducible assumption | with_reducible exact upd_same | (with_reducible refine at_new (by assumption) ?_; wtm_at "at34") | (with_reducible refine at_same (by with_reducible assumption) ?_; wtm_at "at34") | (with_reducible apply Off.at; wtm_at "off35"))
local macro_rules | `(tactic| wtm_at "off36") => `(tactic| first | with_reducible assumption | (with_reducible apply Off.mk; wtm_at "pen"; assumption) | (with_reducible refine Off.new (by assumption) _ _ ?_; wtm_at "off35") | (with_reducible refine at_same (by with_reducible assumption) ?_; wtm_at "off35"))
local macro_rules | `(tactic| wtm_at "at36") => `(tactic| first | with_reducible assumption | with_reducible exact upd_same | (with_reducible refine at_new (by assumption) ?_; wtm_at "at35") | (with_reducible refine at_same (by with_reducible assumption) ?_; wtm_at "at35") | (with_reducible apply Off.at; wtm_at "off36"))
local macro_rules | `(tactic| wtm_at "off37") => `(tactic| first | with_reducible assumption | (with_reducible apply Off.mk; wtm_at "pen"; assumption) | (with_reducible refine Off.new (by assumption) _ _ ?_; wtm_at "off36") | (with_reducible refine at_same (by with_reducible assumption) ?_; wtm_at "off36"))
local macro_rules | `(tactic| wtm_at "at37") => `(tactic| first | with_reducible assumption | with_reducible exact upd_same | (with_reducible refine at_new (by assumption) ?_; wtm_at "at36") | (with_reducible refine at_same (by with_reducible assumption) ?_; wtm_at "at36") | (with_reducible apply Off.at; wtm_at "off37"))
local macro_rules | `(tactic| wtm_at "off38") => `(tactic| first | with_reducible assumption | (with_reducible apply Off.mk; wtm_at "pen"; assumption) | (with_reducible refine Off.new (by assumption) _ _ ?_; wtm_at "off37") | (with_reducible refine at_same (by with_reducible assumption) ?_; wtm_at "off37"))
local macro_rules | `(tactic| wtm_at "at38") => `(tactic| first | with_reducible assumption | with_reducible exact upd_same | (with_reducible refine at_new (by assumption) ?_; wtm_at "at37") | (with_reducible refine at_same (by with_reducible assumption) ?_; wtm_at "at37") | (with_reducible apply Off.at; wtm_at "off38"))
local macro_rules | `(tactic| wtm_at "off39") => `(tactic| first | with_reducible assumption | (with_reducible apply Off.mk; wtm_at "pen"; assumption) | (with_reducible refine Off.new (by assumption) _ _ ?_; wtm_at "off38") | (with_reducible refine at_same (by with_reducible assumption) ?_; wtm_at "off38"))
local macro_rules | `(tactic| wtm_at "at39") => `(tactic| first | with_reducible assumption | with_reducible exact upd_same | (with_reducible refine at_new (by assumption) ?_; wtm_at "at38") | (with_reducible refine at_same (by with_reducible assumption) ?_; wtm_at "at38") | (with_reducible apply Off.at; wtm_at "off39"))
local macro_rules | `(tactic| wtm_at "at") => `(tactic| wtm_at "at39")
local macro_rules | `(tactic| wtm_at "off") => `(tactic| wtm_at "off39")
local macro_rules | `(tactic| wtm_at "pen") => `(tactic| first
  | assumption | (refine Pen.new (by assumption) ?_; wtm_at "pen") | (refine Pen.same (by assumption) ?_; wtm_at "pen"))
local macro_rules | `(tactic| wtm_at "same") => `(tactic| first
  | exact fun _ _ h => h | assumption | exact same_new (by assumption) | (refine same_trans ?_ (same_new (by assumption)); wtm_at "same") | (refine same_trans ?_ (by assumption); wtm_at "same")
  | (refine same_trans ?_ (Off.new (by assumption)); wtm_at "same") | (refine same_trans ?_ (Off.same (by assumption)); wtm_at "same"))
local macro_rules | `(tactic| wtm_at "dps") => `(tactic| first
  | exact .nil | (apply DpAll.cons; wtm_at "dp"; wtm_at "dps") | exact dpAll_ints _)
local macro_rules | `(tactic| wtm_at "dp") => `(tactic| first
  | exact .non | exact .bl _ | exact .int _ | exact .str _ | (fail) | (apply Dp.lst; (apply SqL.of; wtm_at "at"); wtm_at "dps") | (apply Dp.tup; (apply SqT.of; wtm_at "at"); wtm_at "dps"))
local macro_rules | `(tactic| wtm_at "side") => `(tactic| first
  | exact ⟨by decide, by decide⟩ | exact ⟨by decide, by decide, by decide⟩ | exact .inl ⟨by decide, by decide⟩ | exact .inr ⟨by decide, by decide⟩ | (show ¬ _ = _; decide))
local macro_rules | `(tactic| wtm_at "sml") => `(tactic| first
  | exact sml_none (by decide) | exact sml_bool (by decide) | exact sml_int (by decide) (by omega) | (fail) | exact sml_list (n := 19) (k := 0) (by wtm_at "smls") (by decide) (by decide))
local macro_rules | `(tactic| wtm_at "smls") => `(tactic| first | exact smlAll_nil (m := 0) | (apply smlAll_cons; wtm_at "sml"; wtm_at "smls"))
local macro_rules | `(tactic| wtm_at "shw") => `(tactic| exact Sml.shw (n := 10000) (k := 50) (by wtm_at "sml") (by decide) (by decide))
local macro_rules | `(tactic| wtm_at "rd") => `(tactic| first
  | refine ⟨_, rfl, ?_⟩ | refine ⟨_, _, rfl, rfl, ?_⟩ | refine ifT rfl ?_ | refine ifF rfl ?_ | refine ⟨rfl, ?_⟩
  | refine ⟨_, _, by rfl, by wtm_at "dp", by wtm_at "shw", ?_⟩
  | refine ⟨_, _, _, _, _, rfl, by wtm_at "at", by wtm_at "cls", by wtm_at "na", by rfl, ?_⟩
  | refine ⟨_, _, rfl, .inr (SqT.of (by wtm_at "at")), ?_⟩ | refine ⟨_, _, rfl, .inl (SqL.of (by wtm_at "at")), ?_⟩
  | refine ⟨_, _, rfl, .inr (SqT.of (by wtm_at "at")), by rfl, by rfl, ?_⟩ | refine ⟨_, _, rfl, .inl (SqL.of (by wtm_at "at")), by rfl, by rfl, ?_⟩
  | refine ⟨_, _, _, _, rfl, rfl, SqT.of (by wtm_at "at"), by rfl, ?_⟩ | refine ⟨_, _, _, _, rfl, rfl, SqL.of (by wtm_at "at"), by rfl, ?_⟩
  | refine ⟨_, _, rfl, rfl, by wtm_at "side", ?_⟩
  | refine ⟨_, _, by wtm_at "dp", by wtm_at "dp", by first | rfl | decide +kernel, by first | rfl | decide +kernel, ?_⟩
  | refine ⟨_, _, [_, _], [_, _], rfl, rfl, sqI2 (by wtm_at "at"), sqI2 (by wtm_at "at"), ?_⟩
  | refine ⟨_, _, rfl, ?_⟩
  | refine ⟨Nat.le_of_ble_eq_true rfl, fun _ _ => ?_⟩
  | refine ifF (by decide +kernel) ?_ | refine ifF (nd_refl _) ?_ | refine ifT (de_refl _) ?_)
local macro_rules | `(tactic| wtm_at "cls") => `(tactic| first | exact cls_Finding _)
local macro_rules | `(tactic| wtm_at "na") => `(tactic| first | exact na_Finding_word _ | exact na_Finding_fields _)

theorem shw_flds {ds : List PyData} (h : ∀ d ∈ ds, FdD d) (hl : ds.length ≤ 4) : Shw (.list ds) :=
  Sml.shw (n := 10000) (k := 50) (sml_list (n := 100) (k := 5) (m := ds.length) (smlAll_of fun d hd => (fld_of (h d hd)).1) (by have : (100 + 2) * ds.length ≤ (100 + 2) * 4 := Nat.mul_le_mul_left _ hl; omega) (by decide)) (by decide) (by decide)
section
variable {mg : PySem.Str → Option Value} {base : Heap} {w : World}
theorem ok__law_told (M : Mod (hd65.heap_39 w.params) mg base) (hB : ∃ o, base.get? sysModules = some o) : CallG PP w (hd65.heap_39 w.params) mg base 7 (.ref 210) (pos (spTold (hd65.heap_39 w.params))) := by
  obtain ⟨fd, F⟩ := fn__law_told w
  refine def_pos F sc__law_told (fun vs H Q E h => ?_) (fun _ _ _ _ _ _ us hl => match us, hl with | [_, _], _ => rfl) (fun cdv A outer s H vs Q E hr hg h => ?_)
  · obtain ⟨k, l, xs, ds, rfl, _⟩ := h; rfl
  have nd := sc__law_told.nd
  obtain ⟨k, l, xs, ds, rfl, hk0, hk4, hl, hf, q⟩ := h
  refine ⟨_, (pss_cons (ps_set (i := 2) nd rfl (.inl rfl) (pe_cl (takes_of rfl rfl rfl rfl) (ok__law_made M) (hr.mono (by decide)) hg rfl (mg__law_made M) (kp__law_made w) (pa_cons (pv 0) (pa_cons (pv 1) pa_nil))))
      (pss_cons (ps_set (i := 3) nd rfl (.inl rfl) (pe_ix ix_list (pe_lst (pa_cons pe_str (pa_cons pe_str (pa_cons pe_str (pa_cons pe_str pa_nil))))) (pv 0) (fun _ _ => rfl)))
      (pss_cons (ps_if (pt_cmpR op_ne (pe_callB (call_reprQ hB hg (hu_big hr)) (by rfl) (mn_repr M) (by decide +kernel) (pa_cons (pe_cl (takes_of rfl rfl rfl rfl) (ok__law_kept M) (hr.mono (by decide)) hg rfl (mg__law_kept M) (kp__law_kept w) (pa_cons (pv 0) (pa_cons (pv 2) pa_nil))) pa_nil)) (pe_callB (call_reprQ hB hg (hu_big hr)) (by rfl) (mn_repr M) (by decide +kernel) (pa_cons (pe_slice sl_list (pv 1) po_none (po_some (pe_ix ix_list (pe_lst (pa_cons pe_int (pa_cons pe_int (pa_cons pe_int (pa_cons pe_int pa_nil))))) (pv 0) (fun _ _ => rfl)))) pa_nil)) (nomark _)) (pss_one (ps_ret pe_bl)) pss_nil)
      (pss_cons (ps_if (pt_cmpR op_ne (pe_callB (call_reprQ hB hg (hu_big hr)) (by rfl) (mn_repr M) (by decide +kernel) (pa_cons (pe_lst (pa_cons (pe_fld (pv 2) rfl) (pa_cons (pe_callTy (call_boolV (D := isF) (sp := fun C => pos (spBoolF C)) (fun C h => bool_ok M C h) (hr.mono (by decide)) hg (fun C h => own_bool w C h)) (by rfl) (mn_bool M) (by decide +kernel) (pa_cons (pv 2) pa_nil)) pa_nil))) pa_nil)) (pe_callB (call_reprQ hB hg (hu_big hr)) (by rfl) (mn_repr M) (by decide +kernel) (pa_cons (pe_lst (pa_cons (pv 3) (pa_cons (pe_cmpR op_eq (pv 0) pe_int (nomark _)) pa_nil))) pa_nil)) (nomark _)) (pss_one (ps_ret pe_bl)) pss_nil)
      (pss_one (ps_ret (pe_cmpR (op_eqD (hu_big hr)) (pe_cl (takes_of rfl rfl rfl rfl) (ok__law_sorts M) (hr.mono (by decide)) hg rfl (mg__law_sorts M) (kp__law_sorts w) (pa_cons (pv 2) pa_nil)) (pe_lst (pa_cons (pe_cmpR op_eq (pv 0) pe_int (nomark _)) (pa_cons (pe_cmpR op_eq (pv 0) pe_int (nomark _)) (pa_cons (pe_cmpR op_eq (pv 0) pe_int (nomark _)) (pa_cons (pe_cmpR op_eq (pv 0) pe_int (nomark _)) (pa_cons pe_bl pa_nil)))))) (nomark _)))))))), ?_⟩
  obtain ⟨hd, hl4, hfd⟩ := hf
  have hx : xs.length = 4 := (dqAll_len hd).trans hl4
  obtain ⟨d0, d1, d2, d3, rfl⟩ : ∃ d0 d1 d2 d3, ds = [d0, d1, d2, d3] := by
    match ds, hl4 with
    | [d0, d1, d2, d3], _ => exact ⟨d0, d1, d2, d3, rfl⟩
  obtain ⟨x0, x1, x2, x3, rfl, q0, q1, q2, q3⟩ : ∃ x0 x1 x2 x3, xs = [x0, x1, x2, x3] ∧ Dq (hd65.heap_39 w.params) H x0 d0 ∧ Dq (hd65.heap_39 w.params) H x1 d1 ∧ Dq (hd65.heap_39 w.params) H x2 d2 ∧ Dq (hd65.heap_39 w.params) H x3 d3 := by
    cases hd with
    | cons a0 r => cases r with
      | cons a1 r => cases r with
        | cons a2 r => cases r with
          | cons a3 r =>
            cases r
            exact ⟨_, _, _, _, rfl, a0, a1, a2, a3⟩
  have inn : ∀ n, ∀ d ∈ ([d0, d1, d2, d3] : List PyData).take n, FdD d := fun n d h => hfd d (List.take_subset _ _ h)
  obtain rfl | rfl | rfl | rfl : k = 0 ∨ k = 1 ∨ k = 2 ∨ k = 3 := by omega
  · refine ⟨_, rfl, _, rfl, rfl, 0, l, [x0, x1, x2, x3], rfl, hk0, hk4, hl, rfl, fun x dx t H1 s1 hx1 ht1 => ?_⟩
    have hx1 : H1 x = some (finO 0 dx t [x0]) := hx1
    refine ⟨Nat.le_of_ble_eq_true rfl, fun z1 h1 => ⟨_, rfl, z1, _, 0, .str "still", rfl, rfl, SqL.of upd_same, rfl, ?_⟩⟩
    have s2 := same_trans s1 (same_new (o := .lst [.str "still", .str "clash", .str "wrong", .str "right"]) h1)
    have hx2 := at_new (o := .lst [.str "still", .str "clash", .str "wrong", .str "right"]) h1 hx1
    refine ⟨_, rfl, _, rfl, rfl, 0, x, dx, t, [x0], rfl, hk0, hk4, hx2, rfl, fun y hy => ?_⟩
    have s3 := same_trans s2 (same_new (o := .lst [x0]) hy)
    have hx3 := at_new (o := .lst [x0]) hy hx2
    refine ⟨.ref y, .list [d0], rfl, .lst upd_same (.cons (dq_mono s3 q0) .nil), shw_flds (inn 1) (Nat.le_of_ble_eq_true rfl), ?_⟩
    refine ⟨_, rfl, Nat.le_of_ble_eq_true rfl, fun z2 h2 => ⟨_, rfl, z2, _, 0, .int 1, rfl, rfl, SqL.of upd_same, rfl, 1, rfl, l, _, rfl, SqL.of (at_new h2 (s3 _ _ hl)), fun p2 hp2 => ?_⟩⟩
    have s4 := same_trans s3 (same_trans (same_new (o := .lst [.int 1, .int 3, .int 3, .int 4]) h2) (same_new (o := .lst [x0]) hp2))
    have hx4 := at_new (o := .lst [x0]) hp2 (at_new (o := .lst [.int 1, .int 3, .int 3, .int 4]) h2 hx3)
    refine ⟨.ref p2, .list [d0], rfl, .lst (xs := [x0]) upd_same (.cons (dq_mono s4 q0) .nil), shw_flds (inn 1) (Nat.le_of_ble_eq_true rfl), rfl, _, rfl, ifF (nd_refl _) ?_⟩
    refine ⟨_, rfl, x, 75, dx, _, _, rfl, hx4, cls_Still w, na_Still_word w, rfl, _, rfl, x, 75, dx, _, rfl, clsF_is 0, hx4, ⟨rfl, x, rfl, _, rfl, Nat.le_of_ble_eq_true rfl, fun y2 hy2 => ?_⟩⟩
    refine ⟨.ref y2, .list [.str "still", .bool false], rfl, .lst upd_same (.cons (.str _) (.cons (.bl _) .nil)), ⟨by decide +kernel, by decide +kernel, by decide⟩, ?_⟩
    refine ⟨_, rfl, _, rfl, rfl, Nat.le_of_ble_eq_true rfl, fun y3 hy3 => ?_⟩
    refine ⟨.ref y3, .list [.str "still", .bool false], rfl, .lst upd_same (.cons (.str _) (.cons (.bl _) .nil)), ⟨by decide +kernel, by decide +kernel, by decide⟩, rfl, _, rfl, ifF (nd_refl _) ?_⟩
    have hx5 := at_new (o := .lst [.str "still", .bl false]) hy3 (at_new (o := .lst [.str "still", .bl false]) hy2 hx4)
    have s5 := same_trans s4 (same_trans (same_new (o := .lst [.str "still", .bl false]) hy2) (same_new (o := .lst [.str "still", .bl false]) hy3))
    refine ⟨_, rfl, rfl, 0, x, dx, t, _, rfl, hk0, hk4, hx5, fun y4 H5 s6 hy4 => ?_⟩
    refine ⟨_, rfl, rfl, _, rfl, rfl, _, rfl, rfl, _, rfl, rfl, Nat.le_of_ble_eq_true rfl, fun y5 hy5 => ?_⟩
    exact ⟨.list [.bool true, .bool false, .bool false, .bool false, .bool true], .list [.bool true, .bool false, .bool false, .bool false, .bool true], .lst (SqL.of (at_new hy5 hy4)) (.cons (.bl _) (.cons (.bl _) (.cons (.bl _) (.cons (.bl _) (.cons (.bl _) .nil))))), .lst (SqL.of upd_same) (.cons (.bl _) (.cons (.bl _) (.cons (.bl _) (.cons (.bl _) (.cons (.bl _) .nil))))), rfl, rfl, q _ (same_trans s5 (same_trans s6 (same_new hy5)))⟩
  · refine ⟨_, rfl, _, rfl, rfl, 1, l, [x0, x1, x2, x3], rfl, hk0, hk4, hl, rfl, fun x dx t H1 s1 hx1 ht1 => ?_⟩
    have hx1 : H1 x = some (finO 1 dx t [x0, x1, x2]) := hx1
    refine ⟨Nat.le_of_ble_eq_true rfl, fun z1 h1 => ⟨_, rfl, z1, _, 1, .str "clash", rfl, rfl, SqL.of upd_same, rfl, ?_⟩⟩
    have s2 := same_trans s1 (same_new (o := .lst [.str "still", .str "clash", .str "wrong", .str "right"]) h1)
    have hx2 := at_new (o := .lst [.str "still", .str "clash", .str "wrong", .str "right"]) h1 hx1
    refine ⟨_, rfl, _, rfl, rfl, 1, x, dx, t, [x0, x1, x2], rfl, hk0, hk4, hx2, rfl, fun y hy => ?_⟩
    have s3 := same_trans s2 (same_new (o := .lst [x0, x1, x2]) hy)
    have hx3 := at_new (o := .lst [x0, x1, x2]) hy hx2
    refine ⟨.ref y, .list [d0, d1, d2], rfl, .lst upd_same (.cons (dq_mono s3 q0) (.cons (dq_mono s3 q1) (.cons (dq_mono s3 q2) .nil))), shw_flds (inn 3) (Nat.le_of_ble_eq_true rfl), ?_⟩
    refine ⟨_, rfl, Nat.le_of_ble_eq_true rfl, fun z2 h2 => ⟨_, rfl, z2, _, 1, .int 3, rfl, rfl, SqL.of upd_same, rfl, 3, rfl, l, _, rfl, SqL.of (at_new h2 (s3 _ _ hl)), fun p2 hp2 => ?_⟩⟩
    have s4 := same_trans s3 (same_trans (same_new (o := .lst [.int 1, .int 3, .int 3, .int 4]) h2) (same_new (o := .lst [x0, x1, x2]) hp2))
    have hx4 := at_new (o := .lst [x0, x1, x2]) hp2 (at_new (o := .lst [.int 1, .int 3, .int 3, .int 4]) h2 hx3)
    refine ⟨.ref p2, .list [d0, d1, d2], rfl, .lst (xs := [x0, x1, x2]) upd_same (.cons (dq_mono s4 q0) (.cons (dq_mono s4 q1) (.cons (dq_mono s4 q2) .nil))), shw_flds (inn 3) (Nat.le_of_ble_eq_true rfl), rfl, _, rfl, ifF (nd_refl _) ?_⟩
    refine ⟨_, rfl, x, 103, dx, _, _, rfl, hx4, cls_Clash w, na_Clash_word w, rfl, _, rfl, x, 103, dx, _, rfl, clsF_is 1, hx4, ⟨rfl, x, rfl, _, rfl, Nat.le_of_ble_eq_true rfl, fun y2 hy2 => ?_⟩⟩
    refine ⟨.ref y2, .list [.str "clash", .bool false], rfl, .lst upd_same (.cons (.str _) (.cons (.bl _) .nil)), ⟨by decide +kernel, by decide +kernel, by decide⟩, ?_⟩
    refine ⟨_, rfl, _, rfl, rfl, Nat.le_of_ble_eq_true rfl, fun y3 hy3 => ?_⟩
    refine ⟨.ref y3, .list [.str "clash", .bool false], rfl, .lst upd_same (.cons (.str _) (.cons (.bl _) .nil)), ⟨by decide +kernel, by decide +kernel, by decide⟩, rfl, _, rfl, ifF (nd_refl _) ?_⟩
    have hx5 := at_new (o := .lst [.str "clash", .bl false]) hy3 (at_new (o := .lst [.str "clash", .bl false]) hy2 hx4)
    have s5 := same_trans s4 (same_trans (same_new (o := .lst [.str "clash", .bl false]) hy2) (same_new (o := .lst [.str "clash", .bl false]) hy3))
    refine ⟨_, rfl, rfl, 1, x, dx, t, _, rfl, hk0, hk4, hx5, fun y4 H5 s6 hy4 => ?_⟩
    refine ⟨_, rfl, rfl, _, rfl, rfl, _, rfl, rfl, _, rfl, rfl, Nat.le_of_ble_eq_true rfl, fun y5 hy5 => ?_⟩
    exact ⟨.list [.bool false, .bool true, .bool false, .bool false, .bool true], .list [.bool false, .bool true, .bool false, .bool false, .bool true], .lst (SqL.of (at_new hy5 hy4)) (.cons (.bl _) (.cons (.bl _) (.cons (.bl _) (.cons (.bl _) (.cons (.bl _) .nil))))), .lst (SqL.of upd_same) (.cons (.bl _) (.cons (.bl _) (.cons (.bl _) (.cons (.bl _) (.cons (.bl _) .nil))))), rfl, rfl, q _ (same_trans s5 (same_trans s6 (same_new hy5)))⟩
  · refine ⟨_, rfl, _, rfl, rfl, 2, l, [x0, x1, x2, x3], rfl, hk0, hk4, hl, rfl, fun x dx t H1 s1 hx1 ht1 => ?_⟩
    have hx1 : H1 x = some (finO 2 dx t [x0, x1, x2]) := hx1
    refine ⟨Nat.le_of_ble_eq_true rfl, fun z1 h1 => ⟨_, rfl, z1, _, 2, .str "wrong", rfl, rfl, SqL.of upd_same, rfl, ?_⟩⟩
    have s2 := same_trans s1 (same_new (o := .lst [.str "still", .str "clash", .str "wrong", .str "right"]) h1)
    have hx2 := at_new (o := .lst [.str "still", .str "clash", .str "wrong", .str "right"]) h1 hx1
    refine ⟨_, rfl, _, rfl, rfl, 2, x, dx, t, [x0, x1, x2], rfl, hk0, hk4, hx2, rfl, fun y hy => ?_⟩
    have s3 := same_trans s2 (same_new (o := .lst [x0, x1, x2]) hy)
    have hx3 := at_new (o := .lst [x0, x1, x2]) hy hx2
    refine ⟨.ref y, .list [d0, d1, d2], rfl, .lst upd_same (.cons (dq_mono s3 q0) (.cons (dq_mono s3 q1) (.cons (dq_mono s3 q2) .nil))), shw_flds (inn 3) (Nat.le_of_ble_eq_true rfl), ?_⟩
    refine ⟨_, rfl, Nat.le_of_ble_eq_true rfl, fun z2 h2 => ⟨_, rfl, z2, _, 2, .int 3, rfl, rfl, SqL.of upd_same, rfl, 3, rfl, l, _, rfl, SqL.of (at_new h2 (s3 _ _ hl)), fun p2 hp2 => ?_⟩⟩
    have s4 := same_trans s3 (same_trans (same_new (o := .lst [.int 1, .int 3, .int 3, .int 4]) h2) (same_new (o := .lst [x0, x1, x2]) hp2))
    have hx4 := at_new (o := .lst [x0, x1, x2]) hp2 (at_new (o := .lst [.int 1, .int 3, .int 3, .int 4]) h2 hx3)
    refine ⟨.ref p2, .list [d0, d1, d2], rfl, .lst (xs := [x0, x1, x2]) upd_same (.cons (dq_mono s4 q0) (.cons (dq_mono s4 q1) (.cons (dq_mono s4 q2) .nil))), shw_flds (inn 3) (Nat.le_of_ble_eq_true rfl), rfl, _, rfl, ifF (nd_refl _) ?_⟩
    refine ⟨_, rfl, x, 131, dx, _, _, rfl, hx4, cls_Wrong w, na_Wrong_word w, rfl, _, rfl, x, 131, dx, _, rfl, clsF_is 2, hx4, ⟨rfl, x, rfl, _, rfl, Nat.le_of_ble_eq_true rfl, fun y2 hy2 => ?_⟩⟩
    refine ⟨.ref y2, .list [.str "wrong", .bool false], rfl, .lst upd_same (.cons (.str _) (.cons (.bl _) .nil)), ⟨by decide +kernel, by decide +kernel, by decide⟩, ?_⟩
    refine ⟨_, rfl, _, rfl, rfl, Nat.le_of_ble_eq_true rfl, fun y3 hy3 => ?_⟩
    refine ⟨.ref y3, .list [.str "wrong", .bool false], rfl, .lst upd_same (.cons (.str _) (.cons (.bl _) .nil)), ⟨by decide +kernel, by decide +kernel, by decide⟩, rfl, _, rfl, ifF (nd_refl _) ?_⟩
    have hx5 := at_new (o := .lst [.str "wrong", .bl false]) hy3 (at_new (o := .lst [.str "wrong", .bl false]) hy2 hx4)
    have s5 := same_trans s4 (same_trans (same_new (o := .lst [.str "wrong", .bl false]) hy2) (same_new (o := .lst [.str "wrong", .bl false]) hy3))
    refine ⟨_, rfl, rfl, 2, x, dx, t, _, rfl, hk0, hk4, hx5, fun y4 H5 s6 hy4 => ?_⟩
    refine ⟨_, rfl, rfl, _, rfl, rfl, _, rfl, rfl, _, rfl, rfl, Nat.le_of_ble_eq_true rfl, fun y5 hy5 => ?_⟩
    exact ⟨.list [.bool false, .bool false, .bool true, .bool false, .bool true], .list [.bool false, .bool false, .bool true, .bool false, .bool true], .lst (SqL.of (at_new hy5 hy4)) (.cons (.bl _) (.cons (.bl _) (.cons (.bl _) (.cons (.bl _) (.cons (.bl _) .nil))))), .lst (SqL.of upd_same) (.cons (.bl _) (.cons (.bl _) (.cons (.bl _) (.cons (.bl _) (.cons (.bl _) .nil))))), rfl, rfl, q _ (same_trans s5 (same_trans s6 (same_new hy5)))⟩
  · refine ⟨_, rfl, _, rfl, rfl, 3, l, [x0, x1, x2, x3], rfl, hk0, hk4, hl, rfl, fun x dx t H1 s1 hx1 ht1 => ?_⟩
    have hx1 : H1 x = some (finO 3 dx t [x0, x1, x2, x3]) := hx1
    refine ⟨Nat.le_of_ble_eq_true rfl, fun z1 h1 => ⟨_, rfl, z1, _, 3, .str "right", rfl, rfl, SqL.of upd_same, rfl, ?_⟩⟩
    have s2 := same_trans s1 (same_new (o := .lst [.str "still", .str "clash", .str "wrong", .str "right"]) h1)
    have hx2 := at_new (o := .lst [.str "still", .str "clash", .str "wrong", .str "right"]) h1 hx1
    refine ⟨_, rfl, _, rfl, rfl, 3, x, dx, t, [x0, x1, x2, x3], rfl, hk0, hk4, hx2, rfl, fun y hy => ?_⟩
    have s3 := same_trans s2 (same_new (o := .lst [x0, x1, x2, x3]) hy)
    have hx3 := at_new (o := .lst [x0, x1, x2, x3]) hy hx2
    refine ⟨.ref y, .list [d0, d1, d2, d3], rfl, .lst upd_same (.cons (dq_mono s3 q0) (.cons (dq_mono s3 q1) (.cons (dq_mono s3 q2) (.cons (dq_mono s3 q3) .nil)))), shw_flds (inn 4) (Nat.le_of_ble_eq_true rfl), ?_⟩
    refine ⟨_, rfl, Nat.le_of_ble_eq_true rfl, fun z2 h2 => ⟨_, rfl, z2, _, 3, .int 4, rfl, rfl, SqL.of upd_same, rfl, 4, rfl, l, _, rfl, SqL.of (at_new h2 (s3 _ _ hl)), fun p2 hp2 => ?_⟩⟩
    have s4 := same_trans s3 (same_trans (same_new (o := .lst [.int 1, .int 3, .int 3, .int 4]) h2) (same_new (o := .lst [x0, x1, x2, x3]) hp2))
    have hx4 := at_new (o := .lst [x0, x1, x2, x3]) hp2 (at_new (o := .lst [.int 1, .int 3, .int 3, .int 4]) h2 hx3)
    refine ⟨.ref p2, .list [d0, d1, d2, d3], rfl, .lst (xs := [x0, x1, x2, x3]) upd_same (.cons (dq_mono s4 q0) (.cons (dq_mono s4 q1) (.cons (dq_mono s4 q2) (.cons (dq_mono s4 q3) .nil)))), shw_flds (inn 4) (Nat.le_of_ble_eq_true rfl), rfl, _, rfl, ifF (nd_refl _) ?_⟩
    refine ⟨_, rfl, x, 159, dx, _, _, rfl, hx4, cls_Right w, na_Right_word w, rfl, _, rfl, x, 159, dx, _, rfl, clsF_is 3, hx4, ⟨rfl, x, rfl, _, rfl, Nat.le_of_ble_eq_true rfl, fun y2 hy2 => ?_⟩⟩
    refine ⟨.ref y2, .list [.str "right", .bool true], rfl, .lst upd_same (.cons (.str _) (.cons (.bl _) .nil)), ⟨by decide +kernel, by decide +kernel, by decide⟩, ?_⟩
    refine ⟨_, rfl, _, rfl, rfl, Nat.le_of_ble_eq_true rfl, fun y3 hy3 => ?_⟩
    refine ⟨.ref y3, .list [.str "right", .bool true], rfl, .lst upd_same (.cons (.str _) (.cons (.bl _) .nil)), ⟨by decide +kernel, by decide +kernel, by decide⟩, rfl, _, rfl, ifF (nd_refl _) ?_⟩
    have hx5 := at_new (o := .lst [.str "right", .bl true]) hy3 (at_new (o := .lst [.str "right", .bl true]) hy2 hx4)
    have s5 := same_trans s4 (same_trans (same_new (o := .lst [.str "right", .bl true]) hy2) (same_new (o := .lst [.str "right", .bl true]) hy3))
    refine ⟨_, rfl, rfl, 3, x, dx, t, _, rfl, hk0, hk4, hx5, fun y4 H5 s6 hy4 => ?_⟩
    refine ⟨_, rfl, rfl, _, rfl, rfl, _, rfl, rfl, _, rfl, rfl, Nat.le_of_ble_eq_true rfl, fun y5 hy5 => ?_⟩
    exact ⟨.list [.bool false, .bool false, .bool false, .bool true, .bool true], .list [.bool false, .bool false, .bool false, .bool true, .bool true], .lst (SqL.of (at_new hy5 hy4)) (.cons (.bl _) (.cons (.bl _) (.cons (.bl _) (.cons (.bl _) (.cons (.bl _) .nil))))), .lst (SqL.of upd_same) (.cons (.bl _) (.cons (.bl _) (.cons (.bl _) (.cons (.bl _) (.cons (.bl _) .nil))))), rfl, rfl, q _ (same_trans s5 (same_trans s6 (same_new hy5)))⟩
end
end M65

namespace M65
open PySem PySem.Spec PyProof.Rows L2 StX Uk

local macro_rules | `(tactic| wtm_at "off0") => `(tactic| first | with_reducible assumption | (with_reducible apply Off.mk; wtm_at "pen"; assumption))
local macro_rules | `(tactic| wtm_at "at0") => `(tactic| first | with_reducible assumption | with_reducible exact upd_same | (with_reducible apply Off.at; wtm_at "off0"))
local macro_rules | `(tactic| wtm_at "off1") => `(tactic| first | with_reducible assumption | (with_reducible apply Off.mk; wtm_at "pen"; assumption) | (with_reducible refine Off.new (by assumption) _ _ ?_; wtm_at "off0") | (with_reducible refine at_same (by with_reducible assumption) ?_; wtm_at "off0"))
local macro_rules | `(tactic| wtm_at "at1") => `(tactic| first | with_reducible assumption | with_reducible exact upd_same | (with_reducible refine at_new (by assumption) ?_; wtm_at "at0") | (with_reducible refine at_same (by with_reducible assumption) ?_; wtm_at "at0") | (with_reducible apply Off.at; wtm_at "off1"))
local macro_rules | `(tactic| wtm_at "off2") => `(tactic| first | with_reducible assumption | (with_reducible apply Off.mk; wtm_at "pen"; assumption) | (with_reducible refine Off.new (by assumption) _ _ ?_; wtm_at "off1") | (with_reducible refine at_same (by with_reducible assumption) ?_; wtm_at "off1"))
local macro_rules | `(tactic| wtm_at "at2") => `(tactic| first | with_reducible assumption | with_reducible exact upd_same | (with_reducible refine at_new (by assumption) ?_; wtm_at "at1") | (with_reducible refine at_same (by with_reducible assumption) ?_; wtm_at "at1") | (with_reducible apply Off.at; wtm_at "off2"))
local macro_rules | `(tactic| wtm_at "off3") => `(tactic| first | with_reducible assumption | (with_reducible apply Off.mk; wtm_at "pen"; assumption) | (with_reducible refine Off.new (by assumption) _ _ ?_; wtm_at "off2") | (with_reducible refine at_same (by with_reducible assumption) ?_; wtm_at "off2"))
local macro_rules | `(tactic| wtm_at "at3") => `(tactic| first | with_reducible assumption | with_reducible exact upd_same | (with_reducible refine at_new (by assumption) ?_; wtm_at "at2") | (with_reducible refine at_same (by with_reducible assumption) ?_; wtm_at "at2") | (with_reducible apply Off.at; wtm_at "off3"))
local macro_rules | `(tactic| wtm_at "off4") => `(tactic| first | with_reducible assumption | (with_reducible apply Off.mk; wtm_at "pen"; assumption) | (with_reducible refine Off.new (by assumption) _ _ ?_; wtm_at "off3") | (with_reducible refine at_same (by with_reducible assumption) ?_; wtm_at "off3"))
local macro_rules | `(tactic| wtm_at "at4") => `(tactic| first | with_reducible assumption | with_reducible exact upd_same | (with_reducible refine at_new (by assumption) ?_; wtm_at "at3") | (with_reducible refine at_same (by with_reducible assumption) ?_; wtm_at "at3") | (with_reducible apply Off.at; wtm_at "off4"))
local macro_rules | `(tactic| wtm_at "off5") => `(tactic| first | with_reducible assumption | (with_reducible apply Off.mk; wtm_at "pen"; assumption) | (with_reducible refine Off.new (by assumption) _ _ ?_; wtm_at "off4") | (with_reducible refine at_same (by with_reducible assumption) ?_; wtm_at "off4"))
local macro_rules | `(tactic| wtm_at "at5") => `(tactic| first | with_reducible assumption | with_reducible exact upd_same | (with_reducible refine at_new (by assumption) ?_; wtm_at "at4") | (with_reducible refine at_same (by with_reducible assumption) ?_; wtm_at "at4") | (with_reducible apply Off.at; wtm_at "off5"))
local macro_rules | `(tactic| wtm_at "off6") => `(tactic| first | with_reducible assumption | (with_reducible apply Off.mk; wtm_at "pen"; assumption) | (with_reducible refine Off.new (by assumption) _ _ ?_; wtm_at "off5") | (with_reducible refine at_same (by with_reducible assumption) ?_; wtm_at "off5"))
local macro_rules | `(tactic| wtm_at "at6") => `(tactic| first | with_reducible assumption | with_reducible exact upd_same | (with_reducible refine at_new (by assumption) ?_; wtm_at "at5") | (with_reducible refine at_same (by with_reducible assumption) ?_; wtm_at "at5") | (with_reducible apply Off.at; wtm_at "off6"))
local macro_rules | `(tactic| wtm_at "off7") => `(tactic| first | with_reducible assumption | (with_reducible apply Off.mk; wtm_at "pen"; assumption) | (with_reducible refine Off.new (by assumption) _ _ ?_; wtm_at "off6") | (with_reducible refine at_same (by with_reducible assumption) ?_; wtm_at "off6"))
local macro_rules | `(tactic| wtm_at "at7") => `(tactic| first | with_reducible assumption | with_reducible exact upd_same | (with_reducible refine at_new (by assumption) ?_; wtm_at "at6") | (with_reducible refine at_same (by with_reducible assumption) ?_; wtm_at "at6") | (with_reducible apply Off.at; wtm_at "off7"))
local macro_rules | `(tactic| wtm_at "off8") => `(tactic| first | with_reducible assumption | (with_reducible apply Off.mk; wtm_at "pen"; assumption) | (with_reducible refine Off.new (by assumption) _ _ ?_; wtm_at "off7") | (with_reducible refine at_same (by with_reducible assumption) ?_; wtm_at "off7"))
local macro_rules | `(tactic| wtm_at "at8") => `(tactic| first | with_reducible assumption | with_reducible exact upd_same | (with_reducible refine at_new (by assumption) ?_; wtm_at "at7") | (with_reducible refine at_same (by with_reducible assumption) ?_; wtm_at "at7") | (with_reducible apply Off.at; wtm_at "off8"))
local macro_rules | `(tactic| wtm_at "off9") => `(tactic| first | with_reducible assumption | (with_reducible apply Off.mk; wtm_at "pen"; assumption) | (with_reducible refine Off.new (by assumption) _ _ ?_; wtm_at "off8") | (with_reducible refine at_same (by with_reducible assumption) ?_; wtm_at "off8"))
local macro_rules | `(tactic| wtm_at "at9") => `(tactic| first | with_reducible assumption | with_reducible exact upd_same | (with_reducible refine at_new (by assumption) ?_; wtm_at "at8") | (with_reducible refine at_same (by with_reducible assumption) ?_; wtm_at "at8") | (with_reducible apply Off.at; wtm_at "off9"))
local macro_rules | `(tactic| wtm_at "off10") => `(tactic| first | with_reducible assumption | (with_reducible apply Off.mk; wtm_at "pen"; assumption) | (with_reducible refine Off.new (by assumption) _ _ ?_; wtm_at "off9") | (with_reducible refine at_same (by with_reducible assumption) ?_; wtm_at "off9"))
local macro_rules | `(tactic| wtm_at "at10") => `(tactic| first | with_reducible assumption | with_reducible exact upd_same | (with_reducible refine at_new (by assumption) ?_; wtm_at "at9") | (with_reducible refine at_same (by with_reducible assumption) ?_; wtm_at "at9") | (with_reducible apply Off.at; wtm_at "off10"))
local macro_rules | `(tactic| wtm_at "off11") => `(tactic| first | with_reducible assumption | (with_reducible apply Off.mk; wtm_at "pen"; assumption) | (with_reducible refine Off.new (by assumption) _ _ ?_; wtm_at "off10") | (with_reducible refine at_same (by with_reducible assumption) ?_; wtm_at "off10"))
local macro_rules | `(tactic| wtm_at "at11") => `(tactic| first | with_reducible assumption | with_reducible exact upd_same | (with_reducible refine at_new (by assumption) ?_; wtm_at "at10") | (with_reducible refine at_same (by with_reducible assumption) ?_; wtm_at "at10") | (with_reducible apply Off.at; wtm_at "off11"))
local macro_rules | `(tactic| wtm_at "off12") => `(tactic| first | with_reducible assumption | (with_reducible apply Off.mk; wtm_at "pen"; assumption) | (with_reducible refine Off.new (by assumption) _ _ ?_; wtm_at "off11") | (with_reducible refine at_same (by with_reducible assumption) ?_; wtm_at "off11"))
local macro_rules | `(tactic| wtm_at "at12") => `(tactic| first | with_reducible assumption | with_reducible exact upd_same | (with_reducible refine at_new (by assumption) ?_; wtm_at "at11") | (with_reducible refine at_same (by with_reducible assumption) ?_; wtm_at "at11") | (with_reducible apply Off.at; wtm_at "off12"))
local macro_rules | `(tactic| wtm_at "off13") => `(tactic| first | with_reducible assumption | (with_reducible apply Off.mk; wtm_at "pen"; assumption) | (with_reducible refine Off.new (by assumption) _ _ ?_; wtm_at "off12") | (with_reducible refine at_same (by with_reducible assumption) ?_; wtm_at "off12"))
local macro_rules | `(tactic| wtm_at "at13") => `(tactic| first | with_reducible assumption | with_reducible exact upd_same | (with_reducible refine at_new (by assumption) ?_; wtm_at "at12") | (with_reducible refine at_same (by with_reducible assumption) ?_; wtm_at "at12") | (with_reducible apply Off.at; wtm_at "off13"))
local macro_rules | `(tactic| wtm_at "off14") => `(tactic| first | with_reducible assumption | (with_reducible apply Off.mk; wtm_at "pen"; assumption) | (with_reducible refine Off.new (by assumption) _ _ ?_; wtm_at "off13") | (with_reducible refine at_same (by with_reducible assumption) ?_; wtm_at "off13"))
local macro_rules | `(tactic| wtm_at "at14") => `(tactic| first | with_reducible assumption | with_reducible exact upd_same | (with_reducible refine at_new (by assumption) ?_; wtm_at "at13") | (with_reducible refine at_same (by with_reducible assumption) ?_; wtm_at "at13") | (with_reducible apply Off.at; wtm_at "off14"))
local macro_rules | `(tactic| wtm_at "off15") => `(tactic| first | with_reducible assumption | (with_reducible apply Off.mk; wtm_at "pen"; assumption) | (with_reducible refine Off.new (by assumption) _ _ ?_; wtm_at "off14") | (with_reducible refine at_same (by with_reducible assumption) ?_; wtm_at "off14"))
local macro_rules | `(tactic| wtm_at "at15") => `(tactic| first | with_reducible assumption | with_reducible exact upd_same | (with_reducible refine at_new (by assumption) ?_; wtm_at "at14") | (with_reducible refine at_same (by with_reducible assumption) ?_; wtm_at "at14") | (with_reducible apply Off.at; wtm_at "off15"))
local macro_rules | `(tactic| wtm_at "off16") => `(tactic| first | with_reducible assumption | (with_reducible apply Off.mk; wtm_at "pen"; assumption) | (with_reducible refine Off.new (by assumption) _ _ ?_; wtm_at "off15") | (with_reducible refine at_same (by with_reducible assumption) ?_; wtm_at "off15"))
local macro_rules | `(tactic| wtm_at "at16") => `(tactic| first | with_reducible assumption | with_reducible exact upd_same | (with_reducible refine at_new (by assumption) ?_; wtm_at "at15") | (with_reducible refine at_same (by with_reducible assumption) ?_; wtm_at "at15") | (with_reducible apply Off.at; wtm_at "off16"))
local macro_rules | `(tactic| wtm_at "off17") => `(tactic| first | with_reducible assumption | (with_reducible apply Off.mk; wtm_at "pen"; assumption) | (with_reducible refine Off.new (by assumption) _ _ ?_; wtm_at "off16") | (with_reducible refine at_same (by with_reducible assumption) ?_; wtm_at "off16"))
local macro_rules | `(tactic| wtm_at "at17") => `(tactic| first | with_reducible assumption | with_reducible exact upd_same | (with_reducible refine at_new (by assumption) ?_; wtm_at "at16") | (with_reducible refine at_same (by with_reducible assumption) ?_; wtm_at "at16") | (with_reducible apply Off.at; wtm_at "off17"))
local macro_rules | `(tactic| wtm_at "off18") => `(tactic| first | with_reducible assumption | (with_reducible apply Off.mk; wtm_at "pen"; assumption) | (with_reducible refine Off.new (by assumption) _ _ ?_; wtm_at "off17") | (with_reducible refine at_same (by with_reducible assumption) ?_; wtm_at "off17"))
local macro_rules | `(tactic| wtm_at "at18") => `(tactic| first | with_reducible assumption | with_reducible exact upd_same | (with_reducible refine at_new (by assumption) ?_; wtm_at "at17") | (with_reducible refine at_same (by with_reducible assumption) ?_; wtm_at "at17") | (with_reducible apply Off.at; wtm_at "off18"))
local macro_rules | `(tactic| wtm_at "off19") => `(tactic| first | with_reducible assumption | (with_reducible apply Off.mk; wtm_at "pen"; assumption) | (with_reducible refine Off.new (by assumption) _ _ ?_; wtm_at "off18") | (with_reducible refine at_same (by with_reducible assumption) ?_; wtm_at "off18"))
local macro_rules | `(tactic| wtm_at "at19") => `(tactic| first | with_reducible assumption | with_reducible exact upd_same | (with_reducible refine at_new (by assumption) ?_; wtm_at "at18") | (with_reducible refine at_same (by with_reducible assumption) ?_; wtm_at "at18") | (with_reducible apply Off.at; wtm_at "off19"))
local macro_rules | `(tactic| wtm_at "off20") => `(tactic| first | with_reducible assumption | (with_reducible apply Off.mk; wtm_at "pen"; assumption) | (with_reducible refine Off.new (by assumption) _ _ ?_; wtm_at "off19") | (with_reducible refine at_same (by with_reducible assumption) ?_; wtm_at "off19"))
local macro_rules | `(tactic| wtm_at "at20") => `(tactic| first | with_reducible assumption | with_reducible exact upd_same | (with_reducible refine at_new (by assumption) ?_; wtm_at "at19") | (with_reducible refine at_same (by with_reducible assumption) ?_; wtm_at "at19") | (with_reducible apply Off.at; wtm_at "off20"))
local macro_rules | `(tactic| wtm_at "off21") => `(tactic| first | with_reducible assumption | (with_reducible apply Off.mk; wtm_at "pen"; assumption) | (with_reducible refine Off.new (by assumption) _ _ ?_; wtm_at "off20") | (with_reducible refine at_same (by with_reducible assumption) ?_; wtm_at "off20"))
local macro_rules | `(tactic| wtm_at "at21") => `(tactic| first | with_reducible assumption | with_reducible exact upd_same | (with_reducible refine at_new (by assumption) ?_; wtm_at "at20") | (with_reducible refine at_same (by with_reducible assumption) ?_; wtm_at "at20") | (with_reducible apply Off.at; wtm_at "off21"))
local macro_rules | `(tactic| wtm_at "off22") => `(tactic| first | with_reducible assumption | (with_reducible apply Off.mk; wtm_at "pen"; assumption) | (with_reducible refine Off.new (by assumption) _ _ ?_; wtm_at "off21") | (with_reducible refine at_same (by with_reducible assumption) ?_; wtm_at "off21"))
local macro_rules | `(tactic| wtm_at "at22") => `(tactic| first | with_reducible assumption | with_reducible exact upd_same | (with_reducible refine at_new (by assumption) ?_; wtm_at "at21") | (with_reducible refine at_same (by with_reducible assumption) ?_; wtm_at "at21") | (with_reducible apply Off.at; wtm_at "off22"))
local macro_rules | `(tactic| wtm_at "off23") => `(tactic| first | with_reducible assumption | (with_reducible apply Off.mk; wtm_at "pen"; assumption) | (with_reducible refine Off.new (by assumption) _ _ ?_; wtm_at "off22") | (with_reducible refine at_same (by with_reducible assumption) ?_; wtm_at "off22"))
local macro_rules | `(tactic| wtm_at "at23") => `(tactic| first | with_reducible assumption | with_reducible exact upd_same | (with_reducible refine at_new (by assumption) ?_; wtm_at "at22") | (with_reducible refine at_same (by with_reducible assumption) ?_; wtm_at "at22") | (with_reducible apply Off.at; wtm_at "off23"))
local macro_rules | `(tactic| wtm_at "off24") => `(tactic| first | with_reducible assumption | (with_reducible apply Off.mk; wtm_at "pen"; assumption) | (with_reducible refine Off.new (by assumption) _ _ ?_; wtm_at "off23") | (with_reducible refine at_same (by with_reducible assumption) ?_; wtm_at "off23"))
local macro_rules | `(tactic| wtm_at "at24") => `(tactic| first | with_reducible assumption | with_reducible exact upd_same | (with_reducible refine at_new (by assumption) ?_; wtm_at "at23") | (with_reducible refine at_same (by with_reducible assumption) ?_; wtm_at "at23") | (with_reducible apply Off.at; wtm_at "off24"))
local macro_rules | `(tactic| wtm_at "off25") => `(tactic| first | with_reducible assumption | (with_reducible apply Off.mk; wtm_at "pen"; assumption) | (with_reducible refine Off.new (by assumption) _ _ ?_; wtm_at "off24") | (with_reducible refine at_same (by with_reducible assumption) ?_; wtm_at "off24"))
local macro_rules | `(tactic| wtm_at "at25") => `(tactic| first | with_reducible assumption | with_reducible exact upd_same | (with_reducible refine at_new (by assumption) ?_; wtm_at "at24") | (with_reducible refine at_same (by with_reducible assumption) ?_; wtm_at "at24") | (with_reducible apply Off.at; wtm_at "off25"))
local macro_rules | `(tactic| wtm_at "off26") => `(tactic| first | with_reducible assumption | (with_reducible apply Off.mk; wtm_at "pen"; assumption) | (with_reducible refine Off.new (by assumption) _ _ ?_; wtm_at "off25") | (with_reducible refine at_same (by with_reducible assumption) ?_; wtm_at "off25"))
local macro_rules | `(tactic| wtm_at "at26") => `(tactic| first | with_reducible assumption | with_reducible exact upd_same | (with_reducible refine at_new (by assumption) ?_; wtm_at "at25") | (with_reducible refine at_same (by with_reducible assumption) ?_; wtm_at "at25") | (with_reducible apply Off.at; wtm_at "off26"))
local macro_rules | `(tactic| wtm_at "off27") => `(tactic| first | with_reducible assumption | (with_reducible apply Off.mk; wtm_at "pen"; assumption) | (with_reducible refine Off.new (by assumption) _ _ ?_; wtm_at "off26") | (with_reducible refine at_same (by with_reducible assumption) ?_; wtm_at "off26"))
local macro_rules | `(tactic| wtm_at "at27") => `(tactic| first | with_reducible assumption | with_reducible exact upd_same | (with_reducible refine at_new (by assumption) ?_; wtm_at "at26") | (with_reducible refine at_same (by with_reducible assumption) ?_; wtm_at "at26") | (with_reducible apply Off.at; wtm_at "off27"))
local macro_rules | `(tactic| wtm_at "off28") => `(tactic| first | with_reducible assumption | (with_reducible apply Off.mk; wtm_at "pen"; assumption) | (with_reducible refine Off.new (by assumption) _ _ ?_; wtm_at "off27") | (with_reducible refine at_same (by with_reducible assumption) ?_; wtm_at "off27"))
local macro_rules | `(tactic| wtm_at "at28") => `(tactic| first | with_reducible assumption | with_reducible exact upd_same | (with_reducible refine at_new (by assumption) ?_; wtm_at "at27") | (with_reducible refine at_same (by with_reducible assumption) ?_; wtm_at "at27") | (with_reducible apply Off.at; wtm_at "off28"))
local macro_rules | `(tactic| wtm_at "off29") => `(tactic| first | with_reducible assumption | (with_reducible apply Off.mk; wtm_at "pen"; assumption) | (with_reducible refine Off.new (by assumption) _ _ ?_; wtm_at "off28") | (with_reducible refine at_same (by with_reducible assumption) ?_; wtm_at "off28"))
local macro_rules | `(tactic| wtm_at "at29") => `(tactic| first | with_reducible assumption | with_reducible exact upd_same | (with_reducible refine at_new (by assumption) ?_; wtm_at "at28") | (with_reducible refine at_same (by with_reducible assumption) ?_; wtm_at "at28") | (with_reducible apply Off.at; wtm_at "off29"))
local macro_rules | `(tactic| wtm_at "off30") => `(tactic| first | with_reducible assumption | (with_reducible apply Off.mk; wtm_at "pen"; assumption) | (with_reducible refine Off.new (by assumption) _ _ ?_; wtm_at "off29") | (with_reducible refine at_same (by with_reducible assumption) ?_; wtm_at "off29"))
local macro_rules | `(tactic| wtm_at "at30") => `(tactic| first | with_reducible assumption | with_reducible exact upd_same | (with_reducible refine at_new (by assumption) ?_; wtm_at "at29") | (with_reducible refine at_same (by with_reducible assumption) ?_; wtm_at "at29") | (with_reducible apply Off.at; wtm_at "off30"))
local macro_rules | `(tactic| wtm_at "off31") => `(tactic| first | with_reducible assumption | (with_reducible apply Off.mk; wtm_at "pen"; assumption) | (with_reducible refine Off.new (by assumption) _ _ ?_; wtm_at "off30") | (with_reducible refine at_same (by with_reducible assumption) ?_; wtm_at "off30"))
local macro_rules | `(tactic| wtm_at "at31") => `(tactic| first | with_reducible assumption | with_reducible exact upd_same | (with_reducible refine at_new (by assumption) ?_; wtm_at "at30") | (with_reducible refine at_same (by with_reducible assumption) ?_; wtm_at "at30") | (with_reducible apply Off.at; wtm_at "off31"))
local macro_rules | `(tactic| wtm_at "off32") => `(tactic| first | with_reducible assumption | (with_reducible apply Off.mk; wtm_at "pen"; assumption) | (with_reducible refine Off.new (by assumption) _ _ ?_; wtm_at "off31") | (with_reducible refine at_same (by with_reducible assumption) ?_; wtm_at "off31"))
local macro_rules | `(tactic| wtm_at "at32") => `(tactic| first | with_reducible assumption | with_reducible exact upd_same | (with_reducible refine at_new (by assumption) ?_; wtm_at "at31") | (with_reducible refine at_same (by with_reducible assumption) ?_; wtm_at "at31") | (with_reducible apply Off.at; wtm_at "off32"))
local macro_rules | `(tactic| wtm_at "off33") => `(tactic| first | with_reducible assumption | (with_reducible apply Off.mk; wtm_at "pen"; assumption) | (with_reducible refine Off.new (by assumption) _ _ ?_; wtm_at "off32") | (with_reducible refine at_same (by with_reducible assumption) ?_; wtm_at "off32"))
local macro_rules | `(tactic| wtm_at "at33") => `(tactic| first | with_reducible assumption | with_reducible exact upd_same | (with_reducible refine at_new (by assumption) ?_; wtm_at "at32") | (with_reducible refine at_same (by with_reducible assumption) ?_; wtm_at "at32") | (with_reducible apply Off.at; wtm_at "off33"))
local macro_rules | `(tactic| wtm_at "off34") => `(tactic| first | with_reducible assumption | (with_reducible apply Off.mk; wtm_at "pen"; assumption) | (with_reducible refine Off.new (by assumption) _ _ ?_; wtm_at "off33") | (with_reducible refine at_same (by with_reducible assumption) ?_; wtm_at "off33"))
local macro_rules | `(tactic| wtm_at "at34") => `(tactic| first | with_reducible assumption | with_reducible exact upd_same | (with_reducible refine at_new (by assumption) ?_; wtm_at "at33") | (with_reducible refine at_same (by with_reducible assumption) ?_; wtm_at "at33") | (with_reducible apply Off.at; wtm_at "off34"))
local macro_rules | `(tactic| wtm_at "off35") => `(tactic| first | with_reducible assumption | (with_reducible apply Off.mk; wtm_at "pen"; assumption) | (with_reducible refine Off.new (by assumption) _ _ ?_; wtm_at "off34") | (with_reducible refine at_same (by with_reducible assumption) ?_; wtm_at "off34"))
local macro_rules | `(tactic| wtm_at "at35") => `(tactic| first | with_reducible assumption | with_reducible exact upd_same | (with_reducible refine at_new (by assumption) ?_; wtm_at "at34") | (with_reducible refine at_same (by with_reducible assumption) ?_; wtm_at "at34") | (with_reducible apply Off.at; wtm_at "off35"))
local macro_rules | `(tactic| wtm_at "off36") => `(tactic| first | with_reducible assumption | (with_reducible apply Off.mk; wtm_at "pen"; assumption) | (with_reducible refine Off.new (by assumption) _ _ ?_; wtm_at "off35") | (with_reducible refine at_same (by with_reducible assumption) ?_; wtm_at "off35"))
local macro_rules | `(tactic| wtm_at "at36") => `(tactic| first | with_reducible assumption | with_reducible exact upd_same | (with_reducible refine at_new (by assumption) ?_; wtm_at "at35") | (with_reducible refine at_same (by with_reducible assumption) ?_; wtm_at "at35") | (with_reducible apply Off.at; wtm_at "off36"))
local macro_rules | `(tactic| wtm_at "off37") => `(tactic| first | with_reducible assumption | (with_reducible apply Off.mk; wtm_at "pen"; assumption) | (with_reducible refine Off.new (by assumption) _ _ ?_; wtm_at "off36") | (with_reducible refine at_same (by with_reducible assumption) ?_; wtm_at "off36"))
local macro_rules | `(tactic| wtm_at "at37") => `(tactic| first | with_reducible assumption | with_reducible exact upd_same | (with_reducible refine at_new (by assumption) ?_; wtm_at "at36") | (with_reducible refine at_same (by with_reducible assumption) ?_; wtm_at "at36") | (with_reducible apply Off.at; wtm_at "off37"))
local macro_rules | `(tactic| wtm_at "off38") => `(tactic| first | with_reducible assumption | (with_reducible apply Off.mk; wtm_at "pen"; assumption) | (with_reducible refine Off.new (by assumption) _ _ ?_; wtm_at "off37") | (with_reducible refine at_same (by with_reducible assumption) ?_; wtm_at "off37"))
local macro_rules | `(tactic| wtm_at "at38") => `(tactic| first | with_reducible assumption | with_reducible exact upd_same | (with_reducible refine at_new (by assumption) ?_; wtm_at "at37") | (with_reducible refine at_same (by with_reducible assumption) ?_; wtm_at "at37") | (with_reducible apply Off.at; wtm_at "off38"))
local macro_rules | `(tactic| wtm_at "off39") => `(tactic| first | with_reducible assumption | (with_reducible apply Off.mk; wtm_at "pen"; assumption) | (with_reducible refine Off.new (by assumption) _ _ ?_; wtm_at "off38") | (with_reducible refine at_same (by with_reducible assumption) ?_; wtm_at "off38"))
local macro_rules | `(tactic| wtm_at "at39") => `(tactic| first | with_reducible assumption | with_reducible exact upd_same | (with_reducible refine at_new (by assumption) ?_; wtm_at "at38") | (with_reducible refine at_same (by with_reducible assumption) ?_; wtm_at "at38") | (with_reducible apply Off.at; wtm_at "off39"))
local macro_rules | `(tactic| wtm_at "at") => `(tactic| wtm_at "at39")
local macro_rules | `(tactic| wtm_at "off") => `(tactic| wtm_at "off39")
local macro_rules | `(tactic| wtm_at "pen") => `(tactic| first
  | assumption | (refine Pen.new (by assumption) ?_; wtm_at "pen") | (refine Pen.same (by assumption) ?_; wtm_at "pen"))
local macro_rules | `(tactic| wtm_at "same") => `(tactic| first
  | exact fun _ _ h => h | assumption | exact same_new (by assumption) | (refine same_trans ?_ (same_new (by assumption)); wtm_at "same") | (refine same_trans ?_ (by assumption); wtm_at "same")
  | (refine same_trans ?_ (Off.new (by assumption)); wtm_at "same") | (refine same_trans ?_ (Off.same (by assumption)); wtm_at "same"))
local macro_rules | `(tactic| wtm_at "dps") => `(tactic| first
  | exact .nil | (apply DpAll.cons; wtm_at "dp"; wtm_at "dps") | exact dpAll_ints _)
local macro_rules | `(tactic| wtm_at "dp") => `(tactic| first
  | exact .non | exact .bl _ | exact .int _ | exact .str _ | (fail) | (apply Dp.lst; (apply SqL.of; wtm_at "at"); wtm_at "dps") | (apply Dp.tup; (apply SqT.of; wtm_at "at"); wtm_at "dps"))
local macro_rules | `(tactic| wtm_at "side") => `(tactic| first
  | exact ⟨by decide, by decide⟩ | exact ⟨by decide, by decide, by decide⟩ | exact .inl ⟨by decide, by decide⟩ | exact .inr ⟨by decide, by decide⟩ | (show ¬ _ = _; decide))
local macro_rules | `(tactic| wtm_at "sml") => `(tactic| first
  | exact sml_none (by decide) | exact sml_bool (by decide) | exact sml_int (by decide) (by omega) | (fail) | exact sml_list (n := 19) (k := 0) (by wtm_at "smls") (by decide) (by decide))
local macro_rules | `(tactic| wtm_at "smls") => `(tactic| first | exact smlAll_nil (m := 0) | (apply smlAll_cons; wtm_at "sml"; wtm_at "smls"))
local macro_rules | `(tactic| wtm_at "shw") => `(tactic| exact Sml.shw (n := 10000) (k := 50) (by wtm_at "sml") (by decide) (by decide))
local macro_rules | `(tactic| wtm_at "rd") => `(tactic| first
  | refine ⟨_, rfl, ?_⟩ | refine ⟨_, _, rfl, rfl, ?_⟩ | refine ifT rfl ?_ | refine ifF rfl ?_ | refine ⟨rfl, ?_⟩
  | refine ⟨_, _, by rfl, by wtm_at "dp", by wtm_at "shw", ?_⟩
  | refine ⟨_, _, _, _, _, rfl, by wtm_at "at", by wtm_at "cls", by wtm_at "na", by rfl, ?_⟩
  | refine ⟨_, _, rfl, .inr (SqT.of (by wtm_at "at")), ?_⟩ | refine ⟨_, _, rfl, .inl (SqL.of (by wtm_at "at")), ?_⟩
  | refine ⟨_, _, rfl, .inr (SqT.of (by wtm_at "at")), by rfl, by rfl, ?_⟩ | refine ⟨_, _, rfl, .inl (SqL.of (by wtm_at "at")), by rfl, by rfl, ?_⟩
  | refine ⟨_, _, _, _, rfl, rfl, SqT.of (by wtm_at "at"), by rfl, ?_⟩ | refine ⟨_, _, _, _, rfl, rfl, SqL.of (by wtm_at "at"), by rfl, ?_⟩
  | refine ⟨_, _, rfl, rfl, by wtm_at "side", ?_⟩
  | refine ⟨_, _, by wtm_at "dp", by wtm_at "dp", by first | rfl | decide +kernel, by first | rfl | decide +kernel, ?_⟩
  | refine ⟨_, _, [_, _], [_, _], rfl, rfl, sqI2 (by wtm_at "at"), sqI2 (by wtm_at "at"), ?_⟩
  | refine ⟨_, _, rfl, ?_⟩
  | refine ⟨Nat.le_of_ble_eq_true rfl, fun _ _ => ?_⟩
  | refine ifF (by decide +kernel) ?_ | refine ifF (nd_refl _) ?_ | refine ifT (de_refl _) ?_)
local macro_rules | `(tactic| wtm_at "cls") => `(tactic| first | exact cls_Finding _)
local macro_rules | `(tactic| wtm_at "na") => `(tactic| first | exact na_Finding_word _ | exact na_Finding_fields _)

def normD : PyData → PyData
  | .bool true => .int 1
  | .bool false => .int 0
  | d => d
def normV (v : V) : V := if v = .bl true then .int 1 else if v = .bl false then .int 0 else v
theorem norm_dq {K : PySem.W.Frag} {H : Hp} {v : V} {d : PyData} (h : Dq K H v d) : Dq K H (normV v) (normD d) := by
  cases h with
  | bl b => cases b <;> exact .int _
  | non => exact .non
  | int i => exact .int i
  | str x => exact .str x
  | lst a r => exact .lst a r
  | tup a r => exact .tup a r
  | dct a r => exact .dct a r
theorem norm_dqAll {K : PySem.W.Frag} {H : Hp} : ∀ {vs : List V} {ds : List PyData}, DqAll K H vs ds → DqAll K H (vs.map normV) (ds.map normD)
  | [], [], .nil => .nil
  | _ :: _, _ :: _, .cons a r => .cons (norm_dq a) (norm_dqAll r)
theorem norm_eq {d : PyData} (h : okQ d = true) : eqQ d (normD d) = true := by
  cases d with
  | bool b => cases b <;> rfl
  | _ => exact eqQ_refl _ h
theorem norm_ok {d : PyData} (h : okQ d = true) : okQ (normD d) = true := by
  cases d with
  | bool b => cases b <;> rfl
  | _ => exact h
theorem norm_dp (d : PyData) : PyData.depth (normD d) = PyData.depth d := by
  cases d with
  | bool b => cases b <;> rfl
  | _ => rfl
theorem eqQAll_norm : ∀ {ds : List PyData}, okQAll ds = true → eqQAll ds (ds.map normD) = true
  | [], _ => rfl
  | d :: ds, h => by
    have h : (okQ d && okQAll ds) = true := h
    rw [Bool.and_eq_true] at h
    show (eqQ d (normD d) && eqQAll ds (ds.map normD)) = true
    rw [norm_eq h.1, eqQAll_norm h.2] <;> rfl
theorem okQAll_of : ∀ {ds : List PyData}, (∀ d ∈ ds, okQ d = true) → okQAll ds = true
  | [], _ => rfl
  | d :: ds, h => by
    show (okQ d && okQAll ds) = true
    rw [h d List.mem_cons_self, okQAll_of fun e he => h e (List.mem_cons_of_mem _ he)] <;> rfl
theorem depthAll_of {n : Nat} : ∀ {ds : List PyData}, (∀ d ∈ ds, PyData.depth d ≤ n) → PyData.depthAll ds ≤ n
  | [], _ => Nat.zero_le _
  | d :: ds, h => Nat.max_le.mpr ⟨h d List.mem_cons_self, depthAll_of fun e he => h e (List.mem_cons_of_mem _ he)⟩
theorem eqQAll_set {e : PyData} : ∀ {ds : List PyData} {i : Nat}, okQAll ds = true → i < ds.length → eqQAll ds (ds.set i e) = eqQ (ds.getD i .none) e
  | [], _, _, h => absurd h (Nat.not_lt_zero _)
  | d :: ds, 0, h, _ => by
    have h : (okQ d && okQAll ds) = true := h
    rw [Bool.and_eq_true] at h
    show (eqQ d e && eqQAll ds ds) = eqQ d e
    rw [eqQAll_refl ds h.2, Bool.and_true]
  | d :: ds, i + 1, h, hi => by
    have h : (okQ d && okQAll ds) = true := h
    rw [Bool.and_eq_true] at h
    show (eqQ d d && eqQAll ds (ds.set i e)) = eqQ (ds.getD i .none) e
    rw [eqQ_refl d h.1, eqQAll_set h.2 (Nat.lt_of_succ_lt_succ hi), Bool.true_and]
theorem dqAll_take {K : PySem.W.Frag} {H : Hp} : ∀ {vs : List V} {ds : List PyData} (n : Nat), DqAll K H vs ds → DqAll K H (vs.take n) (ds.take n)
  | _, _, 0, _ => .nil
  | [], [], n + 1, .nil => .nil
  | _ :: _, _ :: _, n + 1, .cons a r => .cons a (dqAll_take n r)
theorem dqAll_set' {K : PySem.W.Frag} {H : Hp} : ∀ {xs : List V} {ds : List PyData} {v : V} {d : PyData}, DqAll K H xs ds → Dq K H v d → ∀ i, DqAll K H (xs.set i v) (ds.set i d)
  | [], [], _, _, .nil, _, _ => .nil
  | _ :: _, _ :: _, _, _, .cons _ r, q, 0 => .cons q r
  | _ :: _, _ :: _, _, _, .cons a r, q, i + 1 => .cons a (dqAll_set' r q i)
theorem manyF_le (k : Int) : manyF k ≤ 4 := by
  unfold manyF
  split <;> (try split) <;> (try split) <;> decide
theorem manyF_pos (k : Int) : 1 ≤ manyF k := by
  unfold manyF
  split <;> (try split) <;> (try split) <;> decide
theorem many_at (k : Int) (h0 : 0 ≤ k) (h4 : k < 4) : atI [V.int 1, .int 3, .int 3, .int 4] k = some (.int (manyF k)) := by
  obtain rfl | rfl | rfl | rfl : k = 0 ∨ k = 1 ∨ k = 2 ∨ k = 3 := by omega
  all_goals rfl
theorem fin_mono {K : PySem.W.Frag} {H H' : Hp} {a : Addr} {k : Int} {ds : List PyData} (s : Same H H') (h : FinAt K H a k ds) : FinAt K H' a k ds :=
  let ⟨dx, t, xs, h1, h2, h3, h4, h5, h6⟩ := h
  ⟨dx, t, xs, s _ _ h1, s _ _ h2, h3, dqAll_mono s h4, h5, h6⟩
theorem okQAll_take : ∀ {ds : List PyData} (n : Nat), okQAll ds = true → okQAll (ds.take n) = true := fun n h => okQAll_of fun d hd => by
  obtain ⟨i, hi, e⟩ := List.mem_iff_getElem.mp (List.take_subset _ _ hd)
  exact okQAll_get (i := i) h (by rw [List.getElem?_eq_getElem hi, e])
theorem depthAll_take {m : Nat} : ∀ {ds : List PyData} (n : Nat), PyData.depthAll ds ≤ m → PyData.depthAll (ds.take n) ≤ m
  | _, 0, _ => Nat.zero_le _
  | [], n + 1, _ => Nat.zero_le _
  | d :: ds, n + 1, h => by
    have h : max (PyData.depth d) (PyData.depthAll ds) ≤ m := h
    exact Nat.max_le.mpr ⟨by omega, depthAll_take n (by omega)⟩
theorem fin_of {K : PySem.W.Frag} {H : Hp} {x dx t : Addr} {k : Int} {xs : List V} {ds : List PyData} (h1 : H x = some (finO k dx t (xs.take (manyF k)))) (h2 : H t = some (.tup (xs.take (manyF k)))) (hx : xs.length = 4) (hd : DqAll K H xs ds) (ok : okQAll ds = true) (dp : PyData.depthAll ds ≤ 50) : FinAt K H x k (ds.take (manyF k)) :=
  ⟨dx, t, _, h1, h2, by rw [List.length_take, hx]; exact Nat.min_eq_left (manyF_le k), dqAll_take _ hd, okQAll_take _ ok, depthAll_take _ dp⟩
theorem eqF_self {k k' : Int} {ds : List PyData} (ok : okQAll ds = true) : eqF k (ds.take (manyF k)) k' (ds.take (manyF k')) = decide (k' = k) := by
  unfold eqF
  by_cases h : k = k'
  · subst h
    rw [eqQAll_refl _ (okQAll_take _ ok), decide_eq_true rfl] <;> rfl
  · rw [decide_eq_false h, decide_eq_false (fun e => h e.symm), Bool.false_and]
theorem cut_set {xs : List V} {a : Int} (v : V) (h0 : 0 ≤ a) (h : a < xs.length) : cutV xs none (some a) ++ [v] ++ cutV xs (some (a + 1)) none = xs.set a.toNat v := by
  obtain ⟨n, rfl⟩ : ∃ n : Nat, a = n := ⟨a.toNat, by omega⟩
  have hn : n < xs.length := by omega
  unfold cutV
  rw [show ((n : Int) + 1) = ((n + 1 : Nat) : Int) from rfl, HT.sIx_none, HT.sIx_none, HT.sIx_nat, HT.sIx_nat, List.drop_zero, Nat.sub_zero, Nat.min_eq_left (Nat.le_of_lt hn), Nat.min_eq_left (Nat.succ_le_of_lt hn), List.take_of_length_le (l := xs.drop n.succ) (by rw [List.length_drop]; exact Nat.le_refl _)]
  show _ = xs.set n v
  rw [List.set_eq_take_append_cons_drop, if_pos hn, List.append_assoc]
  rfl
theorem pen_ins {H : Hp} {p c a C dx : Addr} {m : Int} {fs : List (Str × V)} (P : Pen H p c m) (e : H a = some (.ins C dx fs)) : a ≠ p := fun z => by
  obtain ⟨b, l, ns, h, _⟩ := P
  rw [z, h] at e
  cases e
theorem pen_tup {H : Hp} {p c a : Addr} {m : Int} {xs : List V} (P : Pen H p c m) (e : H a = some (.tup xs)) : a ≠ p := fun z => by
  obtain ⟨b, l, ns, h, _⟩ := P
  rw [z, h] at e
  cases e
theorem int_dec (j : Nat) (k : Int) : V.bl (decide (V.int (0 + (j : Int)) = V.int k)) = V.bl (decide ((j : Int) = k)) := by
  rw [Int.zero_add]
  by_cases h : (j : Int) = k
  · rw [h, decide_eq_true rfl, decide_eq_true rfl]
  · rw [decide_eq_false h, decide_eq_false (fun e => h (V.int.inj e))]
theorem eq_bent {k : Int} {ds : List PyData} {d : PyData} {i : Nat} (ok : okQAll ds = true) (h4 : ds.length = 4) (hi : i < manyF k) : eqF k (ds.take (manyF k)) k ((ds.set i d).take (manyF k)) = eqQ (.list (ds.set i d)) (.list ds) := by
  have ml := manyF_le k
  unfold eqF
  rw [decide_eq_true rfl, Bool.true_and, List.take_set, eqQAll_set (okQAll_take _ ok) (by rw [List.length_take]; omega)]
  show _ = eqQAll (ds.set i d) ds
  rw [eqQAll_symm, eqQAll_set ok (by omega), List.getD_eq_getElem?_getD, List.getD_eq_getElem?_getD, List.getElem?_take_of_lt hi]
theorem norm_fin {ds : List PyData} (ok : okQAll ds = true) (k : Int) : eqF k (ds.take (manyF k)) k ((ds.map normD).take (manyF k)) = true := by
  unfold eqF
  rw [decide_eq_true rfl, Bool.true_and, ← List.map_take, eqQAll_norm (okQAll_take _ ok)]
def spCompared (K : PySem.W.Frag) : Sp := fun vs H Q _ => ∃ (p c l : Addr) (m k : Int) (xs : List V) (ds : List PyData), vs = [.ref p, .int k, .ref l] ∧ Pen H p c m ∧ m ≤ 90000 ∧ 0 ≤ k ∧ k < 4 ∧ Uk.Off p H l = some (.lst xs) ∧ Flds K (Uk.Off p H) xs ds ∧ ∀ H', Same (Off p H) (Off p H') → Pen H' p c (m + 4) → Q (.bl true) H'
section
variable {mg : PySem.Str → Option Value} {base : Heap} {w : World}
theorem owneq (w : World) (C : Addr) (h : isF C) : Own (hd65.heap_39 w.params) C "__eq__" 42 := by
  rcases h with rfl | rfl | rfl | rfl
  · exact owneq_Still w
  · exact owneq_Clash w
  · exact owneq_Wrong w
  · exact owneq_Right w
theorem nfp (w : World) (C D : Addr) (h : isF C) (h2 : isF D) : PySem.W.notFirst (hd65.heap_39 w.params) C (.ref D) = true :=
  List.all_eq_true.mp (List.all_eq_true.mp (nf_all w) C (by rcases h with rfl | rfl | rfl | rfl <;> simp)) _ (by rcases h2 with rfl | rfl | rfl | rfl <;> simp)
theorem nft (w : World) (C : Addr) (h : isF C) (d : PyData) : PySem.W.notFirst (hd65.heap_39 w.params) C (.type (tyD d)) = true :=
  List.all_eq_true.mp (List.all_eq_true.mp (nf_all w) C (by rcases h with rfl | rfl | rfl | rfl <;> simp)) _ (by cases d <;> simp [tyD])
theorem eq_row (w : World) {H : Hp} {x b : Addr} {k k' : Int} {ds es : List PyData} {Q : VK} (k0 : 0 ≤ k) (k4 : k < 4) (k0' : 0 ≤ k') (k4' : k' < 4) (h : FinAt (hd65.heap_39 w.params) H x k ds) (h' : FinAt (hd65.heap_39 w.params) H b k' es) (q : Q (.bl (eqF k ds k' es)) H) : rOw (hd65.heap_39 w.params) isF (pos (spEqF (hd65.heap_39 w.params))) id (.ref x) (.ref b) H Q := by
  obtain ⟨dx', t', ys, hb, r'⟩ := id h'
  obtain ⟨dx, t, xs, ha, r⟩ := id h
  exact ⟨x, clsF k, dx, _, _, rfl, clsF_is k, ha, (tyc_fin w _ (clsF_is k')).ty hb, nfp w _ _ (clsF_is k) (clsF_is k'), rfl, x, .ref b, k, ds, rfl, k0, k4, h, .inl ⟨b, k', es, rfl, k0', k4', h', q⟩⟩
theorem eq_row' (w : World) {H : Hp} {x : Addr} {y : V} {k : Int} {ds : List PyData} {d : PyData} {Q : VK} (k0 : 0 ≤ k) (k4 : k < 4) (h : FinAt (hd65.heap_39 w.params) H x k ds) (hd : Dq (hd65.heap_39 w.params) H y d) (q : Q (.bl false) H) : rOw (hd65.heap_39 w.params) isF (pos (spEqF (hd65.heap_39 w.params))) id (.ref x) y H Q := by
  obtain ⟨dx, t, xs, ha, r⟩ := id h
  exact ⟨x, clsF k, dx, _, _, rfl, clsF_is k, ha, dq_ty hd, nft w _ (clsF_is k) d, rfl, x, y, k, ds, rfl, k0, k4, h, .inr ⟨⟨d, hd⟩, q⟩⟩
theorem ok__law_compared (M : Mod (hd65.heap_39 w.params) mg base) : CallG PP w (hd65.heap_39 w.params) mg base 7 (.ref 215) (pos (spCompared (hd65.heap_39 w.params))) := by
  obtain ⟨fd, F⟩ := fn__law_compared w
  refine def_pos F sc__law_compared (fun vs H Q E h => ?_) (fun _ _ _ _ _ _ us hl => match us, hl with | [_, _, _], _ => rfl) (fun cdv A outer s H vs Q E hr hg h => ?_)
  · obtain ⟨p, c, l, m, k, xs, ds, rfl, _⟩ := h; rfl
  have nd := sc__law_compared.nd
  obtain ⟨p, c, l, m, k, xs, ds, rfl, P, hm, hk0, hk4, hlo, ⟨hdo, hl4, hfd⟩, q⟩ := h
  have hl := Uk.Off.at hlo
  have hd := dqAll_mono (fun b u e => Uk.Off.at e) hdo
  have hx : xs.length = 4 := (dqAll_len hd).trans hl4
  have ok : okQAll ds = true := okQAll_of fun d h => (fld_of (hfd d h)).2
  have dp : PyData.depthAll ds ≤ 50 := depthAll_of fun d h => Nat.le_trans (fld_of (hfd d h)).1.dp (by decide)
  refine ⟨_, (pss_cons (ps_set (i := 3) nd rfl (.inr rfl) (pe_cl (takes_of rfl rfl rfl rfl) (ok__law_made M) (hr.mono (by decide)) hg rfl (mg__law_made M) (kp__law_made w) (pa_cons (pv 1) (pa_cons (pv 2) pa_nil))))
      (pss_cons (ps_setLc (i := 4) (own := [("other", 5)]) (g := gName 5) (by rfl) nd rfl rfl (sw_true rfl rfl rfl (by decide +kernel)) (pi_range1 (by rfl) (mn_range M) (pa_cons pe_int pa_nil)) (blkOk_by (own := [("other", 5)]) (N := ["pen", "at", "fields", "finding", "others", "other", "one", "many", "spot", "bent", "same", "some"]) (sc := defScope s__law_compared) (by decide +kernel)) (fun _ _ _ _ _ => pg_name (i := 5) nd rfl (Or.inl rfl)) (fun _ _ _ _ _ => pts_nil) (fun _ _ _ _ _ => (pe_cl takes_no (ok__law_made M) (hr.mono (by decide)) hg rfl (mg__law_made M) (kp__law_made w) (pa_cons (pv 5) (pa_cons (pv 2) pa_nil)))))
      (pss_cons (ps_if (pt_cmpR (op_neLs (hu_big hr)) (pe_lc (own := [("one", 6)]) (g := gName 6) (by rfl) nd (pi_list (pv 4)) (blkOk_by (own := [("one", 6)]) (N := ["pen", "at", "fields", "finding", "others", "other", "one", "many", "spot", "bent", "same", "some"]) (sc := defScope s__law_compared) (by decide +kernel)) (fun _ _ _ _ _ => pg_name (i := 6) nd rfl (Or.inl rfl)) (fun _ _ _ _ _ => pts_nil) (fun _ _ _ _ _ => (pe_cmpR (show OpR _ (compareOp .Eq) (rOw (hd65.heap_39 w.params) isF (pos (spEqF (hd65.heap_39 w.params))) id) from (op_eqO (D := isF) (ok_Finding___eq__ M) (hr.mono (by decide)) hg (fun C h => owneq w C h))) (pv 3) (pv 6) (nomark _)))) (pe_lc (own := [("other", 5)]) (g := gName 5) (by rfl) nd (pi_range1 (by rfl) (mn_range M) (pa_cons pe_int pa_nil)) (blkOk_by (own := [("other", 5)]) (N := ["pen", "at", "fields", "finding", "others", "other", "one", "many", "spot", "bent", "same", "some"]) (sc := defScope s__law_compared) (by decide +kernel)) (fun _ _ _ _ _ => pg_name (i := 5) nd rfl (Or.inl rfl)) (fun _ _ _ _ _ => pts_nil) (fun _ _ _ _ _ => (pe_cmpR op_eq (pv 5) (pv 1) (nomark _)))) (nomark _)) (pss_one (ps_ret pe_bl)) pss_nil)
      (pss_cons (ps_set (i := 7) nd rfl (.inl rfl) (pe_ix ix_list (pe_lst (pa_cons pe_int (pa_cons pe_int (pa_cons pe_int (pa_cons pe_int pa_nil))))) (pv 1) (fun _ _ => rfl)))
      (pss_cons (ps_set (i := 8) nd rfl (.inl rfl) (pe_cl (takes_of rfl rfl rfl rfl) (ok_drawP M) (hr.mono (by decide)) hg rfl (mg__law_draw M) (kp__law_draw w) (pa_cons (pv 0) (pa_cons (pv 7) pa_nil))))
      (pss_cons (ps_set (i := 9) nd rfl (.inl rfl) (pe_op op_cat (pe_op op_cat (pe_slice sl_list (pv 2) po_none (po_some (pv 8))) (pe_lst (pa_cons (pe_cl (takes_of rfl rfl rfl rfl) (ok__law_field M) (hr.mono (by decide)) hg rfl (mg__law_field M) (kp__law_field w) (pa_cons (pv 0) pa_nil)) pa_nil))) (pe_slice sl_list (pv 2) (po_some (pe_op op_add (pv 8) pe_int)) po_none)))
      (pss_cons (ps_if (pt_cmpR op_ne (pe_cmpR (op_eqO (D := isF) (ok_Finding___eq__ M) (hr.mono (by decide)) hg (fun C h => owneq w C h)) (pv 3) (pe_cl (takes_of rfl rfl rfl rfl) (ok__law_made M) (hr.mono (by decide)) hg rfl (mg__law_made M) (kp__law_made w) (pa_cons (pv 1) (pa_cons (pv 9) pa_nil))) (nomark _)) (pe_cmpR (op_eqQ (hu_big hr)) (pv 9) (pv 2) (nomark _)) (nomark _)) (pss_one (ps_ret pe_bl)) pss_nil)
      (pss_cons (ps_setLc (i := 10) (own := [("one", 6)]) (g := gName 6) (by rfl) nd rfl rfl (sw_true rfl rfl rfl (by decide +kernel)) (pi_list (pv 2)) (blkOk_by (own := [("one", 6)]) (N := ["pen", "at", "fields", "finding", "others", "other", "one", "many", "spot", "bent", "same", "some"]) (sc := defScope s__law_compared) (by decide +kernel)) (fun _ _ _ _ _ => pg_name (i := 6) nd rfl (Or.inl rfl)) (fun _ _ _ _ _ => pts_nil) (fun _ _ _ _ _ => (pe_ifExp (pt_cmpR op_isB (pv 6) pe_bl (nomark _)) pe_int (pe_ifExp (pt_cmpR op_isB (pv 6) pe_bl (nomark _)) pe_int (pv 6)))))
      (pss_cons (ps_if (pt_not (pt_cmpR (op_eqO (D := isF) (ok_Finding___eq__ M) (hr.mono (by decide)) hg (fun C h => owneq w C h)) (pv 3) (pe_cl (takes_of rfl rfl rfl rfl) (ok__law_made M) (hr.mono (by decide)) hg rfl (mg__law_made M) (kp__law_made w) (pa_cons (pv 1) (pa_cons (pv 10) pa_nil))) (nomark _))) (pss_one (ps_ret pe_bl)) pss_nil)
      (pss_cons (ps_set (i := 11) nd rfl (.inl rfl) (pe_lst (pa_cons pe_non (pa_cons (pv 1) (pa_cons (pe_ix ix_list (pv 2) pe_int (fun _ _ => rfl)) (pa_cons (pe_callTy call_tuple_of (by rfl) (mn_tuple M) (by decide +kernel) (pa_cons (pv 2) pa_nil)) (pa_cons (pe_fld (pv 3) rfl) pa_nil)))))))
      (pss_one (ps_ret (pe_cmpR (op_eqD (hu_big hr)) (pe_lc (own := [("one", 6)]) (g := gName 6) (by rfl) nd (pi_list (pv 11)) (blkOk_by (own := [("one", 6)]) (N := ["pen", "at", "fields", "finding", "others", "other", "one", "many", "spot", "bent", "same", "some"]) (sc := defScope s__law_compared) (by decide +kernel)) (fun _ _ _ _ _ => pg_name (i := 6) nd rfl (Or.inl rfl)) (fun _ _ _ _ _ => pts_one (pt_cmpR (show OpR _ (compareOp .Eq) (rOw (hd65.heap_39 w.params) isF (pos (spEqF (hd65.heap_39 w.params))) id) from (op_eqO (D := isF) (ok_Finding___eq__ M) (hr.mono (by decide)) hg (fun C h => owneq w C h))) (pv 3) (pv 6) (nomark _))) (fun _ _ _ _ _ => (pv 6))) (pe_lst pa_nil) (nomark _)))))))))))))), ?_⟩
  refine ⟨_, rfl, _, rfl, rfl, k, l, xs, rfl, hk0, hk4, hl, hx, fun x dx t H1 s1 hx1 ht1 => ?_⟩
  have F1 : FinAt (hd65.heap_39 w.params) H1 x k (ds.take (manyF k)) := fin_of hx1 ht1 hx (dqAll_mono s1 hd) ok dp
  refine ⟨4, rfl, by decide, by decide, fun D hD => ?_⟩
  have sD := same_new (o := .lst []) hD
  refine lc_range (lo := 0) (n := 4) (fun i H' => Same H1 H' ∧ ∃ as : List Addr, H' D = some (.lst (as.map V.ref)) ∧ as.length = i ∧ ∀ (j : Nat) a, as[j]? = some a → FinAt (hd65.heap_39 w.params) (Uk.Off D H') a j (ds.take (manyF j))) ⟨sD, [], upd_same, rfl, fun j a e => by simp at e⟩ (fun i H' hi h => ?_) (fun H' h => ?_)
  · obtain ⟨sm, as, eD, ha, hf⟩ := h
    refine ⟨rfl, ?_⟩
    refine ⟨_, rfl, _, rfl, rfl, _, l, xs, rfl, by omega, by omega, sm _ _ (s1 _ _ hl), hx, fun y dy ty H2 s2 hy1 hty1 => ?_⟩
    have eD2 := s2 _ _ eD
    have yD : y ≠ D := fun e => by rw [e, eD2] at hy1; cases hy1
    have tD : ty ≠ D := fun e => by rw [e, eD2] at hty1; cases hty1
    have mo : Same (Uk.Off D H2) (Uk.Off D (upd H2 D (.lst (as.map V.ref ++ [V.ref y])))) := fun b u e => Uk.Off.of (by rw [upd_ne (Uk.Off.ne e)]; exact Uk.Off.at e) (Uk.Off.ne e)
    have m2 : Same (Uk.Off D H') (Uk.Off D H2) := fun b u e => Uk.Off.of (s2 _ _ (Uk.Off.at e)) (Uk.Off.ne e)
    have m1 : Same H1 (Uk.Off D H2) := fun b u e => Uk.Off.of (s2 _ _ (sm _ _ e)) (fun z => by rw [z, hD] at e; cases e)
    refine ⟨_, eD2, ?_, ?_, as ++ [y], ?_, by rw [List.length_append, ha] <;> rfl, fun j a e => ?_⟩
    · rw [List.length_map, ha, sizeLine_eq]
      omega
    · exact fun b u h => by rw [upd_ne (ne_of_none h hD)]; exact s2 _ _ (sm _ _ h)
    · rw [upd_same, List.map_append]
      rfl
    · rw [Int.zero_add] at hy1 hty1
      rw [List.getElem?_append] at e
      split at e
      · exact fin_mono (same_trans m2 mo) (hf j a e)
      · rename_i hj
        rw [ha] at hj e
        have ej : j = i := by
          have := (List.getElem?_eq_some_iff.mp e).1
          simp at this
          omega
        subst ej
        simp at e
        subst e
        exact fin_mono mo (fin_of (Uk.Off.of hy1 yD) (Uk.Off.of hty1 tD) hx (dqAll_mono (same_trans s1 m1) hd) ok dp)
  · obtain ⟨sm, as, eD, ha, hf⟩ := h
    have s2 := same_trans s1 sm
    have hf : ∀ (j : Nat) a, as[j]? = some a → FinAt (hd65.heap_39 w.params) H' a j (ds.take (manyF j)) := fun j a e => fin_mono (fun b u e => Uk.Off.at e) (hf j a e)
    have F2 := fin_mono sm F1
    refine ⟨_, rfl, D, rfl, ⟨_, SqL.of eD⟩, fun D2 hD2 => ?_⟩
    have sD2 := same_new (o := .lst []) hD2
    refine lc_it (walk_list (xs := as.map V.ref)) (fun i H2 => Same H' H2 ∧ H2 D2 = some (.lst ((List.range i).map fun (j : Nat) => V.bl (decide ((j : Int) = k))))) ⟨sD2, upd_same⟩ (fun i H2 _ h => SqL.of (h.1 _ _ eD)) (fun i v H2 H3 hi h y => ?_) (fun H2 h => ?_)
    · obtain ⟨sm2, eD2⟩ := h
      obtain ⟨rfl, hv⟩ := y
      rw [List.getElem?_map] at hv
      obtain ⟨a, hva, rfl⟩ := Option.map_eq_some_iff.mp hv
      rw [List.length_map, ha] at hi
      refine ⟨rfl, _, rfl, _, rfl, eq_row w hk0 hk4 (by omega) (by omega) (fin_mono sm2 F2) (fin_mono sm2 (hf i a hva)) ?_⟩
      rw [eqF_self ok]
      refine ⟨_, eD2, ?_, ?_, ?_⟩
      · rw [List.length_map, List.length_range, sizeLine_eq]
        omega
      · exact fun b u h => by rw [upd_ne (ne_of_none h hD2)]; exact sm2 _ _ h
      · rw [upd_same, List.range_succ, List.map_append]
        rfl
    obtain ⟨sm2, eD2⟩ := h
    rw [List.length_map, ha] at eD2
    refine ⟨4, rfl, by decide, by decide, fun D3 hD3 => ?_⟩
    refine lc_range (lo := 0) (n := 4) (fun i H3 => Same H2 H3 ∧ H3 D3 = some (.lst ((List.range i).map fun (j : Nat) => V.bl (decide ((j : Int) = k))))) ⟨same_new hD3, upd_same⟩ (fun i H3 hi h => ?_) (fun H3 h => ?_)
    · obtain ⟨sm3, eD3⟩ := h
      refine ⟨rfl, _, rfl, _, rfl, rfl, ?_⟩
      rw [int_dec]
      refine ⟨_, eD3, ?_, ?_, ?_⟩
      · rw [List.length_map, List.length_range, sizeLine_eq]
        omega
      · exact fun b u h => by rw [upd_ne (ne_of_none h hD3)]; exact sm3 _ _ h
      · rw [upd_same, List.range_succ, List.map_append]
        rfl
    obtain ⟨sm3, eD3⟩ := h
    refine ⟨D2, D3, _, _, rfl, rfl, SqL.of (sm3 _ _ eD2), SqL.of eD3, .inr ⟨rfl, fun v hv => ?_, _, rfl, ifF rfl ?_⟩⟩
    · obtain ⟨j, _, rfl⟩ := List.mem_map.mp hv
      rfl
    refine ⟨Nat.le_of_ble_eq_true rfl, fun z hz => ⟨_, rfl, z, _, k, .int (manyF k), rfl, rfl, SqL.of upd_same, many_at k hk0 hk4, ?_⟩⟩
    have sx := same_trans sm (same_trans sm2 (same_trans sm3 (same_new (o := .lst [.int 1, .int 3, .int 3, .int 4]) hz)))
    have F1o : FinAt (hd65.heap_39 w.params) (Uk.Off p H1) x k (ds.take (manyF k)) := fin_of (Uk.Off.of hx1 (pen_ins (P.same s1) hx1)) (Uk.Off.of ht1 (pen_tup (P.same s1) ht1)) hx (dqAll_mono (Uk.Off.same s1) hdo) ok dp
    have P3 := P.same (same_trans s1 sx)
    have mp := manyF_pos k
    have ml := manyF_le k
    refine ⟨_, rfl, _, rfl, rfl, p, c, m, manyF k, rfl, P3, by omega, by omega, by omega, fun a H5 a0 a4 s5 P5 => ?_⟩
    have so5 : Same (Off p H) (Off p H5) := same_trans (Uk.Off.same (same_trans s1 sx)) s5
    have so15 : Same (Off p H1) (Off p H5) := same_trans (Uk.Off.same sx) s5
    clear hf eD eD2 eD3 sm sm2 sm3 hD hD2 hD3 hz sx
    refine ⟨_, rfl, _, rfl, a, rfl, l, xs, rfl, SqL.of (Uk.Off.at (so5 _ _ hlo)), fun y1 g1 => ?_⟩
    refine ⟨_, rfl, rfl, p, c, _, rfl, P5.new g1, by omega, fun v d H6 qd fd s6 P6 => ⟨Nat.le_of_ble_eq_true rfl, fun y2 g2 => ?_⟩⟩
    have ey1 : H6 y1 = some (.lst (cutV xs none (some a))) := Uk.Off.at (s6 _ _ (Uk.Off.of upd_same (P5.ne g1)))
    have so6 : Same (Off p H) (Off p H6) := same_trans so5 (same_trans (Uk.Off.new g1) s6)
    have so16 : Same (Off p H1) (Off p H6) := same_trans so15 (same_trans (Uk.Off.new g1) s6)
    have hl6 := Uk.Off.at (so6 _ _ hlo)
    have hd6 : DqAll (hd65.heap_39 w.params) H6 xs ds := dqAll_mono (fun b u e => Uk.Off.at (so6 _ _ e)) hdo
    have F6 : FinAt (hd65.heap_39 w.params) H6 x k (ds.take (manyF k)) := fin_mono (fun b u e => Uk.Off.at (so16 _ _ e)) F1o
    have qd6 : Dq (hd65.heap_39 w.params) H6 v d := dq_mono (fun b u e => (Nw.at e).1) qd
    have c1 := cutV_length xs none (some a)
    have c2 := cutV_length xs (some (a + 1)) none
    have ecs := cut_set (xs := xs) v a0 (by omega)
    clear so5 so15 so16 F1o F1 F2 s5 s6 qd g1
    refine ⟨y1, y2, _, _, rfl, rfl, at_new g2 ey1, upd_same, by rw [sizeLine_eq]; show _ + 1 ≤ _; omega, fun y3 g3 => ?_⟩
    refine ⟨_, rfl, _, rfl, _, _, rfl, rfl, a + 1, rfl, l, xs, rfl, SqL.of (at_new g3 (at_new g2 hl6)), fun y4 g4 => ?_⟩
    refine ⟨y3, y4, _, _, rfl, rfl, at_new g4 upd_same, upd_same, by rw [sizeLine_eq, List.length_append]; show _ + 1 + _ ≤ _; omega, fun y5 g5 => ?_⟩
    rw [ecs]
    have sb : Same H6 (upd (upd (upd (upd H6 y2 (.lst [v])) y3 (.lst (cutV xs none (some a) ++ [v]))) y4 (.lst (cutV xs (some (a + 1)) none))) y5 (.lst (xs.set a.toNat v))) := same_trans (same_new g2) (same_trans (same_new g3) (same_trans (same_new g4) (same_new g5)))
    have P7 : Pen (upd (upd (upd (upd H6 y2 (.lst [v])) y3 (.lst (cutV xs none (some a) ++ [v]))) y4 (.lst (cutV xs (some (a + 1)) none))) y5 (.lst (xs.set a.toNat v))) p c (m + 4) := ((((P6.new g2).new g3).new g4).new g5).mono (by omega)
    have e5 : (upd (upd (upd (upd H6 y2 (.lst [v])) y3 (.lst (cutV xs none (some a) ++ [v]))) y4 (.lst (cutV xs (some (a + 1)) none))) y5 (.lst (xs.set a.toNat v))) y5 = some (.lst (xs.set a.toNat v)) := upd_same
    revert sb P7 e5
    generalize (upd (upd (upd (upd H6 y2 (.lst [v])) y3 (.lst (cutV xs none (some a) ++ [v]))) y4 (.lst (cutV xs (some (a + 1)) none))) y5 (.lst (xs.set a.toNat v))) = Hb
    intro sb P7 e5
    have hl' : (xs.set a.toNat v).length = 4 := by rw [List.length_set]; exact hx
    have hfd' : ∀ e ∈ ds.set a.toNat d, FdD e := fun e he => (List.mem_or_eq_of_mem_set he).elim (hfd e) (fun z => by rw [z]; exact fd)
    have ok' : okQAll (ds.set a.toNat d) = true := okQAll_of fun d h => (fld_of (hfd' d h)).2
    have dp' : PyData.depthAll (ds.set a.toNat d) ≤ 50 := depthAll_of fun d h => Nat.le_trans (fld_of (hfd' d h)).1.dp (by decide)
    have hd' : DqAll (hd65.heap_39 w.params) Hb (xs.set a.toNat v) (ds.set a.toNat d) := dqAll_mono sb (dqAll_set' hd6 qd6 _)
    refine ⟨_, rfl, _, rfl, _, rfl, rfl, k, y5, _, rfl, hk0, hk4, e5, hl', fun x2 dx2 t2 H7 s7 hx2 ht2 => eq_row w hk0 hk4 hk0 hk4 (fin_mono (same_trans sb s7) F6) (fin_of hx2 ht2 hl' (dqAll_mono s7 hd') ok' dp') ?_⟩
    have s67 := same_trans sb s7
    have hl7 := s67 _ _ hl6
    have hd7 := dqAll_mono s67 hd6
    have F7 := fin_mono s67 F6
    refine ⟨_, rfl, _, rfl, .list (ds.set a.toNat d), .list ds, .lst (s7 _ _ e5) (dqAll_mono s7 hd'), .lst hl7 hd7, ok', ok, (show PyData.depthAll (ds.set a.toNat d) + 1 ≤ 60 by omega), .inl ⟨_, _, rfl, rfl⟩, ?_⟩
    rw [eq_bent ok hl4 (by omega)]
    refine ⟨rfl, _, rfl, ifF (nd_refl _) ?_⟩
    refine ⟨_, rfl, l, rfl, ⟨_, SqL.of hl7⟩, fun D4 hD4 => ?_⟩
    refine lc_it (walk_list (xs := xs)) (fun i H8 => Same H7 H8 ∧ H8 D4 = some (.lst ((xs.take i).map normV))) ⟨same_new hD4, upd_same⟩ (fun i H8 _ h => SqL.of (h.1 _ _ hl7)) (fun i u H8 H9 hi h y => ?_) (fun H8 h => ?_)
    · obtain ⟨sm, eD⟩ := h
      obtain ⟨rfl, hv⟩ := y
      have fin : ∀ r, normV u = r → ∃ acc, H9 D4 = some (.lst acc) ∧ acc.length < sizeLine ∧ (Same H7 (upd H9 D4 (.lst (acc ++ [r]))) ∧ upd H9 D4 (.lst (acc ++ [r])) D4 = some (.lst ((xs.take (i + 1)).map normV))) := fun r er => by
        refine ⟨_, eD, ?_, fun b u h => by rw [upd_ne (ne_of_none h hD4)]; exact sm _ _ h, ?_⟩
        · rw [List.length_map, List.length_take, sizeLine_eq]
          omega
        · rw [upd_same, List.take_add_one, hv, List.map_append, ← er]
          rfl
      refine ⟨rfl, _, rfl, true, rfl, _, rfl, ite_b (fun e => fin _ (by unfold normV; rw [if_pos (of_decide_eq_true e)])) (fun e => ?_)⟩
      have e := of_decide_eq_false e
      refine ⟨_, rfl, false, rfl, _, rfl, ite_b (fun e2 => fin _ (by unfold normV; rw [if_neg e, if_pos (of_decide_eq_true e2)])) (fun e2 => ?_)⟩
      have e2 := of_decide_eq_false e2
      exact ⟨_, rfl, fin _ (by unfold normV; rw [if_neg e, if_neg e2])⟩
    obtain ⟨sm, eD⟩ := h
    rw [List.take_of_length_le (Nat.le_refl _)] at eD
    have hdn : DqAll (hd65.heap_39 w.params) H8 (xs.map normV) (ds.map normD) := norm_dqAll (dqAll_mono sm hd7)
    have okn : okQAll (ds.map normD) = true := okQAll_of fun d h => by
      obtain ⟨e, he, rfl⟩ := List.mem_map.mp h
      exact norm_ok (fld_of (hfd e he)).2
    have dpn : PyData.depthAll (ds.map normD) ≤ 50 := depthAll_of fun d h => by
      obtain ⟨e, he, rfl⟩ := List.mem_map.mp h
      rw [norm_dp]
      exact Nat.le_trans (fld_of (hfd e he)).1.dp (by decide)
    refine ⟨_, rfl, _, rfl, _, rfl, rfl, k, D4, _, rfl, hk0, hk4, eD, by rw [List.length_map]; exact hx, fun x3 dx3 t3 H9 s9 hx3 ht3 => eq_row w hk0 hk4 hk0 hk4 (fin_mono (same_trans sm s9) F7) (fin_of hx3 ht3 (by rw [List.length_map]; exact hx) (dqAll_mono s9 hdn) okn dpn) ?_⟩
    rw [norm_fin ok]
    refine ⟨_, rfl, ifF rfl ?_⟩
    have s89 := same_trans sm s9
    have hl9 := s89 _ _ hl7
    have hd9 := dqAll_mono s89 hd7
    have F9 := fin_mono s89 F7
    obtain ⟨dx9, t9, xs9, hxa, _⟩ := id F9
    have e0 := List.getElem?_eq_getElem (l := xs) (i := 0) (by omega)
    obtain ⟨d0, hd0, q0⟩ := dqAll_get hd9 e0
    refine ⟨_, rfl, _, rfl, l, xs, 0, _, rfl, rfl, SqL.of hl9, atI_nat e0, _, rfl, l, xs, rfl, .inl ⟨SqL.of hl9, fun tt htt => ?_⟩⟩
    have st := same_new (o := .tup xs) htt
    refine ⟨_, rfl, x, clsF k, dx9, _, .str (wordF k), rfl, st _ _ hxa, clsf w _ (clsF_is k), naf_word w _ (clsF_is k), rfl, Nat.le_of_ble_eq_true rfl, fun z5 hz5 => ?_⟩
    refine ⟨_, rfl, z5, rfl, ⟨_, SqL.of upd_same⟩, fun D5 hD5 => ?_⟩
    have sz : Same H9 (upd (upd H9 tt (.tup xs)) z5 (.lst [V.non, V.int k, xs[0]'(by omega), V.ref tt, V.str (wordF k)])) := same_trans st (same_new hz5)
    have F10 := fin_mono sz F9
    have d5 : DqAll (hd65.heap_39 w.params) (upd (upd H9 tt (.tup xs)) z5 (.lst [V.non, V.int k, xs[0]'(by omega), V.ref tt, V.str (wordF k)])) [V.non, V.int k, xs[0]'(by omega), V.ref tt, V.str (wordF k)] [.none, .int k, d0, .tuple ds, .str (wordF k)] := .cons .non (.cons (.int _) (.cons (dq_mono sz q0) (.cons (.tup (SqT.of (at_new hz5 upd_same)) (dqAll_mono sz hd9)) (.cons (.str _) .nil))))
    refine lc_it (walk_list (xs := [V.non, V.int k, xs[0]'(by omega), V.ref tt, V.str (wordF k)])) (fun i H10 => Same (upd (upd H9 tt (.tup xs)) z5 (.lst [V.non, V.int k, xs[0]'(by omega), V.ref tt, V.str (wordF k)])) H10 ∧ H10 D5 = some (.lst [])) ⟨same_new hD5, upd_same⟩ (fun i H10 _ h => SqL.of (h.1 _ _ upd_same)) (fun i u H10 H11 hi h y => ?_) (fun H10 h => ?_)
    · obtain ⟨sm5, eD5⟩ := h
      obtain ⟨rfl, hv⟩ := y
      obtain ⟨e, _, qe⟩ := dqAll_get d5 hv
      exact ⟨rfl, _, rfl, _, rfl, eq_row' w hk0 hk4 (fin_mono sm5 F10) (dq_mono sm5 qe) ⟨_, rfl, ifF rfl ⟨sm5, eD5⟩⟩⟩
    · obtain ⟨sm5, eD5⟩ := h
      refine ⟨Nat.le_of_ble_eq_true rfl, fun z6 hz6 => ⟨.list [], .list [], .lst (SqL.of (at_new hz6 eD5)) .nil, .lst (SqL.of upd_same) .nil, rfl, rfl, ?_⟩⟩
      have sall := same_trans s7 (same_trans s89 (same_trans sz (same_trans sm5 (same_new (o := .lst []) hz6))))
      exact q _ (same_trans so6 (Uk.Off.same (same_trans sb sall))) (P7.same sall)
end
end M65

namespace M65
open PySem PySem.Spec PyProof.Rows L2 StX Uk

local macro_rules | `(tactic| wtm_at "off0") => `(tactic| first | with_reducible assumption | (with_reducible apply Off.mk; wtm_at "pen"; assumption))
local macro_rules | `(tactic| wtm_at "at0") => `(tactic| first | with_reducible assumption | with_reducible exact upd_same | (with_reducible apply Off.at; wtm_at "off0"))
local macro_rules | `(tactic| wtm_at "off1") => `(tactic| first | with_reducible assumption | (with_reducible apply Off.mk; wtm_at "pen"; assumption) | (with_reducible refine Off.new (by assumption) _ _ ?_; wtm_at "off0") | (with_reducible refine at_same (by with_reducible assumption) ?_; wtm_at "off0"))
local macro_rules | `(tactic| wtm_at "at1") => `(tactic| first | with_reducible assumption | with_reducible exact upd_same | (with_reducible refine at_new (by assumption) ?_; wtm_at "at0") | (with_reducible refine at_same (by with_reducible assumption) ?_; wtm_at "at0") | (with_reducible apply Off.at; wtm_at "off1"))
local macro_rules | `(tactic| wtm_at "off2") => `(tactic| first | with_reducible assumption | (with_reducible apply Off.mk; wtm_at "pen"; assumption) | (with_reducible refine Off.new (by assumption) _ _ ?_; wtm_at "off1") | (with_reducible refine at_same (by with_reducible assumption) ?_; wtm_at "off1"))
local macro_rules | `(tactic| wtm_at "at2") => `(tactic| first | with_reducible assumption | with_reducible exact upd_same | (with_reducible refine at_new (by assumption) ?_; wtm_at "at1") | (with_reducible refine at_same (by with_reducible assumption) ?_; wtm_at "at1") | (with_reducible apply Off.at; wtm_at "off2"))
local macro_rules | `(tactic| wtm_at "off3") => `(tactic| first | with_reducible assumption | (with_reducible apply Off.mk; wtm_at "pen"; assumption) | (with_reducible refine Off.new (by assumption) _ _ ?_; wtm_at "off2") | (with_reducible refine at_same (by with_reducible assumption) ?_; wtm_at "off2"))
local macro_rules | `(tactic| wtm_at "at3") => `(tactic| first | with_reducible assumption | with_reducible exact upd_same | (with_reducible refine at_new (by assumption) ?_; wtm_at "at2") | (with_reducible refine at_same (by with_reducible assumption) ?_; wtm_at "at2") | (with_reducible apply Off.at; wtm_at "off3"))
local macro_rules | `(tactic| wtm_at "off4") => `(tactic| first | with_reducible assumption | (with_reducible apply Off.mk; wtm_at "pen"; assumption) | (with_reducible refine Off.new (by assumption) _ _ ?_; wtm_at "off3") | (with_reducible refine at_same (by with_reducible assumption) ?_; wtm_at "off3"))
local macro_rules | `(tactic| wtm_at "at4") => `(tactic| first | with_reducible assumption | with_reducible exact upd_same | (with_reducible refine at_new (by assumption) ?_; wtm_at "at3") | (with_reducible refine at_same (by with_reducible assumption) ?_; wtm_at "at3") | (with_reducible apply Off.at; wtm_at "off4"))
local macro_rules | `(tactic| wtm_at "off5") => `(tactic| first | with_reducible assumption | (with_reducible apply Off.mk; wtm_at "pen"; assumption) | (with_reducible refine Off.new (by assumption) _ _ ?_; wtm_at "off4") | (with_reducible refine at_same (by with_reducible assumption) ?_; wtm_at "off4"))
local macro_rules | `(tactic| wtm_at "at5") => `(tactic| first | with_reducible assumption | with_reducible exact upd_same | (with_reducible refine at_new (by assumption) ?_; wtm_at "at4") | (with_reducible refine at_same (by with_reducible assumption) ?_; wtm_at "at4") | (with_reducible apply Off.at; wtm_at "off5"))
local macro_rules | `(tactic| wtm_at "off6") => `(tactic| first | with_reducible assumption | (with_reducible apply Off.mk; wtm_at "pen"; assumption) | (with_reducible refine Off.new (by assumption) _ _ ?_; wtm_at "off5") | (with_reducible refine at_same (by with_reducible assumption) ?_; wtm_at "off5"))
local macro_rules | `(tactic| wtm_at "at6") => `(tactic| first | with_reducible assumption | with_reducible exact upd_same | (with_reducible refine at_new (by assumption) ?_; wtm_at "at5") | (with_reducible refine at_same (by with_reducible assumption) ?_; wtm_at "at5") | (with_reducible apply Off.at; wtm_at "off6"))
local macro_rules | `(tactic| wtm_at "off7") => `(tactic| first | with_reducible assumption | (with_reducible apply Off.mk; wtm_at "pen"; assumption) | (with_reducible refine Off.new (by assumption) _ _ ?_; wtm_at "off6") | (with_reducible refine at_same (by with_reducible assumption) ?_; wtm_at "off6"))
local macro_rules | `(tactic| wtm_at "at7") => `(tactic| first | with_reducible assumption | with_reducible exact upd_same | (with_reducible refine at_new (by assumption) ?_; wtm_at "at6") | (with_reducible refine at_same (by with_reducible assumption) ?_; wtm_at "at6") | (with_reducible apply Off.at; wtm_at "off7"))
local macro_rules | `(tactic| wtm_at "off8") => `(tactic| first | with_reducible assumption | (with_reducible apply Off.mk; wtm_at "pen"; assumption) | (with_reducible refine Off.new (by assumption) _ _ ?_; wtm_at "off7") | (with_reducible refine at_same (by with_reducible assumption) ?_; wtm_at "off7"))
local macro_rules | `(tactic| wtm_at "at8") => `(tactic| first | with_reducible assumption | with_reducible exact upd_same | (with_reducible refine at_new (by assumption) ?_; wtm_at "at7") | (with_reducible refine at_same (by with_reducible assumption) ?_; wtm_at "at7") | (with_reducible apply Off.at; wtm_at "off8"))
local macro_rules | `(tactic| wtm_at "off9") => `(tactic| first | with_reducible assumption | (with_reducible apply Off.mk; wtm_at "pen"; assumption) | (with_reducible refine Off.new (by assumption) _ _ ?_; wtm_at "off8") | (with_reducible refine at_same (by with_reducible assumption) ?_; wtm_at "off8"))
local macro_rules | `(tactic| wtm_at "at9") => `(tactic| first | with_reducible assumption | with_reducible exact upd_same | (with_reducible refine at_new (by assumption) ?_; wtm_at "at8") | (with_reducible refine at_same (by with_reducible assumption) ?_; wtm_at "at8") | (with_reducible apply Off.at; wtm_at "off9"))
local macro_rules | `(tactic| wtm_at "off10") => `(tactic| first | with_reducible assumption | (with_reducible apply Off.mk; wtm_at "pen"; assumption) | (with_reducible refine Off.new (by assumption) _ _ ?_; wtm_at "off9") | (with_reducible refine at_same (by with_reducible assumption) ?_; wtm_at "off9"))
local macro_rules | `(tactic| wtm_at "at10") => `(tactic| first | with_reducible assumption | with_reducible exact upd_same | (with_reducible refine at_new (by assumption) ?_; wtm_at "at9") | (with_reducible refine at_same (by with_reducible assumption) ?_; wtm_at "at9") | (with_reducible apply Off.at; wtm_at "off10"))
local macro_rules | `(tactic| wtm_at "off11") => `(tactic| first | with_reducible assumption | (with_reducible apply Off.mk; wtm_at "pen"; assumption) | (with_reducible refine Off.new (by assumption) _ _ ?_; wtm_at "off10") | (with_reducible refine at_same (by with_reducible assumption) ?_; wtm_at "off10"))
local macro_rules | `(tactic| wtm_at "at11") => `(tactic| first | with_reducible assumption | with_reducible exact upd_same | (with_reducible refine at_new (by assumption) ?_; wtm_at "at10") | (with_reducible refine at_same (by with_reducible assumption) ?_; wtm_at "at10") | (with_reducible apply Off.at; wtm_at "off11"))
local macro_rules | `(tactic| wtm_at "off12") => `(tactic| first | with_reducible assumption | (with_reducible apply Off.mk; wtm_at "pen"; assumption) | (with_reducible refine Off.new (by assumption) _ _ ?_; wtm_at "off11") | (with_reducible refine at_same (by with_reducible assumption) ?_; wtm_at "off11"))
local macro_rules | `(tactic| wtm_at "at12") => `(tactic| first | with_reducible assumption | with_reducible exact upd_same | (with_reducible refine at_new (by assumption) ?_; wtm_at "at11") | (with_reducible refine at_same (by with_reducible assumption) ?_; wtm_at "at11") | (with_reducible apply Off.at; wtm_at "off12"))
local macro_rules | `(tactic| wtm_at "off13") => `(tactic| first | with_reducible assumption | (with_reducible apply Off.mk; wtm_at "pen"; assumption) | (with_reducible refine Off.new (by assumption) _ _ ?_; wtm_at "off12") | (with_reducible refine at_same (by with_reducible assumption) ?_; wtm_at "off12"))
local macro_rules | `(tactic| wtm_at "at13") => `(tactic| first | with_reducible assumption | with_reducible exact upd_same | (with_reducible refine at_new (by assumption) ?_; wtm_at "at12") | (with_reducible refine at_same (by with_reducible assumption) ?_; wtm_at "at12") | (with_reducible apply Off.at; wtm_at "off13"))
local macro_rules | `(tactic| wtm_at "off14") => `(tactic| first | with_reducible assumption | (with_reducible apply Off.mk; wtm_at "pen"; assumption) | (with_reducible refine Off.new (by assumption) _ _ ?_; wtm_at "off13") | (with_reducible refine at_same (by with_reducible assumption) ?_; wtm_at "off13"))
local macro_rules | `(tactic| wtm_at "at14") => `(tactic| first | with_reducible assumption | with_reducible exact upd_same | (with_reducible refine at_new (by assumption) ?_; wtm_at "at13") | (with_reducible refine at_same (by with_reducible assumption) ?_; wtm_at "at13") | (with_reducible apply Off.at; wtm_at "off14"))
local macro_rules | `(tactic| wtm_at "off15") => `(tactic| first | with_reducible assumption | (with_reducible apply Off.mk; wtm_at "pen"; assumption) | (with_reducible refine Off.new (by assumption) _ _ ?_; wtm_at "off14") | (with_reducible refine at_same (by with_reducible assumption) ?_; wtm_at "off14"))
local macro_rules | `(tactic| wtm_at "at15") => `(tactic| first | with_reducible assumption | with_reducible exact upd_same | (with_reducible refine at_new (by assumption) ?_; wtm_at "at14") | (with_reducible refine at_same (by with_reducible assumption) ?_; wtm_at "at14") | (with_reducible apply Off.at; wtm_at "off15"))
local macro_rules | `(tactic| wtm_at "off16") => `(tactic| first | with_reducible assumption | (with_reducible apply Off.mk; wtm_at "pen"; assumption) | (with_reducible refine Off.new (by assumption) _ _ ?_; wtm_at "off15") | (with_reducible refine at_same (by with_reducible assumption) ?_; wtm_at "off15"))
local macro_rules | `(tactic| wtm_at "at16") => `(tactic| first | with_reducible assumption | with_reducible exact upd_same | (with_reducible refine at_new (by assumption) ?_; wtm_at "at15") | (with_reducible refine at_same (by with_reducible assumption) ?_; wtm_at "at15") | (with_reducible apply Off.at; wtm_at "off16"))
local macro_rules | `(tactic| wtm_at "off17") => `(tactic| first | with_reducible assumption | (with_reducible apply Off.mk; wtm_at "pen"; assumption) | (with_reducible refine Off.new (by assumption) _ _ ?_; wtm_at "off16") | (with_reducible refine at_same (by with_reducible assumption) ?_; wtm_at "off16"))
local macro_rules | `(tactic| wtm_at "at17") => `(tactic| first | with_reducible assumption | with_reducible exact upd_same | (with_reducible refine at_new (by assumption) ?_; wtm_at "at16") | (with_reducible refine at_same (by with_reducible assumption) ?_; wtm_at "at16") | (with_reducible apply Off.at; wtm_at "off17"))
local macro_rules | `(tactic| wtm_at "off18") => `(tactic| first | with_reducible assumption | (with_reducible apply Off.mk; wtm_at "pen"; assumption) | (with_reducible refine Off.new (by assumption) _ _ ?_; wtm_at "off17") | (with_reducible refine at_same (by with_reducible assumption) ?_; wtm_at "off17"))
local macro_rules | `(tactic| wtm_at "at18") => `(tactic| first | with_reducible assumption | with_reducible exact upd_same | (with_reducible refine at_new (by assumption) ?_; wtm_at "at17") | (with_reducible refine at_same (by with_reducible assumption) ?_; wtm_at "at17") | (with_reducible apply Off.at; wtm_at "off18"))
local macro_rules | `(tactic| wtm_at "off19") => `(tactic| first | with_reducible assumption | (with_reducible apply Off.mk; wtm_at "pen"; assumption) | (with_reducible refine Off.new (by assumption) _ _ ?_; wtm_at "off18") | (with_reducible refine at_same (by with_reducible assumption) ?_; wtm_at "off18"))
local macro_rules | `(tactic| wtm_at "at19") => `(tactic| first | with_reducible assumption | with_reducible exact upd_same | (with_reducible refine at_new (by assumption) ?_; wtm_at "at18") | (with_reducible refine at_same (by with_reducible assumption) ?_; wtm_at "at18") | (with_reducible apply Off.at; wtm_at "off19"))
local macro_rules | `(tactic| wtm_at "off20") => `(tactic| first | with_reducible assumption | (with_reducible apply Off.mk; wtm_at "pen"; assumption) | (with_reducible refine Off.new (by assumption) _ _ ?_; wtm_at "off19") | (with_reducible refine at_same (by with_reducible assumption) ?_; wtm_at "off19"))
local macro_rules | `(tactic| wtm_at "at20") => `(tactic| first | with_reducible assumption | with_reducible exact upd_same | (with_reducible refine at_new (by assumption) ?_; wtm_at "at19") | (with_reducible refine at_same (by with_reducible assumption) ?_; wtm_at "at19") | (with_reducible apply Off.at; wtm_at "off20"))
local macro_rules | `(tactic| wtm_at "off21") => `(tactic| first | with_reducible assumption | (with_reducible apply Off.mk; wtm_at "pen"; assumption) | (with_reducible refine Off.new (by assumption) _ _ ?_; wtm_at "off20") | (with_reducible refine at_same (by with_reducible assumption) ?_; wtm_at "off20"))
local macro_rules | `(tactic| wtm_at "at21") => `(tactic| first | with_reducible assumption | with_reducible exact upd_same | (with_reducible refine at_new (by assumption) ?_; wtm_at "at20") | (with_reducible refine at_same (by with_reducible assumption) ?_; wtm_at "at20") | (with_reducible apply Off.at; wtm_at "off21"))
local macro_rules | `(tactic| wtm_at "off22") => `(tactic| first | with_reducible assumption | (with_reducible apply Off.mk; wtm_at "pen"; assumption) | (with_reducible refine Off.new (by assumption) _ _ ?_; wtm_at "off21") | (with_reducible refine at_same (by with_reducible assumption) ?_; wtm_at "off21"))
local macro_rules | `(tactic| wtm_at "at22") => `(tactic| first | with_reducible assumption | with_reducible exact upd_same | (with_reducible refine at_new (by assumption) ?_; wtm_at "at21") | (with_reducible refine at_same (by with_reducible assumption) ?_; wtm_at "at21") | (with_reducible apply Off.at; wtm_at "off22"))
local macro_rules | `(tactic| wtm_at "off23") => `(tactic| first | with_reducible assumption | (with_reducible apply Off.mk; wtm_at "pen"; assumption) | (with_reducible refine Off.new (by assumption) _ _ ?_; wtm_at "off22") | (with_reducible refine at_same (by with_reducible assumption) ?_; wtm_at "off22"))
local macro_rules | `(tactic| wtm_at "at23") => `(tactic| first | with_reducible assumption | with_reducible exact upd_same | (with_reducible refine at_new (by assumption) ?_; wtm_at "at22") | (with_reducible refine at_same (by with_reducible assumption) ?_; wtm_at "at22") | (with_reducible apply Off.at; wtm_at "off23"))
local macro_rules | `(tactic| wtm_at "off24") => `(tactic| first | with_reducible assumption | (with_reducible apply Off.mk; wtm_at "pen"; assumption) | (with_reducible refine Off.new (by assumption) _ _ ?_; wtm_at "off23") | (with_reducible refine at_same (by with_reducible assumption) ?_; wtm_at "off23"))
local macro_rules | `(tactic| wtm_at "at24") => `(tactic| first | with_reducible assumption | with_reducible exact upd_same | (with_reducible refine at_new (by assumption) ?_; wtm_at "at23") | (with_reducible refine at_same (by with_reducible assumption) ?_; wtm_at "at23") | (with_reducible apply Off.at; wtm_at "off24"))
local macro_rules | `(tactic| wtm_at "off25") => `(tactic| first | with_reducible assumption | (with_reducible apply Off.mk; wtm_at "pen"; assumption) | (with_reducible refine Off.new (by assumption) _ _ ?_; wtm_at "off24") | (with_reducible refine at_same (by with_reducible assumption) ?_; wtm_at "off24"))
local macro_rules | `(tactic| wtm_at "at25") => `(tactic| first | with_reducible assumption | with_reducible exact upd_same | (with_reducible refine at_new (by assumption) ?_; wtm_at "at24") | (with_reducible refine at_same (by with_reducible assumption) ?_; wtm_at "at24") | (with_reducible apply Off.at; wtm_at "off25"))
local macro_rules | `(tactic| wtm_at "off26") => `(tactic| first | with_reducible assumption | (with_reducible apply Off.mk; wtm_at "pen"; assumption) | (with_reducible refine Off.new (by assumption) _ _ ?_; wtm_at "off25") | (with_reducible refine at_same (by with_reducible assumption) ?_; wtm_at "off25"))
local macro_rules | `(tactic| wtm_at "at26") => `(tactic| first | with_reducible assumption | with_reducible exact upd_same | (with_reducible refine at_new (by assumption) ?_; wtm_at "at25") | (with_reducible refine at_same (by with_reducible assumption) ?_; wtm_at "at25") | (with_reducible apply Off.at; wtm_at "off26"))
local macro_rules | `(tactic| wtm_at "off27") => `(tactic| first | with_reducible assumption | (with_reducible apply Off.mk; wtm_at "pen"; assumption) | (with_reducible refine Off.new (by assumption) _ _ ?_; wtm_at "off26") | (with_reducible refine at_same (by with_reducible assumption) ?_; wtm_at "off26"))
local macro_rules | `(tactic| wtm_at "at27") => `(tactic| first | with_reducible assumption | with_reducible exact upd_same | (with_reducible refine at_new (by assumption) ?_; wtm_at "at26") | (with_reducible refine at_same (by with_reducible assumption) ?_; wtm_at "at26") | (with_reducible apply Off.at; wtm_at "off27"))
local macro_rules | `(tactic| wtm_at "off28") => `(tactic| first | with_reducible assumption | (with_reducible apply Off.mk; wtm_at "pen"; assumption) | (with_reducible refine Off.new (by assumption) _ _ ?_; wtm_at "off27") | (with_reducible refine at_same (by with_reducible assumption) ?_; wtm_at "off27"))
local macro_rules | `(tactic| wtm_at "at28") => `(tactic| first | with_reducible assumption | with_reducible exact upd_same | (with_reducible refine at_new (by assumption) ?_; wtm_at "at27") | (with_reducible refine at_same (by with_reducible assumption) ?_; wtm_at "at27") | (with_reducible apply Off.at; wtm_at "off28"))
local macro_rules | `(tactic| wtm_at "off29") => `(tactic| first | with_reducible assumption | (with_reducible apply Off.mk; wtm_at "pen"; assumption) | (with_reducible refine Off.new (by assumption) _ _ ?_; wtm_at "off28") | (with_reducible refine at_same (by with_reducible assumption) ?_; wtm_at "off28"))
local macro_rules | `(tactic| wtm_at "at29") => `(tactic| first | with_reducible assumption | with_reducible exact upd_same | (with_reducible refine at_new (by assumption) ?_; wtm_at "at28") | (with_reducible refine at_same (by with_reducible assumption) ?_; wtm_at "at28") | (with_reducible apply Off.at; wtm_at "off29"))
local macro_rules | `(tactic| wtm_at "off30") => `(tactic| first | with_reducible assumption | (with_reducible apply Off.mk; wtm_at "pen"; assumption) | (with_reducible refine Off.new (by assumption) _ _ ?_; wtm_at "off29") | (with_reducible refine at_same (by with_reducible assumption) ?_; wtm_at "off29"))
local macro_rules | `(tactic| wtm_at "at30") => `(tactic| first | with_reducible assumption | with_reducible exact upd_same | (with_reducible refine at_new (by assumption) ?_; wtm_at "at29") | (with_reducible refine at_same (by with_reducible assumption) ?_; wtm_at "at29") | (with_reducible apply Off.at; wtm_at "off30"))
local macro_rules | `(tactic| wtm_at "off31") => `(tactic| first | with_reducible assumption | (with_reducible apply Off.mk; wtm_at "pen"; assumption) | (with_reducible refine Off.new (by assumption) _ _ ?_; wtm_at "off30") | (with_reducible refine at_same (by with_reducible assumption) ?_; wtm_at "off30"))
local macro_rules | `(tactic| wtm_at "at31") => `(tactic| first | with_reducible assumption | with_reducible exact upd_same | (with_reducible refine at_new (by assumption) ?_; wtm_at "at30") | (with_reducible refine at_same (by with_reducible assumption) ?_; wtm_at "at30") | (with_reducible apply Off.at; wtm_at "off31"))
local macro_rules | `(tactic| wtm_at "off32") => `(tactic| first | with_reducible assumption | (with_reducible apply Off.mk; wtm_at "pen"; assumption) | (with_reducible refine Off.new (by assumption) _ _ ?_; wtm_at "off31") | (with_reducible refine at_same (by with_reducible assumption) ?_; wtm_at "off31"))
local macro_rules | `(tactic| wtm_at "at32") => `(tactic| first | with_reducible assumption | with_reducible exact upd_same | (with_reducible refine at_new (by assumption) ?_; wtm_at "at31") | (with_reducible refine at_same (by with_reducible assumption) ?_; wtm_at "at31") | (with_reducible apply Off.at; wtm_at "off32"))
local macro_rules | `(tactic| wtm_at "off33") => `(tactic| first | with_reducible assumption | (with_reducible apply Off.mk; wtm_at "pen"; assumption) | (with_reducible refine Off.new (by assumption) _ _ ?_; wtm_at "off32") | (with_reducible refine at_same (by with_reducible assumption) ?_; wtm_at "off32"))
local macro_rules | `(tactic| wtm_at "at33") => `(tactic| first | with_reducible assumption | with_reducible exact upd_same | (with_reducible refine at_new (by assumption) ?_; wtm_at "at32") | (with_reducible refine at_same (by with_reducible assumption) ?_; wtm_at "at32") | (with_reducible apply Off.at; wtm_at "off33"))
local macro_rules | `(tactic| wtm_at "off34") => `(tactic| first | with_reducible assumption | (with_reducible apply Off.mk; wtm_at "pen"; assumption) | (with_reducible refine Off.new (by assumption) _ _ ?_; wtm_at "off33") | (with_reducible refine at_same (by with_reducible assumption) ?_; wtm_at "off33"))
local macro_rules | `(tactic| wtm_at "at34") => `(tactic| first | with_reducible assumption | with_reducible exact upd_same | (with_reducible refine at_new (by assumption) ?_; wtm_at "at33") | (with_reducible refine at_same (by with_reducible assumption) ?_; wtm_at "at33") | (with_reducible apply Off.at; wtm_at "off34"))
local macro_rules | `(tactic| wtm_at "off35") => `(tactic| first | with_reducible assumption | (with_reducible apply Off.mk; wtm_at "pen"; assumption) | (with_reducible refine Off.new (by assumption) _ _ ?_; wtm_at "off34") | (with_reducible refine at_same (by with_reducible assumption) ?_; wtm_at "off34"))
local macro_rules | `(tactic| wtm_at "at35") => `(tactic| first | with_reducible assumption | with_reducible exact upd_same | (with_reducible refine at_new (by assumption) ?_; wtm_at "at34") | (with_reducible refine at_same (by with_reducible assumption) ?_; wtm_at "at34") | (with_reducible apply Off.at; wtm_at "off35"))
local macro_rules | `(tactic| wtm_at "off36") => `(tactic| first | with_reducible assumption | (with_reducible apply Off.mk; wtm_at "pen"; assumption) | (with_reducible refine Off.new (by assumption) _ _ ?_; wtm_at "off35") | (with_reducible refine at_same (by with_reducible assumption) ?_; wtm_at "off35"))
local macro_rules | `(tactic| wtm_at "at36") => `(tactic| first | with_reducible assumption | with_reducible exact upd_same | (with_reducible refine at_new (by assumption) ?_; wtm_at "at35") | (with_reducible refine at_same (by with_reducible assumption) ?_; wtm_at "at35") | (with_reducible apply Off.at; wtm_at "off36"))
local macro_rules | `(tactic| wtm_at "off37") => `(tactic| first | with_reducible assumption | (with_reducible apply Off.mk; wtm_at "pen"; assumption) | (with_reducible refine Off.new (by assumption) _ _ ?_; wtm_at "off36") | (with_reducible refine at_same (by with_reducible assumption) ?_; wtm_at "off36"))
local macro_rules | `(tactic| wtm_at "at37") => `(tactic| first | with_reducible assumption | with_reducible exact upd_same | (with_reducible refine at_new (by assumption) ?_; wtm_at "at36") | (with_reducible refine at_same (by with_reducible assumption) ?_; wtm_at "at36") | (with_reducible apply Off.at; wtm_at "off37"))
local macro_rules | `(tactic| wtm_at "off38") => `(tactic| first | with_reducible assumption | (with_reducible apply Off.mk; wtm_at "pen"; assumption) | (with_reducible refine Off.new (by assumption) _ _ ?_; wtm_at "off37") | (with_reducible refine at_same (by with_reducible assumption) ?_; wtm_at "off37"))
local macro_rules | `(tactic| wtm_at "at38") => `(tactic| first | with_reducible assumption | with_reducible exact upd_same | (with_reducible refine at_new (by assumption) ?_; wtm_at "at37") | (with_reducible refine at_same (by with_reducible assumption) ?_; wtm_at "at37") | (with_reducible apply Off.at; wtm_at "off38"))
local macro_rules | `(tactic| wtm_at "off39") => `(tactic| first | with_reducible assumption | (with_reducible apply Off.mk; wtm_at "pen"; assumption) | (with_reducible refine Off.new (by assumption) _ _ ?_; wtm_at "off38") | (with_reducible refine at_same (by with_reducible assumption) ?_; wtm_at "off38"))
local macro_rules | `(tactic| wtm_at "at39") => `(tactic| first | with_reducible assumption | with_reducible exact upd_same | (with_reducible refine at_new (by assumption) ?_; wtm_at "at38") | (with_reducible refine at_same (by with_reducible assumption) ?_; wtm_at "at38") | (with_reducible apply Off.at; wtm_at "off39"))
local macro_rules | `(tactic| wtm_at "at") => `(tactic| wtm_at "at39")
local macro_rules | `(tactic| wtm_at "off") => `(tactic| wtm_at "off39")
local macro_rules | `(tactic| wtm_at "pen") => `(tactic| first
  | assumption | (refine Pen.new (by assumption) ?_; wtm_at "pen") | (refine Pen.same (by assumption) ?_; wtm_at "pen"))
local macro_rules | `(tactic| wtm_at "same") => `(tactic| first
  | exact fun _ _ h => h | assumption | exact same_new (by assumption) | (refine same_trans ?_ (same_new (by assumption)); wtm_at "same") | (refine same_trans ?_ (by assumption); wtm_at "same")
  | (refine same_trans ?_ (Off.new (by assumption)); wtm_at "same") | (refine same_trans ?_ (Off.same (by assumption)); wtm_at "same"))
local macro_rules | `(tactic| wtm_at "dps") => `(tactic| first
  | exact .nil | (apply DpAll.cons; wtm_at "dp"; wtm_at "dps") | exact dpAll_ints _)
local macro_rules | `(tactic| wtm_at "dp") => `(tactic| first
  | exact .non | exact .bl _ | exact .int _ | exact .str _ | (fail) | (apply Dp.lst; (apply SqL.of; wtm_at "at"); wtm_at "dps") | (apply Dp.tup; (apply SqT.of; wtm_at "at"); wtm_at "dps"))
local macro_rules | `(tactic| wtm_at "side") => `(tactic| first
  | exact ⟨by decide, by decide⟩ | exact ⟨by decide, by decide, by decide⟩ | exact .inl ⟨by decide, by decide⟩ | exact .inr ⟨by decide, by decide⟩ | (show ¬ _ = _; decide))
local macro_rules | `(tactic| wtm_at "sml") => `(tactic| first
  | exact sml_none (by decide) | exact sml_bool (by decide) | exact sml_int (by decide) (by omega) | (fail) | exact sml_list (n := 19) (k := 0) (by wtm_at "smls") (by decide) (by decide))
local macro_rules | `(tactic| wtm_at "smls") => `(tactic| first | exact smlAll_nil (m := 0) | (apply smlAll_cons; wtm_at "sml"; wtm_at "smls"))
local macro_rules | `(tactic| wtm_at "shw") => `(tactic| exact Sml.shw (n := 10000) (k := 50) (by wtm_at "sml") (by decide) (by decide))
local macro_rules | `(tactic| wtm_at "rd") => `(tactic| first
  | refine ⟨_, rfl, ?_⟩ | refine ⟨_, _, rfl, rfl, ?_⟩ | refine ifT rfl ?_ | refine ifF rfl ?_ | refine ⟨rfl, ?_⟩
  | refine ⟨_, _, by rfl, by wtm_at "dp", by wtm_at "shw", ?_⟩
  | refine ⟨_, _, _, _, _, rfl, by wtm_at "at", by wtm_at "cls", by wtm_at "na", by rfl, ?_⟩
  | refine ⟨_, _, rfl, .inr (SqT.of (by wtm_at "at")), ?_⟩ | refine ⟨_, _, rfl, .inl (SqL.of (by wtm_at "at")), ?_⟩
  | refine ⟨_, _, rfl, .inr (SqT.of (by wtm_at "at")), by rfl, by rfl, ?_⟩ | refine ⟨_, _, rfl, .inl (SqL.of (by wtm_at "at")), by rfl, by rfl, ?_⟩
  | refine ⟨_, _, _, _, rfl, rfl, SqT.of (by wtm_at "at"), by rfl, ?_⟩ | refine ⟨_, _, _, _, rfl, rfl, SqL.of (by wtm_at "at"), by rfl, ?_⟩
  | refine ⟨_, _, rfl, rfl, by wtm_at "side", ?_⟩
  | refine ⟨_, _, by wtm_at "dp", by wtm_at "dp", by first | rfl | decide +kernel, by first | rfl | decide +kernel, ?_⟩
  | refine ⟨_, _, [_, _], [_, _], rfl, rfl, sqI2 (by wtm_at "at"), sqI2 (by wtm_at "at"), ?_⟩
  | refine ⟨_, _, rfl, ?_⟩
  | refine ⟨Nat.le_of_ble_eq_true rfl, fun _ _ => ?_⟩
  | refine ifF (by decide +kernel) ?_ | refine ifF (nd_refl _) ?_ | refine ifT (de_refl _) ?_)
local macro_rules | `(tactic| wtm_at "cls") => `(tactic| first | exact cls_Finding _)
local macro_rules | `(tactic| wtm_at "na") => `(tactic| first | exact na_Finding_word _ | exact na_Finding_fields _)

theorem dqAll_app {K : PySem.W.Frag} {H : Hp} : ∀ {xs : List V} {ds : List PyData} {ys : List V} {es : List PyData}, DqAll K H xs ds → DqAll K H ys es → DqAll K H (xs ++ ys) (ds ++ es)
  | [], [], _, _, .nil, h => h
  | _ :: _, _ :: _, _, _, .cons a r, h => .cons a (dqAll_app r h)
def spLaw (K : PySem.W.Frag) : Sp := fun vs H Q _ => ∃ (a : Addr) (ns : List Int), vs = [.ref a] ∧ SqL K H a (ns.map V.int) ∧ ∀ H', Q (.bl true) H'
section
variable {mg : PySem.Str → Option Value} {base : Heap} {w : World}
theorem ok_law (M : Mod (hd65.heap_39 w.params) mg base) (hB : ∃ o, base.get? sysModules = some o) : CallG PP w (hd65.heap_39 w.params) mg base 9 (.ref 220) (pos (spLaw (hd65.heap_39 w.params))) := by
  obtain ⟨fd, F⟩ := fn_law w
  refine def_pos F sc_law (fun vs H Q E h => ?_) (fun _ _ _ _ _ _ us hl => match us, hl with | [_], _ => rfl) (fun cdv A outer s H vs Q E hr hg h => ?_)
  · obtain ⟨a, ns, rfl, _⟩ := h; rfl
  have nd := sc_law.nd
  obtain ⟨a, ns, rfl, ha, q⟩ := h
  refine ⟨_, (pss_cons (ps_set (i := 1) nd rfl (.inr rfl) (pe_cl (takes_of rfl rfl rfl rfl) (ok__law_pen M) (hr.mono (by decide)) hg rfl (mg__law_pen M) (kp__law_pen w) (pa_cons (pv 0) pa_nil)))
      (pss_cons (ps_for (passes_of rfl) rfl (pi_range1 (by rfl) (mn_range M) (pa_cons pe_int pa_nil)) (pg_name (i := 2) nd rfl (.inl rfl)) (pss_cons (ps_setLc (i := 3) (own := [("k", 4)]) (g := gName 4) (by rfl) nd rfl rfl (sw_true rfl rfl rfl (by decide +kernel)) (pi_range1 (by rfl) (mn_range M) (pa_cons pe_int pa_nil)) (blkOk_by (own := [("k", 4)]) (N := ["script", "pen", "turn", "fields", "k", "before", "at"]) (sc := defScope s_law) (by decide +kernel)) (fun _ _ _ _ _ => pg_name (i := 4) nd rfl (Or.inl rfl)) (fun _ _ _ _ _ => pts_nil) (fun _ _ _ _ _ => (pe_cl takes_no (ok__law_field M) (hr.mono (by decide)) hg rfl (mg__law_field M) (kp__law_field w) (pa_cons (pv 1) pa_nil))))
      (pss_cons (ps_set (i := 5) nd rfl (.inl rfl) (pe_callB (call_reprQ hB hg (hu_big hr)) (by rfl) (mn_repr M) (by decide +kernel) (pa_cons (pv 3) pa_nil)))
      (pss_cons (ps_for (passes_of rfl) rfl (pi_range1 (by rfl) (mn_range M) (pa_cons pe_int pa_nil)) (pg_name (i := 6) nd rfl (.inl rfl)) (pss_one (ps_if (PW.pt (pw_or (pt_not (pt_val (pe_cl (takes_of rfl rfl rfl rfl) (ok__law_told M hB) (hr.mono (by decide)) hg rfl (mg__law_told M) (kp__law_told w) (pa_cons (pv 6) (pa_cons (pv 3) pa_nil))))) (pw_or1 (pt_not (pt_val (pe_cl (takes_of rfl rfl rfl rfl) (ok__law_compared M) (hr.mono (by decide)) hg rfl (mg__law_compared M) (kp__law_compared w) (pa_cons (pv 1) (pa_cons (pv 6) (pa_cons (pv 3) pa_nil))))))))) (pss_one (ps_ret pe_bl)) pss_nil)))
      (pss_one (ps_if (pt_cmpR op_ne (pe_callB (call_reprQ hB hg (hu_big hr)) (by rfl) (mn_repr M) (by decide +kernel) (pa_cons (pv 3) pa_nil)) (pv 5) (nomark _)) (pss_one (ps_ret pe_bl)) pss_nil))))))
      (pss_one (ps_ret pe_bl)))), ?_⟩
  wtm_at "rd"
  refine ⟨rfl, a, ns, rfl, ha, fun p c H1 s1 P1 => ?_⟩
  refine ⟨6, rfl, by decide, by decide, ?_⟩
  refine for_range (lo := 0) (n := 6) (fun i σ H' => (∃ o2 o3 o4 o5 o6, σ = [some (.ref a), some (.ref p), o2, o3, o4, o5, o6]) ∧ Pen H' p c (28 * i)) ⟨⟨_, _, _, _, _, rfl⟩, P1.mono (by decide)⟩ (fun i σ H2 hi h => ?_) (fun σ H2 h => ?_)
  · obtain ⟨⟨o2, o3, o4, o5, o6, rfl⟩, P2⟩ := h
    refine ⟨4, rfl, by decide, by decide, fun D hD => ?_⟩
    have nD : H2 D = none := hD
    have Dp : D ≠ p := P2.ne hD
    have Dc : D ≠ c := P2.ne2 hD
    refine lc_range (lo := 0) (n := 4) (fun j H' => ∃ xs ds, H' D = some (.lst xs) ∧ Pen H' p c (28 * i + 3 * j) ∧ DqAll (hd65.heap_39 w.params) (Uk.Off D (Uk.Off p H')) xs ds ∧ ds.length = j ∧ ∀ d ∈ ds, FdD d) ⟨[], [], upd_same, (P2.new hD).mono (by omega), .nil, rfl, fun d hd => nomatch hd⟩ (fun j H' hj h => ?_) (fun H3 h => ?_)
    · obtain ⟨xs, ds, eD, P3, hd, hl, hf⟩ := h
      refine ⟨rfl, ?_⟩
      refine ⟨_, rfl, rfl, p, c, _, rfl, P3, by omega, fun v d H4 qd fd s4 P4 => ?_⟩
      have eD4 := Uk.Off.at (s4 _ _ (Uk.Off.of eD Dp))
      have mu : Same (Uk.Off D (Uk.Off p H4)) (Uk.Off D (Uk.Off p (upd H4 D (.lst (xs ++ [v]))))) := fun b u e => Uk.Off.of (Uk.Off.of (by rw [upd_ne (Uk.Off.ne e)]; exact Uk.Off.at (Uk.Off.at e)) (Uk.Off.ne (Uk.Off.at e))) (Uk.Off.ne e)
      have qd : Dq (hd65.heap_39 w.params) (Uk.Off D (Uk.Off p H4)) v d := dq_mono (fun b u e => by
        obtain ⟨x, y⟩ := Nw.at e
        exact Uk.Off.of (Uk.Off.of x (P3.ne y)) (fun h => by rw [h, eD] at y; cases y)) qd
      refine ⟨_, eD4, ?_, xs ++ [v], ds ++ [d], upd_same, (P4.upd Dp Dc).mono (by omega), ?_, by rw [List.length_append, hl] <;> rfl, ?_⟩
      · rw [dqAll_len hd, hl, sizeLine_eq]
        omega
      · exact dqAll_app (dqAll_mono (same_trans (Uk.Off.same (p := D) s4) mu) hd) (.cons (dq_mono mu qd) .nil)
      · intro e he
        rcases List.mem_append.mp he with h | h
        · exact hf e h
        · rw [List.mem_singleton.mp h]; exact fd
    · obtain ⟨xs, ds, eD, P3, hd, hl, hf⟩ := h
      have hdo : DqAll (hd65.heap_39 w.params) (Uk.Off p H3) xs ds := dqAll_mono (fun b u e => Uk.Off.at e) hd
      have eDo : Uk.Off p H3 D = some (.lst xs) := Uk.Off.of eD Dp
      refine ⟨_, rfl, .ref D, .list ds, rfl, .lst eD (dqAll_mono (fun b u e => Uk.Off.at e) hdo), shw_flds hf (by omega), ?_⟩
      refine ⟨4, rfl, by decide, by decide, ?_⟩
      refine for_range (lo := 0) (n := 4) (fun j σ H' => (∃ o2 o4 o6, σ = [some (.ref a), some (.ref p), o2, some (.ref D), o4, some (.str (PyData.shown (.list ds))), o6]) ∧ Same (Off p H3) (Off p H') ∧ Pen H' p c (28 * i + 12 + 4 * j)) ⟨⟨_, _, _, rfl⟩, Same.rfl, P3.mono (by omega)⟩ (fun j σ H4 hj h => ?_) (fun σ H4 h => ?_)
      · obtain ⟨⟨o2, o4, o6, rfl⟩, s4, P4⟩ := h
        have mo : Same (Off p H3) H4 := fun b u e => Uk.Off.at (s4 _ _ e)
        refine ⟨_, rfl, _, rfl, rfl, _, D, xs, ds, rfl, by omega, by omega, mo _ _ eDo, ⟨dqAll_mono mo hdo, hl, hf⟩, fun H5 s5 => ⟨_, rfl, ifF rfl ?_⟩⟩
        have s45 := same_trans s4 (Uk.Off.same s5)
        refine ⟨_, rfl, _, rfl, _, rfl, rfl, p, c, D, _, _, xs, ds, rfl, P4.same s5, by omega, by omega, by omega, s45 _ _ eDo, ⟨dqAll_mono s45 hdo, hl, hf⟩, fun H6 s6 P6 => ⟨_, rfl, ifF rfl ?_⟩⟩
        exact ⟨⟨_, _, _, rfl⟩, same_trans s45 s6, P6.mono (by omega)⟩
      · obtain ⟨⟨o2, o4, o6, rfl⟩, s4, P4⟩ := h
        have mo : Same (Off p H3) H4 := fun b u e => Uk.Off.at (s4 _ _ e)
        refine ⟨_, rfl, .ref D, .list ds, rfl, .lst (mo _ _ eDo) (dqAll_mono mo hdo), shw_flds hf (by omega), _, rfl, rfl, _, rfl, ifF (nd_refl _) ?_⟩
        exact ⟨⟨_, _, _, _, _, rfl⟩, P4.mono (by omega)⟩
  · exact q _
end
theorem done : PySem.Challenge.rw_unkeptlines_k65_findings_as_values.Holds := by
  refine hd65 ?_
  refine walkGB (K := hd65.heap_39) (sp := fun w => spLaw (hd65.heap_39 w.params)) (k := 9) (by rfl) (by decide) (by decide +kernel) (by rfl) ?_ (fun w h Y => PySem.W.kIn_of Y) (fun w mg fa h KX hns hm base M hB => ?_) fun w H a ns hl hs => ⟨a, ns, rfl, hs, fun _ => rfl⟩
  · exact ⟨by decide, by decide, by decide⟩
  · have e : fa = 220 := by
      have h1 : some (Value.ref fa) = some (.ref 220) := hm.symm.trans (mg_law M)
      cases h1
      rfl
    subst e
    exact ok_law M hB
end M65

theorem PySem.Challenge.cw_unkeptlines_k65_findings_as_values_holds : PySem.Challenge.rw_unkeptlines_k65_findings_as_values.Holds := by
  exact M65.done
