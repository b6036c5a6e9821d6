import PyProof.Rows.All
import Wide.All
import OpenK.AllK
import Wide.FinOn
import PySem.Challenge.RW_unkeptlines_k12_whole_bytes_of_steps
import KE.KStar
import HandS.ForMost
import HandS.ForExc
import HandS.Star
import HandS.IsInst
import HandS.ClsMeth
import PyProof.Conv_bool
import PyProof.MeetsIn
import PyProof.Rows.Range3
import HandS.Ends
import KE.KSuper
import KE.GoesEnum
import KE.GoesMore
import HandS.Iter
import HandS.Walk
import HandS.ExcInit
import HandS.ExcIs
import HandS.ExcField
import KE.KExcSuper
import KE.KExcIs
import KE.KEqNest
import HandS.CallLocal
import OpenK.KOps
import HandS.RevTup
import HandS.Rev
import PyProof.ListNew
import PyProof.StrOps2
import PyProof.NeData
import PyProof.EqKinds
import HandS.TupLe
import HandS.Comp
import HandS.Dict
import HandS.DictComp
import HandS.SetBool
import HandS.Strs
import HandS.Deep
import HandS.SetFor
import HandS.Defaults
import HandS.TupAny
import HandS.Text
set_option Elab.async false
set_option linter.all false
set_option maxRecDepth 100000
set_option maxHeartbeats 0
section
open PySem PySem.W PyProof.Rows
open_top hd12 for PySem.Challenge.rw_unkeptlines_k12_whole_bytes_of_steps

end

/-! UkA: promises of whatever is called (defs, classes), with the stack's guards told; calls by them -/
namespace Uk
open PySem PySem.Spec PyProof.Rows L2 StX

abbrev SpK := List V → List (Str × V) → Hp → VK → XK → Prop
abbrev KVs (zs : List (Str × V)) (ks : List (Str × Value)) : Prop := Paired (fun (p : Str × V) (q : Str × Value) => p.1 = q.1 ∧ RelV p.2 q.2) zs ks

/-- a promise of what stands at fv, however it is called -/
def CallG (P : Program) (w : World) (K : PySem.W.Frag) (mg : Str → Option Value) (base : Heap) (k : Nat) (fv : Value) (sp : SpK) : Prop :=
  ∀ (A : Around) (outer : List Env) (s : Shared) (H : Hp) (us : List Value) (kws : List (Str × Value)) (vs : List V) (zs : List (Str × V)) (Q : VK) (E : XK),
    Room k A → A.guards = some [] → Env0 P w K mg base A outer s H → Vals vs us → KVs zs kws → sp vs zs H Q E →
    codeAny (model P w) A (.call fv ⟨us, kws⟩) (CR (L2.CX P w) outer P w H s Q E) s
/-- positional arguments alone -/
def pos (sp : Sp) : SpK := fun vs zs H Q E => zs = [] ∧ sp vs H Q E

section
variable {P : Program} {w : World} {K : PySem.W.Frag} {mg : Str → Option Value} {base : Heap} {j k : Nat} {fv : Value} {sp sp' : SpK}
theorem CallG.mono (F : CallG P w K mg base j fv sp) (h : j ≤ k) : CallG P w K mg base k fv sp := fun A o s H us kws vs zs Q E hr => F A o s H us kws vs zs Q E (hr.mono h)
theorem CallG.imp (F : CallG P w K mg base k fv sp) (h : ∀ vs zs H Q E, sp' vs zs H Q E → sp vs zs H Q E) : CallG P w K mg base k fv sp' :=
  fun A o s H us kws vs zs Q E hr hg e0 r rk q => F A o s H us kws vs zs Q E hr hg e0 r rk (h _ _ _ _ _ q)
end

section
variable {P : Program} {w : World} {K : PySem.W.Frag} {mg : Str → Option Value} {base : Heap} {k : Nat}
/-- a def without defaults, by its body -/
theorem def_pos {x qual : Str} {st : Stmt} {f : Addr} {fd : FuncData} {N ps : List Str} {sp : Sp} (F : Fun K x qual st f fd) (S : FnScope N ps (defScope st)) (len : ∀ vs H Q E, sp vs H Q E → vs.length = ps.length)
    (hb : ∀ (kV doc pm : Value) (an : Option Addr) (cdv ct : Value) (us : List Value), us.length = ps.length → bindArgs (PySem.W.fnOf x qual (defArgs st) (defBody st) (defScope st) .none kV doc pm an cdv ct) ⟨us, []⟩ = pure (ps.zip us))
    (hbody : ∀ (cdv : Value) (A : Around) (outer : List Env) (s : Shared) (H : Hp) (vs : List V) (Q : VK) (E : XK), Room k (A.deeper (envOfC qual (defScope st) s.heap.objs.size f cdv)) → A.guards = some [] → sp vs H Q E →
      ∃ t, PSs (cxOf (L2.CX P w) P w K mg base N qual (defScope st) f cdv A outer s H E) (defBody st) t ∧ t { nx := fun _ H' => Q .non H', rt := Q } (start N vs) H) : CallG P w K mg base (k + 1) (.ref f) (pos sp) := by
  obtain ⟨oc, od, kV, doc, pm, an, cdv, ct, osl, rfl, lk, hcd⟩ := F.ex
  rintro A outer s H us kws vs zs Q E hr hg e0 r rk ⟨rfl, hsp⟩
  cases rk
  refine run_bnd lk hcd S hr e0 (G := fun xs H2 => xs = vs ∧ H2 = H) (fun A' Ex Q' h => ?_) fun s2 H2 xs ⟨ex, eH⟩ hr' => ?_
  · have hl : us.length = ps.length := by rw [← r.length]; exact len _ _ _ _ hsp
    rw [hb kV doc pm an cdv ct us hl]
    exact wpAny_pure (h s H vs us e0 Un.refl rfl (fun _ _ z => z) r (len _ _ _ _ hsp) ⟨rfl, rfl⟩)
  · subst ex eH
    exact hbody cdv A outer s2 _ _ Q E hr' hg hsp
/-- a def with a star behind its parameters -/
theorem def_star {x qual : Str} {st : Stmt} {f : Addr} {fd : FuncData} {N ps : List Str} {pv : Str} {sp : Sp} (F : Fun K x qual st f fd) (S : FnScope N (ps ++ [pv]) (defScope st))
    (hb : ∀ (kV doc pm : Value) (an : Option Addr) (cdv ct : Value) (us rest : List Value), us.length = ps.length → bindArgs (PySem.W.fnOf x qual (defArgs st) (defBody st) (defScope st) .none kV doc pm an cdv ct) ⟨us ++ rest, []⟩ = (newTuple rest >>= fun t => pure (ps.zip us ++ [(pv, t)])))
    (hbody : ∀ (cdv : Value) (A : Around) (outer : List Env) (s : Shared) (H : Hp) (vs : List V) (Q : VK) (E : XK), Room k (A.deeper (envOfC qual (defScope st) s.heap.objs.size f cdv)) → A.guards = some [] → sp vs H Q E →
      ∃ t, PSs (cxOf (L2.CX P w) P w K mg base N qual (defScope st) f cdv A outer s H E) (defBody st) t ∧ t { nx := fun _ H' => Q .non H', rt := Q } (start N vs) H) :
    CallG P w K mg base (k + 1) (.ref f) (pos fun vs H Q E => ∃ ws rest, vs = ws ++ rest ∧ ws.length = ps.length ∧ rest.length ≤ sizeLine ∧ ∀ p, H p = none → sp (ws ++ [.ref p]) (upd H p (.tup rest)) Q E) := by
  obtain ⟨oc, od, kV, doc, pm, an, cdv, ct, osl, rfl, lk, hcd⟩ := F.ex
  rintro A outer s H us kws vs zs Q E hr hg e0 r rk ⟨rfl, ws, rest, rfl, hl, hz, hq⟩
  cases rk
  obtain ⟨u1, u2, rfl, r1, r2⟩ := vals_split r
  have hn : H s.heap.objs.size = none := e0.hok.fresh (Nat.le_refl _)
  have hl1 : u1.length = ps.length := by rw [← r1.length]; exact hl
  have hl2 : u2.length ≤ sizeLine := by rw [← r2.length]; exact hz
  refine run_bnd lk hcd S hr e0 (G := fun xs H2 => ∃ p, H p = none ∧ xs = ws ++ [V.ref p] ∧ H2 = upd H p (.tup rest)) (fun A' Ex Q' h => ?_) fun s2 H2 xs ⟨p, hp, ex, eH⟩ hr' => ?_
  · rw [hb kV doc pm an cdv ct u1 u2 hl1]
    refine wpAny_bind (wpAny_newTuple (wpAny_pure ?_) hl2)
    have new : ObjOk P w (upd H s.heap.objs.size (.tup rest)) (s.heap.push ({ cls := .type "tuple", data := .seq u2.toArray } : Obj)) s.heap.objs.size (.tup rest) :=
      ⟨hz, u2, r2, ⟨_, Heap.get?_push_size _ rfl, rfl, _, rfl⟩⟩
    have un := un_laid (fs := frs outer) (s := s) (o := ({ cls := .type "tuple", data := .seq u2.toArray } : Obj)) (u := .tup rest) hn
    have z := h _ _ (ws ++ [V.ref s.heap.objs.size]) (u1 ++ [Value.ref s.heap.objs.size]) (env0_laid e0 new) un rfl
      (fun e s' => cxUp outer s H _ _ E e s' un (fun b o q => Heap.get?_push_of_some _ q) rfl) (r1.append (.cons rfl .nil)) (by rw [List.length_append, List.length_append, hl] <;> rfl) ⟨_, hn, rfl, rfl⟩
    rw [List.zip_append hl1.symm] at z
    exact z
  · subst ex eH
    exact hbody cdv A outer s2 _ _ Q E hr' hg (hq p hp)
end

section
variable {X : Cx} {W : WX} {k : Nat} {fv : Value} {sp : SpK} {pins : List (Addr × Obj)} {σ : L2.St} {H : Hp} {s : Shared} {Q : VK}
/-- the callee runs, from a body -/
theorem run_call {us : List Value} {kws : List (Str × Value)} {vs : List V} {zs : List (Str × V)} (tk : Takes X W) (F : CallG X.prog X.w X.K X.mg X.base k fv sp) (hr : Room k X.A) (hg : X.A.guards = some []) (I : Inv X pins σ H s) (r : Vals vs us) (rk : KVs zs kws)
    (h : sp vs zs H Q (WE W σ)) : wpAny (model X.prog X.w) X.A (call fv us kws) (EP X pins σ Q) X.xe s := by
  refine wpAny_call (codeAny_mono (F X.A X.stack s H us kws vs zs Q _ hr hg I.env0 r rk h) fun r s' hq => ?_)
  cases r with
  | error e => exact passAt tk σ pins H s e s' I hq
  | ok fl =>
    cases fl with
    | ret u => exact I.after hq
    | next => exact False.elim hq
    | brk => exact False.elim hq
    | cont => exact False.elim hq
def tCl (W : WX) (sp : SpK) (t : TA) : TE := fun σ H Q => t σ H fun vs H1 => sp vs [] H1 Q (WE W σ)
variable {x : Str} {p qs : Pos} {e : Expr} {es : List Expr} {t : TA}
/-- x(e, ..) -/
theorem pe_cl (tk : Takes X W) (F : CallG X.prog X.w X.K X.mg X.base k fv sp) (hr : Room k X.A) (hg : X.A.guards = some []) (hx : Gl X x) (hm : X.mg x = some fv) (hk : PySem.W.keepIn X.K fv = true) (ha : PA X (e :: es) t)
    (hdb : (x == ("__debug__" : Str)) = false := by decide) (he : starEach (e :: es) X.env = (false, eval e X.env) :: starEach es X.env := by rfl) (hpl : (backTo qs (starEach es X.env)).any (·.1) = false := by rfl) :
    PE X (.Call (.Name x p) (e :: es) [] qs) (tCl W sp t) := by
  refine ⟨fun pins s σ H Q I h => ?_⟩
  refine wpAny_Call_Name_kw (ld_glob I hx hm ?_ hdb)
  refine PySem.W.callWith_K (h₀ := X.base) I.ok.mod.kin hk (thn (ha.run qs pins s σ H _ I h) fun us s1 ⟨vs, H1, I1, r, q⟩ => ⟨I1.kIn, ?_⟩) he hpl
  exact run_call tk F hr hg I1 r .nil q
theorem pe_cl0 (tk : Takes X W) (F : CallG X.prog X.w X.K X.mg X.base k fv sp) (hr : Room k X.A) (hg : X.A.guards = some []) (hx : Gl X x) (hm : X.mg x = some fv) (hk : PySem.W.keepIn X.K fv = true)
    (hdb : (x == ("__debug__" : Str)) = false := by decide) : PE X (.Call (.Name x p) [] [] qs) (tCl W sp tNil) := by
  refine ⟨fun pins s σ H Q I h => ?_⟩
  refine wpAny_Call_Name_kw (ld_glob I hx hm ?_ hdb)
  exact PySem.W.callWith_K0 I.kIn hk (run_call (us := []) tk F hr hg I .nil .nil h)
end
end Uk

/-! UkB: from the layer into the walk: a def's promise shown by the walker -/
namespace Uk
open PySem PySem.Spec PyProof.Rows L2 StX

/-- the surroundings as the walk wants them -/
abbrev wideA (outer : List Env) : Around := { handled := none, depth := 395, frames := some outer, guards := some [], units := 6500 }
theorem below_wide {A : Around} {outer : List Env} {k : Nat} (hr : Room k A) (hk : 200 ≤ k) (hg : A.guards = some []) (hf : A.frames = some outer) {Γ : PySem.Ctx} (h : Γ.Below A) : Γ.Below (wideA outer) := by
  obtain ⟨h1, h2, h3, h4, h5⟩ := h
  have d := hr.dp
  have u := hr.un
  have e1 : recursionLimit = 1000 := rfl
  have e2 : cLine = 9900 := rfl
  rw [e1] at d
  rw [e2] at u
  refine ⟨h1.trans hr.hd, ?_, fun l hl => ?_, fun g hl => ?_, ?_⟩
  · show _ ≤ 395
    omega
  · cases hl
    exact h3 _ hf
  · cases hl
    exact h4 _ hg
  · show _ ≤ 6500
    omega
theorem code_wide {M : Model} {A : Around} {outer : List Env} {k : Nat} (hr : Room k A) (hk : 200 ≤ k) (hg : A.guards = some []) (hf : A.frames = some outer) {c : Code} {R : Result → Shared → Prop} {s : Shared} (h : codeAny M (wideA outer) c R s) : codeAny M A c R s :=
  fun Γ p hc hb => h Γ p hc (below_wide hr hk hg hf hb)

section
variable {P : Program} {w : World} {K : PySem.W.Frag} {mg : Str → Option Value} {base : Heap} {A : Around} {outer : List Env} {s : Shared} {H : Hp} {Q : VK} {E : XK} {k : Nat}
theorem Env0.kIn (e0 : Env0 P w K mg base A outer s H) : K.In s.heap := e0.mod.kin.keeps fun b o e => (e0.bs b o e).1
theorem Env0.keep (e0 : Env0 P w K mg base A outer s H) : ∀ b o, base.get? b = some o → s.heap.get? b = some o := fun b o e => (e0.bs b o e).1
/-- back from the walk: all that stood stands -/
theorem leave_same {v : V} {u : Value} {h' : Heap} {tk : Nat} {g : Array GenState} {d : Drawn} {os : OsState} (e0 : Env0 P w K mg base A outer s H) (kp : ∀ b o, s.heap.get? b = some o → h'.get? b = some o) (rv : RelV v u) (q : Q v H)
    (hg : AllBare g := by first | assumption | exact Env0.bare (by assumption)) (ho : os = s.os := by rfl) :
    CR (L2.CX P w) outer P w H s Q E (.ok (.ret u)) ⟨h', g, d, tk, os⟩ := ⟨v, H, ho, hg, Un.kept kp, e0.hok.kept kp, rv, q⟩
/-- a def entered, for the walk -/
theorem enter_W {p : Program} {loose : List Str} {mean : ExcName → Option Value} {mb : Str → Option Value} {R : Result → Shared → Prop} {name qual : Str} {params : Arguments} {body : List Stmt} {scope : Scope} {dV kV doc pm cdv ct oc : Value} {an od : Option Addr} {osl : Array (Option Value)}
    {f : Addr} {args : Args} {binds : List (Str × Value)} (hr : Room k A) (hk : 200 ≤ k) (hg : A.guards = some []) (e0 : Env0 P w K mg base A outer s H) (T : Top p loose mean mg mb base)
    (ho : K.lookup f = some ⟨oc, od, .func (PySem.W.fnOf name qual params body scope dV kV doc pm an cdv ct), osl⟩) (hcd : PySem.W.codeIn K cdv qual = true)
    (hbind : BindsTo s (PySem.W.fnOf name qual params body scope dV kV doc pm an cdv ct) args binds) (hloc : ∀ y ∈ binds, scope.names.lookup y.1 = some .local)
    (h : ∀ L' h₁, Fr s.heap L' h₁ (fun y => binds.reverse.lookup y) → News s.heap L' h₁ [] → Below (wideA outer) base outer s.heap → K.In s.heap → Top p loose mean mg mb s.heap →
      wpAny (model P w) ((wideA outer).deeper (envOf qual scope L' f cdv)) (execs body (envOf qual scope L' f cdv))
        (fun fl s' => R (.ok (.ret (match fl with | .ret v => v | _ => .none))) s')
        (fun e s' => wpAny (model P w) ((wideA outer).deeper (envOf qual scope L' f cdv)) (leaving (envOf qual scope L' f cdv) e) (fun _ s'' => R (.error e) s'') (fun e' s'' => R (.error e') s'') s')
        { s with heap := h₁, toks := s.toks + binds.length })
    (hco : scope.isCoroutine = false) (hgen : scope.isGenerator = false) (hkd : scope.kind = .function) (hcell : ∀ x ∈ scope.names, x.2 ≠ .cell) :
    codeAny (model P w) A (.call (.ref f) args) R s := by
  have KX := Env0.kIn e0
  refine code_wide hr hk hg e0.frames ?_
  refine codeAny_call_def (fd := PySem.W.fnOf name qual params body scope dV kV doc pm an cdv ct) (body := body) (binds := binds) (by show 395 < recursionLimit; decide) (KX _ _ ho) rfl (T.nolimit.keeps (Env0.keep e0))
    (PySem.W.codeRec_of KX hcd) rfl hbind hcell hloc (fun h₁ hns hk₁ => ?_) hco hgen hkd
  exact h s.heap.objs.size h₁ ⟨hns, hk₁, Nat.le_refl _⟩ (fun _ hp => nomatch hp) ⟨rfl, Env0.keep e0, e0.funs⟩ KX (T.keeps (Env0.keep e0))
end
end Uk

/-! UkC: != of an instance whose class has its own == and no != -/
namespace Uk
open PySem PySem.W PySem.Spec PySem.Calls PyProof.Rows

section
variable {prog : Program} {w : World} {A : Around} {E : Value → Shared → Prop} {s : Shared} {K : Frag} {x C L f : Addr} {h₀ : Heap} {m : PySem.Str → Option Value} {ox : Obj} {od : Option Obj} {b tb : Value}
/-- a built-in of object's, bound to the instance -/
theorem ifBound_bi {M : Model} {name : PySem.Str} {id T : String} {args : List Value} {Q : Option Value → Shared → Prop} (X : K.In s.heap) (I : InstAt s.heap x ox C od) (hs : findIn K (.ref C) name = some (some (.builtin id))) (S : Slot T name id)
    (h : wpAny M A (call (.builtin id) (.ref x :: args)) (fun v => Q (some v)) E s) : wpAny M A (callSpecialIfBound? (.ref x) name args) Q E s := by
  simp only [callSpecialIfBound?, bindSpecialIfBound?]
  refine wpAny_holding (wpAny_bind (wpAny_bind (wpAny_bind (I.type.here ((looks_findIn X hs).here ?_)))))
  simp only [S.bind]
  refine wpAny_bind (wpAny_askSetting (wpAny_ite ?_))
  have fin : wpAny M A (call (.builtin id) ([.ref x] ++ args) >>= fun v => pure (some v)) Q E s := wpAny_bind (wpAny_mono h (fun v s' h' => wpAny_pure h') fun _ _ h' => h')
  split
  · exact wpAny_bind (wpAny_pure (wpAny_pure fin))
  · exact wpAny_tryCatch (wpAny_bind (wpAny_pure (wpAny_pure fin)))

theorem objNe_K {Q : Fin → Shared → Prop} (hu : A.units < cLine) (X : K.In s.heap) (I : InstAt s.heap x ox C od) (hs : findIn K (.ref C) "__eq__" = some (some (.ref f))) (hf : isFn K (.ref f) = true)
    (h : wpAny (model prog w) A (call (.ref f) [.ref x, b]) (fun v s' => ∃ c, v = .bool c ∧ Q (.done (.ret (.bool (!c)))) s') E s) :
    wpAny (model prog w) A (Builtin.«object.__ne__» ⟨[.ref x, b], []⟩) Q E s := by
  obtain ⟨hp, g, d, t, os⟩ := s
  unfold Builtin.«object.__ne__»
  repeat (first
    | with_reducible refine wpAny_cRoomFor hu ?_
    | (refine wpAny_bind (m := callSpecialIfBound? (.ref x) (PySem.Str.ofString "__eq__") [b])
        (ifBound_K X I hs hf (wpAny_mono h (fun r s' hr => by
          obtain ⟨c, rfl, hq⟩ := hr
          repeat (first | exact hq | exact wpAny_pure hq | exact wpAny_truthy_bool hq | (refine wpAny_bind (m := truthy (.bool _)) (wpAny_truthy_bool ?_)) | wp_step)) fun _ _ e => e)))
    | wp_step)

theorem ne_K {Q : Value → Shared → Prop} (hu : A.units + 1 < cLine) (F : Fr h₀ L s.heap m) (X₀ : K.In h₀) (I : InstAt s.heap x ox C od) (hb : Looks (model prog w) s.heap (typeOf b) tb) (hn : notFirst K C tb = true)
    (hne : findIn K (.ref C) "__ne__" = some (some (.builtin "object.__ne__"))) (hs : findIn K (.ref C) "__eq__" = some (some (.ref f))) (hf : isFn K (.ref f) = true) (ho : mroIn K C (.type "object") = some true)
    (h : wpAny (model prog w) A.in1 (call (.ref f) [.ref x, b]) (fun v s' => ∃ c, v = .bool c ∧ Q (.bool (!c)) s') E s) : wpAny (model prog w) A (richCompare .NotEq (.ref x) b) Q E s := by
  have X := X₀.keeps F.keep
  have sub : Looks (model prog w) s.heap (isInstance (.ref x) (.type "object")) true := I.type.andThen (looks_mroIn X ho)
  have one : wpAny (model prog w) A (tryCompare (.ref x) "__ne__" b) (fun r s' => ∃ v, r = some v ∧ Q v s') E s := by
    unfold tryCompare
    refine wpAny_bind (ifBound_bi X I hne PySem.F.cmp_object.ne (wpAny_call (codeAny_call_builtin PySem.F.cmp_object.ne.plain PySem.F.cmpEntry_ne (check_slot PySem.F.cmpKind_ne PySem.F.cmpSplit_ne sub (PySem.F.cmpArgs_ne _ _) ?_))))
    refine objNe_K (A := A.in1) (by show A.units + 1 < cLine; exact hu) X I hs hf (wpAny_mono h (fun v s' hv => ?_) fun _ _ e => e)
    obtain ⟨c, rfl, hq⟩ := hv
    exact ⟨c, rfl, wpAny_pure ⟨_, rfl, hq⟩⟩
  unfold richCompare
  simp only [oneThing_ref]
  refine wpAny_holding (wpAny_bind (wpAny_cRoomFor (Nat.lt_of_succ_lt hu) ?_))
  rw [cmpInfo_NotEq]
  dsimp only
  refine wpAny_bind (I.type.here (wpAny_bind (hb.here ?_)))
  split
  · rename_i q
    have e : subIn K tb (.ref C) = some false := by
      rcases Bool.or_eq_true_iff.mp hn with e | e
      · rw [beq_iff_eq.mp e] at q; simp at q
      · exact beq_iff_eq.mp e
    refine wpAny_bind ((looks_subIn X e).here ?_)
    simp only [Bool.false_eq_true, if_false]
    refine wpAny_bind (wpAny_mono one (fun r s' z => ?_) fun _ _ e => e)
    obtain ⟨v, rfl, hq⟩ := z
    exact wpAny_pure hq
  · refine wpAny_bind (wpAny_pure ?_)
    simp only [Bool.false_eq_true, if_false]
    refine wpAny_bind (wpAny_mono one (fun r s' z => ?_) fun _ _ e => e)
    obtain ⟨v, rfl, hq⟩ := z
    exact wpAny_pure hq
def BoolNot (Q : Value → Shared → Prop) (v : Value) (s' : Shared) : Prop := match v with
  | .bool c => Q (.bool (!c)) s'
  | _ => False
theorem ne_K' {Q : Value → Shared → Prop} (hu : A.units + 1 < cLine) (F : Fr h₀ L s.heap m) (X₀ : K.In h₀) (I : InstAt s.heap x ox C od) (hb : Looks (model prog w) s.heap (typeOf b) tb) (hn : notFirst K C tb = true)
    (hne : findIn K (.ref C) "__ne__" = some (some (.builtin "object.__ne__"))) (hs : findIn K (.ref C) "__eq__" = some (some (.ref f))) (hf : isFn K (.ref f) = true) (ho : mroIn K C (.type "object") = some true)
    (h : wpAny (model prog w) A.in1 (call (.ref f) [.ref x, b]) (BoolNot Q) E s) : wpAny (model prog w) A (compareOp .NotEq (.ref x) b) Q E s :=
  ne_K hu F X₀ I hb hn hne hs hf ho (wpAny_mono h (fun v s' hv => by
    cases v <;> first | exact False.elim hv | exact ⟨_, rfl, hv⟩) fun _ _ e => e)
end
end Uk

/-! UkD: operators that a class of the program defines -/
namespace Uk
open PySem PySem.Spec PyProof.Rows L2 StX

/-- nothing is raised -/
abbrev NoE : XK := fun _ _ _ => False
section
variable {X : Cx} {W : WX} {k : Nat} {fv : Value} {sp : SpK} {pins : List (Addr × Obj)} {σ : L2.St} {H : Hp} {s : Shared} {Q : VK}
theorem cx_no {P : Program} {w : World} {outer : List Env} {u : Value} {s' : Shared} (h : L2.CX P w outer H s NoE u s') : False := by
  obtain ⟨a, B, H', cls, d, ea, fl, hok, ub, na, os, ag, he⟩ := h
  exact he
/-- the callee runs in the body's surroundings, or in ones like them, and raises nothing -/
theorem run_callN {A' : Around} {E₁ : Value → Shared → Prop} {us : List Value} {vs : List V} (F : CallG X.prog X.w X.K X.mg X.base k fv sp) (hr : Room k A') (hg : A'.guards = some []) (hf : A'.frames = X.A.frames) (I : Inv X pins σ H s) (r : Vals vs us)
    (h : sp vs [] H Q NoE) : wpAny (model X.prog X.w) A' (call fv us) (EP X pins σ Q) E₁ s := by
  have e := I.env0
  have e0 : Env0 X.prog X.w X.K X.mg X.base A' X.stack s H := ⟨hf.trans e.frames, e.mod, e.bs, e.bsz, e.funs, e.frf, e.hok, e.bare⟩
  refine wpAny_call (codeAny_mono (F A' X.stack s H us [] vs [] Q NoE hr hg e0 r .nil h) fun r s' hq => ?_)
  cases r with
  | error e => exact (cx_no hq).elim
  | ok fl =>
    cases fl with
    | ret u => exact I.after hq
    | next => exact False.elim hq
    | brk => exact False.elim hq
    | cont => exact False.elim hq
theorem rel_ne {v : V} {u : Value} (r : RelV v u) : u ≠ .notImplemented := by
  intro e
  subst e
  cases v <;> first | (cases r; done) | (obtain ⟨_, e⟩ := r; cases e)
/-- a method of the class by its special name -/
structure Own (K : PySem.W.Frag) (C : Addr) (m : PySem.Str) (f : Addr) : Prop where
  at_ : PySem.W.findIn K (.ref C) m = some (some (.ref f))
  fn : PySem.W.isFn K (.ref f) = true
theorem ins_at {P : Program} {w : World} {h : Heap} {a C dx : Addr} {fs : List (Str × V)} (hok : HOk P w H h) (e : H a = some (.ins C dx fs)) : ∃ od, PySem.W.InstAt h a (PySem.W.instObj C dx) C (some od) := by
  obtain ⟨mA, O, _⟩ := ins_get hok e
  obtain ⟨od, J, _⟩ := O.look
  exact ⟨od, J⟩
theorem looks_ty {x : V} {u t : Value} (I : Inv X pins σ H s) (rx : RelV x u) (ty : TyX X.K H x t) {M : Model} : PySem.W.Looks M s.heap (typeOf u) t := by
  obtain ⟨P, Z, p, _⟩ := kit_of I rx ty
  exact Z.ty M s.heap I.kIn p
/-- one own, the other any -/
def rOw (K : PySem.W.Frag) (D : Addr → Prop) (sp : SpK) (g : V → V) : R2 := fun x y H Q => ∃ (a C dx : Addr) (fs : List (Str × V)) (t : Value), x = .ref a ∧ D C ∧ H a = some (.ins C dx fs) ∧ TyX K H y t ∧ PySem.W.notFirst K C t = true ∧ sp [x, y] [] H (fun v H' => Q (g v) H') NoE
theorem op_eqO {D : Addr → Prop} {f : Addr} (F : CallG X.prog X.w X.K X.mg X.base k (.ref f) sp) (hr : Room k X.A) (hg : X.A.guards = some []) (hD : ∀ C, D C → Own X.K C "__eq__" f) : OpR X (compareOp .Eq) (rOw X.K D sp id) := by
  intro pins s σ H x y u v Q I rx ry h
  obtain ⟨a, C, dx, fs, t, rfl, d, e, ty, nf, q⟩ := h
  obtain rfl : u = Value.ref a := rx
  obtain ⟨od, J⟩ := ins_at I.hok e
  obtain ⟨m, fr⟩ := I.fr
  refine PySem.W.cmp_ofEq (PySem.W.cmp_K hr.units0 fr I.ok.mod.kin J (looks_ty I ry ty) nf (hD C d).at_ (hD C d).fn (wpAny_mono (run_callN F hr hg rfl I (vs := [.ref a, y]) (us := [.ref a, v]) (.cons rfl (.cons ry .nil)) q) (fun z s' hz => ?_) fun _ _ y => y))
  obtain ⟨v', H', I', rv, q'⟩ := hz
  have hn := rel_ne rv
  cases z <;> first | exact absurd rfl hn | exact ⟨v', H', I', rv, q'⟩
theorem op_ltO {D : Addr → Prop} {f : Addr} (F : CallG X.prog X.w X.K X.mg X.base k (.ref f) sp) (hr : Room k X.A) (hg : X.A.guards = some []) (hD : ∀ C, D C → Own X.K C "__lt__" f) : OpR X (compareOp .Lt) (rOw X.K D sp id) := by
  intro pins s σ H x y u v Q I rx ry h
  obtain ⟨a, C, dx, fs, t, rfl, d, e, ty, nf, q⟩ := h
  obtain rfl : u = Value.ref a := rx
  obtain ⟨od, J⟩ := ins_at I.hok e
  obtain ⟨m, fr⟩ := I.fr
  refine PySem.W.cmp_ofLt (PySem.W.cmp_K hr.units0 fr I.ok.mod.kin J (looks_ty I ry ty) nf (hD C d).at_ (hD C d).fn (wpAny_mono (run_callN F hr hg rfl I (vs := [.ref a, y]) (us := [.ref a, v]) (.cons rfl (.cons ry .nil)) q) (fun z s' hz => ?_) fun _ _ y => y))
  obtain ⟨v', H', I', rv, q'⟩ := hz
  have hn := rel_ne rv
  cases z <;> first | exact absurd rfl hn | exact ⟨v', H', I', rv, q'⟩
def notV : V → V
  | .bl b => .bl (!b)
  | v => v
/-- != by an own == -/
def rNeOw (K : PySem.W.Frag) (D : Addr → Prop) (sp : SpK) : R2 := fun x y H Q => ∃ (a C dx : Addr) (fs : List (Str × V)) (t : Value), x = .ref a ∧ D C ∧ H a = some (.ins C dx fs) ∧ TyX K H y t ∧ PySem.W.notFirst K C t = true ∧ sp [x, y] [] H (fun v H' => ∃ b, v = .bl b ∧ Q (.bl (!b)) H') NoE
structure OwnNe (K : PySem.W.Frag) (C : Addr) (f : Addr) : Prop where
  eq : Own K C "__eq__" f
  ne : PySem.W.findIn K (.ref C) "__ne__" = some (some (.builtin "object.__ne__"))
  ob : PySem.W.mroIn K C (.type "object") = some true
theorem op_neO {D : Addr → Prop} {f : Addr} (F : CallG X.prog X.w X.K X.mg X.base k (.ref f) sp) (hr : Room (k + 1) X.A) (hg : X.A.guards = some []) (hD : ∀ C, D C → OwnNe X.K C f) : OpR X (compareOp .NotEq) (rNeOw X.K D sp) := by
  intro pins s σ H x y u v Q I rx ry h
  obtain ⟨a, C, dx, fs, t, rfl, d, e, ty, nf, q⟩ := h
  obtain rfl : u = Value.ref a := rx
  obtain ⟨od, J⟩ := ins_at I.hok e
  obtain ⟨m, fr⟩ := I.fr
  refine ne_K' (by have := hr.units; omega) fr I.ok.mod.kin J (looks_ty I ry ty) nf (hD C d).ne (hD C d).eq.at_ (hD C d).eq.fn (hD C d).ob (wpAny_mono (run_callN F hr.in1 hg rfl I (vs := [.ref a, y]) (us := [.ref a, v]) (.cons rfl (.cons ry .nil)) q) (fun z s' hz => ?_) fun _ _ y => y)
  obtain ⟨v', H', I', rv, b, rfl, q'⟩ := hz
  obtain rfl : z = Value.bool b := rv
  exact ⟨.bl (!b), H', I', rfl, q'⟩
/-- a + b, both of one class -/
def rBinO (D : Addr → Prop) (sp : SpK) : R2 := fun x y H Q => ∃ (a b C dx dy : Addr) (fs gs : List (Str × V)), x = .ref a ∧ y = .ref b ∧ D C ∧ H a = some (.ins C dx fs) ∧ H b = some (.ins C dy gs) ∧ sp [x, y] [] H Q NoE
structure OwnBin (K : PySem.W.Frag) (C : Addr) (m : PySem.Str) (f : Addr) : Prop where
  at_ : PySem.W.findIn K (.ref C) m = some (some (.ref f))
  fn : PySem.W.isFn K (.ref f) = true
  first : PySem.W.selfFirst K C = true
theorem op_binO {op : Operator} {D : Addr → Prop} {f : Addr} (F : CallG X.prog X.w X.K X.mg X.base k (.ref f) sp) (hr : Room k X.A) (hg : X.A.guards = some []) (hD : ∀ C, D C → OwnBin X.K C (PySem.dunder op.info.2) f) : OpR X (binaryOp op) (rBinO D sp) := by
  intro pins s σ H x y u v Q I rx ry h
  obtain ⟨a, b, C, dx, dy, fs, gs, rfl, rfl, d, e1, e2, q⟩ := h
  obtain rfl : u = Value.ref a := rx
  obtain rfl : v = Value.ref b := ry
  obtain ⟨od, J⟩ := ins_at I.hok e1
  obtain ⟨od2, J2⟩ := ins_at I.hok e2
  obtain ⟨m, fr⟩ := I.fr
  refine PySem.W.binop_K fr I.ok.mod.kin J J2.type (hD C d).first (hD C d).at_ (hD C d).fn (wpAny_mono (run_callN F hr hg rfl I (vs := [.ref a, .ref b]) (us := [.ref a, .ref b]) (.cons rfl (.cons rfl .nil)) q) (fun z s' hz => ?_) fun _ _ y => y)
  obtain ⟨v', H', I', rv, q'⟩ := hz
  have hn := rel_ne rv
  cases z <;> first | exact absurd rfl hn | exact ⟨v', H', I', rv, q'⟩
/-- an instance's truth by its own __bool__ -/
def rTruO (D : Addr → Prop) (sp : SpK) : V → Hp → (Bool → Hp → Prop) → Prop := fun x H Q => ∃ (a C dx : Addr) (fs : List (Str × V)), x = .ref a ∧ D C ∧ H a = some (.ins C dx fs) ∧ sp [x] [] H (fun v H' => ∃ b, v = .bl b ∧ Q b H') NoE
theorem tru_O {D : Addr → Prop} {f : Addr} (F : CallG X.prog X.w X.K X.mg X.base k (.ref f) sp) (hr : Room k X.A) (hg : X.A.guards = some []) (hD : ∀ C, D C → Own X.K C "__bool__" f) : TruR X (rTruO D sp) := by
  intro pins s σ H x u Q I rx h
  obtain ⟨a, C, dx, fs, rfl, d, e, q⟩ := h
  obtain rfl : u = Value.ref a := rx
  obtain ⟨od, J⟩ := ins_at I.hok e
  obtain ⟨m, fr⟩ := I.fr
  refine PySem.W.truthy_K fr I.ok.mod.kin J (hD C d).at_ (hD C d).fn (wpAny_mono (run_callN F hr hg rfl I (vs := [.ref a]) (us := [.ref a]) (.cons rfl .nil) q) (fun z s' hz => ?_) fun _ _ y => y)
  obtain ⟨v', H', I', rv, b, rfl, q'⟩ := hz
  obtain rfl : z = Value.bool b := rv
  exact ⟨H', I', q'⟩
end
end Uk

/-! UkE: repr of data -/
namespace Uk
open PySem PySem.Spec PyProof.Rows L2 StX

section
variable {K : PySem.W.Frag} {H H' : Hp}
mutual
theorem dp_noDict : ∀ {d : PyData} {v : V}, Dp K H v d → d.hasDict = false
  | .none, _, _ => rfl
  | .bool _, _, _ => rfl
  | .int _, _, _ => rfl
  | .str _, _, _ => rfl
  | .list ds, _, h => by
    cases h with
    | lst _ r => exact dpAll_noDict r
  | .tuple ds, _, h => by
    cases h with
    | tup _ r => exact dpAll_noDict r
  | .dict _, _, h => nomatch h
theorem dpAll_noDict : ∀ {ds : List PyData} {vs : List V}, DpAll K H vs ds → PyData.hasDictAll ds = false
  | [], _, _ => rfl
  | d :: ds, _, h => by
    cases h with
    | cons a r =>
      show (PyData.hasDict d || PyData.hasDictAll ds) = false
      rw [dp_noDict a, dpAll_noDict r] <;> rfl
end
theorem sq_mono {a : Addr} {xs : List V} (e : Same H H') (h : SqL K H a xs) : SqL K H' a xs := e.seq h
theorem st_mono {a : Addr} {xs : List V} (e : Same H H') (h : SqT K H a xs) : SqT K H' a xs := by
  rcases h with (h | ⟨o, h⟩) | h
  · exact .inl (.inl (e _ _ h))
  · exact .inl (.inr ⟨o, e _ _ h⟩)
  · exact .inr h
mutual
theorem dp_mono (e : Same H H') : ∀ {d : PyData} {v : V}, Dp K H v d → Dp K H' v d
  | .none, _, h => by cases h; exact .non
  | .bool b, _, h => by cases h; exact .bl b
  | .int i, _, h => by cases h; exact .int i
  | .str x, _, h => by cases h; exact .str x
  | .list ds, _, h => by
    cases h with
    | lst a r => exact .lst (sq_mono e a) (dpAll_mono e r)
  | .tuple ds, _, h => by
    cases h with
    | tup a r => exact .tup (st_mono e a) (dpAll_mono e r)
  | .dict _, _, h => nomatch h
theorem dpAll_mono (e : Same H H') : ∀ {ds : List PyData} {vs : List V}, DpAll K H vs ds → DpAll K H' vs ds
  | [], _, h => by cases h; exact .nil
  | d :: ds, _, h => by
    cases h with
    | cons a r => exact .cons (dp_mono e a) (dpAll_mono e r)
end
end

/-- what may be shown -/
structure Shw (d : PyData) : Prop where
  sh : d.showable = true
  sz : d.shown.length ≤ sizeLine
  dp : d.depth ≤ 60
def rRepr (K : PySem.W.Frag) : List V → Hp → VK → Prop := fun xs H Q => ∃ v d, xs = [v] ∧ Dp K H v d ∧ Shw d ∧ Q (.str d.shown) H
section
variable {X : Cx}
theorem call_repr (hg : X.A.guards = some []) (hu : X.A.units + 64 < cLine) : CallR X (.builtin "repr") (rRepr X.K) := by
  intro pins s σ H xs us Q I r h
  obtain ⟨v, d, rfl, hd, ⟨h1, h2, h3⟩, q⟩ := h
  obtain ⟨u, rfl, rv⟩ := vals1 r
  cases hd with
  | non => cases (show u = Value.none from rv); exact PySem.P.repr_of_none ⟨.str _, H, I.tok _, ⟨_, rfl⟩, q⟩
  | bl b =>
    cases (show u = Value.bool b from rv)
    refine PySem.P.repr_of_bool ⟨.str _, H, I.tok _, ⟨_, rfl⟩, ?_⟩
    cases b <;> exact q
  | int i =>
    obtain ⟨t, rfl⟩ := (show ∃ t, u = Value.int i t from rv)
    exact PySem.P.repr_of_int (of_decide_eq_true h1) ⟨.str _, H, I.tok _, ⟨_, rfl⟩, q⟩
  | str x =>
    obtain ⟨t, rfl⟩ := (show ∃ t, u = Value.str x t from rv)
    exact PySem.P.repr_of_str ⟨.str _, H, I.tok _, ⟨_, rfl⟩, q⟩ h2
  | @lst a xs ds hl hr =>
    have hd := Dp.lst hl hr
    obtain ⟨as, rd⟩ := Dp.reads I _ _ u hd rv
    obtain rfl : u = Value.ref a := rv
    refine repr_of_reads' (h₀ := s.heap) rd h1 (fun z => by rw [dp_noDict hd] at z; cases z) hg (by omega) (fun _ _ e => e) (fun h' t tk kp => ?_) h2
    exact ⟨.str _, H, I.kept kp, ⟨_, rfl⟩, q⟩
  | @tup a xs ds hl hr =>
    have hd := Dp.tup hl hr
    obtain ⟨as, rd⟩ := Dp.reads I _ _ u hd rv
    obtain rfl : u = Value.ref a := rv
    refine repr_of_reads' (h₀ := s.heap) rd h1 (fun z => by rw [dp_noDict hd] at z; cases z) hg (by omega) (fun _ _ e => e) (fun h' t tk kp => ?_) h2
    exact ⟨.str _, H, I.kept kp, ⟨_, rfl⟩, q⟩
end
end Uk

/-! UkF: small words for readings; the pen -/
namespace Uk
open PySem PySem.Spec PyProof.Rows L2 StX

theorem hu_big {A : Around} {k : Nat} (hr : Room k A) : A.units + 64 < cLine := hr.units
/-- one object was changed (or made), all else that was told stands -/
structure Chg (p : Addr) (o : HO) (H H' : Hp) : Prop where
  at_ : H' p = some o
  ne : ∀ a u, a ≠ p → H a = some u → H' a = some u
theorem Chg.upd {p : Addr} {o : HO} {H : Hp} : Chg p o H (upd H p o) := ⟨upd_same, fun a u n e => by rw [upd_ne n]; exact e⟩
theorem Chg.same {p : Addr} {o : HO} {H H1 H2 : Hp} (e : Same H H1) (c : Chg p o H1 H2) : Chg p o H H2 := ⟨c.at_, fun a u n h => c.ne a u n (e a u h)⟩
theorem Chg.trans {p : Addr} {o u : HO} {H H1 H2 : Hp} (a : Chg p o H H1) (b : Chg p u H1 H2) : Chg p u H H2 := ⟨b.at_, fun x y n e => b.ne x y n (a.ne x y n e)⟩
theorem Chg.then {p : Addr} {o : HO} {H H1 H2 : Hp} (a : Chg p o H H1) (b : Same H1 H2) : Chg p o H H2 := ⟨b _ _ a.at_, fun x y n e => b _ _ (a.ne x y n e)⟩
theorem same_new {H : Hp} {p : Addr} {o : HO} (h : H p = none) : Same H (upd H p o) := fun b x e => by rw [upd_ne (ne_of_none e h)]; exact e
/-- an item of a list at a written place -/
theorem atI_lit {α : Type} {xs : List α} {i : Int} {v : α} (h0 : 0 ≤ i) (h : xs[i.toNat]? = some v) : atI xs i = some v := by
  have := atI_nat h
  rwa [Int.toNat_of_nonneg h0] at this
theorem ixN_lit {n : Nat} {i : Int} (h0 : 0 ≤ i) (h1 : i < n) : ixN n i = some i.toNat := by unfold ixN; rw [if_pos h0, if_pos h1]
theorem atI_mem {α : Type} {xs : List α} {i : Int} (h0 : 0 ≤ i) (h1 : i < xs.length) : ∃ v, atI xs i = some v ∧ v ∈ xs := by
  have hl : i.toNat < xs.length := by omega
  exact ⟨xs[i.toNat], atI_lit h0 (List.getElem?_eq_getElem hl), List.getElem_mem hl⟩
theorem ite_b {b : Bool} {A B : Prop} (h1 : b = true → A) (h2 : b = false → B) : if b = true then A else B := by
  cases b with
  | true => exact iteT (h1 rfl)
  | false => exact iteF (h2 rfl)

/-- the pen at p: its cells at c, how many were begun, what is left -/
abbrev penO (c : Addr) (b l : Int) : HO := .lst [.ref c, .int b, .int l]
/-- the promise of what draws -/
def spDraw : Sp := fun vs H Q _ => ∃ (p c : Addr) (b l many : Int) (ns : List Int), vs = [.ref p, .int many] ∧ H p = some (penO c b l) ∧ H c = some (.lst (ns.map .int)) ∧ ns.length ≤ 63 ∧ 0 ≤ b ∧ b ≤ 100000 ∧ 1 ≤ many ∧ many ≤ 100000 ∧
  ∀ (d b' l' : Int) (H' : Hp), 0 ≤ d → d < many → b ≤ b' → b' ≤ b + 1 → Chg p (penO c b' l') H H' → Q (.int d) H'
theorem fmod_range {i j : Int} (h : 0 < j) : 0 ≤ i.fmod j ∧ i.fmod j < j := by
  rw [Int.fmod_eq_emod_of_nonneg _ (Int.le_of_lt h)]
  exact ⟨Int.emod_nonneg _ (Int.ne_of_gt h), Int.emod_lt_of_pos _ h⟩
theorem fmod_ex {C : Int} (h : 0 < C) (i : Int) : ∃ m, i.fmod C = m ∧ 0 ≤ m ∧ m < C := ⟨_, rfl, (fmod_range h).1, (fmod_range h).2⟩
theorem lay_ints : ∀ ns : List Int, PyData.canLayAll0 (ns.map PyData.int) = true
  | [] => rfl
  | n :: r => by
    show (PyData.canLay0 (.int n) && PyData.canLayAll0 (r.map PyData.int)) = true
    rw [lay_ints r]
    rfl
theorem dep_ints : ∀ ns : List Int, PyData.depthAll (ns.map PyData.int) = 0
  | [] => rfl
  | n :: r => by
    show max (PyData.depth (.int n)) (PyData.depthAll (r.map PyData.int)) = 0
    rw [dep_ints r]
    rfl
theorem shaped_ints (ns : List Int) : SeqAt.shaped (.list (ns.map PyData.int)) = true := by
  unfold SeqAt.shaped
  rw [show PyData.canLay0 (.list (ns.map PyData.int)) = true from lay_ints ns, show PyData.depth (.list (ns.map PyData.int)) = 1 by show PyData.depthAll (ns.map PyData.int) + 1 = 1; rw [dep_ints]]
  rfl
theorem dpAll_ints {K : PySem.W.Frag} {H : Hp} : ∀ ns : List Int, DpAll K H (ns.map V.int) (ns.map PyData.int)
  | [] => .nil
  | n :: r => .cons (.int n) (dpAll_ints r)
end Uk

/-! UkG: making instances, static methods and own methods by the promises of UkA -/
namespace Uk
open PySem PySem.Spec PyProof.Rows L2 StX
theorem under_guards {A : Around} {C : Addr} {us : List Value} {kw : List (Str × Value)} (h : A.guards = some []) : (A.under (.builtin "type.__call__" ⟨.ref C :: us, kw⟩)).guards = some [] := by
  first | exact h | (simpa [Around.under, Code.envs, Code.isFrame, pushEnvs] using h)
section
variable {X : Cx} {W : WX} {k : Nat} {C f : Addr} {sp : Sp} {pins : List (Addr × Obj)} {σ : L2.St} {H : Hp} {s : Shared} {Q : VK}
/-- what the making of an instance asks of its __init__ -/
def spMk (C : Addr) (sp : Sp) : Sp := fun vs H Q E => ∀ x dx, H x = none → H dx = none → dx ≠ x → sp (.ref x :: vs) (upd (upd H dx (.own x)) x (.ins C dx [])) (fun v H2 => v = .non ∧ Q (.ref x) H2) E
theorem run_makeG {us : List Value} {vs : List V} (tk : Takes X W) (M : Mk X.K C f) (F : CallG X.prog X.w X.K X.mg X.base k (.ref f) (pos sp)) (hr : Room (k + 1) X.A) (hg : X.A.guards = some []) (I : Inv X pins σ H s) (r : Vals vs us)
    (h : spMk C sp vs H Q (WE W σ)) : wpAny (model X.prog X.w) X.A (call (.ref C) us) (EP X pins σ Q) X.xe s := by
  have hq := h (s.heap.objs.size + 1) s.heap.objs.size (I.hok.fresh (Nat.le_succ _)) (I.hok.fresh (Nat.le_refl _)) (Nat.ne_of_lt (Nat.lt_succ_self _))
  have I2 := Inv.made (C := C) I
  have r2 : Vals (V.ref (s.heap.objs.size + 1) :: vs) (Value.ref (s.heap.objs.size + 1) :: us) := .cons rfl r
  refine wpAny_call (make_map (f := f) I.kIn M.makes M.init (beq_iff_eq.mp M.fn) (codeAny_mono (F _ X.stack _ _ (Value.ref (s.heap.objs.size + 1) :: us) [] _ [] _ _ (hr.make C us []) (under_guards hg) (I2.env0.make C us []) r2 .nil ⟨rfl, hq⟩) fun r s' hq' => ?_))
  cases r with
  | error e => exact passAt tk σ pins _ _ e s' I2 hq'
  | ok fl =>
    cases fl with
    | ret u =>
      obtain ⟨v, H', I3, rv, ev, q3⟩ := I2.after hq'
      subst ev
      exact ⟨rv, ⟨V.ref (s.heap.objs.size + 1), H', I3, rfl, q3⟩⟩
    | next => exact False.elim hq'
    | brk => exact False.elim hq'
    | cont => exact False.elim hq'
variable {x : Str} {p qs : Pos} {e : Expr} {es : List Expr} {t : TA}
/-- C(e, ..) -/
theorem pe_mkG (tk : Takes X W) (M : Mk X.K C f) (F : CallG X.prog X.w X.K X.mg X.base k (.ref f) (pos sp)) (hr : Room (k + 1) X.A) (hg : X.A.guards = some []) (hx : Gl X x) (hm : X.mg x = some (.ref C)) (ha : PA X (e :: es) t)
    (hdb : (x == ("__debug__" : Str)) = false := by decide) (he : starEach (e :: es) X.env = (false, eval e X.env) :: starEach es X.env := by rfl) (hpl : (backTo qs (starEach es X.env)).any (·.1) = false := by rfl) :
    PE X (.Call (.Name x p) (e :: es) [] qs) (tCl W (pos (spMk C sp)) t) := by
  refine ⟨fun pins s σ H Q I h => ?_⟩
  refine wpAny_Call_Name_kw (ld_glob I hx hm ?_ hdb)
  refine PySem.W.callWith_K (h₀ := X.base) I.ok.mod.kin M.kp (thn (ha.run qs pins s σ H _ I h) fun us s1 ⟨vs, H1, I1, r, q⟩ => ⟨I1.kIn, ?_⟩) he hpl
  exact run_makeG tk M F hr hg I1 r q.2
theorem pe_mkG0 (tk : Takes X W) (M : Mk X.K C f) (F : CallG X.prog X.w X.K X.mg X.base k (.ref f) (pos sp)) (hr : Room (k + 1) X.A) (hg : X.A.guards = some []) (hx : Gl X x) (hm : X.mg x = some (.ref C))
    (hdb : (x == ("__debug__" : Str)) = false := by decide) : PE X (.Call (.Name x p) [] [] qs) (tCl W (pos (spMk C sp)) tNil) := by
  refine ⟨fun pins s σ H Q I h => ?_⟩
  refine wpAny_Call_Name_kw (ld_glob I hx hm ?_ hdb)
  exact PySem.W.callWith_K0 I.kIn M.kp (run_makeG (us := []) tk M F hr hg I .nil h.2)
end

/-- C.m is a staticmethod: its record at p, its def at g -/
structure SMet (K : PySem.W.Frag) (C : Addr) (mc : Value) (m : Str) (p g : Addr) : Prop where
  rd : PySem.W.readsIn K C mc = true
  ga : PySem.W.specialIn K (.ref C) "__getattribute__" = some (some (.builtin "type.__getattribute__"))
  at_ : PySem.W.findCls K (.ref C) mc m = some (.get (.builtin "staticmethod.__get__") (.ref p) .none (.ref C))
  rc : ∃ rest, PySem.W.recIn K p "staticmethod" = some (.ref g :: rest)
  kp : PySem.W.keepIn K (.ref g) = true
section
variable {X : Cx} {W : WX} {k : Nat} {C f p g : Addr} {mc : Value} {sp : SpK} {m x : Str} {o e : Expr} {es : List Expr} {qs apos : Pos} {ta : TE} {t : TA} {pl : Sem Bool} {pins : List (Addr × Obj)} {σ : L2.St} {H : Hp} {s : Shared} {A : Around} {E : Value → Shared → Prop}
theorem getmethsm_ok {pl : Sem Bool} {Q : Value × List Value → Shared → Prop} (I : Inv X pins σ H s) (k : SMet X.K C mc m p g)
    (h : ∀ s', Inv X pins σ H s' → Q (.ref g, []) s') : wpAny (model X.prog X.w) A (getMethod (.ref C) m pl) Q E s := by
  obtain ⟨rest, hp⟩ := k.rc
  refine PySem.W.method_cls I.kIn k.ga (PySem.W.cls_bind I.kIn k.rd k.at_ ?_)
  exact wpAny_call (PySem.W.sm_get (s := { s with toks := s.toks + 1 }) I.kIn hp (PySem.W.handed_on rfl (h _ (I.tok _))))
/-- C.m(e, ..), m a staticmethod -/
def tSm (W : WX) (C : Addr) (sp : SpK) (ta : TE) (t : TA) : TE := fun σ H Q => ta σ H fun x H1 => x = .ref C ∧ t σ H1 fun vs H2 => sp vs [] H2 Q (WE W σ)
theorem pe_sm (tk : Takes X W) (he : PE X o ta) (c : SMet X.K C mc m p g) (F : CallG X.prog X.w X.K X.mg X.base k (.ref g) sp) (hr : Room k X.A) (hg : X.A.guards = some []) (ha : PA X (e :: es) t)
    (hst : starEach (e :: es) X.env = (false, eval e X.env) :: starEach es X.env := by rfl) (hpl : (backTo qs (starEach es X.env)).any (·.1) = false := by rfl)
    (ht : eval (.Call (.Attribute o m apos) (e :: es) [] qs) X.env = (do
      let ov ← eval o X.env
      standAt apos.atName
      let (f, first) ← holding [ov] (getMethod ov m pl)
      callWith qs f first (backTo qs (starEach (e :: es) X.env)) (backToKw qs (keywordEach [] X.env))) := by rfl) :
    PE X (.Call (.Attribute o m apos) (e :: es) [] qs) (tSm W C sp ta t) := by
  refine ⟨fun pins s σ H Q I h => ?_⟩
  refine PySem.W.methodCall_KW (pl := pl) (thn (he.run pins s σ H _ I h) fun u s1 ⟨x, H1, I1, rx, ex, q⟩ => ?_) ht
  subst ex
  obtain rfl : u = Value.ref C := rx
  refine getmethsm_ok I1 c fun s2 I2 => ?_
  refine PySem.W.callWith_K (h₀ := X.base) I2.ok.mod.kin c.kp (thn (ha.run qs pins s2 σ H1 _ I2 q) fun us s3 ⟨vs, H2, I3, r, q2⟩ => ⟨I3.kIn, ?_⟩) hst hpl
  exact run_call tk F hr hg I3 r .nil q2
theorem pe_sm0 (tk : Takes X W) (he : PE X o ta) (c : SMet X.K C mc m p g) (F : CallG X.prog X.w X.K X.mg X.base k (.ref g) sp) (hr : Room k X.A) (hg : X.A.guards = some [])
    (ht : eval (.Call (.Attribute o m apos) [] [] qs) X.env = (do
      let ov ← eval o X.env
      standAt apos.atName
      let (f, first) ← holding [ov] (getMethod ov m pl)
      callWith qs f first (backTo qs (starEach [] X.env)) (backToKw qs (keywordEach [] X.env))) := by rfl) :
    PE X (.Call (.Attribute o m apos) [] [] qs) (tSm W C sp ta tNil) := by
  refine ⟨fun pins s σ H Q I h => ?_⟩
  refine PySem.W.methodCall_KW (pl := pl) (thn (he.run pins s σ H _ I h) fun u s1 ⟨x, H1, I1, rx, ex, q⟩ => ?_) ht
  subst ex
  obtain rfl : u = Value.ref C := rx
  refine getmethsm_ok I1 c fun s2 I2 => ?_
  exact PySem.W.callWith_K0 I2.kIn c.kp (run_call (us := []) tk F hr hg I2 .nil .nil q)
/-- o.m(e, ..), m a method of o's class -/
def tMeG (W : WX) (C : Addr) (m : Str) (sp : SpK) (ta : TE) (t : TA) : TE := fun σ H Q => ta σ H fun x H1 => ∃ a dx fs, x = .ref a ∧ H1 a = some (.ins C dx fs) ∧ fs.lookup m = none ∧ t σ H1 fun vs H2 => sp (.ref a :: vs) [] H2 Q (WE W σ)
theorem pe_meG (tk : Takes X W) (he : PE X o ta) (c : Cls X.K C) (hm : Meth X.K C m f) (F : CallG X.prog X.w X.K X.mg X.base k (.ref f) sp) (hr : Room k X.A) (hg : X.A.guards = some []) (ha : PA X (e :: es) t)
    (hst : starEach (e :: es) X.env = (false, eval e X.env) :: starEach es X.env := by rfl) (hpl : (backTo qs (starEach es X.env)).any (·.1) = false := by rfl)
    (ht : eval (.Call (.Attribute o m apos) (e :: es) [] qs) X.env = (do
      let ov ← eval o X.env
      standAt apos.atName
      let (f, first) ← holding [ov] (getMethod ov m pl)
      callWith qs f first (backTo qs (starEach (e :: es) X.env)) (backToKw qs (keywordEach [] X.env))) := by rfl) :
    PE X (.Call (.Attribute o m apos) (e :: es) [] qs) (tMeG W C m sp ta t) := by
  refine ⟨fun pins s σ H Q I h => ?_⟩
  refine PySem.W.methodCall_KW (pl := pl) (thn (he.run pins s σ H _ I h) fun u s1 ⟨x, H1, I1, rx, a, dx, fs, ex, ea, l, q⟩ => ?_) ht
  subst ex
  obtain rfl : u = Value.ref a := rx
  refine getmeth_ok I1 ea c hm l ?_
  refine PySem.W.callWith_K (h₀ := X.base) (first := [.ref a]) I1.ok.mod.kin hm.kp (thn (ha.run qs pins s1 σ H1 _ I1 q) fun us s2 ⟨vs, H2, I2, r, q2⟩ => ⟨I2.kIn, ?_⟩) hst hpl
  exact run_call (us := .ref a :: us) (vs := .ref a :: vs) tk F hr hg I2 (.cons rfl r) .nil q2
theorem pe_meG0 (tk : Takes X W) (he : PE X o ta) (c : Cls X.K C) (hm : Meth X.K C m f) (F : CallG X.prog X.w X.K X.mg X.base k (.ref f) sp) (hr : Room k X.A) (hg : X.A.guards = some [])
    (ht : eval (.Call (.Attribute o m apos) [] [] qs) X.env = (do
      let ov ← eval o X.env
      standAt apos.atName
      let (f, first) ← holding [ov] (getMethod ov m pl)
      callWith qs f first (backTo qs (starEach [] X.env)) (backToKw qs (keywordEach [] X.env))) := by rfl) :
    PE X (.Call (.Attribute o m apos) [] [] qs) (tMeG W C m sp ta tNil) := by
  refine ⟨fun pins s σ H Q I h => ?_⟩
  refine PySem.W.methodCall_KW (pl := pl) (thn (he.run pins s σ H _ I h) fun u s1 ⟨x, H1, I1, rx, a, dx, fs, ex, ea, l, q⟩ => ?_) ht
  subst ex
  obtain rfl : u = Value.ref a := rx
  refine getmeth_ok I1 ea c hm l ?_
  exact PySem.W.callWith_K0 (first := [.ref a]) I1.kIn hm.kp (run_call (us := [.ref a]) (vs := [.ref a]) tk F hr hg I1 (.cons rfl .nil) .nil q)
end
theorem ifT {b : Bool} {A B : Prop} (e : b = true) (h : A) : if b = true then A else B := by rw [if_pos e]; exact h
theorem ifF {b : Bool} {A B : Prop} (e : b = false) (h : B) : if b = true then A else B := by rw [if_neg (by rw [e]; exact Bool.false_ne_true)]; exact h
theorem at_new {H : Hp} {p a : Addr} {o u : HO} (hp : H p = none) (h : H a = some u) : upd H p o a = some u := by rw [upd_ne (ne_of_none h hp)]; exact h
theorem at_same {H H' : Hp} {a : Addr} {u : HO} (s : Same H H') (h : H a = some u) : H' a = some u := s _ _ h
theorem same_trans {H H1 H2 : Hp} (a : Same H H1) (b : Same H1 H2) : Same H H2 := fun x y e => b x y (a x y e)
theorem takes_no {X : Cx} : Takes X (fun _ _ _ _ => False) := fun _ _ ⟨_, _, _, _, _, _, _, _, _, _, _, _, _, _, _, _, w⟩ => w.elim
theorem nd_refl (x : V) : (!decide (x = x)) = false := by simp
theorem de_refl (x : V) : decide (x = x) = true := by simp
theorem sqI2 {K : PySem.W.Frag} {H : Hp} {a : Addr} {i j : Int} (h : H a = some (.tup [.int i, .int j])) : SqT K H a ([i, j].map V.int) := SqT.of h
theorem sqI3 {K : PySem.W.Frag} {H : Hp} {a : Addr} {i j k : Int} (h : H a = some (.tup [.int i, .int j, .int k])) : SqT K H a ([i, j, k].map V.int) := SqT.of h
/-- what is never reached -/
def tDead : TE := fun _ _ _ => False
theorem pe_dead {X : Cx} {e : Expr} : PE X e tDead := ⟨fun _ _ _ _ _ _ h => h.elim⟩
def sDead : TS := fun _ _ _ => False
theorem ps_dead {X : Cx} {st : Stmt} : PS X st sDead := ⟨fun _ _ _ _ _ _ h => h.elim⟩
/-- what of a class isinstance looks at -/
structure TyC (K : PySem.W.Frag) (C : Addr) : Prop where
  cl : Cls K C
  ha : PySem.W.findIn K (.ref C) "__class__" = some (some (.builtin "object.__class__"))
  hn : PySem.W.specialIn K (.builtin "object.__class__") "__get__" = some (some (.builtin "getset_descriptor.__get__"))
  htk : PySem.W.takesIn K (.builtin "object.__class__") = some true
  hm : PySem.W.mroIn K C (.type "object") = some true
theorem TyC.ty {K : PySem.W.Frag} {C : Addr} (c : TyC K C) {H : Hp} {a dx : Addr} {fs : List (Str × V)} (e : H a = some (.ins C dx fs)) : TyX K H (.ref a) (.ref C) := .base (.ins e c.cl c.ha c.hn c.htk c.hm)
end Uk

/-! UkH: the pen, and the heap without it -/
namespace Uk
open PySem PySem.Spec PyProof.Rows L2 StX

/-- the heap without the object at p -/
def Off (p : Addr) (H : Hp) : Hp := fun a => if a = p then none else H a
section
variable {H H' H1 H2 : Hp} {p a z : Addr} {o u v : HO} {m n : Int}
theorem Off.at (h : Off p H a = some u) : H a = some u := by
  unfold Off at h
  by_cases e : a = p
  · rw [if_pos e] at h; cases h
  · rw [if_neg e] at h; exact h
theorem Off.ne (h : Off p H a = some u) : a ≠ p := fun e => by
  unfold Off at h
  rw [if_pos e] at h
  cases h
theorem Off.of (h : H a = some u) (n : a ≠ p) : Off p H a = some u := by
  unfold Off
  rw [if_neg n]
  exact h
theorem Off.same (s : Same H H') : Same (Off p H) (Off p H') := fun a u e => Off.of (s _ _ (Off.at e)) (Off.ne e)
theorem Off.new (hz : H z = none) : Same (Off p H) (Off p (upd H z o)) := Off.same (same_new hz)
/-- the pen at p, its cells at c, with at most m of them begun -/
def Pen (H : Hp) (p c : Addr) (m : Int) : Prop := ∃ (b l : Int) (ns : List Int), H p = some (penO c b l) ∧ H c = some (.lst (ns.map .int)) ∧ ns.length ≤ 63 ∧ 0 ≤ b ∧ b ≤ m
section
variable {c : Addr}
theorem Pen.same (s : Same H H') (P : Pen H p c m) : Pen H' p c m := by
  obtain ⟨b, l, ns, h1, h2, h3⟩ := P
  exact ⟨b, l, ns, s _ _ h1, s _ _ h2, h3⟩
theorem Pen.new (hz : H z = none) (P : Pen H p c m) : Pen (upd H z o) p c m := P.same (same_new hz)
theorem Pen.mono (P : Pen H p c m) (h : m ≤ n) : Pen H p c n := by
  obtain ⟨b, l, ns, h1, h2, h3, h4, h5⟩ := P
  exact ⟨b, l, ns, h1, h2, h3, h4, Int.le_trans h5 h⟩
theorem Pen.ne (P : Pen H p c m) (hz : H z = none) : z ≠ p := fun e => by
  obtain ⟨b, l, ns, h1, _⟩ := P
  rw [← e, hz] at h1
  cases h1
theorem Pen.ne2 (P : Pen H p c m) (hz : H z = none) : z ≠ c := fun e => by
  obtain ⟨b, l, ns, _, h1, _⟩ := P
  rw [← e, hz] at h1
  cases h1
/-- another object is changed -/
theorem Pen.upd (n1 : z ≠ p) (n2 : z ≠ c) (P : Pen H p c m) : Pen (upd H z o) p c m := by
  obtain ⟨b, l, ns, h1, h2, h3⟩ := P
  exact ⟨b, l, ns, by rw [upd_ne n1.symm]; exact h1, by rw [upd_ne n2.symm]; exact h2, h3⟩
/-- a new object, told without the pen -/
theorem Off.mk (P : Pen H p c m) (hz : H z = none) : Off p (upd H z o) z = some o := Off.of upd_same (P.ne hz)
end
/-- what draws, told by the pen -/
def spDrawP : Sp := fun vs H Q _ => ∃ (p c : Addr) (m many : Int), vs = [.ref p, .int many] ∧ Pen H p c m ∧ m ≤ 99999 ∧ 1 ≤ many ∧ many ≤ 100000 ∧
  ∀ (d : Int) (H' : Hp), 0 ≤ d → d < many → Same (Off p H) (Off p H') → Pen H' p c (m + 1) → Q (.int d) H'
theorem draw_P {vs : List V} {Q : VK} {E : XK} (h : spDrawP vs H Q E) : spDraw vs H Q E := by
  obtain ⟨p, c, m, many, rfl, ⟨b, l, ns, h1, h2, h3, h4, h5⟩, h6, h7, h8, q⟩ := h
  have pc : c ≠ p := fun e => by
    rw [e, h1] at h2
    match ns, h2 with
    | [], hc => cases hc
    | n :: r, hc => cases hc
  refine ⟨p, c, b, l, many, ns, rfl, h1, h2, h3, h4, by omega, h7, h8, fun d b' l' H' d0 d1 e1 e2 ch => ?_⟩
  exact q d H' d0 d1 (fun a u e => Off.of (ch.ne _ _ (Off.ne e) (Off.at e)) (Off.ne e)) ⟨b', l', ns, ch.at_, ch.ne _ _ pc h2, h3, by omega, by omega⟩
theorem Same.rfl {H : Hp} : Same H H := fun _ _ h => h
end
end Uk

/-! UkI: how long shown data is -/
namespace Uk
open PySem PySem.Spec PyProof.Rows L2 StX

theorem ofString_len (s : String) : (Str.ofString s).length = s.length := by
  rw [Str.ofString_eq_toList]
  show (List.toArray _).size = _
  rw [List.size_toArray, List.length_map, String.length_toList]
theorem int_len {i : Int} (h : i.natAbs < 10 ^ 18) : (Str.ofString (toString i)).length ≤ 19 := by
  rw [ofString_len]
  cases i with
  | ofNat n =>
    show (Nat.repr n).length ≤ 19
    have := (Nat.length_repr_le_iff (n := n) (k := 18) (by decide)).mpr (by simpa using h)
    omega
  | negSucc n =>
    show ("-" ++ Nat.repr (n + 1)).length ≤ 19
    rw [String.length_append]
    have := (Nat.length_repr_le_iff (n := n + 1) (k := 18) (by decide)).mpr (by simpa using h)
    have e : ("-" : String).length = 1 := by decide
    omega
/-- may be shown in at most n signs, at most k deep -/
structure Sml (n k : Nat) (d : PyData) : Prop where
  sh : d.showable = true
  sz : d.shown.length ≤ n
  dp : d.depth ≤ k
structure SmlAll (n k m : Nat) (ds : List PyData) : Prop where
  sh : PyData.showableAll ds = true
  sz : ∀ t ∈ PyData.shownAll ds, t.length ≤ n
  ln : ds.length ≤ m
  dp : PyData.depthAll ds ≤ k
theorem Sml.shw {n k : Nat} {d : PyData} (h : Sml n k d) (hn : n ≤ sizeLine) (hk : k ≤ 60) : Shw d := ⟨h.sh, Nat.le_trans h.sz hn, Nat.le_trans h.dp hk⟩
theorem sml_none {n k : Nat} (h : 4 ≤ n) : Sml n k .none := ⟨rfl, h, Nat.zero_le _⟩
theorem sml_bool {n k : Nat} {b : Bool} (h : 5 ≤ n) : Sml n k (.bool b) := ⟨rfl, Nat.le_trans (by cases b <;> decide) h, Nat.zero_le _⟩
theorem sml_int {n k : Nat} {i : Int} (h : 19 ≤ n) (hi : i.natAbs < 10 ^ 18) : Sml n k (.int i) := by
  refine ⟨?_, Nat.le_trans (int_len hi) h, Nat.zero_le _⟩
  show decide (i.natAbs.log2 < 1920) = true
  rw [decide_eq_true_eq]
  have h1 : i.natAbs < 2 ^ 1920 := Nat.lt_of_lt_of_le hi (by decide +kernel)
  by_cases e : i.natAbs = 0
  · rw [e]; decide
  · exact (Nat.log2_lt e).mpr h1
theorem smlAll_nil {n k m : Nat} : SmlAll n k m [] := ⟨rfl, (fun _ h => nomatch h), Nat.zero_le _, Nat.zero_le _⟩
theorem smlAll_cons {n k m : Nat} {d : PyData} {ds : List PyData} (h : Sml n k d) (r : SmlAll n k m ds) : SmlAll n k (m + 1) (d :: ds) := by
  refine ⟨?_, fun t ht => ?_, Nat.succ_le_succ r.ln, ?_⟩
  · show (PyData.showable d && PyData.showableAll ds) = true
    rw [h.sh, r.sh] <;> rfl
  · rcases List.mem_cons.mp ht with e | e
    · rw [e]; exact h.sz
    · exact r.sz t e
  · show max (PyData.depth d) (PyData.depthAll ds) ≤ k
    exact Nat.max_le.mpr ⟨h.dp, r.dp⟩
theorem str_len_append (a b : Str) : (a ++ b).length = a.length + b.length := PySem.Str.length_append a b
theorem textFrom_le {n : Nat} : ∀ (ts : List Str) (k : Nat) (acc : Str), (∀ t ∈ ts, t.length ≤ n) → (textFrom k acc ts).length ≤ acc.length + (n + 2) * ts.length
  | [], k, acc, _ => by
    show acc.length ≤ acc.length + _
    exact Nat.le_add_right _ _
  | t :: r, k, acc, h => by
    have h1 := textFrom_le r (k + 1) (acc ++ (if k > 0 then ", " else "" : String) ++ t) (fun u hu => h u (List.mem_cons_of_mem _ hu))
    have h2 := h t List.mem_cons_self
    show (textFrom (k + 1) (acc ++ (if k > 0 then ", " else "" : String) ++ t) r).length ≤ _
    refine Nat.le_trans h1 ?_
    rw [str_len_append, str_len_append, List.length_cons, Nat.mul_succ]
    have h3 : (Str.ofString (if k > 0 then ", " else "")).length ≤ 2 := by split <;> decide
    omega
theorem sml_list {n k m N K : Nat} {ds : List PyData} (h : SmlAll n k m ds) (hN : 2 + (n + 2) * m ≤ N) (hK : k + 1 ≤ K) : Sml N K (.list ds) := by
  have hl : ∀ ds : List PyData, (PyData.shownAll ds).length = ds.length := by
    intro ds
    induction ds with
    | nil => rfl
    | cons d r ih =>
      show (PyData.shown d :: PyData.shownAll r).length = _
      rw [List.length_cons, ih, List.length_cons]
  refine ⟨h.sh, ?_, ?_⟩
  · show (textFrom 0 "[" (PyData.shownAll ds) ++ ("]" : Str)).length ≤ N
    have h1 := textFrom_le (n := n) (PyData.shownAll ds) 0 "[" h.sz
    rw [str_len_append]
    have e1 : ("[" : Str).length = 1 := by decide
    have e2 : ("]" : Str).length = 1 := by decide
    rw [hl] at h1
    have h2 : (n + 2) * ds.length ≤ (n + 2) * m := Nat.mul_le_mul_left _ h.ln
    omega
  · show PyData.depthAll ds + 1 ≤ K
    exact Nat.le_trans (Nat.succ_le_succ h.dp) hK
end Uk

/-! UkJ: bool(x) of an instance with an own __bool__; more -/
namespace Uk
open PySem PySem.Spec PyProof.Rows L2 StX
section
variable {prog : Program} {w : World} {A : Around} {E : Value → Shared → Prop} {s : Shared}
theorem bool_in (x : Value) : MeetsIn prog w (Builtin.«bool.__new__» ⟨[.type "bool", x], []⟩) (fun A R s => ∀ tk, wpAny (model prog w) A.in1 (truthy x) (fun b s' => R (.ok (.ret (.bool b))) s') (fun e s' => R (.error e) s') { s with toks := tk }) :=
  .of_wp fun A R s hs => by
    obtain ⟨hp, g, d, tk, os⟩ := s
    have f1 := F.conv_sub_bool
    repeat (any_goals (first | assumption | (with_reducible refine wpAny_mono (hs _) (fun b s2 h2 => ?_) (fun _ _ h2 => h2)) | wp_step))
    all_goals first | exact ⟨_, rfl, by assumption⟩ | skip
    all_goals trace_state
theorem call_bool_in {x : Value} {Q : Value → Shared → Prop} (h : ∀ tk, wpAny (model prog w) A.in1.in1 (truthy x) (fun b s' => Q (.bool b) s') E { s with toks := tk }) : wpAny (model prog w) A (call (.type "bool") [x]) Q E s :=
  callType_newIn F.called_bool F.newNe_bool (F.typeCall_bool_1 x) (F.newCall_bool_1 x) (fun obj => F.args_object_init_2 obj x) F.entry_bool_new (bool_in x)
    (fun tk => wpAny_mono (h tk) (fun b s' q => ⟨rfl, q⟩) fun _ _ q => q)
end
/-- bool(x), x an instance with an own __bool__ -/
theorem call_boolO {X : Cx} {k : Nat} {sp : SpK} {D : Addr → Prop} {f : Addr} (F : CallG X.prog X.w X.K X.mg X.base k (.ref f) sp) (hr : Room (k + 2) X.A) (hg : X.A.guards = some []) (hD : ∀ C, D C → Own X.K C "__bool__" f) :
    CallR X (.type "bool") (fun xs H Q => ∃ x, xs = [x] ∧ rTruO D sp x H fun b H' => Q (.bl b) H') := by
  intro pins s σ H xs us Q I r h
  obtain ⟨x, rfl, a, C, dx, fs, rfl, d, e, q⟩ := h
  obtain ⟨u, rfl, r1⟩ := vals1 r
  obtain rfl : u = Value.ref a := r1
  refine call_bool_in fun tk => ?_
  have I := I.tok tk
  obtain ⟨od, J⟩ := ins_at I.hok e
  obtain ⟨m, fr⟩ := I.fr
  refine PySem.W.truthy_K fr I.ok.mod.kin J (hD C d).at_ (hD C d).fn (wpAny_mono (run_callN F hr.in1.in1 hg rfl I (vs := [.ref a]) (us := [.ref a]) (.cons rfl .nil) q) (fun z s' hz => ?_) fun _ _ y => y)
  obtain ⟨v', H', I', rv, b, rfl, q'⟩ := hz
  obtain rfl : z = Value.bool b := rv
  exact ⟨.bl b, H', I', rfl, q'⟩
end Uk

/-! UkK: the end: from the head's walk to the promise of the law's def -/
namespace Uk
open PySem PySem.Spec PyProof.Rows L2 StX
section
variable {P : Program} {w : World} {K : PySem.W.Frag} {mg mb : Str → Option Value} {k : Nat} {fa a : Addr} {sp : Sp} {s₁ : Shared} {vs : List Value} {ns : List Int}
/-- a heap that tells of one frozen object, or of none -/
structure OneFrz (P : Program) (w : World) (K : PySem.W.Frag) (h : Heap) (a : Addr) (H : Hp) : Prop where
  hok : HOk P w H h
  one : ∀ b, H b = none ∨ (b = a ∧ ∃ o ys, H b = some (.frz o (.lst ys)))
  free : H a ≠ none → K.lookup a = none
theorem endG (KX : K.In s₁.heap) (hns : s₁.heap.Ns mainGlobals mg) (hb : s₁.heap.Ns builtinsNs mb) (hbb : ∀ x : Str, x ≠ "__name__" → mb x = bootBuiltins x) (hlim : s₁.heap.NoLimit) (hgen : s₁.gens = #[])
    (isList : ∃ its, s₁.heap.get? a = some { cls := .type "list", data := .seq its }) (hr : Room k callerA) (F : ∀ base : Heap, Mod K mg base → CallG P w K mg base k (.ref fa) (pos sp)) {H : Hp} (T : OneFrz P w K s₁.heap a H)
    (law : sp [.ref a] H (fun v _ => v = .bl true) NoE) :
    codeAny (model P w) callerA (.call (.ref fa) ⟨[.ref a], []⟩) (fun r s' => r = .ok (.ret (.bool true)) ∧ OldK s₁.heap s'.heap ∧ s'.os = s₁.os ∧ AllBare s'.gens) s₁ := by
  obtain ⟨its, hlist⟩ := isList
  have clear : ∀ {b : Addr} {o : Obj}, s₁.heap.get? b = some o → (b = a → K.lookup a = none → False) → (hidT s₁.heap H).get? b = some o := fun {b o} e no => hidT_get e (by
    rcases T.one b with z | ⟨eb, ob, ys, z⟩
    · exact z
    · refine (no eb (T.free fun q => ?_)).elim
      rw [← eb, z] at q
      cases q)
  have names : ∀ {b : Addr} {m : Str → Option Value}, s₁.heap.Ns b m → (hidT s₁.heap H).Ns b m := fun {b m} ⟨o, es, ep, e, d, r⟩ => by
    refine ⟨o, es, ep, clear e (fun eb _ => ?_), d, r⟩
    rw [eb, hlist] at e
    cases e
    cases d
  have kIn : K.In (hidT s₁.heap H) := fun b o e => clear (KX b o e) fun eb kn => by
    rw [eb, kn] at e
    cases e
  have M : Mod K mg (hidT s₁.heap H) := ⟨kIn, names hns, ⟨mb, names hb, hbb⟩, hlim.elim fun mc z => ⟨mc, names z.1, z.2⟩⟩
  have env : Env0 P w K mg (hidT s₁.heap H) callerA [] s₁ H := ⟨rfl, M, fun _ _ => of_hidT, Nat.le_of_eq (hidT_size _ _), trivial, (fun b z => nomatch (show b ∈ ([] : List Addr) from z)), T.hok, .of_eq hgen⟩
  refine codeAny_mono (F _ M callerA [] s₁ H [.ref a] [] [.ref a] [] (fun v _ => v = .bl true) NoE hr rfl env (.cons rfl .nil) .nil ⟨rfl, law⟩) fun r s' got => ?_
  rcases r with e | fl
  · exact (cx_no got).elim
  · cases fl
    case ret u =>
      obtain ⟨v, H', os, bare, un, hok', rv, hv⟩ := got
      cases (show v = .bl true from hv)
      cases (show u = Value.bool true from rv)
      refine ⟨rfl, .of_keep fun b o e => ?_, os, bare⟩
      obtain z | ⟨_, ob, ys, z⟩ := T.one b
      · exact un.keep b o e z (fun i => nomatch (show b ∈ ([] : List Addr) from i)) (fun i => nomatch i)
      · have same := (T.hok b _ z).1
        rw [e] at same
        cases same
        exact (hok' b _ (un.frzs b _ _ z)).1
    all_goals exact got.elim
/-- the law's call, by the promise of its def -/
theorem lawG (KX : K.In s₁.heap) (hns : s₁.heap.Ns mainGlobals mg) (hb : s₁.heap.Ns builtinsNs mb) (hbb : ∀ x : Str, x ≠ "__name__" → mb x = bootBuiltins x) (hlim : s₁.heap.NoLimit) (hgen : s₁.gens = #[])
    (ha : s₁.heap.get? a = some { cls := .type "list", data := .seq vs.toArray }) (hi : IntsAre vs ns) (hl : ns.length ≤ sizeLine) (hr : Room k callerA) (F : ∀ base : Heap, Mod K mg base → CallG P w K mg base k (.ref fa) (pos sp))
    (law : ∀ H : Hp, SqL K H a (ns.map V.int) → sp [.ref a] H (fun v _ => v = .bl true) NoE) :
    codeAny (model P w) callerA (.call (.ref fa) ⟨[.ref a], []⟩) (fun r s' => r = .ok (.ret (.bool true)) ∧ OldK s₁.heap s'.heap ∧ s'.os = s₁.os ∧ AllBare s'.gens) s₁ := by
  have many := hi.length
  have rel := vals_ints hi
  by_cases hk : K.lookup a = none
  · let H : Hp := fun b => if b = a then some (.frz { cls := .type "list", data := .seq vs.toArray } (.lst (ns.map V.int))) else none
    have Ha : H a = some (.frz { cls := .type "list", data := .seq vs.toArray } (.lst (ns.map V.int))) := if_pos rfl
    have Hn : ∀ b, b ≠ a → H b = none := fun b nb => if_neg nb
    refine endG KX hns hb hbb hlim hgen ⟨_, ha⟩ hr F (H := H) ⟨fun b u z => ?_, fun b => ?_, fun _ => hk⟩ (law H (.inl (.inr ⟨_, Ha⟩)))
    · by_cases eb : b = a
      · subst eb
        rw [Ha] at z
        cases z
        exact ⟨ha, by rw [List.length_map]; exact hl, vs, _, rel, ha⟩
      · rw [Hn b eb] at z
        cases z
    · by_cases eb : b = a
      · subst eb
        exact .inr ⟨rfl, _, _, Ha⟩
      · exact .inl (Hn b eb)
  · obtain ⟨o, ho⟩ := Option.ne_none_iff_exists'.mp hk
    have e := KX a o ho
    rw [ha] at e
    cases e
    refine endG KX hns hb hbb hlim hgen ⟨_, ha⟩ hr F (H := fun _ => none) ⟨(fun b u z => nomatch z), (fun b => Or.inl rfl), fun z => absurd rfl z⟩ (law _ (.inr ⟨_, vs.toArray, _, ho, rfl, rfl, rfl, ?_, by simpa using rel⟩))
    rw [List.size_toArray, many]
    exact hl
end
/-- the goal that the head leaves, from the law's promise -/
theorem walkG {l : PySem.W.OpenLaw} {n k : Nat} {q : Program} {loose : List Str} {XP : (Str → Option Value) → Heap → Prop} {YP : World → Heap → Prop} {d : DefRec} {K : Params → PySem.W.Frag} {sp : World → Sp}
    (hn : l.most = some n) (hn2 : n ≤ sizeLine) (hdf : d.params.defaults = []) (hr : Room k callerA) (hY : ∀ (w : World) (h : Heap), YP w h → (K w.params).In h)
    (F : ∀ (w : World) (mg : Str → Option Value) (fa : Addr) (h : Heap), (K w.params).In h → h.Ns mainGlobals mg → mg d.name = some (.ref fa) → ∀ base : Heap, Mod (K w.params) mg base → CallG l.prog w (K w.params) mg base k (.ref fa) (pos (sp w)))
    (law : ∀ (w : World) (H : Hp) (a : Addr) (ns : List Int), ns.length ≤ n → SqL (K w.params) H a (ns.map V.int) → sp w [.ref a] H (fun v _ => v = .bl true) NoE) :
    PySem.W.WalkO q loose XP YP l.row.toRowW d [] (fun f vs => PySem.call f vs) := by
  refine Att.attach_call hn hdf fun w s₀ s₁ mg mb fa o pm cd doc a vs ns G Y ho hd hcd hmg hobj hints hlen hgen => ?_
  have KX := hY w _ Y
  exact lawG KX G.T.g G.T.b G.T.builtins G.T.nolimit hgen hobj hints (Nat.le_trans hlen hn2) hr (F w mg fa _ KX G.T.g hmg) fun H hS => law w H a ns hlen hS
/-- not e as a value, by a rule of its truth -/
theorem pe_notR {X : Cx} {a : Expr} {ta : TE} {pos : Pos} {r : V → Hp → (Bool → Hp → Prop) → Prop} (ha : PE X a ta) (ru : TruR X r) : PE X (.UnaryOp .Not a pos) (fun σ H Q => ta σ H fun x H1 => r x H1 fun b H2 => Q (.bl (!b)) H2) :=
  ⟨fun pins s σ H Q I h => UnaryOp_ (thn (ha.run pins s σ H _ I h) fun v s1 ⟨x, H1, I1, r1, q1⟩ => not_of (thn (ru pins s1 σ H1 x v (fun b H2 => Q (.bl (!b)) H2) I1 r1 q1) fun c s2 ⟨H2, I2, q2⟩ => ⟨.bl (!c), H2, I2, rfl, q2⟩))⟩
end Uk

/-! UkL: defs that say super() -/
namespace Uk
open PySem PySem.Spec PyProof.Rows L2 StX

/-- the frame of a def that closes over __class__ -/
abbrev envS (qual : Str) (scope : Scope) (L f : Addr) (cd : Value) (cc : Addr) : Env := PySem.W.ksEnv qual scope L f cd cc
def cxS (P : Program) (w : World) (K : PySem.W.Frag) (mg : Str → Option Value) (base : Heap) (N : List Str) (qual : Str) (scope : Scope) (f : Addr) (cd : Value) (cc : Addr) (A : Around) (outer : List Env) (s : Shared) (H : Hp) (E : XK) : Cx :=
  { prog := P, w := w, K := K, mg := mg, base := base, A := A.deeper (envS qual scope s.heap.objs.size f cd cc), N := N, s_0 := s, H_0 := H, env := envS qual scope s.heap.objs.size f cd cc, outer := outer,
    stack := envS qual scope s.heap.objs.size f cd cc :: outer, ex := [], fn := fun _ => false, calm := true, pn := [],
    xe := fun e s' => wpAny (model P w) (A.deeper (envS qual scope s.heap.objs.size f cd cc)) (leaving (envS qual scope s.heap.objs.size f cd cc) e) (fun _ s'' => L2.CX P w outer H s E e s'') (fun e' s'' => L2.CX P w outer H s E e' s'') s' }
structure ScopeS (N P : List Str) (sc : Scope) : Prop where
  kind : sc.kind = .function
  co : sc.isCoroutine = false
  gen : sc.isGenerator = false
  nd : N.Nodup
  pre : N.take P.length = P
  par : ∀ x ∈ P, sc.names.lookup x = some .local
  nocell : ∀ y ∈ sc.names, y.2 ≠ .cell
  free : ∀ y ∈ sc.names, y.2 = .free → y.1 = ("__class__" : Str)
/-- a def of the text that closes over __class__, whose cell at cc holds the class at D -/
structure FunS (K : PySem.W.Frag) (x qual : Str) (st : Stmt) (f cc cda D : Addr) : Prop where
  ex : ∃ (oc : Value) (od : Option Addr) (kV doc pm : Value) (an : Option Addr) (ct : Value) (osl : Array (Option Value)),
    K.lookup f = some ⟨oc, od, .func (PySem.W.ksFn x qual (defArgs st) (defBody st) (defScope st) .none kV doc pm an (.ref cda) ct cc), osl⟩ ∧ PySem.W.codeIn K (.ref cda) qual = true
  cell : ∃ (cl : Value) (cld : Option Addr) (csl : Array (Option Value)), K.lookup cc = some ⟨cl, cld, .cell (some (.ref D)), csl⟩
  kp : PySem.W.keepIn K (.ref f) = true
theorem rev_get : ∀ {ps : List Str} {us : List Value} {i : Nat} {y : Str} {u : Value}, ps.Nodup → ps[i]? = some y → us[i]? = some u → (ps.zip us).reverse.lookup y = some u
  | [], _, _, _, _, _, h, _ => by simp at h
  | _ :: _, [], _, _, _, _, _, h => by simp at h
  | p :: ps, v :: us, 0, y, u, nd, h1, h2 => by
    simp at h1 h2
    subst h1 h2
    show ((p, v) :: ps.zip us).reverse.lookup p = some v
    rw [List.reverse_cons, List.lookup_append]
    have hn : (ps.zip us).reverse.lookup p = none := by
      rw [List.lookup_eq_none_iff]
      intro q hq
      have hm := (List.of_mem_zip (List.mem_reverse.mp hq)).1
      have : p ≠ q.1 := fun e => (List.nodup_cons.mp nd).1 (e ▸ hm)
      simpa using this
    rw [hn]
    simp [List.lookup]
  | p :: ps, v :: us, i + 1, y, u, nd, h1, h2 => by
    have ih := rev_get (List.nodup_cons.mp nd).2 (by simpa using h1) (by simpa using h2)
    show ((p, v) :: ps.zip us).reverse.lookup y = some u
    rw [List.reverse_cons, List.lookup_append, ih]
    rfl
section
variable {P : Program} {w : World} {K : PySem.W.Frag} {mg : Str → Option Value} {base : Heap} {N ps : List Str} {qual x : Str} {scope : Scope} {st : Stmt} {f cc cda D : Addr} {cd : Value} {A : Around} {outer : List Env} {s : Shared} {H : Hp} {E : XK} {us : List Value} {vs : List V} {k n : Nat} {h1 : Heap} {sp : Sp}
theorem inv_S (S : ScopeS N ps scope) (hd : A.handled = none) (e0 : Env0 P w K mg base A outer s H) (hl : vs.length = ps.length) (r : Vals vs us) (hc : ∃ (cl : Value) (cld : Option Addr) (csl : Array (Option Value)), K.lookup cc = some ⟨cl, cld, .cell (some (.ref D)), csl⟩)
    (hn : h1.Ns s.heap.objs.size (fun x => (ps.zip us).reverse.lookup x)) (hk : ∀ b o, s.heap.get? b = some o → h1.get? b = some o) :
    Inv (cxS P w K mg base N qual scope f cd cc A outer s H E) [] (L2.start N vs) H { s with heap := h1, toks := s.toks + n } := by
  obtain ⟨cl, cld, csl, hcell⟩ := hc
  have bcc := e0.mod.kin _ _ hcell
  have hcc : s.heap.get? cc = some ⟨cl, cld, .cell (some (.ref D)), csl⟩ := (e0.bs _ _ bcc).1
  have ccn : cc ≠ s.heap.objs.size := Nat.ne_of_lt (Heap.lt_size hcc)
  have hpl : ps.length ≤ N.length := by have := congrArg List.length S.pre; rw [List.length_take] at this; omega
  have one : ∀ {y : Str} {c : Addr}, ([(("__class__" : Str), cc)] : List (Str × Addr)).lookup y = some c → y = "__class__" ∧ c = cc := fun {y c} h => by
    unfold List.lookup at h
    split at h
    · rename_i e
      exact ⟨beq_iff_eq.mp e, (Option.some.inj h).symm⟩
    · cases h
  have noA : ∀ b : Addr, b ∉ (cxS P w K mg base N qual scope f cd cc A outer s H E).ex := fun b z => nomatch (show b ∈ ([] : List Addr) from z)
  refine ⟨⟨e0.mod, S.kind, rfl, rfl, Nat.le_refl _, fun y z c h1 h2 => (one h1).1.trans (one h2).1.symm, fun y hy => ?_, (fun y c h _ => nomatch (show false = true from h)), fun _ => hd, Around.frames_deeper e0.frames, .inr ⟨rfl, rfl⟩, fun b z => absurd z (noA b), e0.bs, e0.bsz, fun b _ _ => noA b, fun b z => absurd z (noA b), e0.funs, e0.frf⟩,
    rfl, e0.bare, Un.kept hk, ⟨_, hn, fun i y v h1 h2 h3 => ?_⟩, fun y c h => ?_, e0.hok.fresh (Nat.le_refl _), fun y c h => ?_, fun p hp => absurd (show p ∈ ([] : List (Addr × Obj)) from hp) (by simp), e0.hok.kept hk, ?_⟩
  · have hy : scope.names.lookup y = some .cell ∨ scope.names.lookup y = some .free := hy
    rcases hy with hy | hy
    · exact absurd rfl (S.nocell _ (PySem.mem_of_lookup hy))
    · have e := S.free _ (PySem.mem_of_lookup hy) rfl
      dsimp only at e
      subst e
      exact ⟨cc, rfl⟩
  · have hi : i < vs.length := by
      unfold L2.start at h2
      by_cases hi : i < vs.length
      · exact hi
      · rw [List.getElem?_append_right (by simpa using hi), List.getElem?_replicate] at h2
        split at h2 <;> cases h2
    have ha : vs[i]? = some v := by
      unfold L2.start at h2
      rw [List.getElem?_append_left (by simpa using hi), List.getElem?_map] at h2
      cases e : vs[i]? with
      | none => rw [e] at h2; cases h2
      | some a => rw [e] at h2; cases h2; rfl
    obtain ⟨u, hu, rv⟩ := r.get ha
    have hp : ps[i]? = some y := by
      rw [← S.pre, List.getElem?_take_of_lt (by omega)]; exact h1
    have ndP : ps.Nodup := by rw [← S.pre]; exact S.nd.sublist (List.take_sublist _ _)
    exact ⟨u, rv, .inl ⟨S.par y (List.mem_of_getElem? hp), rev_get ndP hp hu⟩⟩
  · rw [(one h).2]
    exact ⟨some (.ref D), _, hk _ _ hcc, rfl⟩
  · rw [(one h).2]
    exact (e0.bs _ _ bcc).2
  · unfold L2.start
    show _ = N.length
    rw [List.length_append, List.length_map, List.length_replicate]
    omega
end

/-- code that runs within the known body c -/
structure PEt (X : Cx) (c : Code) (e : Expr) (t : TE) : Prop where
  run : ∀ (pins : List (Addr × Obj)) (s : Shared) (σ : L2.St) (H : Hp) (Q : VK), Inv X pins σ H s → t σ H Q → _root_.PySem.wpAt (model X.prog X.w) X.A c (eval e X.env) (EP X pins σ Q) X.xe s
structure PSst (X : Cx) (c : Code) (b : List Stmt) (t : TS) : Prop where
  run : ∀ (pins : List (Addr × Obj)) (s : Shared) (σ : L2.St) (H : Hp) (D : Ends), Inv X pins σ H s → t D σ H → _root_.PySem.wpAt (model X.prog X.w) X.A c (execs b X.env) (SP X pins D) X.xe s
section
variable {X : Cx} {c : Code} {e : Expr} {st : Stmt} {b : List Stmt} {t : TE} {u v : TS} {pos : Pos}
theorem pet_of (h : PE X e t) : PEt X c e t := ⟨fun pins s σ H Q I q => wpAt_of_wpAny (h.run pins s σ H Q I q)⟩
theorem psst_of (h : PSs X b u) : PSst X c b u := ⟨fun pins s σ H D I q => wpAt_of_wpAny (h.run pins s σ H D I q)⟩
/-- e; rest, where e says super() -/
theorem psst_expr (h : PEt X c e t) (r : PSst X c b v) (hi : interactive X.env = false := by rfl) (hs : swapsWith e none pos.line X.env = pure false := by rfl) : PSst X c (.Expr e pos :: b) (fun D σ H => t σ H fun _ H1 => v D σ H1) :=
  ⟨fun pins s σ H D I q => ks_wpAt_execs_cons (ks_wpAt_Expr_any (ks_wpAt_mono (h.run pins s σ H _ I q) (fun _ s' ⟨_, H1, I1, _, q1⟩ => r.run pins s' σ H1 D I1 q1) fun _ _ z => z) hi hs)⟩
/-- return e, where e says super() -/
theorem psst_ret (h : PEt X c e t) : PSst X c (.Return (some e) pos :: b) (fun D σ H => t σ H D.rt) :=
  ⟨fun pins s σ H D I q => ks_wpAt_execs_cons (ks_wpAt_Return_some (ks_wpAt_mono (h.run pins s σ H _ I q) (fun _ s' ⟨v, H1, I1, r1, q1⟩ => ⟨v, σ, H1, I1, r1, q1⟩) fun _ _ z => z))⟩
/-- a or b, a says super() and answers a bool -/
theorem pet_or {a : Expr} {rest : List Expr} {ta tb : TE} (ha : PEt X c a ta) (hb : PE X (.BoolOp .Or (e :: rest) pos) tb) : PEt X c (.BoolOp .Or (a :: e :: rest) pos) (tOrV ta tb) := by
  refine ⟨fun pins s σ H Q I q => ?_⟩
  show _root_.PySem.wpAt _ _ _ (do
    let v ← eval a X.env
    standAt pos
    let c ← holding [v] (truthy v)
    match BoolOp.Or, c with
    | .And, false | .Or, true => pure v
    | _, _ => boolOp pos .Or (eval e X.env :: evalEach rest X.env)) _ _ _
  refine _root_.PySem.wpAt_bind (ks_wpAt_mono (ha.run pins s σ H _ I q) (fun v s1 ⟨x, H1, I1, r1, k, ex, q1⟩ => ?_) fun _ _ z => z)
  subst ex
  obtain rfl : v = Value.bool k := r1
  refine _root_.PySem.wpAt_of_wpAny (wpAny_bind (wpAny_standAt (wpAny_bind (wpAny_holding (wpAny_truthy_bool ?_)))))
  cases k with
  | true => exact wpAny_pure ⟨.bl true, H1, I1, rfl, q1⟩
  | false => exact hb.run pins s1 σ H1 Q I1 q1
end
/-- a def that says super(), by its body -/
theorem def_S {P : Program} {w : World} {K : PySem.W.Frag} {mg : Str → Option Value} {base : Heap} {N ps : List Str} {qual x : Str} {st : Stmt} {f cc cda D : Addr} {k : Nat} {sp : Sp} (F : FunS K x qual st f cc cda D) (S : ScopeS N ps (defScope st))
    (len : ∀ vs H Q E, sp vs H Q E → vs.length = ps.length)
    (hb : ∀ (kV doc pm : Value) (an : Option Addr) (ct : Value) (us : List Value), us.length = ps.length → bindArgs (PySem.W.ksFn x qual (defArgs st) (defBody st) (defScope st) .none kV doc pm an (.ref cda) ct cc) ⟨us, []⟩ = pure (ps.zip us))
    (hbody : ∀ (A : Around) (outer : List Env) (s : Shared) (H : Hp) (vs : List V) (Q : VK) (E : XK), Room k (A.deeper (envS qual (defScope st) s.heap.objs.size f (.ref cda) cc)) → A.guards = some [] → sp vs H Q E →
      ∃ t, PSst (cxS P w K mg base N qual (defScope st) f (.ref cda) cc A outer s H E) (.func (defBody st) (envS qual (defScope st) s.heap.objs.size f (.ref cda) cc)) (defBody st) t ∧ t { nx := fun _ H' => Q .non H', rt := Q } (L2.start N vs) H) :
    CallG P w K mg base (k + 1) (.ref f) (pos sp) := by
  obtain ⟨oc, od, kV, doc, pm, an, ct, osl, lk, hcd⟩ := F.ex
  rintro A outer s H us kws vs zs Q E hr hg e0 r rk ⟨rfl, hsp⟩
  cases rk
  have hl := len _ _ _ _ hsp
  have hu : us.length = ps.length := by rw [← r.length]; exact hl
  have KX : K.In s.heap := Env0.kIn e0
  have lim : s.heap.NoLimit := e0.mod.nolimit.keeps fun b o e => (e0.bs b o e).1
  refine ks_codeAny_call_defAt (fd := PySem.W.ksFn x qual (defArgs st) (defBody st) (defScope st) .none kV doc pm an (.ref cda) ct cc) (body := defBody st) (binds := ps.zip us) hr.depth (KX _ _ lk) rfl lim (PySem.W.codeRec_of KX hcd) rfl (BindsTo.of_eq (hb kV doc pm an ct us hu))
    S.nocell (fun y hy => S.par y.1 (List.of_mem_zip hy).1) (fun h1 hns hk => ?_) S.co S.gen S.kind
  obtain ⟨t, ht, hq⟩ := hbody A outer s H vs Q E (hr.deeper _) hg hsp
  have I := inv_S (P := P) (w := w) (mg := mg) (N := N) (qual := qual) (f := f) (cd := .ref cda) (outer := outer) (E := E) (n := (ps.zip us).length) S hr.hd e0 hl r F.cell hns hk
  refine ks_wpAt_mono (ht.run [] _ _ _ _ I hq) (fun fl s' hs => ?_) fun e s' hs => hs
  have fin : ∀ {σ' : L2.St} {H' : Hp} {v : V} {u : Value}, Inv (cxS P w K mg base N qual (defScope st) f (.ref cda) cc A outer s H E) [] σ' H' s' → RelV v u → Q v H' → CE outer P w H s Q u s' :=
    fun {σ' H' v u} J rv q => ⟨v, H', J.os, J.bare, J.base, J.hok, rv, q⟩
  cases fl with
  | ret u =>
    obtain ⟨v, σ', H', J, rv, q⟩ := hs
    exact fin J rv q
  | next =>
    obtain ⟨σ', H', J, q⟩ := hs
    exact fin (v := V.non) (u := Value.none) J rfl q
  | brk =>
    obtain ⟨_, _, _, q⟩ := hs
    exact q.elim
  | cont =>
    obtain ⟨_, _, _, q⟩ := hs
    exact q.elim

/-- what the text must hold where the def at f says super() -/
structure SupF (P : Program) (K : PySem.W.Frag) (cda D : Addr) : Prop where
  code : ∃ (ccl : Value) (cdd : Option Addr) (vs : Array Value) (ccs : Array (Option Value)) (file : Str) (tf : Tok), K.lookup cda = some ⟨ccl, cdd, .fields vs, ccs⟩ ∧ vs[2]? = some (.str file tf) ∧ ((P.main.file : Str) == file) = true
  cls : ∃ cd, PySem.W.clsIn K D = some cd
  sup : PySem.W.nsIn K mainGlobals "super" = some none
  top : (P.main.scope.names.lookup ("super" : Str)).isSome = false
  opq : PySem.W.nsIn K cStatics "thirdparty.any" = some none
/-- behind the class at D, C's next m is the def at g -/
structure SupC (K : PySem.W.Frag) (C D : Addr) (m : Str) (g : Addr) : Prop where
  own : ∃ cd, PySem.W.clsIn K C = some cd
  sub : PySem.W.mroIn K C (.ref D) = some true
  nx : PySem.W.ks_superIn K C D m = some (some (.ref g))
  ty : PySem.W.typeIn K (.ref g) = some (.type "function")
  fi : PySem.W.fnIn K g = true
def tSup (W : WX) (K : PySem.W.Frag) (D : Addr) (m : Str) (g : Addr) (sp : SpK) (t : TA) : TE := fun σ H Q => ∃ (a C dx : Addr) (fs : List (Str × V)), σ[0]? = some (some (.ref a)) ∧ H a = some (.ins C dx fs) ∧ SupC K C D m g ∧ t σ H fun vs H2 => sp (.ref a :: vs) [] H2 Q (WE W σ)
section
variable {X : Cx} {W : WX} {k : Nat} {g q a : Addr} {sp : SpK} {pins : List (Addr × Obj)} {σ : L2.St} {H : Hp} {s : Shared} {Q : VK}
theorem run_callM {us : List Value} {vs : List V} (tk : Takes X W) (F : CallG X.prog X.w X.K X.mg X.base k (.ref g) sp) (hr : Room k X.A) (hg : X.A.guards = some []) (I : Inv X ((q, PySem.W.methodObj (.ref g) (.ref a)) :: pins) σ H s) (r : Vals vs us)
    (h : sp (.ref a :: vs) [] H Q (WE W σ)) : wpAny (model X.prog X.w) X.A (call (.ref q) us) (EP X pins σ Q) X.xe s := by
  have z : wpAny (model X.prog X.w) X.A (call (.ref q) us) (EP X ((q, PySem.W.methodObj (.ref g) (.ref a)) :: pins) σ Q) X.xe s := by
    refine wpAny_call (PySem.W.method_call (ClX.pin_at I) (codeAny_mono (F X.A X.stack s H (.ref a :: us) [] (.ref a :: vs) [] Q _ hr hg I.env0 (.cons rfl r) .nil h) fun r s' hq => ?_))
    cases r with
    | error e => exact passAt tk σ _ H s e s' I hq
    | ok fl =>
      cases fl with
      | ret u => exact I.after hq
      | next => exact False.elim hq
      | brk => exact False.elim hq
      | cont => exact False.elim hq
  exact thn z fun _ _ y => ClX.unpinE y
end
section
variable {P : Program} {w : World} {K : PySem.W.Frag} {mg : Str → Option Value} {base : Heap} {N ps : List Str} {qual x m : Str} {st : Stmt} {f cc cda D g : Addr} {A : Around} {outer : List Env} {s0 : Shared} {H0 : Hp} {E : XK} {W : WX} {k : Nat} {sp : SpK} {e : Expr} {es : List Expr} {t : TA} {p0 p1 apos pos : Pos} {ar : Arg} {body : List Stmt}
theorem pet_super {pl : Sem Bool} (tk : Takes (cxS P w K mg base N qual (defScope st) f (.ref cda) cc A outer s0 H0 E) W) (F : FunS K x qual st f cc cda D) (S : ScopeS N ps (defScope st)) (U : SupF P K cda D) (G : CallG P w K mg base k (.ref g) sp)
    (hr : Room k (A.deeper (envS qual (defScope st) s0.heap.objs.size f (.ref cda) cc))) (hg : A.guards = some []) (hp : ((defArgs st).posonlyargs ++ (defArgs st).args).head? = some ar) (hN : N[0]? = some ar.arg)
    (hks : (defScope st).names.lookup ("super" : Str) = some .globalImplicit) (hkc : (defScope st).names.lookup ("__class__" : Str) = some .free) (hka : (defScope st).names.lookup ar.arg = some .local) (hat : (m == ("__class__" : Str)) = false)
    (ha : PA (cxS P w K mg base N qual (defScope st) f (.ref cda) cc A outer s0 H0 E) (e :: es) t)
    (ht : eval (.Call (.Attribute (.Call (.Name "super" p0) [] [] p1) m apos) (e :: es) [] pos) (envS qual (defScope st) s0.heap.objs.size f (.ref cda) cc) = (do
      let ov ← attributeBase (.Call (.Name "super" p0) [] [] p1) m (envS qual (defScope st) s0.heap.objs.size f (.ref cda) cc) (eval (.Call (.Name "super" p0) [] [] p1) (envS qual (defScope st) s0.heap.objs.size f (.ref cda) cc))
      standAt apos.atName
      let (f', first) ← holding [ov] (getMethod ov m pl)
      callWith pos f' first (backTo pos (starEach (e :: es) (envS qual (defScope st) s0.heap.objs.size f (.ref cda) cc))) []) := by rfl)
    (hst : starEach (e :: es) (envS qual (defScope st) s0.heap.objs.size f (.ref cda) cc) = (false, eval e (envS qual (defScope st) s0.heap.objs.size f (.ref cda) cc)) :: starEach es (envS qual (defScope st) s0.heap.objs.size f (.ref cda) cc) := by rfl)
    (hpl : (backTo pos (starEach es (envS qual (defScope st) s0.heap.objs.size f (.ref cda) cc))).any (·.1) = false := by rfl) :
    PEt (cxS P w K mg base N qual (defScope st) f (.ref cda) cc A outer s0 H0 E) (.func body (envS qual (defScope st) s0.heap.objs.size f (.ref cda) cc)) (.Call (.Attribute (.Call (.Name "super" p0) [] [] p1) m apos) (e :: es) [] pos) (tSup W K D m g sp t) := by
  refine ⟨fun pins s σ H Q I ⟨a, C, dx, fs, hσ, ea, U2, q⟩ => ?_⟩
  obtain ⟨oc, od, kV, doc, pm, an, ct, osl, lk, hcd⟩ := F.ex
  obtain ⟨cl, cld, csl, hcell⟩ := F.cell
  obtain ⟨ccl, cdd, vsc, ccs, file, tf, lkc, hv2, hfile⟩ := U.code
  obtain ⟨cdD, hcD⟩ := U.cls
  obtain ⟨cdC, hcC⟩ := U2.own
  have KX : K.In s.heap := I.kIn
  obtain ⟨oD, hD1, hD2⟩ : ∃ oD, s.heap.get? D = some oD ∧ oD.data = .cls cdD := by
    unfold PySem.W.clsIn at hcD
    split at hcD
    · rename_i c d cd' sl ho
      cases hcD
      exact ⟨_, KX _ _ ho, rfl⟩
    · cases hcD
  obtain ⟨odx, J⟩ := ins_at I.hok ea
  obtain ⟨mb, nb, hbb⟩ := I.ok.mod.blt
  obtain ⟨ml, hnl, hloc⟩ := I.loc
  obtain ⟨u, ru, hlk⟩ := hloc 0 ar.arg _ hN hσ (.inl hka)
  obtain rfl : u = Value.ref a := ru
  have hself : ml ar.arg = some (.ref a) := by
    rcases hlk with ⟨_, h⟩ | ⟨h, _⟩
    · exact h
    · have h' : (defScope st).names.lookup ar.arg = some .cell ∨ (defScope st).names.lookup ar.arg = some .free := h
      rw [hka] at h'
      rcases h' with h' | h' <;> cases h'
  obtain ⟨hh, gg, dd, tt, os⟩ := s
  refine ks_wpAt_MethodCall (pl := pl) ?_ ht
  refine ks_wpAt_super_base (env := envS qual (defScope st) s0.heap.objs.size f (.ref cda) cc) hks hkc hat rfl (KX _ _ lk) rfl hp rfl (KX _ _ lkc) rfl hv2 hfile U.top ?_
  refine PySem.W.ks_loadName_global S.kind hks (PySem.Calls.loadGlobal_builtin (env := envS qual (defScope st) s0.heap.objs.size f (.ref cda) cc) (I.ok.mod.glob.keeps I.bk) (PySem.W.mg_none_of I.ok.mod.kin I.ok.mod.glob U.sup) (nb.keeps I.bk) ((hbb _ (by decide +kernel)).trans (show bootBuiltins ("super" : Str) = some (.type "super") by decide +kernel)) ⟨rfl, ?_⟩)
  refine wpAny_loadName_free S.kind hkc rfl ⟨_, KX _ _ hcell, rfl⟩ ?_
  refine wpAny_loadName_local S.kind hka hnl hself ?_
  refine ks_wpAny_isType_cls hD1 hD2 ⟨rfl, ?_⟩
  refine ks_wpAny_call_super hD1 hD2 J.at_ J.cls (fun c ec => ?_) (PySem.W.looks_mroIn KX U2.sub) (fun h' eso kso => ?_)
  · have := J.no
    unfold PySem.W.notCls at this
    rw [ec] at this
    exact Bool.noConfusion this
  have I1 := ClX.pin_new (t' := tt) I kso (Nat.le_refl _) eso (fun v z => nomatch z)
  have KX1 : K.In h' := I1.kIn
  obtain ⟨og, hog, hogc⟩ : ∃ og, h'.get? g = some og ∧ og.cls = .type "function" := by
    have ht' : (K.lookup g).map (·.cls) = some (.type "function") := U2.ty
    cases z : K.lookup g with
    | none => rw [z] at ht'; cases ht'
    | some og => rw [z] at ht'; exact ⟨og, KX1 _ _ z, Option.some.inj ht'⟩
  have hnx := U2.nx
  unfold PySem.W.ks_superIn at hnx
  rw [hcC] at hnx
  refine ks_wpAny_getMethod_super (ClX.pin_at I1) (PySem.W.looks_opaque KX1 U.opq) (l₀ := cdC.mro) ((PySem.W.looks_clsIn KX1 hcC).andThen .now) rfl KX1 hnx hog hogc (PySem.W.ks_ne KX J hcC) hat ?_
  have I2 := ClX.met_new (g := g) (C := a) I1
  have I3 : Inv (cxS P w K mg base N qual (defScope st) f (.ref cda) cc A outer s0 H0 E) ((h'.objs.size, PySem.W.methodObj (.ref g) (.ref a)) :: pins) σ H { (⟨h', gg, dd, tt, os⟩ : Shared) with heap := h'.push (PySem.W.methodObj (.ref g) (.ref a)), toks := tt + 1 } :=
    I2.pins_of fun p hp' => I2.pin p (List.mem_append_right _ (by
      rcases List.mem_cons.mp (show p ∈ _ :: pins from hp') with z | z
      · rw [z]; exact List.mem_cons_self
      · exact List.mem_cons_of_mem _ (List.mem_cons_of_mem _ z)))
  exact ClX.callwith_cm I3 (ClX.base_none I1 (Nat.le_refl _)) U2.fi (thn (ha.run pos _ _ σ H _ I3 q) fun us s3 ⟨vs, H2, I4, rv, q2⟩ => ⟨⟨ClX.pin_at I4, I4.kIn⟩, run_callM tk G hr hg I4 rv q2⟩) hst hpl
end
end Uk

/-! UkM: small words of the text's own constants -/
namespace Uk
open PySem PySem.Spec PyProof.Rows L2 StX
section
variable {K : PySem.W.Frag} {H : Hp} {a : Addr} {xs : List V} {us : List Value} {n : Nat} {dd : Option Addr} {sl : Array (Option Value)}
/-- a tuple of the text's own -/
theorem sqT_k (h : K.lookup a = some ⟨.type "tuple", dd, .seq us.toArray n, sl⟩) (r : Vals xs us) (hz : us.length ≤ 1000) : SqT K H a xs :=
  .inr ⟨_, us.toArray, n, h, rfl, rfl, by rw [List.size_toArray, sizeLine_eq]; omega, by simpa using r⟩
end
end Uk
namespace Uk
open PySem PySem.Spec PyProof.Rows L2 StX
theorem TyX.same {K : PySem.W.Frag} {H H' : Hp} {v : V} {t : Value} (s : Same H H') (h : TyX K H v t) : TyX K H' v t := by
  cases h with
  | base b =>
    cases b with
    | non => exact .base .non
    | bl y => exact .base (.bl y)
    | int i => exact .base (.int i)
    | str y => exact .base (.str y)
    | flt y => exact .base (.flt y)
    | lst e => exact .base (.lst (s _ _ e))
    | frz e => exact .base (.frz (s _ _ e))
    | tup e => exact .base (.tup (s _ _ e))
    | dK e => exact .base (.dK (s _ _ e))
    | dT e => exact .base (.dT (s _ _ e))
    | ins e cl ha hn htk hm => exact .base (.ins (s _ _ e) cl ha hn htk hm)
  | byt b => exact .byt b
  | set e => exact .set (s _ _ e)
  | kList e c => exact .kList e c
  | kTuple e c => exact .kTuple e c
  | kDict e c => exact .kDict e c
  | fTuple e => exact .fTuple (s _ _ e)
  | fDict e => exact .fDict (s _ _ e)
theorem inV_strs (x : Str) (ws : List Str) : inV (.str x) (ws.map V.str) = decide (x ∈ ws) := by
  induction ws with
  | nil => rfl
  | cons y r ih =>
    show ((y == x) || inV (.str x) (r.map V.str)) = _
    rw [ih]
    by_cases e : y = x
    · subst e
      simp
    · have e2 : ¬ x = y := fun z => e z.symm
      simp [e, e2]
/-- o.m(e, ..), m by o's class -/
def tMeV (W : WX) (dom : Addr → Prop) (m : Str) (sp : Addr → SpK) (ta : TE) (t : TA) : TE := fun σ H Q => ta σ H fun x H1 => ∃ a C dx fs, x = .ref a ∧ dom C ∧ H1 a = some (.ins C dx fs) ∧ fs.lookup m = none ∧ t σ H1 fun vs H2 => sp C (.ref a :: vs) [] H2 Q (WE W σ)
theorem pe_meV {X : Cx} {W : WX} {k : Nat} {dom : Addr → Prop} {f : Addr → Addr} {sp : Addr → SpK} {m : Str} {o e : Expr} {es : List Expr} {qs apos : Pos} {ta : TE} {t : TA} {pl : Sem Bool} (tk : Takes X W) (he : PE X o ta) (hm : ∀ C, dom C → Cls X.K C ∧ Meth X.K C m (f C))
    (F : ∀ C, dom C → CallG X.prog X.w X.K X.mg X.base k (.ref (f C)) (sp C)) (hr : Room k X.A) (hg : X.A.guards = some []) (ha : PA X (e :: es) t)
    (hst : starEach (e :: es) X.env = (false, eval e X.env) :: starEach es X.env := by rfl) (hpl : (backTo qs (starEach es X.env)).any (·.1) = false := by rfl)
    (ht : eval (.Call (.Attribute o m apos) (e :: es) [] qs) X.env = (do
      let ov ← eval o X.env
      standAt apos.atName
      let (f, first) ← holding [ov] (getMethod ov m pl)
      callWith qs f first (backTo qs (starEach (e :: es) X.env)) (backToKw qs (keywordEach [] X.env))) := by rfl) :
    PE X (.Call (.Attribute o m apos) (e :: es) [] qs) (tMeV W dom m sp ta t) := by
  refine ⟨fun pins s σ H Q I h => ?_⟩
  refine PySem.W.methodCall_KW (pl := pl) (thn (he.run pins s σ H _ I h) fun u s1 ⟨x, H1, I1, rx, a, C, dx, fs, ex, d, ea, l, q⟩ => ?_) ht
  subst ex
  obtain rfl : u = Value.ref a := rx
  refine getmeth_ok I1 ea (hm C d).1 (hm C d).2 l ?_
  refine PySem.W.callWith_K (h₀ := X.base) (first := [.ref a]) I1.ok.mod.kin (hm C d).2.kp (thn (ha.run qs pins s1 σ H1 _ I1 q) fun us s2 ⟨vs, H2, I2, r, q2⟩ => ⟨I2.kIn, ?_⟩) hst hpl
  exact run_call (us := .ref a :: us) (vs := .ref a :: vs) tk (F C d) hr hg I2 (.cons rfl r) .nil q2
theorem same_disp {H : Hp} {p : Addr} {o u : HO} (h : H p = none) : Same H (upd (upd H p o) p u) := by rw [upd_upd]; exact same_new h
end Uk

/-! UkN: enumerate(a tuple) -/
namespace Uk
open PySem PySem.Spec PyProof.Rows L2 StX
abbrev tupItr (t : Addr) : Obj := { cls := .type "tuple_iterator", data := .fields #[.ref t, .int 0 0] }
abbrev enumOf (it : Addr) : Obj := { cls := .type "enumerate", data := .fields #[.none, .bool false, .ref it, rawInt 0, .none, .none] }
theorem enumT_new (t : Addr) (items : Array Value) : Meets (Builtin.«enumerate.__new__» ⟨[.type "enumerate", .ref t], []⟩) (fun _ R s => s.heap.IsTuple t items ∧ R (.ok (.ret (.ref (s.heap.push (tupItr t)).objs.size))) { s with heap := (s.heap.push (tupItr t)).push (enumOf s.heap.objs.size) }) :=
  .of_wp fun prog w A R s ⟨hT, h⟩ => by
    obtain ⟨⟨cl, dd, dt, sl⟩, hl, hc, n, hd⟩ := id hT
    simp only at hc hd
    subst hc hd
    obtain ⟨hh, gg, dr, tt, os⟩ := s
    have sub := sub_enumerate
    wp_walk using AutoSeq1.wpAny_loadPart' hl
    refine wpAny_stack_any fun st => wpAny_pure ?_
    split
    · rename_i c _ _ _ _ _
      cases (c == Value.type "enumerate") <;> (wp_walk using AutoSeq1.wpAny_loadPart' hl, wpAny_pyIter_tuple hT; exact ⟨_, rfl, h⟩)
    · wp_walk using AutoSeq1.wpAny_loadPart' hl, wpAny_pyIter_tuple hT
      exact ⟨_, rfl, h⟩
section
variable {prog : Program} {w : World} {A : Around} {E : Value → Shared → Prop} {s : Shared}
theorem call_enumT {t : Addr} {items : Array Value} {Q : Value → Shared → Prop} (hT : s.heap.IsTuple t items)
    (h : ∀ h', IsEnum h' (s.heap.objs.size + 1) s.heap.objs.size 0 .none → h'.IsTupleIter s.heap.objs.size t 0 → (∀ b o, s.heap.get? b = some o → h'.get? b = some o) → Q (.ref (s.heap.objs.size + 1)) { s with heap := h' }) :
    wpAny (model prog w) A (call (.type "enumerate") [.ref t]) Q E s := by
  refine callType_new F.called_enumerate (by decide) (F.typeCall_enumerate_1 _) (F.newCall_enumerate_1 _) (fun obj => F.args_object_init_2 obj _) F.entry_enumerate_new (enumT_new t items) ⟨hT, ?_⟩
  have sz : (s.heap.push (tupItr t)).objs.size = s.heap.objs.size + 1 := Heap.size_push ..
  show _ ∧ _
  rw [sz]
  have en : IsEnum ((s.heap.push (tupItr t)).push (enumOf s.heap.objs.size)) (s.heap.objs.size + 1) s.heap.objs.size 0 .none := by
    have := Heap.get?_push_size (s.heap.push (tupItr t)) (o := enumOf s.heap.objs.size) rfl
    rwa [sz] at this
  exact ⟨⟨_, en, rfl⟩, h _ en ⟨_, Heap.get?_push_of_some _ (Heap.get?_push_size _ rfl), rfl, rfl⟩ fun b o x => Heap.get?_push_of_some _ (Heap.get?_push_of_some _ x)⟩
end
/-- the tuple at a, each item in a new pair -/
def ItEt (K : PySem.W.Frag) (a : Addr) : It :=
  ⟨fun i H => ∃ (xs : List V) (x : V), SqT K H a xs ∧ xs[i]? = some x, fun i H v H' => ∃ T x, v = .ref T ∧ H T = none ∧ H' = upd H T (.tup [.int (i : Nat), x]) ∧ ∀ xs, SqT K H a xs → xs[i]? = some x, fun i H => ∃ xs : List V, SqT K H a xs ∧ xs.length = i⟩
theorem turn_enumT {P : Program} {w : World} {K : PySem.W.Frag} {elts : List Expr} {kk : Nat} {tpos : Pos} (a e it : Addr) :
    Turn P w K (.Tuple elts kk tpos) (ItEt K a) [e, it] e (fun i h => (∃ old, IsEnum h e it ((i : Nat) : Int) old) ∧ h.IsTupleIter it a i ∧ e ≠ it ∧ a ≠ it ∧ a ≠ e) where
  mem := by simp
  obj := fun i h st b hb => by
    obtain ⟨⟨old, he⟩, ⟨o, ho, hc, hd⟩, _⟩ := st
    rcases (by simpa using hb : b = e ∨ b = it) with z | z
    · rw [z]; exact ⟨_, he, fun v q => nomatch q⟩
    · rw [z]; exact ⟨o, ho, fun v q => by rw [hd] at q; cases q⟩
  keep := fun i h h' ⟨⟨old, he⟩, hi, hne⟩ k => ⟨⟨old, k e (by simp) _ he⟩, hi.at fun o q => k it (by simp) o q, hne⟩
  item := by
    intro X hP hw hK hc i pins s σ H E I hf st hg
    subst hP hw hK
    obtain ⟨⟨old, he⟩, hit, hne, hai, hae⟩ := st
    obtain ⟨xs, x, hq, hx⟩ := hg
    obtain ⟨its, rv, p, hz⟩ := I.tuple hq
    have hT : s.heap.IsTuple a its.toArray := p
    obtain ⟨u, hu, ru⟩ := rv.get hx
    have hel : e < s.heap.objs.size := Heap.lt_size he
    have hil : it < s.heap.objs.size := by obtain ⟨_, q, _⟩ := hit; exact Heap.lt_size q
    have hlt : i < its.toArray.size := by
      have := (List.getElem?_eq_some_iff.mp hu).1
      simpa using this
    refine wpAny_pyNext_enum_itemC (Draws.tuple (by exact I.ok.hd hc) it a hai its.toArray) he ⟨hit, hT⟩ hlt hne (by simp [hne, Ne.symm hae]) fun x' h' tk hx' ho hst hTn hsz hk => ?_
    have ex : x' = u := by
      have h1 : its[i]? = some x' := by simpa using hx'
      rw [hu] at h1
      exact (Option.some.inj h1).symm
    subst ex
    refine ⟨_, rfl, wpAny_letOwnedTupleGo_enum (s := { s with heap := h', toks := tk + 1 }) ho fun h'' he' sb => ?_⟩
    have hT2 : h''.get? s.heap.objs.size = some { cls := .type "tuple", data := .seq #[.int i tk, x'] } := (sb.2 _ (Nat.ne_of_gt hel)).trans hTn
    have new : ObjOk X.prog X.w (upd H s.heap.objs.size (.tup [.int (i : Nat), x])) h'' s.heap.objs.size (.tup [.int (i : Nat), x]) :=
      ⟨by show 2 ≤ sizeLine; decide, [.int i tk, x'], .cons ⟨_, rfl⟩ (.cons ru .nil), ⟨_, hT2, rfl, _, rfl⟩⟩
    have I1 : Inv X pins σ (upd H s.heap.objs.size (.tup [.int (i : Nat), x])) { s with heap := h'', toks := tk + 1 } :=
      I.turnedNew (ch := [e, it]) (fun b ob hb q => (sb.2 b (fun z => hb (by simp [z]))).trans (hk b ob (fun z => hb (by simp [z])) (fun z => hb (by simp [z])) q)) hf (Nat.le_refl _) new
    refine ⟨.ref s.heap.objs.size, _, I1, rfl, ⟨_, x, rfl, I.hok.fresh (Nat.le_refl _), rfl, fun ys hy => by rw [I.tuple_inj hy hq]; exact hx⟩, ⟨⟨x', ?_⟩, hst.1.at fun o q => (sb.2 it (Ne.symm hne)).trans q, hne, hai, hae⟩, fun b hb => ?_⟩
    · have e1 : ((i + 1 : Nat) : Int) = (i : Int) + 1 := by omega
      rw [e1]; exact he'
    · have hb' : b < s.heap.objs.size := by
        rcases (by simpa using hb : b = e ∨ b = it) with z | z
        · rw [z]; exact hel
        · rw [z]; exact hil
      rw [upd_ne (Nat.ne_of_lt hb')]
      exact (hf b hb).1
  done := by
    intro X hP hw hK hc i pins s σ H E I hf st hg
    subst hP hw hK
    obtain ⟨⟨old, he⟩, hit, hne, hai, hae⟩ := st
    obtain ⟨xs, hq, hx⟩ := hg
    obtain ⟨its, rv, p, hz⟩ := I.tuple hq
    obtain ⟨f0, f1, f2, f3, f4, f5⟩ := hf it (by simp)
    have hT : s.heap.IsTuple a its.toArray := p
    have hl : its.toArray.size = i := by rw [List.size_toArray, ← rv.length]; exact hx
    subst hl
    exact wpAny_pyNext_enum_endD (Draws.tuple (by exact I.ok.hd hc) it a hai its.toArray) he ⟨hit, hT⟩ fun h' eb => ⟨rfl, I.turned (t' := s.toks) (fun b o hb q => eb b o hb q) f0 f1 f3 f4 f5⟩
  self := fun A i s Q E ⟨⟨_, he⟩, _⟩ h => wpAny_pyIter_enum he h
def iEnumT (K : PySem.W.Frag) (ta : TA) : TI := fun σ H R => ta σ H fun vs H1 => ∃ a xs, vs = [.ref a] ∧ SqT K H1 a xs ∧ R (ItEt K a) H1
theorem pi_enumT {X : Cx} {e : Expr} {ta : TA} {p pos tpos : Pos} {elts : List Expr} {kk : Nat} (hg : Gl X "enumerate") (hm : X.mg "enumerate" = none) (ha : PA X [e] ta) (hs : starEach [e] X.env = [(false, eval e X.env)] := by rfl) :
    PI X (.Tuple elts kk tpos) (.Call (.Name "enumerate" p) [e] [] pos) (iEnumT X.K ta) := by
  refine ⟨fun pins s σ H R I h => ?_⟩
  refine Call_ (ld_blt I hg hm boot_enumerate (PyProof.Rows.callWith_type1 (thn (ha.run pos pins s σ H _ I h) fun us s1 ⟨vs, H1, I1, r1, q1⟩ => ?_) hs rfl))
  obtain ⟨a, xs, rfl, hq, q⟩ := q1
  obtain rfl := Vals.ref1 r1
  obtain ⟨its, rv, p', hz⟩ := I1.tuple hq
  have hT : s1.heap.IsTuple a its.toArray := p'
  have al : a < s1.heap.objs.size := by obtain ⟨o, ho, _⟩ := id hT; exact Heap.lt_size ho
  refine call_enumT hT fun h' he hit hk => wpAny_pyIter_enum he ?_
  have I2 : Inv X pins σ H1 { s1 with heap := h' } := I1.kept (t' := s1.toks) hk
  refine ⟨s1.heap.objs.size + 1, [s1.heap.objs.size + 1, s1.heap.objs.size], _, _, H1, rfl, I2, turn_enumT a (s1.heap.objs.size + 1) s1.heap.objs.size, ⟨⟨.none, he⟩, hit, Nat.succ_ne_self _, Nat.ne_of_lt al, Nat.ne_of_lt (Nat.lt_succ_of_lt al)⟩, fun b hb => ?_, q⟩
  have hle : s1.heap.objs.size ≤ b := by
    rcases (by simpa using hb : b = s1.heap.objs.size + 1 ∨ b = s1.heap.objs.size) with z | z
    · exact z ▸ Nat.le_succ _
    · exact z ▸ Nat.le_refl _
  exact I1.fpOk hle (I1.hok.fresh hle)
theorem walk_enumT {K : PySem.W.Frag} {a : Addr} {xs : List V} : Walk (ItEt K a) xs.length (fun H => SqT K H a xs) (YPair (fun i => some (.int (i : Nat))) (fun i => xs[i]?)) := by
  refine ⟨fun i _ hi q => ⟨xs, xs[i], q, by simp [hi]⟩, fun _ q => ⟨xs, q, rfl⟩, fun i H v H' _ q y => ?_⟩
  obtain ⟨T, x, h1, h2, h3, h4⟩ := y
  exact ⟨T, .int (i : Nat), x, h1, h2, h3, rfl, h4 xs q⟩
end Uk

/-! UkP: own exceptions: super().__init__, made as values, raised, caught and kept, their attributes, isinstance -/
namespace Uk
open PySem PySem.Spec PyProof.Rows L2 StX

/-- an exception of the class cls at a, whether raised or not; its dict at d -/
abbrev exv (a : Addr) (cls : Value) (d : Option Addr) : HO := .ext fun h => ∃ (oe : Obj) (vs : Array Value), h.get? a = some oe ∧ Zc cls d oe ∧ oe.data = .fields vs
theorem exv_ok {P : Program} {w : World} {H : Hp} {h : Heap} {a : Addr} {cls : Value} {d : Option Addr} {oe : Obj} {vs : Array Value} (e : h.get? a = some oe) (z : Zc cls d oe) (dd : oe.data = .fields vs) : ObjOk P w H h a (exv a cls d) :=
  ⟨⟨oe, vs, e, z, dd⟩, ⟨oe, e⟩, fun _ _ ⟨o, v, q, r⟩ k => ⟨o, v, k o q, r⟩⟩
theorem exv_at {P : Program} {w : World} {H : Hp} {h : Heap} {a : Addr} {cls : Value} {d : Option Addr} (hok : HOk P w H h) (he : H a = some (exv a cls d)) : ∃ (oe : Obj) (vs : Array Value), h.get? a = some oe ∧ Zc cls d oe ∧ oe.data = .fields vs := by
  have x : ObjOk P w H h a (exv a cls d) := hok a _ he
  exact x.1

/-- what the text must say of the class at C where the def of D says super().__init__ -/
structure SupE (K : PySem.W.Frag) (C D : Addr) : Prop where
  T : OexC K C
  own : ∃ cd, PySem.W.clsIn K C = some cd
  sub : PySem.W.mroIn K C (.ref D) = some true
  nx : PySem.W.ks_superIn K C D "__init__" = some (some (.builtin "ValueError.__init__"))
  hB : PySem.W.subIn K (.ref C) (.type "ValueError") = some true

section
variable {X : Cx} {pins : List (Addr × Obj)} {σ : L2.St} {H : Hp} {s : Shared} {a C u : Addr} {us : List Value} {Q : Value → Shared → Prop} {E : Value → Shared → Prop} {A : Around}
theorem upd_id {H : Hp} {a : Addr} {o : HO} (e : H a = some o) : upd H a o = H := by
  funext b
  by_cases hb : b = a
  · rw [hb, upd_same, e]
  · rw [upd_ne hb]
/-- the bound wrapper of ValueError.__init__ is called -/
theorem call_mw (T : OexC X.K C) (I : Inv X pins σ H s) (e : H a = some (exo a C none)) (hu : s.heap.get? u = some (PySem.W.kxs_mw "ValueError.__init__" a)) (hl : us.length ≤ sizeLine) (h : ∀ s', Inv X pins σ H s' → Q .none s') :
    wpAny (model X.prog X.w) A (call (.ref u) us) Q E s := by
  obtain ⟨nm, q, N, bs, bm, sn, sub, ab, col, dd, k0, k1, k2, k3, k5, hC, hbm⟩ := T.cls
  obtain ⟨t1, ho⟩ := exo_at I.hok e
  have hC' := I.kIn _ _ hC
  have fin : ∀ (h' : Heap) (t2 : Addr), (∀ b o, b ≠ a → s.heap.get? b = some o → h'.get? b = some o) → h'.get? a = some ({ cls := .ref C, dict := none, data := .fields #[.ref t2, .none, .none, .none, .bool false, .none] } : Obj) → Q .none { s with heap := h' } := fun h' t2 k hx => by
    have J := I.write (t' := s.toks) (x := a) (e := a) (o := exo a C none) (by rw [e]; exact True.intro) (.inl rfl) k ⟨_, hx⟩ (exo_ok hx)
    rw [upd_id e] at J
    exact h _ J
  obtain ⟨hp, g, d, t, os⟩ := s
  refine wpAny_call (codeAny_of_tree ?_)
  show wpAny _ A.in1 (callAny (.ref u) ⟨us, []⟩) _ _ _
  simp only [callAny]
  refine wpAny_bind (wpAny_load hu ?_)
  simp only [PySem.W.kxs_mw, show (Value.type "method-wrapper" == Value.type "method" || Value.type "method-wrapper" == Value.type "builtin_function_or_method" || Value.type "method-wrapper" == Value.type "method-wrapper") = true by decide, if_true]
  refine PySem.W.KFB.if_so (by decide) ?_
  refine wpAny_bind (PySem.W.check_bound_init PySem.F.excBase_ValueError.toExcCallFacts hC' ho rfl ?_)
  refine wpAny_bind (wpAny_pure (wpAny_pure ?_))
  refine ⟨PySem.plainId_quiet PySem.F.excBase_ValueError.init.plain _, codeAny_builtin PySem.F.excBase_ValueError.initEntry ?_⟩
  exact PySem.W.exc_init_tree (cls := .ref C) (t0 := t1) (dv := none) (c2 := .none) (c3 := .none) (b4 := .bool false) ho hl (fun h' k e' _ => fin h' _ k e')
end
/-- super().__init__(e, ..) in an own exception's __init__ -/
def tSupE (K : PySem.W.Frag) (D : Addr) (t : TA) : TE := fun σ H Q => ∃ (a C : Addr), σ[0]? = some (some (.ref a)) ∧ H a = some (exo a C none) ∧ SupE K C D ∧ t σ H fun vs H2 => vs.length ≤ 1000 ∧ H2 a = some (exo a C none) ∧ Q .non H2
section
variable {P : Program} {w : World} {K : PySem.W.Frag} {mg : Str → Option Value} {base : Heap} {N ps : List Str} {qual x : Str} {st : Stmt} {f cc cda D : Addr} {A : Around} {outer : List Env} {s0 : Shared} {H0 : Hp} {E : XK} {e : Expr} {es : List Expr} {t : TA} {p0 p1 apos pos : Pos} {ar : Arg} {body : List Stmt}
theorem pet_superE {pl : Sem Bool} (F : FunS K x qual st f cc cda D) (S : ScopeS N ps (defScope st)) (U : SupF P K cda D)
    (hp : ((defArgs st).posonlyargs ++ (defArgs st).args).head? = some ar) (hN : N[0]? = some ar.arg)
    (hks : (defScope st).names.lookup ("super" : Str) = some .globalImplicit) (hkc : (defScope st).names.lookup ("__class__" : Str) = some .free) (hka : (defScope st).names.lookup ar.arg = some .local)
    (ha : PA (cxS P w K mg base N qual (defScope st) f (.ref cda) cc A outer s0 H0 E) (e :: es) t)
    (ht : eval (.Call (.Attribute (.Call (.Name "super" p0) [] [] p1) "__init__" apos) (e :: es) [] pos) (envS qual (defScope st) s0.heap.objs.size f (.ref cda) cc) = (do
      let ov ← attributeBase (.Call (.Name "super" p0) [] [] p1) "__init__" (envS qual (defScope st) s0.heap.objs.size f (.ref cda) cc) (eval (.Call (.Name "super" p0) [] [] p1) (envS qual (defScope st) s0.heap.objs.size f (.ref cda) cc))
      standAt apos.atName
      let (f', first) ← holding [ov] (getMethod ov "__init__" pl)
      callWith pos f' first (backTo pos (starEach (e :: es) (envS qual (defScope st) s0.heap.objs.size f (.ref cda) cc))) []) := by rfl)
    (hst : starEach (e :: es) (envS qual (defScope st) s0.heap.objs.size f (.ref cda) cc) = (false, eval e (envS qual (defScope st) s0.heap.objs.size f (.ref cda) cc)) :: starEach es (envS qual (defScope st) s0.heap.objs.size f (.ref cda) cc) := by rfl)
    (hpl : (backTo pos (starEach es (envS qual (defScope st) s0.heap.objs.size f (.ref cda) cc))).any (·.1) = false := by rfl) :
    PEt (cxS P w K mg base N qual (defScope st) f (.ref cda) cc A outer s0 H0 E) (.func body (envS qual (defScope st) s0.heap.objs.size f (.ref cda) cc)) (.Call (.Attribute (.Call (.Name "super" p0) [] [] p1) "__init__" apos) (e :: es) [] pos) (tSupE K D t) := by
  refine ⟨fun pins s σ H Q I ⟨a, C, hσ, ea, U2, q⟩ => ?_⟩
  obtain ⟨oc, od, kV, doc, pm, an, ct, osl, lk, hcd⟩ := F.ex
  obtain ⟨cl, cld, csl, hcell⟩ := F.cell
  obtain ⟨ccl, cdd, vsc, ccs, file, tf, lkc, hv2, hfile⟩ := U.code
  obtain ⟨cdD, hcD⟩ := U.cls
  obtain ⟨cdC, hcC⟩ := U2.own
  have KX : K.In s.heap := I.kIn
  obtain ⟨oD, hD1, hD2⟩ : ∃ oD, s.heap.get? D = some oD ∧ oD.data = .cls cdD := by
    unfold PySem.W.clsIn at hcD
    split at hcD
    · rename_i c d cd' sl ho
      cases hcD
      exact ⟨_, KX _ _ ho, rfl⟩
    · cases hcD
  obtain ⟨t1, ho1⟩ := exo_at I.hok ea
  have J : PySem.W.InstAt s.heap a ({ cls := .ref C, dict := none, data := .fields #[.ref t1, .none, .none, .none, .bool false, .none] } : Obj) C none := ⟨ho1, rfl, rfl, trivial⟩
  obtain ⟨mb, nb, hbb⟩ := I.ok.mod.blt
  obtain ⟨ml, hnl, hloc⟩ := I.loc
  obtain ⟨u, ru, hlk⟩ := hloc 0 ar.arg _ hN hσ (.inl hka)
  obtain rfl : u = Value.ref a := ru
  have hself : ml ar.arg = some (.ref a) := by
    rcases hlk with ⟨_, h⟩ | ⟨h, _⟩
    · exact h
    · have h' : (defScope st).names.lookup ar.arg = some .cell ∨ (defScope st).names.lookup ar.arg = some .free := h
      rw [hka] at h'
      rcases h' with h' | h' <;> cases h'
  have hat : (("__init__" : Str) == ("__class__" : Str)) = false := by decide
  obtain ⟨hh, gg, dd, tt, os⟩ := s
  refine ks_wpAt_MethodCall (pl := pl) ?_ ht
  refine ks_wpAt_super_base (env := envS qual (defScope st) s0.heap.objs.size f (.ref cda) cc) hks hkc hat rfl (KX _ _ lk) rfl hp rfl (KX _ _ lkc) rfl hv2 hfile U.top ?_
  refine PySem.W.ks_loadName_global S.kind hks (PySem.Calls.loadGlobal_builtin (env := envS qual (defScope st) s0.heap.objs.size f (.ref cda) cc) (I.ok.mod.glob.keeps I.bk) (PySem.W.mg_none_of I.ok.mod.kin I.ok.mod.glob U.sup) (nb.keeps I.bk) ((hbb _ (by decide +kernel)).trans (show bootBuiltins ("super" : Str) = some (.type "super") by decide +kernel)) ⟨rfl, ?_⟩)
  refine wpAny_loadName_free S.kind hkc rfl ⟨_, KX _ _ hcell, rfl⟩ ?_
  refine wpAny_loadName_local S.kind hka hnl hself ?_
  refine ks_wpAny_isType_cls hD1 hD2 ⟨rfl, ?_⟩
  refine ks_wpAny_call_super hD1 hD2 J.at_ J.cls (fun c ec => ?_) (PySem.W.looks_mroIn KX U2.sub) (fun h' eso kso => ?_)
  · cases ec
  have I1 := ClX.pin_new (t' := tt) I kso (Nat.le_refl _) eso (fun v z => nomatch z)
  have KX1 : K.In h' := I1.kIn
  have J1 : PySem.W.InstAt h' a ({ cls := .ref C, dict := none, data := .fields #[.ref t1, .none, .none, .none, .bool false, .none] } : Obj) C none := ⟨kso _ _ ho1, rfl, rfl, trivial⟩
  have hnx := U2.nx
  unfold PySem.W.ks_superIn at hnx
  rw [hcC] at hnx
  have hI : PySem.W.Looks (model P w) h' (isInstance (.ref a) (.type "ValueError")) true := J1.type.andThen (PySem.W.looks_subIn KX1 U2.hB)
  refine PySem.W.kxs_getMethod PySem.W.kxs_ValueError (ClX.pin_at I1) (PySem.W.looks_opaque KX1 U.opq) (l₀ := cdC.mro) ((PySem.W.looks_clsIn KX1 hcC).andThen .now) rfl KX1 hnx hI (PySem.W.ks_ne KX J hcC) hat ?_
  have eu : (h'.push (PySem.W.kxs_mw "ValueError.__init__" a)).get? h'.objs.size = some (PySem.W.kxs_mw "ValueError.__init__" a) := Heap.get?_push_size _ rfl
  have I2 := ClX.pin_new (t' := tt + 1) I1 (fun b o z => Heap.get?_push_of_some (h := h') (PySem.W.kxs_mw "ValueError.__init__" a) z) (Nat.le_refl _) eu (fun v z => nomatch z)
  show wpAny _ _ (callWith pos (.ref h'.objs.size) [] (backTo pos (starEach (e :: es) (envS qual (defScope st) s0.heap.objs.size f (.ref cda) cc))) []) _ _ _
  rw [hst]
  refine PySem.W.kxs_callWith (i := "ValueError.__init__") (x := a) (by show (false || (backTo pos (starEach es _)).any (·.1)) = false; rw [hpl] <;> rfl) (Calls.evalArgs_plain ?_)
  have hst2 : starEach (e :: es) (cxS P w K mg base N qual (defScope st) f (.ref cda) cc A outer s0 H0 E).env = (false, eval e (envS qual (defScope st) s0.heap.objs.size f (.ref cda) cc)) :: starEach es (envS qual (defScope st) s0.heap.objs.size f (.ref cda) cc) := hst
  have z : wpAny (model P w) _ (spliced (backTo pos (starEach (e :: es) (cxS P w K mg base N qual (defScope st) f (.ref cda) cc A outer s0 H0 E).env))) _ _ _ := ha.run pos _ _ σ H _ I2 q
  rw [hst2] at z
  refine thn z fun us s3 ⟨vs, H2, I4, rv, hl, ea2, q2⟩ => ⟨ClX.pin_at I4, ?_⟩
  have hlen : us.length ≤ sizeLine := by
    rw [← Paired.length rv, sizeLine_eq]
    omega
  exact call_mw U2.T I4 ea2 (ClX.pin_at I4) hlen fun s5 I5 => ⟨.non, H2, ClX.unpin (ClX.unpin I5), rfl, q2⟩
end
end Uk

/-! UkQ: own exceptions: made as values, raised; attributes; isinstance; caught and kept -/
namespace Uk
open PySem PySem.Spec PyProof.Rows L2 StX

/-- an exception that is being made, its dict at dx -/
def exmk (H : Hp) (a C dx : Addr) (fs : List (Str × V)) : Hp := upd (upd H dx (exd dx fs)) a (exo a C (some dx))
theorem exmk_put {H : Hp} {a C dx : Addr} {fs gs : List (Str × V)} (h : dx ≠ a) : upd (exmk H a C dx fs) dx (exd dx gs) = exmk H a C dx gs := by
  funext b
  unfold exmk
  by_cases hb : b = dx
  · subst hb
    rw [upd_same, upd_ne h, upd_same]
  · rw [upd_ne hb]
    by_cases ha : b = a
    · subst ha
      rw [upd_same, upd_same]
    · rw [upd_ne ha, upd_ne ha, upd_ne hb, upd_ne hb]
theorem exmk_a {H : Hp} {a C dx : Addr} {fs : List (Str × V)} : exmk H a C dx fs a = some (exo a C (some dx)) := upd_same
theorem exmk_d {H : Hp} {a C dx : Addr} {fs : List (Str × V)} (h : dx ≠ a) : exmk H a C dx fs dx = some (exd dx fs) := (upd_ne h).trans upd_same
/-- an own exception's __init__ keeps its arguments under these names -/
def spInit (C : Addr) (ns : List Str) : Sp := fun vs H Q _ => ∃ a ws, vs = .ref a :: ws ∧ ws.length = ns.length ∧ H a = some (exo a C none) ∧ ∀ dx, H dx = none → dx ≠ a → Q .non (exmk H a C dx (ns.zip ws).reverse)
/-- one without arguments -/
def spInit0 (C : Addr) : Sp := fun vs H Q _ => ∃ a, vs = [.ref a] ∧ H a = some (exo a C none) ∧ Q .non H

/-- what the text must say of an exception class, whose __init__ is the def at f -/
structure MkE (K : PySem.W.Frag) (C f : Addr) : Prop where
  T : OexC K C
  init : PySem.W.findIn K (.ref C) "__init__" = some (some (.ref f))
  fn : PySem.W.typeIn K (.ref f) = some (.type "function")
  x : ExcC K C
/-- the exception is made: known by its dict, the names' values within -/
abbrev exF (H : Hp) (a C d : Addr) (fs : List (Str × V)) : Hp := upd (upd H d (.xd fs)) a (exv a (.ref C) (some d))

section
variable {X : Cx} {W : WX} {k : Nat} {C f : Addr} {ns : List Str} {sp : Sp} {pins : List (Addr × Obj)} {σ : L2.St} {H : Hp} {s : Shared} {Q : VK}
theorem run_makeE {us : List Value} {vs : List V} {R : Addr → V → Hp → Prop} {Z : Value → Shared → Prop} (tk : Takes X W) (M : MkE X.K C f) (F : CallG X.prog X.w X.K X.mg X.base k (.ref f) (pos sp)) (hr : Room (k + 1) X.A) (hg : X.A.guards = some []) (I : Inv X pins σ H s) (r : Vals vs us) (hl : vs.length ≤ 1000)
    (h : ∀ a, H a = none → sp (.ref a :: vs) (upd H a (exo a C none)) (R a) (WE W σ))
    (fin : ∀ (a : Addr) (s' : Shared) (H2 : Hp) (hp hp2 : Heap), s.heap = hp → s.heap.objs.size ≤ a → (∀ b o, hp.get? b = some o → hp2.get? b = some o) → Un (frs X.stack) [] (upd H a (exo a C none)) H2 hp2 s'.heap → HOk X.prog X.w H2 s'.heap → s'.os = s.os → AllBare s'.gens →
      Inv X pins σ H2 s' → R a .non H2 → Z (.ref a) s') (hv : ∀ a v H2, R a v H2 → v = .non) :
    wpAny (model X.prog X.w) X.A (call (.ref C) us) Z X.xe s := by
  obtain ⟨nm, q, N, bs, bm, sn, sub, ab, col, dd, k0, k1, k2, k3, k5, hC, hbm⟩ := M.T.cls
  obtain ⟨hp, g, dr, tk', os⟩ := s
  have hsz : hp.objs.size ≤ hp.objs.size + 1 := Nat.le_succ _
  have hn : H (hp.objs.size + 1) = none := I.hok.fresh hsz
  have hq := h (hp.objs.size + 1) hn
  have kk : ∀ b o, hp.get? b = some o → ((hp.push (PySem.W.kdv_tup us)).push (PySem.HandSPX.excO C hp.objs.size)).get? b = some o := fun b o e => Heap.get?_push_of_some _ (Heap.get?_push_of_some _ e)
  have hget : ((hp.push (PySem.W.kdv_tup us)).push (PySem.HandSPX.excO C hp.objs.size)).get? (hp.objs.size + 1) = some (PySem.HandSPX.excO C hp.objs.size) := by heap_get
  have I2 : Inv X pins σ (upd H (hp.objs.size + 1) (exo (hp.objs.size + 1) C none)) ⟨(hp.push (PySem.W.kdv_tup us)).push (PySem.HandSPX.excO C hp.objs.size), g, dr, tk', os⟩ :=
    I.laid (t' := tk') (a := hp.objs.size + 1) (o := exo (hp.objs.size + 1) C none) (h' := (hp.push (PySem.W.kdv_tup us)).push (PySem.HandSPX.excO C hp.objs.size)) kk hsz (exo_ok hget)
  have r2 : Vals (V.ref (hp.objs.size + 1) :: vs) (Value.ref (hp.objs.size + 1) :: us) := .cons rfl r
  have hus : us.length ≤ sizeLine := by
    rw [← Paired.length r, sizeLine_eq]
    omega
  refine wpAny_call (PySem.HandSPX.call_own PySem.F.excBase_ValueError (fun Y => PySem.HandSPX.refsVE_contains Y bm hbm) (I.kIn _ _ hC) (PySem.W.looks_findIn I.kIn M.init) (fun self => PySem.W.bind_fn I.kIn self M.fn) hus
    (codeAny_mono (F _ X.stack _ _ (Value.ref (hp.objs.size + 1) :: us) [] _ [] _ _ (hr.make C us []) (under_guards hg) (I2.env0.make C us []) r2 .nil ⟨rfl, hq⟩) fun r s' hq' => ?_))
  cases r with
  | error er => exact passAt tk σ pins _ _ er s' I2 hq'
  | ok fl =>
    cases fl with
    | ret u =>
      have I3 := I2.after hq'
      obtain ⟨v, H2, os2, bare2, un2, hok2, rv, ev⟩ := hq'
      obtain rfl := hv _ _ _ ev
      refine ⟨rv, ?_⟩
      have J : Inv X pins σ H2 s' := by
        obtain ⟨hp', g', dr', tk2, os'⟩ := s'
        have e2 : os' = os := os2
        subst e2
        exact I2.call (ch := []) un2 hok2 bare2 (fun b z => absurd z (by simp))
      exact fin (hp.objs.size + 1) s' H2 hp _ rfl hsz kk un2 hok2 os2 bare2 J ev
    | next => exact False.elim hq'
    | brk => exact False.elim hq'
    | cont => exact False.elim hq'

/-- an exception being made becomes one that is known as a value -/
theorem exc_known {s' : Shared} {H : Hp} {a d : Addr} {fs : List (Str × V)} (J : Inv X pins σ (exmk (upd H a (exo a C none)) a C d fs) s') (hd : H d = none) (hda : d ≠ a) : Inv X pins σ (exF H a C d fs) s' := by
  have ea := exmk_a (H := upd H a (exo a C none)) (a := a) (C := C) (dx := d) (fs := fs)
  have ed := exmk_d (H := upd H a (exo a C none)) (a := a) (C := C) (dx := d) (fs := fs) hda
  obtain ⟨mA, hns, rel⟩ := exd_at J.hok ed
  obtain ⟨t1, ho⟩ := exo_at J.hok ea
  have hD : ∃ u, s'.heap.get? d = some u := by
    obtain ⟨o, _, _, e', _⟩ := hns
    exact ⟨o, e'⟩
  obtain ⟨hp', g', dr', tk2, os'⟩ := s'
  have J1 := J.write (t' := tk2) (h' := hp') (x := d) (e := d) (o := .xd fs) (by rw [ed]; exact True.intro) (.inl rfl) (fun b u _ z => z) hD ⟨mA, hns, rel⟩
  have ea1 : upd (exmk (upd H a (exo a C none)) a C d fs) d (.xd fs) a = some (exo a C (some d)) := by rw [upd_ne (Ne.symm hda)]; exact ea
  have J2 := J1.write (t' := tk2) (h' := hp') (x := a) (e := a) (o := exv a (.ref C) (some d)) (by rw [ea1]; exact True.intro) (.inl rfl) (fun b u _ z => z) ⟨_, ho⟩ (exv_ok ho ⟨rfl, rfl⟩ rfl)
  have e : upd (upd (exmk (upd H a (exo a C none)) a C d fs) d (.xd fs)) a (exv a (.ref C) (some d)) = exF H a C d fs := by
    funext b
    unfold exmk
    show _ = upd (upd H d (.xd fs)) a (exv a (.ref C) (some d)) b
    by_cases h1 : b = a
    · subst h1
      rw [upd_same, upd_same]
    · rw [upd_ne h1, upd_ne h1]
      by_cases h2 : b = d
      · subst h2
        rw [upd_same, upd_same]
      · rw [upd_ne h2, upd_ne h2, upd_ne h1, upd_ne h2, upd_ne h1]
  rw [e] at J2
  exact J2
variable {x : Str} {p qs : Pos} {e : Expr} {es : List Expr} {t : TA}
/-- C(e, ..), kept as a value -/
def tMkX (C : Addr) (ns : List Str) (t : TA) : TE := fun σ H Q => t σ H fun vs H1 => vs.length = ns.length ∧ ∀ d a, H1 d = none → upd H1 d (.xd (ns.zip vs).reverse) a = none → Q (.ref a) (exF H1 a C d (ns.zip vs).reverse)
theorem pe_mkX (tk : Takes X W) (M : MkE X.K C f) (F : CallG X.prog X.w X.K X.mg X.base k (.ref f) (pos (spInit C ns))) (hr : Room (k + 1) X.A) (hg : X.A.guards = some []) (kC : PySem.W.keepIn X.K (.ref C) = true) (hx : Gl X x) (hm : X.mg x = some (.ref C)) (ha : PA X (e :: es) t) (hl : ns.length ≤ 1000)
    (hdb : (x == ("__debug__" : Str)) = false := by decide) (he : starEach (e :: es) X.env = (false, eval e X.env) :: starEach es X.env := by rfl) (hpl : (backTo qs (starEach es X.env)).any (·.1) = false := by rfl) :
    PE X (.Call (.Name x p) (e :: es) [] qs) (tMkX C ns t) := by
  refine ⟨fun pins s σ H Q I h => ?_⟩
  refine wpAny_Call_Name_kw (ld_glob I hx hm ?_ hdb)
  refine PySem.W.callWith_K (h₀ := X.base) I.ok.mod.kin kC (thn (ha.run qs pins s σ H _ I h) fun us s1 ⟨vs, H1, I1, r, hv, q⟩ => ⟨I1.kIn, ?_⟩) he hpl
  refine run_makeE (R := fun a v H2 => v = .non ∧ ∃ d, H2 = exmk (upd H1 a (exo a C none)) a C d (ns.zip vs).reverse ∧ H1 d = none ∧ d ≠ a ∧ Q (.ref a) (exF H1 a C d (ns.zip vs).reverse)) tk M F hr hg I1 r (by omega) (fun a ea => ?_) (fun a s' H2 hp hp2 eh hsz kk un hok eos hb J ev => ?_) fun a v H2 z => z.1
  · refine ⟨a, vs, rfl, hv, upd_same, fun dx hdx hne => ?_⟩
    rw [upd_ne hne] at hdx
    exact ⟨rfl, dx, rfl, hdx, hne, q dx a hdx (by rw [upd_ne (Ne.symm hne)]; exact ea)⟩
  · obtain ⟨_, d, e2, ed, hne, q'⟩ := ev
    subst e2
    exact ⟨.ref a, _, exc_known J ed hne, rfl, q'⟩
/-- C(e, ..), to be raised -/
def tRz (C : Addr) (ns : List Str) (t : TA) : L2.St → Hp → XK → Prop := fun σ H Q => t σ H fun vs H1 => vs.length = ns.length ∧ ∀ d, H1 d = none → Q (.ref C) (some d) (upd H1 d (.xd (ns.zip vs).reverse))
theorem pmk_E (M : MkE X.K C f) (tk : Takes X W) (F : CallG X.prog X.w X.K X.mg X.base k (.ref f) (pos (spInit C ns))) (hr : Room (k + 1) X.A) (hg : X.A.guards = some []) (kC : PySem.W.keepIn X.K (.ref C) = true) (hx : Gl X x) (hm : X.mg x = some (.ref C)) (ha : PA X (e :: es) t) (hl : ns.length ≤ 1000)
    (hdb : (x == ("__debug__" : Str)) = false := by decide) (he : starEach (e :: es) X.env = (false, eval e X.env) :: starEach es X.env := by rfl) (hpl : (backTo qs (starEach es X.env)).any (·.1) = false := by rfl) :
    PMk X (.Call (.Name x p) (e :: es) [] qs) (tRz C ns t) := by
  intro pins s σ H Q I h
  refine wpAny_Call_Name_kw (ld_glob I hx hm ?_ hdb)
  refine PySem.W.callWith_K (h₀ := X.base) I.ok.mod.kin kC (thn (ha.run qs pins s σ H _ I h) fun us s1 ⟨vs, H1, I1, r, hv, q⟩ => ⟨I1.kIn, ?_⟩) he hpl
  refine run_makeE (R := fun a v H2 => v = .non ∧ ∃ d, H2 = exmk (upd H1 a (exo a C none)) a C d (ns.zip vs).reverse ∧ H1 d = none ∧ d ≠ a ∧ Q (.ref C) (some d) (upd H1 d (.xd (ns.zip vs).reverse))) tk M F hr hg I1 r (by omega) (fun a ea => ?_) (fun a s' H2 hp hp2 eh hsz kk un hok eos hb J ev => ?_) fun a v H2 z => z.1
  · refine ⟨a, vs, rfl, hv, upd_same, fun dx hdx hne => ?_⟩
    rw [upd_ne hne] at hdx
    exact ⟨rfl, dx, rfl, hdx, hne, q dx hdx⟩
  · obtain ⟨_, d, e2, ed, hne, q'⟩ := ev
    subst e2
    obtain ⟨hp1, g1, dr1, tk1, os1⟩ := s1
    obtain ⟨hp3, g3, dr3, tk3, os3⟩ := s'
    have eu : upd (del (exmk (upd H1 a (exo a C none)) a C d (ns.zip vs).reverse) a) d (.xd (ns.zip vs).reverse) = upd H1 d (.xd (ns.zip vs).reverse) := by
      funext b
      by_cases h2 : b = d
      · subst h2
        rw [upd_same, upd_same]
      · rw [upd_ne h2, upd_ne h2]
        by_cases h1 : b = a
        · subst h1
          rw [del_same]
          exact (I1.hok.fresh (by subst eh; exact hsz)).symm
        · rw [del_ne h1]
          unfold exmk
          rw [upd_ne h1, upd_ne h2, upd_ne h1]
    have z := mk_end (Q := Q) (d2 := dr3) (t2 := tk3) (raises_own M.T.exC M.T.tyC) I1 (by subst eh; exact hsz) (by subst eh; exact kk) un hok eos hb exmk_a (exmk_d hne) ed (by rw [eu]; exact q')
    exact z
end

/-! ### attributes, isinstance -/
section
variable {X : Cx}
/-- e.n, e an own exception -/
def tXfld (K : PySem.W.Frag) (n : Str) (te : TE) : TE := fun σ H Q => te σ H fun x H1 => ∃ (a C d : Addr) (fs : List (Str × V)) (v : V), x = .ref a ∧ H1 a = some (exv a (.ref C) (some d)) ∧ H1 d = some (.xd fs) ∧ XfC K C ∧ PySem.W.findIn K (.ref C) n = some none ∧ fs.lookup n = some v ∧ Q v H1
theorem pe_xfld {e : Expr} {te : TE} {pos : Pos} {n : Str} (he : PE X e te) (hb : attributeBase e n X.env (eval e X.env) = eval e X.env := by rfl) : PE X (.Attribute e n pos) (tXfld X.K n te) := by
  refine ⟨fun pins s σ H Q I h => ?_⟩
  refine attr_of hb (thn (he.run pins s σ H _ I h) fun u s1 hh => ?_)
  obtain ⟨x, H1, I1, rx, a, C, dd, fs, v, ex, ha, ed, T, hno, l, q⟩ := hh
  subst ex
  obtain rfl : u = Value.ref a := rx
  obtain ⟨oe, vs, hoe, hz, hd⟩ := exv_at I1.hok ha
  have hx : ObjOk X.prog X.w H1 s1.heap dd (.xd fs) := I1.hok dd _ ed
  obtain ⟨mA, hns, hr⟩ := hx
  obtain ⟨od, ho, hl⟩ := lookIn_ns hns
  obtain ⟨u, hu, ru⟩ := RelO.some_of (v := v) (o := mA n) (by rw [← l]; exact hr n)
  have J : PySem.W.InstAt s1.heap a oe C (some od) := ⟨hoe, hz.1, by unfold PySem.W.notCls; rw [hd] <;> rfl, by rw [hz.2]; exact ho⟩
  exact HandSPX.exc_get I1.kIn J T.ga T.gg T.exC (PySem.W.findObj_own T.hdC hno rfl (by rw [hl, hu])) (handed_of ru) ⟨v, H1, I1.tok _, ru, q⟩
/-- isinstance(e, c), e an own exception -/
def rIsX (K : PySem.W.Frag) : List V → Hp → VK → Prop := fun xs H Q => ∃ (a C : Addr) (d : Option Addr) (c : V) (cv : Value) (b : Bool), xs = [.ref a, c] ∧ H a = some (exv a (.ref C) d) ∧ (∀ dd, d = some dd → ∃ fs, H dd = some (.xd fs)) ∧ ExcC K C ∧ (∀ u, RelV c u → u = cv) ∧ PySem.W.kitOne K (.ref C) cv = some b ∧ Q (.bl b) H
theorem inst_x {pins : List (Addr × Obj)} {σ : L2.St} {H : Hp} {s : Shared} {a C : Addr} {d : Option Addr} (I : Inv X pins σ H s) (ha : H a = some (exv a (.ref C) d)) (hd : ∀ dd, d = some dd → ∃ fs, H dd = some (.xd fs)) : ∃ ox od, PySem.W.InstAt s.heap a ox C od := by
  obtain ⟨oe, vs, hoe, hz, hdt⟩ := exv_at I.hok ha
  cases d with
  | none => exact ⟨oe, none, hoe, hz.1, by unfold PySem.W.notCls; rw [hdt] <;> rfl, by rw [hz.2]; trivial⟩
  | some dd =>
    obtain ⟨fs, ed⟩ := hd dd rfl
    have hx : ObjOk X.prog X.w H s.heap dd (.xd fs) := I.hok dd _ ed
    obtain ⟨mA, hns, hr⟩ := hx
    obtain ⟨od, ho, hl⟩ := lookIn_ns hns
    exact ⟨oe, some od, hoe, hz.1, by unfold PySem.W.notCls; rw [hdt] <;> rfl, by rw [hz.2]; exact ho⟩
theorem call_isX : CallR X (.builtin "isinstance") (rIsX X.K) := by
  intro pins s σ H xs us Q I r h
  obtain ⟨a, C, d, c, cv, b, rfl, ha, hd, T, hcv, e, q⟩ := h
  obtain ⟨ox, od, J⟩ := inst_x I ha hd
  cases r with
  | cons rx rr =>
    cases rr with
    | cons rt rr =>
      cases rr
      cases rx
      have ec := hcv _ rt
      subst ec
      obtain ⟨cd, hc, _⟩ := PySem.W.any_some T.hd
      exact PySem.W.kia_one (PySem.W.kitx_exc (by rw [hc]; rfl) T.hg T.hk T.hs T.ha T.hn T.ht T.hm) I.kIn J e (fun z => nomatch z) fun tk => ⟨.bl b, H, I.kept (t' := tk) fun _ _ z => z, rfl, q⟩
/-- isinstance(e, (c, ..)) -/
def rIsXt (K : PySem.W.Frag) : List V → Hp → VK → Prop := fun xs H Q => ∃ (a C p : Addr) (d : Option Addr) (cs : List Addr) (b : Bool), xs = [.ref a, .ref p] ∧ H a = some (exv a (.ref C) d) ∧ (∀ dd, d = some dd → ∃ fs, H dd = some (.xd fs)) ∧ ExcC K C ∧ H p = some (.tup (cs.map V.ref)) ∧ PySem.W.kitAny K (.ref C) (cs.map Value.ref) = some b ∧ Q (.bl b) H
theorem vals_refs : ∀ {cs : List Addr} {us : List Value}, Vals (cs.map V.ref) us → us = cs.map Value.ref
  | [], _, h => by cases h; rfl
  | c :: cs, _, h => by
    cases h with
    | cons a r =>
      cases a
      rw [vals_refs r] <;> rfl
theorem call_isXt : CallR X (.builtin "isinstance") (rIsXt X.K) := by
  intro pins s σ H xs us Q I r h
  obtain ⟨a, C, p, d, cs, b, rfl, ha, hd, T, hp, e, q⟩ := h
  obtain ⟨ox, od, J⟩ := inst_x I ha hd
  have ht : ObjOk X.prog X.w H s.heap p (.tup (cs.map V.ref)) := I.hok p _ hp
  obtain ⟨_, its, hv, ⟨o, ho, hcl, n, hdt⟩⟩ := ht
  obtain rfl := vals_refs hv
  cases r with
  | cons rx rr =>
    cases rr with
    | cons rt rr =>
      cases rr
      cases rx
      cases rt
      obtain ⟨cd, hc, _⟩ := PySem.W.any_some T.hd
      obtain ⟨oc, od', odt, osl⟩ := o
      dsimp only at hcl hdt
      subst hcl hdt
      exact PySem.W.kia_tup (PySem.W.kitx_exc (by rw [hc]; rfl) T.hg T.hk T.hs T.ha T.hn T.ht T.hm) I.kIn J ho e (fun z => nomatch z) fun tk => ⟨.bl b, H, I.kept (t' := tk) fun _ _ z => z, rfl, q⟩
end
end Uk

/-! UkR: try: body / except x as n: suite, where the exception may be kept -/
namespace Uk
open PySem PySem.Spec PyProof.Rows L2 StX
section
variable {X : Cx} {pins : List (Addr × Obj)} {σ : L2.St} {H : Hp} {s : Shared} {a : Addr} {cls : Value} {d : Option Addr} {oe : Obj} {vs : Array Value}
/-- an object of the air is known from now on -/
theorem adopt (I : Inv X pins σ H s) (na : H a = none) (h0 : X.s_0.heap.get? a = none) (hoe : s.heap.get? a = some oe) (hz : Zc cls d oe) (hd : oe.data = .fields vs) (np : ∀ p ∈ X.pn ++ pins, p.1 ≠ a) (nl : a ≠ X.env.locals)
    (nc : ∀ y c, X.env.cells.lookup y = some c → c ≠ a) : Inv X pins σ (upd H a (exv a cls d)) s := by
  refine ⟨I.ok, I.os, I.bare, ⟨I.base.keep, I.base.slot, fun b o e n hx => ?_, I.base.there, fun b xs e => ?_, fun b o u e => ?_, fun b ps e => ?_⟩, I.loc, I.cell, ?_, fun y c e => ?_, fun p hp => ?_, fun b u e => ?_, I.len⟩
  · have nb : b ≠ a := fun z => by rw [z, h0] at e; cases e
    rw [upd_ne nb]
    exact I.base.free b o e n hx
  · have q := I.base.tups b xs e
    rw [upd_ne (ne_of_none q na)]
    exact q
  · have q := I.base.frzs b o u e
    rw [upd_ne (ne_of_none q na)]
    exact q
  · obtain ⟨m, q⟩ := I.base.tbls b ps e
    exact ⟨m, by rw [upd_ne (ne_of_none q na)]; exact q⟩
  · rw [upd_ne (Ne.symm nl)]
    exact I.free
  · rw [upd_ne (nc y c e)]
    exact I.freeC y c e
  · obtain ⟨e, n, ne, nf, dd⟩ := I.pin p hp
    exact ⟨e, by rw [upd_ne (np p hp)]; exact n, ne, nf, dd⟩
  · by_cases hb : b = a
    · subst hb
      rw [upd_same] at e
      cases e
      exact exv_ok hoe hz hd
    · rw [upd_ne hb] at e
      exact (I.hok b u e).stay (fun c v _ q => q) (fun c q => by rw [upd_ne (ne_of_none q na)]; exact q) fun c xs q => by rw [upd_ne (ne_of_none q na)]; exact q
end
/-- what the clause 'except x as n' wishes of an exception of the body, which may be kept: slot i is n's -/
def wKeep (K : PySem.W.Frag) (c : Value) (i : Nat) (ts : Addr → Value → Option Addr → TS) (Wout : WX) (D : Ends) : WX := fun cls d σ H =>
  ∃ b, PySem.W.exmOne K cls c = some b ∧ (b = true → ∀ a, H a = none → ts a cls d
    { nx := fun σ' H' => D.nx (σ'.set i none) (upd H' a (exv a cls d)), rt := fun v H' => D.rt v (upd H' a (exv a cls d)), bk := fun σ' H' => D.bk (σ'.set i none) (upd H' a (exv a cls d)), ct := fun σ' H' => D.ct (σ'.set i none) (upd H' a (exv a cls d)) }
    (σ.set i (some (.ref a))) H) ∧ (b = false → Wout cls d σ H)
section
variable {X : Cx} {x n : Str} {c : Value} {i : Nat} {body suite : List Stmt} {b₀ : Stmt} {np pos pos' : Pos} {tb : WX → List (Addr × Obj) → (Value → Shared → Prop) → TS} {ts : Addr → Value → Option Addr → TS} {Wout : WX}
theorem ps_try_keep (hs : X.stack = X.env :: X.outer) (hf : X.env.frame = some X.env.locals) (hex : X.ex = []) (hN : X.N.Nodup) (hi : X.N[i]? = some n) (hln : X.env.kindOf n = some .local) (hc : Names X x c) (tk : Takes X Wout)
    (hb : ∀ (W : WX) (pn : List (Addr × Obj)) (xe : Value → Shared → Prop), Takes (X.tr pn xe) W → PassesOwn (model X.prog X.w) X.A X.env xe → PSs (X.tr pn xe) body (tb W pn xe))
    (hsu : ∀ (a : Addr) (oe : Obj) (cls : Value) (d : Option Addr) (pn : List (Addr × Obj)), Zc cls d oe → (∃ vs, oe.data = .fields vs) → PSs (X.suite a ((a, oe) :: pn)) (b₀ :: suite) (ts a cls d)) :
    PS X (.Try body [.ExceptHandler (some (.Name x np)) (some n) (b₀ :: suite) pos'] [] [] pos) (fun D σ H => ∀ pn xe, tb (wKeep X.K c i ts Wout D) pn xe D σ H) := by
  refine ⟨fun pins s σ H D I h => ?_⟩
  have ok := I.ok
  have hfr : X.A.frames = some (X.env :: X.outer) := by rw [ok.frames, hs]
  have hloc : Loc X.env.scope n := .inl hln
  refine wpAny_Try_except ?_
  refine wpAny_mono ((hb (wKeep X.K c i ts Wout D) (X.pn ++ pins) (fun e s₁ => wpAny (model X.prog X.w) X.A (noteFrame e X.env) (fun _ s₂ => wpAny (model X.prog X.w) X.A (setFlight e none) (fun _ s₃ =>
    wpAny (model X.prog X.w) X.A (handleBy e X.env [.ExceptHandler (some (.Name x np)) (some n) (b₀ :: suite) pos']) (SP X pins D) X.xe s₃) X.xe s₂) X.xe s₁) (fun u s' xx => ?_) PassesOwn.looking).run [] s σ H D (I.toTry _) (h _ _)) (fun f s1 hsp => ?_) (fun e s1 he => he)
  · obtain ⟨a, B, sI, pins', σ', H', cls, d, rfl, J', nb, up, sky, na, os, ag, b, hb1, hyes, hno⟩ := xx
    have J : Inv X pins σ' H' sI := J'.ofTry ok
    have sky' : Sky B (X.env :: X.outer) a (Zc cls d) X.env.locals s'.heap := by rw [← hs]; exact sky
    have nb : ∀ b o, sI.heap.get? b = some o → b ∉ frs X.stack → B.get? b = some o := nb
    show wpAny (model X.prog X.w) X.A (noteFrame (.ref a) X.env) _ _ _
    refine Sky.land Zc.steady hfr hf sky' fun h3 fl3 up3 => ?_
    have J3 : Inv X pins σ' H' { s' with heap := h3 } := J.landed nb fl3.1 (up.trans up3) os ag
    obtain ⟨oe3, vs3, he3, hz3, hd3⟩ := fl3.there
    have notFr : ∀ {h : Heap} {o : Obj} {vs : Array Value}, h.FunFrames B (X.env :: X.outer) → h.get? a = some o → o.data = .fields vs → a ∉ frs (X.env :: X.outer) := fun {h o vs} ff e dd hm => by
      obtain ⟨_, o', e', hnf⟩ := ff.mem hm
      rw [e] at e'; cases e'
      exact hnf _ dd
    have nfr := notFr fl3.2.2.1 he3 hd3
    have notI : ∀ {c : Addr} {o : Obj}, sI.heap.get? c = some o → c ≠ a := fun {c o} e z => by
      subst z
      have y := nb _ o e (by rw [hs]; exact nfr)
      rw [fl3.2.1] at y
      cases y
    have h0 : X.s_0.heap.get? a = none := by
      cases z : X.s_0.heap.get? a with
      | none => rfl
      | some o =>
        obtain ⟨o', e'⟩ := J.base.there a o z (by rw [hex]; exact fun y => nomatch y)
        exact absurd rfl (notI e')
    have nL : a ≠ X.env.locals := fun z => nfr (List.mem_filterMap.mpr ⟨X.env, List.mem_cons_self, by rw [hf, z]⟩)
    have nF : a ∉ X.fs := fun hm => by
      obtain ⟨e, he, q⟩ := List.mem_filterMap.mp hm
      exact nfr (List.mem_filterMap.mpr ⟨e, List.mem_cons_of_mem _ he, q⟩)
    have hnp : ∀ p ∈ X.pn ++ pins, p.1 ≠ a := fun p hp => notI (J.pin p hp).1
    have hnc : ∀ y c, X.env.cells.lookup y = some c → c ≠ a := fun y c e => by
      obtain ⟨v, o, z, _⟩ := J.cell y c e
      exact notI z
    have S3 := J3.suite he3 hd3 na nL nF
    refine wpAny_handleBy_cons (codeAny_handlers_test ?_) (by intro q; cases q)
    have LT : PySem.W.Looks (model X.prog X.w) h3 (typeOf (.ref a)) cls := fun A Q E s k q => wpAny_typeOf_ref (k _ _ he3) (by rw [hz3.1]; exact q)
    have LM := PySem.W.exm_one (M := model X.prog X.w) (J3.kIn) LT hb1
    have test : ∀ {Q : Value → Shared → Prop} {E : Value → Shared → Prop}, Q c { s' with heap := h3 } → wpAny (model X.prog X.w) (X.A.mark (some (.ref a))) (eval (.Name x np) X.env) Q E { s' with heap := h3 } := fun {Q E} q => by
      obtain ⟨hg, hdbg, hm | ⟨hm, hv, hnn⟩⟩ := hc
      · exact ld_glob (X := X.suite a ((a, oe3) :: (X.pn ++ pins))) S3 hg hm q hdbg
      · exact ld_blt (X := X.suite a ((a, oe3) :: (X.pn ++ pins))) S3 hg hm hv q hnn hdbg
    refine test (LM.here ?_)
    cases b with
    | true =>
      refine codeAny_handlers_suite_as ?_
      refine HandSPX.lands_againZ fl3 fun h4 fl4 up4 => ?_
      have J4 : Inv X pins σ' H' { s' with heap := h4 } := J.landed nb fl4.1 ((up.trans up3).trans up4) os ag
      obtain ⟨oe4, vs4, he4, hz4, hd4⟩ := fl4.there
      have S4 := J4.suite he4 hd4 na nL nF
      refine store_ok (X := X.suite a ((a, oe4) :: (X.pn ++ pins))) (v := .ref a) S4 hN hi hloc rfl (fun s5 S5 => ?_) (.inr hln)
      refine wpAny_mono ((hsu a oe4 cls d (X.pn ++ pins) hz4 ⟨_, hd4⟩).run [] s5 _ H' _ S5 (hyes rfl a na)) (fun f s6 hsp => ?_) (fun _ _ z => False.elim z)
      have end_ : ∀ {σ6 : L2.St} {H6 : Hp} {Q : Shared → Prop}, Inv (X.suite a ((a, oe4) :: (X.pn ++ pins))) [] σ6 H6 s6 → (∀ s7, Inv X pins (σ6.set i none) (upd H6 a (exv a cls d)) s7 → Q s7) →
          wpAny (model X.prog X.w) X.A (do bindName X.env n .none; unbindBehindTheSuite X.env n pos') (fun _ s7 => Q s7) X.xe s6 := fun {σ6 H6 Q} S6 hq => by
        have T6 : Inv X ((a, oe4) :: pins) σ6 H6 s6 := ⟨ok, S6.os, S6.bare, S6.base, S6.loc, S6.cell, S6.free, S6.freeC, fun p hp => S6.pin p (by
          rw [List.append_nil]
          rcases List.mem_append.mp hp with z | z
          · exact List.mem_cons_of_mem _ (List.mem_append_left _ z)
          · rcases List.mem_cons.mp z with z | z
            · rw [z]; exact List.mem_cons_self
            · exact List.mem_cons_of_mem _ (List.mem_append_right _ z)), S6.hok, S6.len⟩
        refine gone_ok T6 hN hi hln fun s7 T7 => hq s7 ?_
        obtain ⟨y1, y2, _⟩ := T7.pin (a, oe4) (List.mem_append_right _ List.mem_cons_self)
        exact adopt (ClX.unpin T7) y2 h0 y1 hz4 hd4 hnp nL hnc
      cases f with
      | next =>
        obtain ⟨σ6, H6, S6, q6⟩ := hsp
        exact end_ S6 fun s7 J7 => ⟨_, _, J7, q6⟩
      | brk =>
        obtain ⟨σ6, H6, S6, q6⟩ := hsp
        exact end_ S6 fun s7 J7 => ⟨_, _, J7, q6⟩
      | cont =>
        obtain ⟨σ6, H6, S6, q6⟩ := hsp
        exact end_ S6 fun s7 J7 => ⟨_, _, J7, q6⟩
      | ret u =>
        obtain ⟨v6, σ6, H6, S6, r6, q6⟩ := hsp
        exact end_ S6 fun s7 J7 => ⟨_, _, _, J7, r6, q6⟩
    | false =>
      show wpAny _ X.A (handleBy (.ref a) X.env []) _ _ _
      refine wpAny_handleBy_nil ?_
      obtain ⟨k1, k2, k3, oe, vs, T, oT, ts', he, hz, hd, h1, hr⟩ := id fl3
      unfold PySem.passOn
      refine wpAny_bind (wpAny_field he hd h1 ?_)
      rw [if_neg (show ¬ ((Value.ref T == Value.none) = true) from by simp)]
      have fin : wpAny (model X.prog X.w) X.A (setFlight (.ref a) X.env.frame) (fun _ s4 => wpAny (model X.prog X.w) X.A (throw (.ref a) : Sem Flow) (SP X pins D) X.xe s4) X.xe { s' with heap := h3 } := by
        rw [hf]
        refine HandSPX.setFlight_upZ fl3 fun h4 hh4 up4 => wpAny_throw (tk _ _ ?_)
        exact ⟨a, B, sI, pins, σ', H', cls, d, rfl, J, nb, (up.trans up3).trans up4, .inr (.inr (by rw [hs]; exact hh4)), na, os, ag, hno rfl⟩
      first
        | exact wpAny_bind (wpAny_pure (wpAny_bind fin))
        | exact wpAny_bind fin
  · cases f with
    | next =>
      obtain ⟨σ', H', J', q⟩ := hsp
      exact wpAny_execs_nil ⟨σ', H', J'.ofTry ok, q⟩
    | brk =>
      obtain ⟨σ', H', J', q⟩ := hsp
      exact ⟨σ', H', J'.ofTry ok, q⟩
    | cont =>
      obtain ⟨σ', H', J', q⟩ := hsp
      exact ⟨σ', H', J'.ofTry ok, q⟩
    | ret u =>
      obtain ⟨v, σ', H', J', r, q⟩ := hsp
      exact ⟨v, σ', H', J'.ofTry ok, r, q⟩
end
end Uk

/-! UkS: repr of data with dicts within -/
namespace Uk
open PySem PySem.Spec PyProof.Rows L2 StX

def kD : Key → PyData
  | .inl i => .int i
  | .inr x => .str x
mutual
inductive Dq (K : PySem.W.Frag) (H : Hp) : V → PyData → Prop
  | non : Dq K H .non .none
  | bl (b : Bool) : Dq K H (.bl b) (.bool b)
  | int (i : Int) : Dq K H (.int i) (.int i)
  | str (x : Str) : Dq K H (.str x) (.str x)
  | lst {a : Addr} {xs : List V} {ds : List PyData} : H a = some (.lst xs) → DqAll K H xs ds → Dq K H (.ref a) (.list ds)
  | tup {a : Addr} {xs : List V} {ds : List PyData} : SqT K H a xs → DqAll K H xs ds → Dq K H (.ref a) (.tuple ds)
  | dct {a : Addr} {kvs : List (Key × V)} {ps : List (PyData × PyData)} : H a = some (.dK kvs) → DqKv K H kvs ps → Dq K H (.ref a) (.dict ps)
inductive DqAll (K : PySem.W.Frag) (H : Hp) : List V → List PyData → Prop
  | nil : DqAll K H [] []
  | cons {v : V} {vs : List V} {d : PyData} {ds : List PyData} : Dq K H v d → DqAll K H vs ds → DqAll K H (v :: vs) (d :: ds)
inductive DqKv (K : PySem.W.Frag) (H : Hp) : List (Key × V) → List (PyData × PyData) → Prop
  | nil : DqKv K H [] []
  | cons {k : Key} {v : V} {r : List (Key × V)} {d : PyData} {ps : List (PyData × PyData)} : Dq K H v d → DqKv K H r ps → DqKv K H ((k, v) :: r) ((kD k, d) :: ps)
end
section
variable {K : PySem.W.Frag} {H H' : Hp}
mutual
theorem dq_mono (e : Same H H') : ∀ {d : PyData} {v : V}, Dq K H v d → Dq K H' v d
  | .none, _, h => by cases h; exact .non
  | .bool b, _, h => by cases h; exact .bl b
  | .int i, _, h => by cases h; exact .int i
  | .str x, _, h => by cases h; exact .str x
  | .list ds, _, h => by
    cases h with
    | lst a r => exact .lst (e _ _ a) (dqAll_mono e r)
  | .tuple ds, _, h => by
    cases h with
    | tup a r => exact .tup (st_mono e a) (dqAll_mono e r)
  | .dict ps, _, h => by
    cases h with
    | dct a r => exact .dct (e _ _ a) (dqKv_mono e r)
theorem dqAll_mono (e : Same H H') : ∀ {ds : List PyData} {vs : List V}, DqAll K H vs ds → DqAll K H' vs ds
  | [], _, h => by cases h; exact .nil
  | d :: ds, _, h => by
    cases h with
    | cons a r => exact .cons (dq_mono e a) (dqAll_mono e r)
theorem dqKv_mono (e : Same H H') : ∀ {ps : List (PyData × PyData)} {kvs : List (Key × V)}, DqKv K H kvs ps → DqKv K H' kvs ps
  | [], _, h => by cases h; exact .nil
  | p :: ps, _, h => by
    cases h with
    | cons a r => exact .cons (dq_mono e a) (dqKv_mono e r)
end
end
section
variable {X : Cx} {pins : List (Addr × Obj)} {σ : L2.St} {H : Hp} {s : Shared}
/-- what stands in the ground is tracked by nobody -/
theorem untracked {b : Addr} {o : Obj} (I : Inv X pins σ H s) (h : X.base.get? b = some o) : H b = none := by
  have z := I.ok.bs b o h
  exact I.base.free b o z.1 z.2 (I.ok.noex b o h)
theorem ne_sys {a : Addr} {u : HO} (hB : ∃ o, X.base.get? sysModules = some o) (I : Inv X pins σ H s) (h : H a = some u) : a ≠ sysModules := fun z => by
  obtain ⟨o, e⟩ := hB
  rw [z, untracked I e] at h
  cases h
mutual
theorem dq_reads (hB : ∃ o, X.base.get? sysModules = some o) (I : Inv X pins σ H s) : ∀ (d : PyData) (v : V) (u : Value), Dq X.K H v d → RelV v u → ∃ as, Reads s.heap u d as ∧ sysModules ∉ as
  | .none, _, _, h, r => by
    cases h
    cases r
    exact ⟨_, Reads.none, by simp⟩
  | .bool b, _, _, h, r => by
    cases h
    cases r
    exact ⟨_, Reads.bool b, by simp⟩
  | .int i, _, _, h, r => by
    cases h
    obtain ⟨t, rfl⟩ := r
    exact ⟨_, Reads.int i t, by simp⟩
  | .str x, _, _, h, r => by
    cases h
    obtain ⟨t, rfl⟩ := r
    exact ⟨_, Reads.str x t, by simp⟩
  | .list ds, _, _, h, r => by
    cases h with
    | lst hs ha =>
      cases r
      obtain ⟨its, rv, ⟨o, n, ho, hc, _, hd⟩, _⟩ := I.list (SqL.of hs)
      obtain ⟨as, hr, hn⟩ := dqAll_reads hB I ds _ its ha rv
      exact ⟨_, Reads.list ho hc hd hr, fun z => (List.mem_cons.mp z).elim (fun e => ne_sys hB I hs e.symm) hn⟩
  | .tuple ds, _, _, h, r => by
    cases h with
    | tup hs ha =>
      cases r
      obtain ⟨its, rv, ⟨o, ho, hc, n, hd⟩, _⟩ := I.tuple hs
      obtain ⟨as, hr, hn⟩ := dqAll_reads hB I ds _ its ha rv
      exact ⟨_, Reads.tuple ho hc hd hr, hn⟩
  | .dict ps, _, _, h, r => by
    cases h with
    | dct hs ha =>
      cases r
      obtain ⟨_, hne, vs, kv, o, es, ep, ho, hx, hd, _, hp, _⟩ := dk_of I.hok hs
      obtain ⟨as, bs, r1, r2, n1, n2⟩ := dqKv_reads hB I ps _ vs es.toList ha kv hp
      refine ⟨_, Reads.dict ho hx.1 hd r1 r2, fun z => ?_⟩
      rcases List.mem_append.mp z with z | z
      · rcases List.mem_cons.mp z with z | z
        · exact (beq_eq_false_iff_ne.mp hne) z.symm
        · exact n1 z
      · exact n2 z
theorem dqAll_reads (hB : ∃ o, X.base.get? sysModules = some o) (I : Inv X pins σ H s) : ∀ (ds : List PyData) (vs : List V) (us : List Value), DqAll X.K H vs ds → Vals vs us → ∃ as, ReadsAll s.heap us ds as ∧ sysModules ∉ as
  | [], _, _, h, r => by
    cases h
    cases r
    exact ⟨_, ReadsAll.nil, by simp⟩
  | d :: ds, _, _, h, r => by
    cases h with
    | cons h1 h2 =>
      cases r with
      | cons r1 r2 =>
        obtain ⟨as, q1, n1⟩ := dq_reads hB I d _ _ h1 r1
        obtain ⟨bs, q2, n2⟩ := dqAll_reads hB I ds _ _ h2 r2
        exact ⟨_, ReadsAll.cons q1 q2, fun z => (List.mem_append.mp z).elim n1 n2⟩
theorem dqKv_reads (hB : ∃ o, X.base.get? sysModules = some o) (I : Inv X pins σ H s) : ∀ (ps : List (PyData × PyData)) (kvs : List (Key × V)) (vs : List (Key × Value)) (es : List DictEntry), DqKv X.K H kvs ps → KV kvs vs → Pairs (mixKind X.prog X.w) es vs →
    ∃ as bs, ReadsAll s.heap (es.map (·.key)) (ps.map (·.1)) as ∧ ReadsAll s.heap (es.map (·.val)) (ps.map (·.2)) bs ∧ sysModules ∉ as ∧ sysModules ∉ bs
  | [], _, _, _, h, r, p => by
    cases h
    cases r
    cases p
    exact ⟨_, _, ReadsAll.nil, ReadsAll.nil, by simp, by simp⟩
  | q :: ps, _, _, _, h, r, p => by
    cases h with
    | cons h1 h2 =>
      cases r with
      | cons r1 r2 =>
        cases p with
        | cons p1 p2 p3 =>
          obtain ⟨as, bs, x1, x2, n1, n2⟩ := dqKv_reads hB I ps _ _ _ h2 r2 p3
          obtain ⟨cs, y, n3⟩ := dq_reads hB I _ _ _ h1 (by rw [← p2] at r1; exact r1.2)
          have hk := r1.1
          refine ⟨[] ++ as, cs ++ bs, ReadsAll.cons ?_ x1, ReadsAll.cons y x2, by simpa using n1, fun z => (List.mem_append.mp z).elim n3 n2⟩
          rcases keyIs_shape (k := _) (v := _) p1 with ⟨i, t, e1, e2⟩ | ⟨x, t, e1, e2⟩
          · dsimp only at hk ⊢
            rw [hk, e1, e2]
            exact Reads.int i t
          · dsimp only at hk ⊢
            rw [hk, e1, e2]
            exact Reads.str x t
end
end
def rReprQ (K : PySem.W.Frag) : List V → Hp → VK → Prop := fun xs H Q => ∃ v d, xs = [v] ∧ Dq K H v d ∧ Shw d ∧ Q (.str d.shown) H
theorem call_reprQ {X : Cx} (hB : ∃ o, X.base.get? sysModules = some o) (hg : X.A.guards = some []) (hu : X.A.units + 64 < cLine) : CallR X (.builtin "repr") (rReprQ X.K) := by
  intro pins s σ H xs us Q I r h
  obtain ⟨v, d, rfl, hd, ⟨h1, h2, h3⟩, q⟩ := h
  obtain ⟨u, rfl, rv⟩ := vals1 r
  have refs : ∀ {a : Addr}, v = .ref a → wpAny (model X.prog X.w) X.A (call (.builtin "repr") [u]) (EP X pins σ Q) X.xe s := fun {a} e => by
    obtain ⟨as, rd, no⟩ := dq_reads hB I _ _ u hd rv
    subst e
    obtain rfl : u = Value.ref a := rv
    exact repr_of_reads' rd h1 (fun _ => no) hg (by omega) (fun _ _ z => z) (fun h' u tk k => ⟨.str _, H, I.kept k, ⟨_, rfl⟩, q⟩) h2
  cases hd with
  | non => cases (show u = Value.none from rv); exact PySem.P.repr_of_none ⟨.str _, H, I.tok _, ⟨_, rfl⟩, q⟩
  | bl b =>
    cases (show u = Value.bool b from rv)
    refine PySem.P.repr_of_bool ⟨.str _, H, I.tok _, ⟨_, rfl⟩, ?_⟩
    cases b <;> exact q
  | int i =>
    obtain ⟨t, rfl⟩ := (show ∃ t, u = Value.int i t from rv)
    exact PySem.P.repr_of_int (of_decide_eq_true h1) ⟨.str _, H, I.tok _, ⟨_, rfl⟩, q⟩
  | str x =>
    obtain ⟨t, rfl⟩ := (show ∃ t, u = Value.str x t from rv)
    exact PySem.P.repr_of_str ⟨.str _, H, I.tok _, ⟨_, rfl⟩, q⟩ h2
  | lst a r => exact refs rfl
  | tup a r => exact refs rfl
  | dct a r => exact refs rfl
end Uk

/-! UkT: calls by keywords of defs that say super(), of own exceptions -/
namespace Uk
namespace Kx
open PySem
section
variable {M : Model} {A : Around} {E : Value → Shared → Prop} {h : Heap} {g : Array GenState} {d : Drawn} {t : Nat} {os : OsState}
variable {nm q : Str} {C N : Addr} {bs bm bmB : List Value} {hdct : Bool} {sn : List Str} {sub : List Value} {ab : Bool} {col : Option Bool} {dd : Option Addr} {k0 k1 k2 k3 k5 : Option Value} {B newId initId : String}
theorem kx_check_new (F : ExcBaseFacts B newId initId bmB) (hT : ∀ X : String, bm.contains (.type X) = bmB.contains (.type X)) {rest : List Value} {kw : List (Str × Value)} {Q : Unit → Shared → Prop}
    (hC : h.get? C = some (excClassObj nm q C N bs bm hdct sn sub ab col dd k0 k1 k2 k3 k5 newId)) (hq : Q () ⟨h, g, d, t, os⟩) : wpAny M A (checkBuiltinCall newId ⟨.ref C :: rest, kw⟩) Q E ⟨h, g, d, t, os⟩ := by
  have hcont : (Value.ref C :: bm).contains (.type B) = true := by rw [List.contains_cons, hT, F.hasB, Bool.or_true]
  have hstar := F.noStar
  simp only [checkBuiltinCall, F.newKind, F.newSplit, F.newRow]
  repeat (first | refine wpAny_loadPart_at hC ?_ | (refine wpAny_isSubtype_exc hC ?_; rw [hcont]) | refine wpAny_staticBase_exc hC ?_ | refine wpAny_madeBy_exc hC ?_ | simp only [bne_self_eq_false, Bool.false_eq_true, if_false] | wp_step)
  exact hq
end
section
variable {prog : Program} {w : World} {A : Around} {E : Value → Shared → Prop} {R : Result → Shared → Prop} {h : Heap} {g : Array GenState} {d : Drawn} {t : Nat} {os : OsState}
variable {nm q : Str} {C N : Addr} {bs bm bmB : List Value} {hdct : Bool} {sn : List Str} {sub : List Value} {ab : Bool} {col : Option Bool} {dd : Option Addr} {k0 k1 k2 k3 k5 : Option Value} {B newId initId : String}
theorem kx_new (F : ExcBaseFacts B newId initId bmB) (hT : ∀ X : String, bm.contains (.type X) = bmB.contains (.type X)) {rest : List Value} {kw : List (Str × Value)}
    (hC : h.get? C = some (excClassObj nm q C N bs bm hdct sn sub ab col dd k0 k1 k2 k3 k5 newId))
    (hq : R (.ok (.ret (.ref (h.objs.size + 1)))) ⟨(h.push { cls := .type "tuple", data := .seq rest.toArray }).push
      { cls := .ref C, data := .fields #[.ref h.objs.size, .none, .none, .none, .bool false, .none] }, g, d, t, os⟩) (hrest : rest.length ≤ sizeLine) :
    codeAny (model prog w) A (.builtin newId ⟨.ref C :: rest, kw⟩) R ⟨h, g, d, t, os⟩ := by
  have hends := F.ends
  have hcB : (Value.ref C :: bm).contains (.type B) = true := by rw [List.contains_cons, hT, F.hasB, Bool.or_true]
  have hcA : (Value.ref C :: bm).contains (.type "AttributeError") = false := by rw [List.contains_cons, hT, F.noAttr]; rfl
  have hcN : (Value.ref C :: bm).contains (.type "NameError") = false := by rw [List.contains_cons, hT, F.noName]; rfl
  refine codeAny_builtinAt F.entry ?_
  unfold Builtin.«BaseException.__new__»
  refine wpAt_bind ?_
  show wpAt _ _ _ (stack >>= _) _ _ _
  refine wpAt_bind (wpAt_stack fun p below => wpAt_of_wpAny ?_)
  wp_walk
  refine wpAt_of_wpAny ?_
  rw [F.owner]
  repeat (first | with_reducible refine wpAny_madeHere_exc F.canon hC ?_ | with_reducible refine wpAny_loadPart_at hC ?_ | (with_reducible refine wpAny_isSubtype_exc hC ?_; first | rw [hcB] | rw [hcA] | rw [hcN]) | wp_step)
  show R _ _
  rw [Heap.size_push]
  exact hq
theorem kx_type (F : ExcBaseFacts B newId initId bmB) (hT : ∀ X : String, bm.contains (.type X) = bmB.contains (.type X)) {rest : List Value} {kw : List (Str × Value)} {fI : Addr} {Q : Fin → Shared → Prop}
    (hC : h.get? C = some (excClassObj nm q C N bs bm hdct sn sub ab col dd k0 k1 k2 k3 k5 newId))
    (hi : W.Looks (model prog w) h (typeLookup (.ref C) "__init__") (some (.ref fI))) (hb : ∀ self, W.Looks (model prog w) h (bindSpecial (.ref fI) self) (.ref fI, [self])) (hrest : rest.length ≤ sizeLine)
    (hq : codeAny (model prog w) A (.call (.ref fI) ⟨.ref (h.objs.size + 1) :: rest, kw⟩)
      (fun r s' => match r with | .ok (.ret v) => v = .none ∧ Q (.done (.ret (.ref (h.objs.size + 1)))) s' | .ok _ => False | .error e => E e s')
      ⟨(h.push (W.kdv_tup rest)).push (HandSPX.excO C h.objs.size), g, d, t, os⟩) :
    wpAny (model prog w) A (Builtin.«type.__call__» ⟨.ref C :: rest, kw⟩) Q E ⟨h, g, d, t, os⟩ := by
  repeat (first | with_reducible refine wpAny_loadPart_at hC ?_ | with_reducible refine wpAny_madeBy_exc hC ?_ | wp_step)
  refine codeAny_call_builtin_code (Code.quiet_builtin _ F.quiet) (kx_check_new F hT hC ?_)
  refine kx_new F hT hC ?_ hrest
  show wpAny _ _ _ _ _ _
  have k : ∀ b o, h.get? b = some o → ((h.push (W.kdv_tup rest)).push (HandSPX.excO C h.objs.size)).get? b = some o := fun b o e => Heap.get?_push_of_some _ (Heap.get?_push_of_some _ e)
  have hC₁ := k _ _ hC
  have hget : ((h.push (W.kdv_tup rest)).push (HandSPX.excO C h.objs.size)).get? (h.objs.size + 1) = some (HandSPX.excO C h.objs.size) := by heap_get
  have hcC : (Value.ref C :: bm).contains (.ref C) = true := by simp
  have i1 := hi.keeps k
  have b1 := (hb (.ref (h.objs.size + 1))).keeps k
  unfold isInstance
  repeat (first | with_reducible refine wpAny_loadPart_at hget ?_ | (with_reducible refine wpAny_isSubtype_exc hC₁ ?_; rw [hcC]) | wp_step)
  show wpAny _ _ (typeLookup (.ref C) _) _ _ _
  refine i1.at ?_
  refine wpAny_holding (wpAny_bind (b1.at ?_))
  refine wpAny_bind (wpAny_call (codeAny_mono hq fun r s' z => ?_))
  rcases r with e | (v | _ | _ | _) <;> first | exact z | exact z.elim | skip
  obtain ⟨rfl, z⟩ := z
  first
    | exact wpAny_pure (wpAny_pure z)
    | (wp_walk; exact z)
theorem kx_call (F : ExcBaseFacts B newId initId bmB) (hT : ∀ X : String, bm.contains (.type X) = bmB.contains (.type X)) {rest : List Value} {kw : List (Str × Value)} {fI : Addr}
    (hC : h.get? C = some (excClassObj nm q C N bs bm hdct sn sub ab col dd k0 k1 k2 k3 k5 newId))
    (hi : W.Looks (model prog w) h (typeLookup (.ref C) "__init__") (some (.ref fI))) (hb : ∀ self, W.Looks (model prog w) h (bindSpecial (.ref fI) self) (.ref fI, [self])) (hrest : rest.length ≤ sizeLine)
    (hq : codeAny (model prog w) (A.under (.builtin "type.__call__" ⟨.ref C :: rest, kw⟩)) (.call (.ref fI) ⟨.ref (h.objs.size + 1) :: rest, kw⟩) (W.InitBack (h.objs.size + 1) R)
      ⟨(h.push (W.kdv_tup rest)).push (HandSPX.excO C h.objs.size), g, d, t, os⟩) :
    codeAny (model prog w) A (.call (.ref C) ⟨rest, kw⟩) R ⟨h, g, d, t, os⟩ := by
  have f1 := tc_lookup
  have f2 := tc_bind (.ref C)
  have hTy : (⟨h, g, d, t, os⟩ : Shared).TypeIs (.ref C) "type" := ⟨_, hC, rfl⟩
  have typ : W.Looks (model prog w) h (isInstance (.ref C) (.type "type")) true := by
    have t1 : W.Looks (model prog w) h (typeOf (.ref C)) (.type "type") := (W.Looks.ld hC).andThen .now
    exact t1.andThen (W.Looks.of_pure tc_sub)
  refine codeAny_of_tree ?_
  show wpAny _ _ (callAny (.ref C) _) _ _ _
  repeat (any_goals (first | assumption | with_reducible refine wpAny_loadPart_at hC ?_ | wp_step))
  refine ⟨rfl, ?_⟩
  refine codeAny_call_builtin_at (Code.quiet_builtin _ (by decide +kernel)) entry_typeCall (W.check_slot tc_kind tc_split typ (W.tc_args _ _ _) (kx_type F hT hC hi hb hrest ?_))
  refine codeAny_mono hq fun r s' z => ?_
  rcases r with e | (v | _ | _ | _) <;> exact z
end
end Kx
end Uk
namespace Uk
open PySem PySem.Spec PyProof.Rows L2 StX
/-- self by its place, all others by these names -/
def kwd (ks : List Str) (sp : Sp) : SpK := fun vs zs H Q E => vs.length = 1 ∧ zs.map (·.1) = ks ∧ sp (vs ++ zs.map (·.2)) H Q E
theorem kvs_split : ∀ {zs : List (Str × V)} {kws : List (Str × Value)}, KVs zs kws → kws = (zs.map (·.1)).zip (kws.map (·.2)) ∧ Vals (zs.map (·.2)) (kws.map (·.2))
  | _, _, .nil => ⟨rfl, .nil⟩
  | _, _, .cons (a := p) (b := q) h r => by
    obtain ⟨e, v⟩ := kvs_split r
    refine ⟨?_, .cons h.2 v⟩
    rw [List.map_cons, List.map_cons, List.zip_cons_cons, ← e, h.1]
/-- a def that says super(), called by keywords -/
theorem def_SK {P : Program} {w : World} {K : PySem.W.Frag} {mg : Str → Option Value} {base : Heap} {N ps ks : List Str} {qual x : Str} {st : Stmt} {f cc cda D : Addr} {k : Nat} {sp : Sp} (F : FunS K x qual st f cc cda D) (S : ScopeS N ps (defScope st)) (hlen : ps.length = 1 + ks.length)
    (hb : ∀ (kV doc pm : Value) (an : Option Addr) (ct : Value) (us ws : List Value), us.length = 1 → ws.length = ks.length → bindArgs (PySem.W.ksFn x qual (defArgs st) (defBody st) (defScope st) .none kV doc pm an (.ref cda) ct cc) ⟨us, ks.zip ws⟩ = pure (ps.zip (us ++ ws)))
    (hbody : ∀ (A : Around) (outer : List Env) (s : Shared) (H : Hp) (vs : List V) (Q : VK) (E : XK), Room k (A.deeper (envS qual (defScope st) s.heap.objs.size f (.ref cda) cc)) → A.guards = some [] → sp vs H Q E →
      ∃ t, PSst (cxS P w K mg base N qual (defScope st) f (.ref cda) cc A outer s H E) (.func (defBody st) (envS qual (defScope st) s.heap.objs.size f (.ref cda) cc)) (defBody st) t ∧ t { nx := fun _ H' => Q .non H', rt := Q } (L2.start N vs) H) :
    CallG P w K mg base (k + 1) (.ref f) (kwd ks sp) := by
  obtain ⟨oc, od, kV, doc, pm, an, ct, osl, lk, hcd⟩ := F.ex
  rintro A outer s H us kws vs zs Q E hr hg e0 r rk ⟨h1, hks, hsp⟩
  obtain ⟨ek, rz⟩ := kvs_split rk
  rw [hks] at ek
  have r2 := r.append rz
  have hu : us.length = 1 := r.length.symm.trans h1
  have hz : (kws.map (·.2)).length = ks.length := by rw [← hks, List.length_map, List.length_map]; exact (Paired.length rk).symm
  have hl : (vs ++ zs.map (·.2)).length = ps.length := by rw [hlen, List.length_append, h1, ← hks, List.length_map, List.length_map]
  have KX : K.In s.heap := Env0.kIn e0
  have lim : s.heap.NoLimit := e0.mod.nolimit.keeps fun b o e => (e0.bs b o e).1
  rw [ek]
  refine ks_codeAny_call_defAt (fd := PySem.W.ksFn x qual (defArgs st) (defBody st) (defScope st) .none kV doc pm an (.ref cda) ct cc) (body := defBody st) (binds := ps.zip (us ++ kws.map (·.2))) hr.depth (KX _ _ lk) rfl lim (PySem.W.codeRec_of KX hcd) rfl (BindsTo.of_eq (hb kV doc pm an ct us (kws.map (·.2)) hu hz))
    S.nocell (fun y hy => S.par y.1 (List.of_mem_zip hy).1) (fun h1 hns hk => ?_) S.co S.gen S.kind
  obtain ⟨t, ht, hq⟩ := hbody A outer s H _ Q E (hr.deeper _) hg hsp
  have I := inv_S (P := P) (w := w) (mg := mg) (N := N) (qual := qual) (f := f) (cd := .ref cda) (outer := outer) (E := E) (n := (ps.zip (us ++ kws.map (·.2))).length) S hr.hd e0 hl r2 F.cell hns hk
  refine ks_wpAt_mono (ht.run [] _ _ _ _ I hq) (fun fl s' hs => ?_) fun e s' hs => hs
  have fin : ∀ {σ' : L2.St} {H' : Hp} {v : V} {u : Value}, Inv (cxS P w K mg base N qual (defScope st) f (.ref cda) cc A outer s H E) [] σ' H' s' → RelV v u → Q v H' → CE outer P w H s Q u s' :=
    fun {σ' H' v u} J rv q => ⟨v, H', J.os, J.bare, J.base, J.hok, rv, q⟩
  cases fl with
  | ret u =>
    obtain ⟨v, σ', H', J, rv, q⟩ := hs
    exact fin J rv q
  | next =>
    obtain ⟨σ', H', J, q⟩ := hs
    exact fin (v := V.non) (u := Value.none) J rfl q
  | brk =>
    obtain ⟨_, _, _, q⟩ := hs
    exact q.elim
  | cont =>
    obtain ⟨_, _, _, q⟩ := hs
    exact q.elim
section
variable {X : Cx} {W : WX} {k : Nat} {C f : Addr} {ns : List Str} {pins : List (Addr × Obj)} {σ : L2.St} {H : Hp} {s : Shared} {Q : VK}
theorem under_guardsK {A : Around} {C : Addr} {us : List Value} {kw : List (Str × Value)} (h : A.guards = some []) : (A.under (.builtin "type.__call__" ⟨.ref C :: us, kw⟩)).guards = some [] := under_guards h
theorem vals_kvs : ∀ {ns : List Str} {vs : List V} {ws : List Value}, Vals vs ws → KVs (ns.zip vs) (ns.zip ws)
  | [], _, _, _ => by simpa using Paired.nil
  | _ :: _, _, _, .nil => .nil
  | n :: ns, _, _, .cons h r => .cons ⟨rfl, h⟩ (vals_kvs r)
/-- C(k = e, ..), kept as a value -/
theorem pe_mkXk {x : Str} {p qs : Pos} {kws : List Keyword} {t : TA} (tk : Takes X W) (M : MkE X.K C f) (F : CallG X.prog X.w X.K X.mg X.base k (.ref f) (kwd ns (spInit C ns))) (hr : Room (k + 1) X.A) (hg : X.A.guards = some []) (kC : PySem.W.keepIn X.K (.ref C) = true) (hx : Gl X x) (hm : X.mg x = some (.ref C)) (ha : PK X kws t) (hl : ns.length ≤ 1000)
    (hall : (backToKw qs (keywordEach kws X.env)).all (·.1.isSome) = true := by rfl) (hks : (backToKw qs (keywordEach kws X.env)).filterMap (·.1) = ns := by rfl)
    (hdb : (x == ("__debug__" : Str)) = false := by decide) (hpl : ((backTo qs (starEach [] X.env)).any (·.1) || (backToKw qs (keywordEach kws X.env)).any (·.1.isNone)) = false := by rfl) :
    PE X (.Call (.Name x p) [] kws qs) (tMkX C ns t) := by
  refine ⟨fun pins s σ H Q I h => ?_⟩
  refine wpAny_Call_Name_kw (ld_glob I hx hm ?_ hdb)
  refine PySem.W.callWith_KW0 (h₀ := X.base) I.ok.mod.kin kC hall (thn (ha.run qs pins s σ H _ I h) fun ws s1 ⟨vs, H1, I1, r, hv, q⟩ => ⟨I1.kIn, ?_⟩) hpl
  rw [hks]
  obtain ⟨nm, q0, N, bs, bm, sn, sub, ab, col, dd, k0, k1, k2, k3, k5, hC, hbm⟩ := M.T.cls
  obtain ⟨hp, g, dr, tk', os⟩ := s1
  have hsz : hp.objs.size ≤ hp.objs.size + 1 := Nat.le_succ _
  have hn : H1 (hp.objs.size + 1) = none := I1.hok.fresh hsz
  have kk : ∀ b o, hp.get? b = some o → ((hp.push (PySem.W.kdv_tup [])).push (PySem.HandSPX.excO C hp.objs.size)).get? b = some o := fun b o e => Heap.get?_push_of_some _ (Heap.get?_push_of_some _ e)
  have hget : ((hp.push (PySem.W.kdv_tup [])).push (PySem.HandSPX.excO C hp.objs.size)).get? (hp.objs.size + 1) = some (PySem.HandSPX.excO C hp.objs.size) := by heap_get
  have I2 : Inv X pins σ (upd H1 (hp.objs.size + 1) (exo (hp.objs.size + 1) C none)) ⟨(hp.push (PySem.W.kdv_tup [])).push (PySem.HandSPX.excO C hp.objs.size), g, dr, tk', os⟩ :=
    I1.laid (t' := tk') (a := hp.objs.size + 1) (o := exo (hp.objs.size + 1) C none) (h' := (hp.push (PySem.W.kdv_tup [])).push (PySem.HandSPX.excO C hp.objs.size)) kk hsz (exo_ok hget)
  have lz : vs.length = ns.length := hv
  have ez : (ns.zip vs).map (·.1) = ns := by rw [List.map_fst_zip]; omega
  have ey : (ns.zip vs).map (·.2) = vs := by rw [List.map_snd_zip]; omega
  show wpAny _ _ (call (.ref C) [] (ns.zip ws)) _ _ _
  refine wpAny_call (Kx.kx_call PySem.F.excBase_ValueError (fun Y => PySem.HandSPX.refsVE_contains Y bm hbm) (I1.kIn _ _ hC) (PySem.W.looks_findIn I1.kIn M.init) (fun self => PySem.W.bind_fn I1.kIn self M.fn) (Nat.zero_le _)
    (codeAny_mono (F _ X.stack _ _ [Value.ref (hp.objs.size + 1)] (ns.zip ws) [V.ref (hp.objs.size + 1)] (ns.zip vs)
      (fun v H2 => v = .non ∧ ∃ d, H2 = exmk (upd H1 (hp.objs.size + 1) (exo (hp.objs.size + 1) C none)) (hp.objs.size + 1) C d (ns.zip vs).reverse ∧ H1 d = none ∧ d ≠ hp.objs.size + 1 ∧ Q (.ref (hp.objs.size + 1)) (exF H1 (hp.objs.size + 1) C d (ns.zip vs).reverse))
      (WE W σ) (hr.make C [] (ns.zip ws)) (under_guardsK hg) (I2.env0.make C [] (ns.zip ws)) (.cons rfl .nil) (vals_kvs r) ⟨rfl, ez, ?_⟩) fun r s' hq' => ?_))
  · rw [ey]
    refine ⟨_, vs, rfl, hv, upd_same, fun dx hdx hne => ?_⟩
    rw [upd_ne hne] at hdx
    exact ⟨rfl, dx, rfl, hdx, hne, q dx _ hdx (by rw [upd_ne (Ne.symm hne)]; exact hn)⟩
  cases r with
  | error er => exact passAt tk σ pins _ _ er s' I2 hq'
  | ok fl =>
    cases fl with
    | ret u =>
      obtain ⟨v, H2, os2, bare2, un2, hok2, rv, ev, d, e2, ed, hne, q'⟩ := hq'
      subst ev
      refine ⟨rv, ?_⟩
      have J : Inv X pins σ H2 s' := by
        obtain ⟨hp', g', dr', tk2, os'⟩ := s'
        have e2 : os' = os := os2
        subst e2
        exact I2.call (ch := []) un2 hok2 bare2 (fun b z => absurd z (by simp))
      subst e2
      exact ⟨.ref (hp.objs.size + 1), _, exc_known J ed hne, rfl, q'⟩
    | next => exact False.elim hq'
    | brk => exact False.elim hq'
    | cont => exact False.elim hq'
/-- C() of one without arguments -/
def tMkX0 (C : Addr) : TE := fun _ H Q => ∀ a, H a = none → Q (.ref a) (upd H a (exv a (.ref C) none))
theorem pe_mkX0 {x : Str} {p qs : Pos} (tk : Takes X W) (M : MkE X.K C f) (F : CallG X.prog X.w X.K X.mg X.base k (.ref f) (pos (spInit0 C))) (hr : Room (k + 1) X.A) (hg : X.A.guards = some []) (kC : PySem.W.keepIn X.K (.ref C) = true) (hx : Gl X x) (hm : X.mg x = some (.ref C))
    (hdb : (x == ("__debug__" : Str)) = false := by decide) : PE X (.Call (.Name x p) [] [] qs) (tMkX0 C) := by
  refine ⟨fun pins s σ H Q I h => ?_⟩
  refine wpAny_Call_Name_kw (ld_glob I hx hm ?_ hdb)
  refine PySem.W.callWith_K0 I.kIn kC ?_
  refine run_makeE (us := []) (vs := []) (R := fun a v H2 => v = .non ∧ H2 = upd H a (exo a C none) ∧ Q (.ref a) (upd H a (exv a (.ref C) none))) tk M F hr hg I .nil (Nat.zero_le _) (fun a ea => ⟨a, rfl, upd_same, rfl, rfl, h a ea⟩) (fun a s' H2 hp hp2 eh hsz kk un hok eos hb J ev => ?_) fun a v H2 z => z.1
  obtain ⟨_, e2, q'⟩ := ev
  subst e2
  obtain ⟨t1, ho⟩ := exo_at J.hok (upd_same (H := H) (a := a) (o := exo a C none))
  obtain ⟨hp', g', dr', tk2, os'⟩ := s'
  have J2 := J.write (t' := tk2) (h' := hp') (x := a) (e := a) (o := exv a (.ref C) none) (by rw [upd_same]; exact True.intro) (.inl rfl) (fun b u _ z => z) ⟨_, ho⟩ (exv_ok ho ⟨rfl, rfl⟩ rfl)
  rw [upd_upd] at J2
  exact ⟨.ref a, _, J2, rfl, q'⟩
end
end Uk

/-! UkU: the end, where the ground is known to hold sys.modules -/
namespace Uk
open PySem PySem.Spec PyProof.Rows L2 StX
section
variable {P : Program} {w : World} {K : PySem.W.Frag} {mg mb : Str → Option Value} {k : Nat} {fa a : Addr} {sp : Sp} {s₁ : Shared} {vs : List Value} {ns : List Int}
theorem endGB (KX : K.In s₁.heap) (hns : s₁.heap.Ns mainGlobals mg) (hsys : ∃ m, s₁.heap.Ns sysModules m) (hb : s₁.heap.Ns builtinsNs mb) (hbb : ∀ x : Str, x ≠ "__name__" → mb x = bootBuiltins x) (hlim : s₁.heap.NoLimit) (hgen : s₁.gens = #[])
    (isList : ∃ its, s₁.heap.get? a = some { cls := .type "list", data := .seq its }) (hr : Room k callerA) (F : ∀ base : Heap, Mod K mg base → (∃ o, base.get? sysModules = some o) → CallG P w K mg base k (.ref fa) (pos sp)) {H : Hp} (T : OneFrz P w K s₁.heap a H)
    (law : sp [.ref a] H (fun v _ => v = .bl true) NoE) :
    codeAny (model P w) callerA (.call (.ref fa) ⟨[.ref a], []⟩) (fun r s' => r = .ok (.ret (.bool true)) ∧ OldK s₁.heap s'.heap ∧ s'.os = s₁.os ∧ AllBare s'.gens) s₁ := by
  obtain ⟨its, hlist⟩ := isList
  have clear : ∀ {b : Addr} {o : Obj}, s₁.heap.get? b = some o → (b = a → K.lookup a = none → False) → (hidT s₁.heap H).get? b = some o := fun {b o} e no => hidT_get e (by
    rcases T.one b with z | ⟨eb, ob, ys, z⟩
    · exact z
    · refine (no eb (T.free fun q => ?_)).elim
      rw [← eb, z] at q
      cases q)
  have names : ∀ {b : Addr} {m : Str → Option Value}, s₁.heap.Ns b m → (hidT s₁.heap H).Ns b m := fun {b m} ⟨o, es, ep, e, d, r⟩ => by
    refine ⟨o, es, ep, clear e (fun eb _ => ?_), d, r⟩
    rw [eb, hlist] at e
    cases e
    cases d
  have kIn : K.In (hidT s₁.heap H) := fun b o e => clear (KX b o e) fun eb kn => by
    rw [eb, kn] at e
    cases e
  have M : Mod K mg (hidT s₁.heap H) := ⟨kIn, names hns, ⟨mb, names hb, hbb⟩, hlim.elim fun mc z => ⟨mc, names z.1, z.2⟩⟩
  have env : Env0 P w K mg (hidT s₁.heap H) callerA [] s₁ H := ⟨rfl, M, fun _ _ => of_hidT, Nat.le_of_eq (hidT_size _ _), trivial, (fun b z => nomatch (show b ∈ ([] : List Addr) from z)), T.hok, .of_eq hgen⟩
  have hB : ∃ o, (hidT s₁.heap H).get? sysModules = some o := by
    obtain ⟨m, z⟩ := hsys
    obtain ⟨o, _, _, e, _⟩ := names z
    exact ⟨o, e⟩
  refine codeAny_mono (F _ M hB callerA [] s₁ H [.ref a] [] [.ref a] [] (fun v _ => v = .bl true) NoE hr rfl env (.cons rfl .nil) .nil ⟨rfl, law⟩) fun r s' got => ?_
  rcases r with e | fl
  · exact (cx_no got).elim
  · cases fl
    case ret u =>
      obtain ⟨v, H', os, bare, un, hok', rv, hv⟩ := got
      cases (show v = .bl true from hv)
      cases (show u = Value.bool true from rv)
      refine ⟨rfl, .of_keep fun b o e => ?_, os, bare⟩
      obtain z | ⟨_, ob, ys, z⟩ := T.one b
      · exact un.keep b o e z (fun i => nomatch (show b ∈ ([] : List Addr) from i)) (fun i => nomatch i)
      · have same := (T.hok b _ z).1
        rw [e] at same
        cases same
        exact (hok' b _ (un.frzs b _ _ z)).1
    all_goals exact got.elim
/-- the law's call, by the promise of its def -/
theorem lawGB (KX : K.In s₁.heap) (hns : s₁.heap.Ns mainGlobals mg) (hsys : ∃ m, s₁.heap.Ns sysModules m) (hb : s₁.heap.Ns builtinsNs mb) (hbb : ∀ x : Str, x ≠ "__name__" → mb x = bootBuiltins x) (hlim : s₁.heap.NoLimit) (hgen : s₁.gens = #[])
    (ha : s₁.heap.get? a = some { cls := .type "list", data := .seq vs.toArray }) (hi : IntsAre vs ns) (hl : ns.length ≤ sizeLine) (hr : Room k callerA) (F : ∀ base : Heap, Mod K mg base → (∃ o, base.get? sysModules = some o) → CallG P w K mg base k (.ref fa) (pos sp))
    (law : ∀ H : Hp, SqL K H a (ns.map V.int) → sp [.ref a] H (fun v _ => v = .bl true) NoE) :
    codeAny (model P w) callerA (.call (.ref fa) ⟨[.ref a], []⟩) (fun r s' => r = .ok (.ret (.bool true)) ∧ OldK s₁.heap s'.heap ∧ s'.os = s₁.os ∧ AllBare s'.gens) s₁ := by
  have many := hi.length
  have rel := vals_ints hi
  by_cases hk : K.lookup a = none
  · let H : Hp := fun b => if b = a then some (.frz { cls := .type "list", data := .seq vs.toArray } (.lst (ns.map V.int))) else none
    have Ha : H a = some (.frz { cls := .type "list", data := .seq vs.toArray } (.lst (ns.map V.int))) := if_pos rfl
    have Hn : ∀ b, b ≠ a → H b = none := fun b nb => if_neg nb
    refine endGB KX hns hsys hb hbb hlim hgen ⟨_, ha⟩ hr F (H := H) ⟨fun b u z => ?_, fun b => ?_, fun _ => hk⟩ (law H (.inl (.inr ⟨_, Ha⟩)))
    · by_cases eb : b = a
      · subst eb
        rw [Ha] at z
        cases z
        exact ⟨ha, by rw [List.length_map]; exact hl, vs, _, rel, ha⟩
      · rw [Hn b eb] at z
        cases z
    · by_cases eb : b = a
      · subst eb
        exact .inr ⟨rfl, _, _, Ha⟩
      · exact .inl (Hn b eb)
  · obtain ⟨o, ho⟩ := Option.ne_none_iff_exists'.mp hk
    have e := KX a o ho
    rw [ha] at e
    cases e
    refine endGB KX hns hsys hb hbb hlim hgen ⟨_, ha⟩ hr F (H := fun _ => none) ⟨(fun b u z => nomatch z), (fun b => Or.inl rfl), fun z => absurd rfl z⟩ (law _ (.inr ⟨_, vs.toArray, _, ho, rfl, rfl, rfl, ?_, by simpa using rel⟩))
    rw [List.size_toArray, many]
    exact hl
end
/-- the goal that the head leaves, from the law's promise -/
theorem walkGB {l : PySem.W.OpenLaw} {n k : Nat} {q : Program} {loose : List Str} {XP : (Str → Option Value) → Heap → Prop} {YP : World → Heap → Prop} {d : DefRec} {K : Params → PySem.W.Frag} {sp : World → Sp}
    (hn : l.most = some n) (hn2 : n ≤ sizeLine) (hq0 : importsNone q = true) (hdf : d.params.defaults = []) (hr : Room k callerA) (hY : ∀ (w : World) (h : Heap), YP w h → (K w.params).In h)
    (F : ∀ (w : World) (mg : Str → Option Value) (fa : Addr) (h : Heap), (K w.params).In h → h.Ns mainGlobals mg → mg d.name = some (.ref fa) → ∀ base : Heap, Mod (K w.params) mg base → (∃ o, base.get? sysModules = some o) → CallG l.prog w (K w.params) mg base k (.ref fa) (pos (sp w)))
    (law : ∀ (w : World) (H : Hp) (a : Addr) (ns : List Int), ns.length ≤ n → SqL (K w.params) H a (ns.map V.int) → sp w [.ref a] H (fun v _ => v = .bl true) NoE) :
    PySem.W.WalkO q loose XP YP l.row.toRowW d [] (fun f vs => PySem.call f vs) := by
  refine Att.attach_call hn hdf fun w s₀ s₁ mg mb fa o pm cd doc a vs ns G Y ho hd hcd hmg hobj hints hlen hgen => ?_
  have KX := hY w _ Y
  exact lawGB KX G.T.g (let ⟨m, z, _⟩ := (G.T.seer hq0).mods; ⟨m, z⟩) G.T.b G.T.builtins G.T.nolimit hgen hobj hints (Nat.le_trans hlen hn2) hr (F w mg fa _ KX G.T.g hmg) fun H hS => law w H a ns hlen hS
end Uk

/-! UkV: defs called by keywords; classmethods; a class held by a local name, called with a star -/
namespace Uk
open PySem PySem.Spec PyProof.Rows L2 StX

/-- n values by place, the others by these names -/
def kwp (n : Nat) (ks : List Str) (gV : List V → List V → List V) (sp : Sp) : SpK := fun vs zs H Q E => vs.length = n ∧ zs.map (·.1) = ks ∧ sp (gV vs (zs.map (·.2))) H Q E
/-- a def without defaults, called by keywords -/
theorem def_posK {P : Program} {w : World} {K : PySem.W.Frag} {mg : Str → Option Value} {base : Heap} {k : Nat} {x qual : Str} {st : Stmt} {f : Addr} {fd : FuncData} {N ps : List Str} {sp : Sp} {n : Nat} {ks : List Str} {gV : List V → List V → List V} {gv : List Value → List Value → List Value} (F : Fun K x qual st f fd) (S : FnScope N ps (defScope st))
    (rel : ∀ vs us zs ws, vs.length = n → zs.length = ks.length → Vals vs us → Vals zs ws → Vals (gV vs zs) (gv us ws)) (len : ∀ vs zs, vs.length = n → zs.length = ks.length → (gV vs zs).length = ps.length)
    (hb : ∀ (kV doc pm : Value) (an : Option Addr) (cdv ct : Value) (us ws : List Value), us.length = n → ws.length = ks.length → bindArgs (PySem.W.fnOf x qual (defArgs st) (defBody st) (defScope st) .none kV doc pm an cdv ct) ⟨us, ks.zip ws⟩ = pure (ps.zip (gv us ws)))
    (hbody : ∀ (cdv : Value) (A : Around) (outer : List Env) (s : Shared) (H : Hp) (vs : List V) (Q : VK) (E : XK), Room k (A.deeper (envOfC qual (defScope st) s.heap.objs.size f cdv)) → A.guards = some [] → sp vs H Q E →
      ∃ t, PSs (cxOf (L2.CX P w) P w K mg base N qual (defScope st) f cdv A outer s H E) (defBody st) t ∧ t { nx := fun _ H' => Q .non H', rt := Q } (start N vs) H) : CallG P w K mg base (k + 1) (.ref f) (kwp n ks gV sp) := by
  obtain ⟨oc, od, kV, doc, pm, an, cdv, ct, osl, rfl, lk, hcd⟩ := F.ex
  rintro A outer s H us kws vs zs Q E hr hg e0 r rk ⟨h1, hks, hsp⟩
  obtain ⟨ek, rz⟩ := kvs_split rk
  rw [hks] at ek
  have lz : (zs.map (·.2)).length = ks.length := by rw [← hks, List.length_map, List.length_map]
  have lw : (kws.map (·.2)).length = ks.length := rz.length.symm.trans lz
  have lu : us.length = n := r.length.symm.trans h1
  rw [ek]
  refine run_bnd lk hcd S hr e0 (G := fun xs H2 => xs = gV vs (zs.map (·.2)) ∧ H2 = H) (fun A' Ex Q' h => ?_) fun s2 H2 xs ⟨ex, eH⟩ hr' => ?_
  · rw [hb kV doc pm an cdv ct us _ lu lw]
    exact wpAny_pure (h s H _ _ e0 Un.refl rfl (fun _ _ z => z) (rel _ _ _ _ h1 lz r rz) (len _ _ h1 lz) ⟨rfl, rfl⟩)
  · subst ex eH
    exact hbody cdv A outer s2 _ _ Q E hr' hg hsp
section
variable {X : Cx} {W : WX} {k i : Nat} {f C p g : Addr} {mc : Value} {sp : SpK} {spi : Sp} {m x : Str} {o e : Expr} {es : List Expr} {qs apos pp : Pos} {ta : TE} {t : TA} {pl : Sem Bool} {dom : Addr → Prop}
/-- x(e, .., *y), x a local name that holds a class -/
def tMkL (W : WX) (i : Nat) (dom : Addr → Prop) (sp : Sp) (t : TA) : TE := fun σ H Q => ∃ C, σ[i]? = some (some (.ref C)) ∧ dom C ∧ t σ H fun vs H1 => spMk C sp vs H1 Q (WE W σ)
theorem pe_mkLS (tk : Takes X W) (M : ∀ C, dom C → Mk X.K C f) (F : CallG X.prog X.w X.K X.mg X.base k (.ref f) (pos spi)) (hr : Room (k + 1) X.A) (hg : X.A.guards = some []) (hN : X.N[i]? = some x) (hv : Vis X.env.scope x) (ha : PA X (e :: es) t)
    (hdb : (x == ("__debug__" : Str)) = false := by decide) (hcd : (x == ("__classdict__" : Str)) = false := by decide)
    (he : starEach (e :: es) X.env = (false, eval e X.env) :: starEach es X.env := by rfl) (hst : (backTo qs (starEach es X.env)).any (·.1) = true := by rfl) : PE X (.Call (.Name x pp) (e :: es) [] qs) (tMkL W i dom spi t) := by
  refine ⟨fun pins s σ H Q I ⟨C, hs, hC, ht⟩ => ?_⟩
  refine wpAny_Call_Name_kw (thn ((pe_var (pos := pp) hN hv hdb hcd).run pins s σ H (fun v H1 => v = .ref C ∧ H1 = H) I ⟨.ref C, hs, rfl, rfl⟩) fun u s1 ⟨v, H1, I1, r1, q1⟩ => ?_)
  obtain ⟨rfl, rfl⟩ := q1
  cases r1
  refine PySem.W.callWith_S2 (h₀ := X.base) I1.ok.mod.kin (M C hC).kp (thn (ha.run qs pins s1 σ _ _ I1 ht) fun us s2 ⟨vs, H2, I2, r, q⟩ => ⟨I2.kIn, ?_⟩) he hst
  exact run_makeG tk (M C hC) F hr hg I2 r q
/-- a bound classmethod is called -/
theorem run_cmG {pins : List (Addr × Obj)} {σ : L2.St} {H : Hp} {s : Shared} {Q : VK} {q : Addr} {us : List Value} {vs : List V} {kws : List (Str × Value)} {zs : List (Str × V)} (tk : Takes X W) (F : CallG X.prog X.w X.K X.mg X.base k (.ref g) sp) (hr : Room k X.A) (hg : X.A.guards = some []) (I : Inv X ((q, PySem.W.methodObj (.ref g) (.ref C)) :: pins) σ H s)
    (r : Vals vs us) (rk : KVs zs kws) (h : sp (.ref C :: vs) zs H Q (WE W σ)) : wpAny (model X.prog X.w) X.A (call (.ref q) us kws) (EP X pins σ Q) X.xe s := by
  have z : wpAny (model X.prog X.w) X.A (call (.ref q) us kws) (EP X ((q, PySem.W.methodObj (.ref g) (.ref C)) :: pins) σ Q) X.xe s := by
    refine wpAny_call (PySem.W.method_call (ClX.pin_at I) (codeAny_mono (F X.A X.stack s H (.ref C :: us) kws (.ref C :: vs) zs Q _ hr hg I.env0 (.cons rfl r) rk h) fun r s' hq => ?_))
    cases r with
    | error e => exact passAt tk σ _ H s e s' I hq
    | ok fl =>
      cases fl with
      | ret u => exact I.after hq
      | next => exact False.elim hq
      | brk => exact False.elim hq
      | cont => exact False.elim hq
  exact thn z fun _ _ y => ClX.unpinE y
/-- C.m(e, ..), m a classmethod -/
def tCm (W : WX) (C : Addr) (sp : SpK) (ta : TE) (t : TA) : TE := fun σ H Q => ta σ H fun x H1 => x = .ref C ∧ t σ H1 fun vs H2 => sp (.ref C :: vs) [] H2 Q (WE W σ)
theorem pe_cmG (tk : Takes X W) (he : PE X o ta) (r : ClX.CRead X.K C mc) (c : ClX.CMet X.K C mc m p g) (F : CallG X.prog X.w X.K X.mg X.base k (.ref g) sp) (hr : Room k X.A) (hg : X.A.guards = some []) (ha : PA X (e :: es) t)
    (hst : starEach (e :: es) X.env = (false, eval e X.env) :: starEach es X.env := by rfl) (hpl : (backTo qs (starEach es X.env)).any (·.1) = false := by rfl)
    (ht : eval (.Call (.Attribute o m apos) (e :: es) [] qs) X.env = (do
      let ov ← eval o X.env
      standAt apos.atName
      let (f, first) ← holding [ov] (getMethod ov m pl)
      callWith qs f first (backTo qs (starEach (e :: es) X.env)) (backToKw qs (keywordEach [] X.env))) := by rfl) :
    PE X (.Call (.Attribute o m apos) (e :: es) [] qs) (tCm W C sp ta t) := by
  refine ⟨fun pins s σ H Q I h => ?_⟩
  refine PySem.W.methodCall_KW (pl := pl) (thn (he.run pins s σ H _ I h) fun u s1 ⟨x, H1, I1, rx, ex, q⟩ => ?_) ht
  subst ex
  obtain rfl : u = Value.ref C := rx
  refine ClX.getmethcm_ok I1 r c fun s2 I2 => ?_
  refine ClX.callwith_cm I2 (ClX.base_none I1 (Nat.le_refl _)) c.fi (thn (ha.run qs _ s2 σ H1 _ I2 q) fun us s3 ⟨vs, H2, I3, rv, q2⟩ => ⟨⟨ClX.pin_at I3, I3.kIn⟩, ?_⟩) hst hpl
  exact run_cmG tk F hr hg I3 rv .nil q2
/-- C.m(k = e, ..) -/
def tCmk (W : WX) (C : Addr) (ns : List Str) (sp : SpK) (ta : TE) (t : TA) : TE := fun σ H Q => ta σ H fun x H1 => x = .ref C ∧ t σ H1 fun vs H2 => vs.length = ns.length ∧ sp [.ref C] (ns.zip vs) H2 Q (WE W σ)
theorem pe_cmGk {kws : List Keyword} {ns : List Str} (tk : Takes X W) (he : PE X o ta) (r : ClX.CRead X.K C mc) (c : ClX.CMet X.K C mc m p g) (F : CallG X.prog X.w X.K X.mg X.base k (.ref g) sp) (hr : Room k X.A) (hg : X.A.guards = some []) (ha : PK X kws t)
    (hall : (backToKw qs (keywordEach kws X.env)).all (·.1.isSome) = true := by rfl) (hks : (backToKw qs (keywordEach kws X.env)).filterMap (·.1) = ns := by rfl)
    (hpl : ((backTo qs (starEach [] X.env)).any (·.1) || (backToKw qs (keywordEach kws X.env)).any (·.1.isNone)) = false := by rfl)
    (ht : eval (.Call (.Attribute o m apos) [] kws qs) X.env = (do
      let ov ← eval o X.env
      standAt apos.atName
      let (f, first) ← holding [ov] (getMethod ov m pl)
      callWith qs f first (backTo qs (starEach [] X.env)) (backToKw qs (keywordEach kws X.env))) := by rfl) :
    PE X (.Call (.Attribute o m apos) [] kws qs) (tCmk W C ns sp ta t) := by
  refine ⟨fun pins s σ H Q I h => ?_⟩
  refine PySem.W.methodCall_KW (pl := pl) (thn (he.run pins s σ H _ I h) fun u s1 ⟨x, H1, I1, rx, ex, q⟩ => ?_) ht
  subst ex
  obtain rfl : u = Value.ref C := rx
  refine ClX.getmethcm_ok I1 r c fun s2 I2 => ?_
  refine PySem.W.callWith_of (P := PySem.W.MethP X.K s1.heap.objs.size g (.ref C)) hpl (PySem.W.keeps_M c.fi) (evalArgs_kw2_nil hall (thn (ha.run qs _ s2 σ H1 _ I2 q) fun us s3 ⟨vs, H2, I3, rv, hl, q2⟩ => ⟨⟨ClX.pin_at I3, I3.kIn⟩, ?_⟩))
  rw [hks]
  exact run_cmG (us := []) (vs := []) tk F hr hg I3 .nil (vals_kvs rv) q2
end
end Uk

/-! UkW: x[i] and len(x) of own classes; what isinstance says of data -/
namespace Uk
open PySem PySem.Spec PyProof.Rows L2 StX

section
variable {X : Cx} {k : Nat} {f : Addr} {sp : SpK} {D : Addr → Prop} {a b : Expr} {ta tb : TE} {pos : Pos}
/-- a[b], a an instance with an own __getitem__ -/
def tIxO (D : Addr → Prop) (sp : SpK) (ta tb : TE) : TE := fun σ H Q => ta σ H fun x H1 => tb σ H1 fun y H2 => ∃ (c C dx : Addr) (fs : List (Str × V)), x = .ref c ∧ D C ∧ H2 c = some (.ins C dx fs) ∧ sp [x, y] [] H2 Q NoE
theorem pe_ixO (F : CallG X.prog X.w X.K X.mg X.base k (.ref f) sp) (hr : Room (k + 1) X.A) (hg : X.A.guards = some []) (hD : ∀ C, D C → Own X.K C "__getitem__" f) (hf : PySem.W.fnIn X.K f = true) (ha : PE X a ta) (hb : PE X b tb)
    (hsl : ∀ v u, subscripted b true v u = runValue (.builtin "lifetime.subscript" ⟨[v, u], []⟩)) : PE X (.Subscript a b pos) (tIxO D sp ta tb) := by
  refine ⟨fun pins s σ H Q I h => ?_⟩
  refine Subscript_ (binT ha hb I h fun v u s2 x y H2 I2 rx ry q => ?_)
  obtain ⟨c, C, dx, fs, rfl, d, e, q⟩ := q
  obtain rfl : v = Value.ref c := rx
  obtain ⟨od, J⟩ := ins_at I2.hok e
  obtain ⟨m, fr⟩ := I2.fr
  exact PySem.W.sub_K fr I2.ok.mod.kin J (hD C d).at_ hf (hD C d).fn (run_callN F hr.in1 hg rfl I2 (vs := [.ref c, y]) (us := [.ref c, u]) (.cons rfl (.cons ry .nil)) q) (hsl _ _)
end
/-- len(x), x an instance with an own __len__ -/
theorem call_lenO {X : Cx} {k : Nat} {sp : SpK} {D : Addr → Prop} {f : Addr} (F : CallG X.prog X.w X.K X.mg X.base k (.ref f) sp) (hr : Room (k + 1) X.A) (hg : X.A.guards = some []) (hD : ∀ C, D C → Own X.K C "__len__" f) :
    CallR X (.builtin "len") (fun xs H Q => ∃ (a C dx : Addr) (fs : List (Str × V)), xs = [.ref a] ∧ D C ∧ H a = some (.ins C dx fs) ∧ sp [.ref a] [] H (fun v H' => ∃ n : Nat, v = .int n ∧ n < 2 ^ 62 ∧ Q (.int n) H') NoE) := by
  intro pins s σ H xs us Q I r h
  obtain ⟨a, C, dx, fs, rfl, d, e, q⟩ := h
  obtain ⟨u, rfl, r1⟩ := vals1 r
  obtain rfl : u = Value.ref a := r1
  obtain ⟨od, J⟩ := ins_at I.hok e
  obtain ⟨m, fr⟩ := I.fr
  refine PySem.W.len_K fr I.ok.mod.kin J (hD C d).at_ (hD C d).fn (wpAny_mono (run_callN F hr.in1 hg rfl I (vs := [.ref a]) (us := [.ref a]) (.cons rfl .nil) q) (fun z s' hz => ?_) fun _ _ y => y)
  obtain ⟨v', H', I', rv, n, rfl, hn, q'⟩ := hz
  obtain ⟨t, rfl⟩ := (show ∃ t, z = Value.int n t from rv)
  exact ⟨⟨by omega, by omega⟩, .int n, H', I'.tok _, ⟨_, rfl⟩, q'⟩
/-- what a def with a star behind three parameters binds -/
theorem bind_star3 {B : List Value → Sem (List (Str × Value))} {p1 p2 p3 pv : Str} (h0 : ∀ a b c, B [a, b, c] = (newTuple [] >>= fun t => pure [(p1, a), (p2, b), (p3, c), (pv, t)])) (h1 : ∀ a b c r rs, B (a :: b :: c :: r :: rs) = (newTuple (r :: rs) >>= fun t => pure [(p1, a), (p2, b), (p3, c), (pv, t)])) :
    ∀ us rest : List Value, us.length = [p1, p2, p3].length → B (us ++ rest) = (newTuple rest >>= fun t => pure ([p1, p2, p3].zip us ++ [(pv, t)]))
  | [a, b, c], [], _ => h0 a b c
  | [a, b, c], r :: rs, _ => h1 a b c r rs
section
variable {K : PySem.W.Frag} {H : Hp}
theorem sqt_ty {a : Addr} {xs : List V} (h : SqT K H a xs) : TyX K H (.ref a) (.type "tuple") := by
  rcases h with (h | ⟨o, h⟩) | ⟨o, its, n, h, c, _⟩
  · exact .base (.tup h)
  · exact .fTuple h
  · exact .kTuple h c
def tyD : PyData → String
  | .none => "NoneType"
  | .bool _ => "bool"
  | .int _ => "int"
  | .str _ => "str"
  | .list _ => "list"
  | .tuple _ => "tuple"
  | .dict _ => "dict"
theorem dq_ty {v : V} {d : PyData} (h : Dq K H v d) : TyX K H v (.type (tyD d)) := by
  cases h with
  | non => exact .base .non
  | bl b => exact .base (.bl b)
  | int i => exact .base (.int i)
  | str x => exact .base (.str x)
  | lst a r => exact .base (.lst a)
  | tup a r => exact sqt_ty a
  | dct a r => exact .base (.dK a)
abbrev tyNames : List String := ["NoneType", "bool", "int", "str", "list", "tuple", "dict"]
theorem tyD_mem (d : PyData) : tyD d ∈ tyNames := by
  cases d <;> simp [tyD]
def isN (T n : String) : Bool := n == T || (n == "bool" && T == "int")
def isD (T : String) (d : PyData) : Bool := isN T (tyD d)
theorem kit_dInt (d : PyData) : PySem.W.kitOne K (.type (tyD d)) (.type "int") = some (isD "int" d) := kit_ty ((show ∀ n ∈ tyNames, kitB n "int" = some (isN "int" n) by decide +kernel) _ (tyD_mem d))
theorem kit_dBool (d : PyData) : PySem.W.kitOne K (.type (tyD d)) (.type "bool") = some (isD "bool" d) := kit_ty ((show ∀ n ∈ tyNames, kitB n "bool" = some (isN "bool" n) by decide +kernel) _ (tyD_mem d))
theorem kit_dStr (d : PyData) : PySem.W.kitOne K (.type (tyD d)) (.type "str") = some (isD "str" d) := kit_ty ((show ∀ n ∈ tyNames, kitB n "str" = some (isN "str" n) by decide +kernel) _ (tyD_mem d))
theorem kit_dTup (d : PyData) : PySem.W.kitOne K (.type (tyD d)) (.type "tuple") = some (isD "tuple" d) := kit_ty ((show ∀ n ∈ tyNames, kitB n "tuple" = some (isN "tuple" n) by decide +kernel) _ (tyD_mem d))
end
end Uk

/-! UkX: list(reversed(a list)); a text times a number -/
namespace Uk
section
open PySem PySem.Spec PyProof.Rows RT
variable {prog : Program} {w : World} {A : Around} {E : Value → Shared → Prop} {s : Shared}
/-- list(it), it a new reverse iterator over the list at l -/
theorem list_of_rev {it l : Addr} {items : Array Value} {Q : Value → Shared → Prop} (hh : A.handled = none) (hit : s.heap.IsRevIter it l ((items.size : Int) - 1)) (hl : s.heap.IsList l items) (hne : l ≠ it) (hn : items.size ≤ sizeLine)
    (hQ : ∀ (S : Addr) (h' : Heap) (tk : Nat) (acc : Array Value) (c : Nat), s.heap.objs.size ≤ S → (∀ b o, b ≠ it → s.heap.get? b = some o → h'.get? b = some o) → h'.get? S = some { cls := .type "list", dict := none, data := .seq acc c, slots := #[] } →
      ItemsOf (fun i v => items[items.size - 1 - i]? = some v) acc items.size → Q (.ref S) { s with heap := h', toks := tk }) :
    wpAny (model prog w) A (call (.type "list") [.ref it]) Q E s := by
  obtain ⟨oi, hoi, _⟩ := id hit
  obtain ⟨ol, hol, _⟩ := id hl
  have hSi : s.heap.objs.size ≠ it := Nat.ne_of_gt (Heap.lt_size hoi)
  have hSl : s.heap.objs.size ≠ l := Nat.ne_of_gt (Heap.lt_size hol)
  have hSf : s.heap.objs.size ∉ [it, l] := by simp only [List.mem_cons, List.not_mem_nil, or_false, not_or]; exact ⟨hSi, hSl⟩
  refine callType_codes (Q₁ := fun obj s₁ => obj = .ref s.heap.objs.size ∧ s₁ = { s with heap := s.heap.push { cls := .type "list", data := .seq #[] } }) F.called_list (F.typeCall_list_1 _) F.entry_list_init
    (code_list_new _ ⟨rfl, rfl⟩) fun obj s₁ h₁ => ?_
  obtain ⟨rfl, rfl⟩ := h₁
  have hS : (s.heap.push { cls := .type "list", data := .seq #[] }).get? s.heap.objs.size = some { cls := .type "list", data := .seq #[] } := Heap.get?_push_size _ rfl
  refine ⟨⟨_, hS, rfl⟩, F.args_list_init_2 _ _, ?_⟩
  show wpAny _ A.in1.in1 (do let old ← Builtin.List.listItems (.ref s.heap.objs.size); Builtin.List.listUpdate (.ref s.heap.objs.size) (fun _ => #[]); letGo old.toList.reverse; Builtin.List.listExtendWith (.ref s.heap.objs.size) (.ref it) .none) _ _ _
  refine wpAny_bind ?_
  unfold Builtin.List.listItems
  refine wpAny_bind (wpAny_seqItems hS rfl (wpAny_pure ?_))
  show wpAny _ A.in1.in1 (updateSeq s.heap.objs.size (fun _ => #[]) >>= fun _ => letGo (#[] : Array Value).toList.reverse >>= fun _ => Builtin.List.listExtendWith (.ref s.heap.objs.size) (.ref it) .none) _ _ _
  refine wpAny_bind (wpAny_updateSeq hS rfl ?_)
  have hS2 := Heap.get?_update_self (Obj.mapSeq (fun _ => (#[] : Array Value))) hS rfl
  refine wpAny_bind (wpAny_letGo ?_)
  unfold Builtin.List.listExtendWith
  have keep : ∀ b o, s.heap.get? b = some o → ((s.heap.push { cls := .type "list", data := .seq #[] }).update s.heap.objs.size (Obj.mapSeq (fun _ => (#[] : Array Value)))).get? b = some o := fun b o e =>
    (Heap.get?_update_other _ _ (Ne.symm (Nat.ne_of_lt (Heap.lt_size e)))).trans (Heap.get?_push_of_some _ e)
  have hit1 : ((s.heap.push { cls := .type "list", data := .seq #[] }).update s.heap.objs.size (Obj.mapSeq (fun _ => (#[] : Array Value)))).IsRevIter it l ((items.size : Int) - 1) := hit.at fun o e => keep _ _ e
  have hl1 : ((s.heap.push { cls := .type "list", data := .seq #[] }).update s.heap.objs.size (Obj.mapSeq (fun _ => (#[] : Array Value)))).IsList l items := hl.at fun o e => keep _ _ e
  have hT : ({ s with heap := (s.heap.push { cls := .type "list", data := .seq #[] }).update s.heap.objs.size (Obj.mapSeq (fun _ => (#[] : Array Value))) } : Shared).TypeIs (.ref it) "list_reverseiterator" := Heap.IsRevIter.typeIs (s := { s with heap := _ }) hit1
  have h1 : Builtin.List.listSameRef (.ref s.heap.objs.size) (.ref it) = false := by simp [Builtin.List.listSameRef, hSi]
  refine wpAny_bind (wpAny_typeOf hT ?_)
  have h2 : (Value.type "list_reverseiterator" == Value.type "list") = false := by decide
  have h3 : (Value.type "list_reverseiterator" == Value.type "tuple") = false := by decide
  simp only [h1, h2, h3, Bool.or_false, Bool.false_eq_true, if_false]
  refine wpAny_bind (wpAny_pyIter_revIter (s := { s with heap := _ }) hit1 ?_)
  refine wpAny_bind (wpAny_holding ?_)
  unfold Builtin.List.listLengthHint
  refine wpAny_bind (wpAny_specialOf hT nolen_lri ?_)
  show wpAny _ A.in1.in1 (specialOf (Value.ref it) (Str.ofString "__length_hint__") >>= _) _ _ _
  refine wpAny_bind (wpAny_specialOf hT hint_lri ?_)
  generalize hid : ("list_reverseiterator.__length_hint__" : String) = id0
  wp_delta
  rw [show splitId id0 = some ("list_reverseiterator", "__length_hint__") from by subst hid; decide +kernel]
  subst hid
  refine wpAny_bind (wpAny_isInstance (b := true) hT (by rw [isSubtype_type]; kernel_rfl) ?_)
  refine wpAny_pure ?_
  rw [if_neg (by decide)]
  have W := (Walks.listRev (prog := prog) (w := w) (A := A.in1.in1) hh it l hne items).toS
  have e0 : ((items.size : Nat) : Int) - 1 - ((0 : Nat) : Int) = (items.size : Int) - 1 := by omega
  refine wpAny_pure ⟨plainId_quiet F.plain_extend_loop _, codeAny_extend_loopS (A := A.in1) W hn _ hSf _ items.size 0 _ _ _ rfl (Nat.zero_le _) ⟨Nat.zero_le _, by rw [e0]; exact hit1, hl1⟩ hS2 (ItemsOf.nil _) fun s' acc' c' hm hS' hacc => ?_⟩
  rw [Moved.eq_with hm]
  refine ⟨rfl, hQ _ s'.heap s'.toks acc' c' (Nat.le_refl _) (fun b o hb e => hm.heap b o (fun hmem => ?_) (keep _ _ e)) hS' hacc⟩
  rcases List.mem_cons.mp hmem with e' | hmem
  · exact absurd (Heap.lt_size e) (by rw [e']; exact Nat.lt_irrefl _)
  · exact hb (List.mem_singleton.mp hmem)
end
section
open PySem PySem.Spec PyProof.Rows L2 StX RT
variable {X : Cx}
/-- list(reversed(x)), x a list: a new list -/
def tListRev (K : PySem.W.Frag) (te : TE) : TE := fun σ H Q => te σ H fun v H1 => ∃ (a : Addr) (xs : List V), v = .ref a ∧ SqL K H1 a xs ∧ ∀ q, H1 q = none → Q (.ref q) (upd H1 q (.lst xs.reverse))
theorem pe_listRev {e : Expr} {te : TE} {p p2 pos pos2 : Pos} (hc : X.calm = true) (hg : Gl X "list") (hm : X.mg "list" = none) (hg2 : Gl X "reversed") (hm2 : X.mg "reversed" = none) (he : PE X e te)
    (hs : starEach [e] X.env = (false, eval e X.env) :: starEach [] X.env := by rfl)
    (hs2 : starEach [.Call (.Name "reversed" p2) [e] [] pos2] X.env = (false, eval (.Call (.Name "reversed" p2) [e] [] pos2) X.env) :: starEach [] X.env := by rfl) :
    PE X (.Call (.Name "list" p) [.Call (.Name "reversed" p2) [e] [] pos2] [] pos) (tListRev X.K te) := by
  refine ⟨fun pins s σ H Q I h => ?_⟩
  refine Call_ (ld_blt I hg hm PyProof.Rows.boot_list (PyProof.Rows.callWith_type1 (args_cons (Call_ (ld_blt I hg2 hm2 PyProof.Rows.boot_reversed (PyProof.Rows.callWith_type1 (args_cons (thn (he.run pins s σ H _ I h) fun u s1 ⟨v, H1, I1, r1, q1⟩ => args_nil ?_) hs) hs rfl))) hs2) hs2 rfl))
  obtain ⟨a, xs, ev, hq, q⟩ := q1
  subst ev
  obtain rfl : u = Value.ref a := r1
  obtain ⟨its, rv, p', hz⟩ := I1.list hq
  refine call_reversed_list p'.isList (args_nil ?_)
  have k0 : ∀ b o, s1.heap.get? b = some o → (s1.heap.push (revObj a ((its.toArray.size : Int) - 1))).get? b = some o := fun b o e => Heap.get?_push_of_some _ e
  have I2 : Inv X pins σ H1 { s1 with heap := s1.heap.push (revObj a ((its.toArray.size : Int) - 1)) } := I1.kept (t' := s1.toks) k0
  have fp := I1.fpOk (H' := H1) (b := s1.heap.objs.size) (Nat.le_refl _) (I1.hok.fresh (Nat.le_refl _))
  have hl := p'.isList
  obtain ⟨ol, hol, _⟩ := id hl
  have hne : a ≠ s1.heap.objs.size := Nat.ne_of_lt (Heap.lt_size hol)
  have hn : its.toArray.size ≤ sizeLine := by rw [List.size_toArray, ← rv.length]; exact hz
  refine list_of_rev (s := { s1 with heap := s1.heap.push (revObj a ((its.toArray.size : Int) - 1)) }) (I1.ok.hd hc) ⟨_, Heap.get?_push_size _ rfl, rfl, rfl⟩ (hl.push _) hne hn fun S h' tk acc c hS hk hS' hi => ?_
  have new : ObjOk X.prog X.w (upd H1 S (.lst xs.reverse)) h' S (.lst xs.reverse) := ⟨by rw [List.length_reverse]; exact hz, acc.toList, c, vals_rev rv hi, by rw [Array.toArray_toList]; exact hS'⟩
  have hSn : H1 S = none := I2.hok.fresh hS
  exact ⟨.ref S, upd H1 S (.lst xs.reverse), I2.turnedNew (t' := tk) (ch := [s1.heap.objs.size]) (fun b o hb e => hk b o (fun z => hb (by rw [z]; exact List.mem_singleton_self _)) e) (fun b hb => by rw [List.mem_singleton.mp hb]; exact fp) hS new, rfl, q S hSn⟩
/-- a text, n times -/
def strRep (z : Str) (n : Int) : Str := ⟨(List.replicate n.toNat z.cps).foldl (· ++ ·) #[]⟩
theorem rep_size (c : Array Nat) : ∀ (n : Nat) (acc : Array Nat), ((List.replicate n c).foldl (fun x1 x2 => x1 ++ x2) acc).size = acc.size + c.size * n
  | 0, acc => by simp
  | n + 1, acc => by
    rw [List.replicate_succ, List.foldl_cons, rep_size c n, Array.size_append, Nat.mul_succ]
    omega
theorem strRep_len (z : Str) (n : Int) : (strRep z n).length = z.length * n.toNat := by
  show ((List.replicate n.toNat z.cps).foldl (fun x1 x2 => x1 ++ x2) #[]).size = _
  rw [rep_size]
  simp [Str.length]
theorem op_mulS : OpR X (binaryOp .Mult) (fun x y H Q => ∃ (z : Str) (n : Int), x = .str z ∧ y = .int n ∧ 1 ≤ z.length ∧ z.length ≤ 1000 ∧ 1 ≤ n ∧ n ≤ 1000 ∧ Q (.str (strRep z n)) H) := by
  intro pins s σ H x y u v Q I rx ry h
  obtain ⟨z, n, rfl, rfl, z1, z2, n1, n2, q⟩ := h
  obtain ⟨t, rfl⟩ := (show ∃ t, u = Value.str z t from rx)
  obtain ⟨t2, rfl⟩ := (show ∃ t, v = Value.int n t from ry)
  have hz : (z.length == 0) = false := by
    rw [beq_eq_false_iff_ne]
    omega
  have hprod : z.length * n.toNat ≤ 1000 * 1000 := Nat.mul_le_mul z2 (by omega)
  refine PySem.P.mul_str (by rw [decide_eq_false (by omega), decide_eq_false (by omega)] <;> rfl) (fun _ _ => ?_) (fun _ _ => ?_) ?_
  · have h1 : (1000 : Int) ≤ (2 ^ 63 - 1) / n := (Int.le_ediv_iff_mul_le (by omega)).mpr (by omega)
    omega
  · refine decide_eq_false (p := z.length * n.toNat > sizeLine) ?_
    rw [sizeLine_eq]
    omega
  · rw [if_neg (by omega)]
    by_cases e : n = 1
    · subst e
      rw [if_pos (by rfl)]
      have es : strRep z 1 = z := by
        obtain ⟨c⟩ := z
        unfold strRep
        simp
      rw [es] at q
      exact ⟨.str z, H, I, ⟨_, rfl⟩, q⟩
    · have hn1 : (n == 1) = false := beq_eq_false_iff_ne.mpr e
      rw [if_neg (by rw [hn1, hz]; exact Bool.false_ne_true)]
      refine ⟨?_, .str (strRep z n), H, I.tok _, ⟨_, rfl⟩, q⟩
      show (strRep z n).length ≤ _
      rw [strRep_len, sizeLine_eq]
      omega
end
end Uk

/-! UkY: the first k such that; lists of data; small words of proofs -/
namespace Uk
open PySem PySem.Spec PyProof.Rows L2 StX
def firstK (p : Nat → Bool) : Nat → Nat → Option Nat
  | _, 0 => none
  | k, n + 1 => if p k = true then some k else firstK p (k + 1) n
theorem firstK_some {p : Nat → Bool} : ∀ {n k i : Nat}, (∀ j, j < i → p (k + j) = false) → p (k + i) = true → i < n → firstK p k n = some (k + i)
  | 0, _, _, _, _, h => absurd h (Nat.not_lt_zero _)
  | n + 1, k, 0, _, h, _ => by
    show (if p k = true then some k else _) = _
    rw [if_pos (show p k = true from h)]
    rfl
  | n + 1, k, i + 1, h0, h, hi => by
    show (if p k = true then some k else _) = _
    have e : p k = false := h0 0 (Nat.succ_pos _)
    rw [if_neg (by rw [e]; exact Bool.false_ne_true), firstK_some (i := i) (fun j hj => by rw [Nat.add_assoc, Nat.add_comm 1 j]; exact h0 (j + 1) (Nat.succ_lt_succ hj)) (by rw [Nat.add_assoc, Nat.add_comm 1 i]; exact h) (Nat.lt_of_succ_lt_succ hi), Nat.add_assoc, Nat.add_comm 1 i]
theorem firstK_none {p : Nat → Bool} : ∀ {n k : Nat}, (∀ j, j < n → p (k + j) = false) → firstK p k n = none
  | 0, _, _ => rfl
  | n + 1, k, h => by
    show (if p k = true then some k else _) = _
    have e : p k = false := h 0 (Nat.succ_pos _)
    rw [if_neg (by rw [e]; exact Bool.false_ne_true)]
    exact firstK_none fun j hj => by rw [Nat.add_assoc, Nat.add_comm 1 j]; exact h (j + 1) (Nat.succ_lt_succ hj)
def intV : PyData → Int
  | .int i => i
  | _ => 0
theorem dqAll_get {K : PySem.W.Frag} {H : Hp} : ∀ {vs : List V} {ds : List PyData} {i : Nat} {v : V}, DqAll K H vs ds → vs[i]? = some v → ∃ d, ds[i]? = some d ∧ Dq K H v d
  | [], _, _, _, _, h => by simp at h
  | x :: vs, d :: ds, 0, v, .cons a r, h => by
    simp at h
    subst h
    exact ⟨d, rfl, a⟩
  | x :: vs, d :: ds, i + 1, v, .cons a r, h => dqAll_get (i := i) r (by simpa using h)
theorem dqAll_len {K : PySem.W.Frag} {H : Hp} : ∀ {vs : List V} {ds : List PyData}, DqAll K H vs ds → vs.length = ds.length
  | [], [], .nil => rfl
  | _ :: _, _ :: _, .cons _ r => congrArg Nat.succ (dqAll_len r)
theorem old_none {p c z : Addr} {m : Int} {H H' : Hp} (s : Same (Off p H) (Off p H')) (P : Pen H' p c m) (hz : H' z = none) : H z = none := by
  cases e : H z with
  | none => rfl
  | some u =>
    have y := Uk.Off.at (s _ _ (Uk.Off.of e (P.ne hz)))
    rw [hz] at y
    cases y
theorem firstK_none' {p : Nat → Bool} : ∀ {n k : Nat}, firstK p k n = none → ∀ j, j < n → p (k + j) = false
  | 0, _, _, _, h => absurd h (Nat.not_lt_zero _)
  | n + 1, k, h, j, hj => by
    have h' : (if p k = true then some k else firstK p (k + 1) n) = none := h
    cases e : p k with
    | true =>
      rw [e, if_pos rfl] at h'
      cases h'
    | false =>
      rw [e, if_neg Bool.false_ne_true] at h'
      cases j with
      | zero => exact e
      | succ j =>
        have z := firstK_none' h' j (Nat.lt_of_succ_lt_succ hj)
        rw [Nat.add_assoc, Nat.add_comm 1 j] at z
        exact z
theorem all_ints : ∀ {ds : List PyData}, (∀ (j : Nat) (d : PyData), ds[j]? = some d → ∃ a : Int, d = PyData.int a) → ∃ js : List Int, ds = js.map PyData.int
  | [], _ => ⟨[], rfl⟩
  | d :: ds, h => by
    obtain ⟨a, rfl⟩ := h 0 d rfl
    obtain ⟨js, rfl⟩ := all_ints (ds := ds) fun j d e => h (j + 1) d e
    exact ⟨a :: js, rfl⟩
theorem dqAll_ints {K : PySem.W.Frag} {H : Hp} : ∀ js : List Int, DqAll K H (js.map V.int) (js.map PyData.int)
  | [] => .nil
  | j :: js => .cons (.int j) (dqAll_ints js)
theorem dqAll_ints' {K : PySem.W.Frag} {H : Hp} : ∀ {js : List Int} {xs : List V}, DqAll K H xs (js.map PyData.int) → xs = js.map V.int
  | [], _, .nil => rfl
  | j :: js, _, .cons (.int _) r => by rw [dqAll_ints' r] <;> rfl
theorem eqv_ints : ∀ js : List Int, PyData.eqvAll (js.map PyData.int) (js.map PyData.int) = true
  | [] => rfl
  | j :: js => by
    show ((j == j) && PyData.eqvAll (js.map PyData.int) (js.map PyData.int)) = true
    rw [eqv_ints js, beq_self_eq_true] <;> rfl
theorem neqv_ints (js : List Int) : (!PyData.eqv (.tuple (js.map PyData.int)) (.tuple (js.map PyData.int))) = false := by
  rw [show PyData.eqv (.tuple (js.map PyData.int)) (.tuple (js.map PyData.int)) = true from eqv_ints js] <;> rfl
theorem neqv_lints (js : List Int) : (!PyData.eqv (.list (js.map PyData.int)) (.list (js.map PyData.int))) = false := by
  rw [show PyData.eqv (.list (js.map PyData.int)) (.list (js.map PyData.int)) = true from eqv_ints js] <;> rfl
theorem canlay_ints : ∀ js : List Int, PyData.canLayAll0 (js.map PyData.int) = true
  | [] => rfl
  | j :: js => by
    show (true && PyData.canLayAll0 (js.map PyData.int)) = true
    rw [canlay_ints js] <;> rfl
theorem depth_ints : ∀ js : List Int, PyData.depthAll (js.map PyData.int) = 0
  | [] => rfl
  | j :: js => by
    show max 0 (PyData.depthAll (js.map PyData.int)) = 0
    rw [depth_ints js] <;> rfl
theorem shaped_tints (js : List Int) : SeqAt.shaped (.tuple (js.map PyData.int)) = true := by
  show (PyData.canLayAll0 (js.map PyData.int) && decide (PyData.depthAll (js.map PyData.int) + 1 ≤ 64)) = true
  rw [canlay_ints, depth_ints] <;> rfl
theorem shaped_lints (js : List Int) : SeqAt.shaped (.list (js.map PyData.int)) = true := by
  show (PyData.canLayAll0 (js.map PyData.int) && decide (PyData.depthAll (js.map PyData.int) + 1 ≤ 64)) = true
  rw [canlay_ints, depth_ints] <;> rfl
theorem dqAll_set {K : PySem.W.Frag} {H : Hp} : ∀ {xs : List V} {ds : List PyData} {v : V} {d : PyData}, DqAll K H xs ds → Dq K H v d → ∀ i, DqAll K H (xs.set i v) (ds.set i d)
  | [], [], _, _, .nil, _, _ => .nil
  | _ :: _, _ :: _, _, _, .cons _ r, q, 0 => .cons q r
  | _ :: _, _ :: _, _, _, .cons a r, q, i + 1 => .cons a (dqAll_set r q i)
theorem split_rest {R : L2.St → Hp → Prop} {G : Prop} {C : L2.St → Hp → Prop} (main : (∀ σ Hx, C σ Hx → R σ Hx) → G) (rest : ∀ σ Hx, C σ Hx → R σ Hx) : G := main rest
section
variable {X : Cx} {W : WX} {k : Nat} {C f : Addr} {sp : Sp} {x : Str} {p qs : Pos} {e : Expr} {es : List Expr} {t : TA}
/-- C(e, .., *y) -/
theorem pe_mkGS (tk : Takes X W) (M : Mk X.K C f) (F : CallG X.prog X.w X.K X.mg X.base k (.ref f) (pos sp)) (hr : Room (k + 1) X.A) (hg : X.A.guards = some []) (hx : Gl X x) (hm : X.mg x = some (.ref C)) (ha : PA X (e :: es) t)
    (hdb : (x == ("__debug__" : Str)) = false := by decide) (he : starEach (e :: es) X.env = (false, eval e X.env) :: starEach es X.env := by rfl) (hst : (backTo qs (starEach es X.env)).any (·.1) = true := by rfl) :
    PE X (.Call (.Name x p) (e :: es) [] qs) (tCl W (pos (spMk C sp)) t) := by
  refine ⟨fun pins s σ H Q I h => ?_⟩
  refine wpAny_Call_Name_kw (ld_glob I hx hm ?_ hdb)
  refine PySem.W.callWith_S2 (h₀ := X.base) I.ok.mod.kin M.kp (thn (ha.run qs pins s σ H _ I h) fun us s1 ⟨vs, H1, I1, r, q⟩ => ⟨I1.kIn, ?_⟩) he hst
  exact run_makeG tk M F hr hg I1 r q.2
end
end Uk

/-! UkZ: == and != of lists and tuples whose items are the same (whatever they are: dicts within too), or whose lengths differ -/
namespace Uk
open PySem PySem.Spec PyProof.Rows L2 StX PySem.SeqAt
def idV : V → Bool
  | .byt _ => false
  | .flt _ => false
  | _ => true
theorem dq_idV {K : PySem.W.Frag} {H : Hp} {v : V} {d : PyData} (h : Dq K H v d) : idV v = true := by cases h <;> rfl
theorem dqAll_idV {K : PySem.W.Frag} {H : Hp} : ∀ {vs : List V} {ds : List PyData}, DqAll K H vs ds → ∀ v ∈ vs, idV v = true
  | [], _, _, _, m => nomatch m
  | x :: vs, d :: ds, .cons h r, v, m => by
    rcases List.mem_cons.mp m with e | e
    · rw [e]; exact dq_idV h
    · exact dqAll_idV r v e
theorem eqAt_sameV {A : Around} {s : Shared} : ∀ {v : V} {u u' : Value}, RelV v u → RelV v u' → idV v = true → EqAt A s u u' true
  | .non, _, _, r, r', _ => by cases r; cases r'; exact EqAt.same _
  | .bl b, _, _, r, r', _ => by cases r; cases r'; exact EqAt.same _
  | .int i, _, _, r, r', _ => by
    obtain ⟨t, rfl⟩ := r
    obtain ⟨t', rfl⟩ := r'
    have := EqAt.int_int (A := A) (s := s) i t i t'
    rw [beq_self_eq_true] at this
    exact this
  | .str x, _, _, r, r', _ => by
    obtain ⟨t, rfl⟩ := r
    obtain ⟨t', rfl⟩ := r'
    have := EqAt.str_str (A := A) (s := s) x t x t'
    rw [show (x == x) = true from by simp] at this
    exact this
  | .byt _, _, _, _, _, h => nomatch h
  | .flt _, _, _, _, _, h => nomatch h
  | .ref a, _, _, r, r', _ => by cases r; cases r'; exact EqAt.same _
  | .ty n, _, _, r, r', _ => by cases r; cases r'; exact EqAt.same _
theorem eqAt_items {A : Around} {s : Shared} {xs : List V} {us us' : List Value} (r : Vals xs us) (r' : Vals xs us') (h : ∀ v ∈ xs, idV v = true) (j : Nat) (h1 : j < us.toArray.size) (h2 : j < us'.toArray.size) : EqAt A s us.toArray[j] us'.toArray[j] true := by
  rw [List.size_toArray] at h1 h2
  have hj : j < xs.length := by rw [r.length]; exact h1
  have e := List.getElem?_eq_getElem hj
  obtain ⟨u, e1, r1⟩ := r.get e
  obtain ⟨u', e2, r2⟩ := r'.get e
  have f1 : us.toArray[j]'(by rw [List.size_toArray]; exact h1) = u := by
    rw [List.getElem?_eq_getElem h1] at e1
    rw [List.getElem_toArray]
    exact Option.some.inj e1
  have f2 : us'.toArray[j]'(by rw [List.size_toArray]; exact h2) = u' := by
    rw [List.getElem?_eq_getElem h2] at e2
    rw [List.getElem_toArray]
    exact Option.some.inj e2
  rw [f1, f2]
  exact eqAt_sameV r1 r2 (h _ (List.getElem_mem hj))
theorem all_tt (n : Nat) : (List.range n).all (fun _ => true) = true := List.all_eq_true.mpr fun _ _ => rfl
section
variable {X : Cx}
def rNeLs (K : PySem.W.Frag) : R2 := fun x y H Q => ∃ (a b : Addr) (xs ys : List V), x = .ref a ∧ y = .ref b ∧ SqL K H a xs ∧ SqL K H b ys ∧ ((xs.length ≠ ys.length ∧ Q (.bl true) H) ∨ (xs = ys ∧ (∀ v ∈ xs, idV v = true) ∧ Q (.bl false) H))
theorem op_neLs (hu : X.A.units + 64 < cLine) : OpR X (compareOp .NotEq) (rNeLs X.K) := by
  intro pins s σ H x y v u Q I rx ry h
  obtain ⟨a, b, xs, ys, rfl, rfl, ha, hb, q⟩ := h
  cases rx
  cases ry
  obtain ⟨its, r, ⟨o, n, ho, hc, _, hd⟩, _⟩ := I.list ha
  obtain ⟨its2, r2, ⟨o2, n2, ho2, hc2, _, hd2⟩, _⟩ := I.list hb
  have e1 : its.toArray.size = xs.length := by rw [List.size_toArray]; exact r.length.symm
  have e2 : its2.toArray.size = ys.length := by rw [List.size_toArray]; exact r2.length.symm
  rcases q with ⟨hl, q⟩ | ⟨rfl, hi, q⟩
  · exact RcNeAt.lists_lengths (A := X.A) ⟨o, ho, hc, n, hd⟩ ⟨o2, ho2, hc2, n2, hd2⟩ (by rw [e1, e2]; exact bne_iff_ne.mpr hl) (by omega) X.prog X.w _ _ ⟨.bl true, H, I, rfl, q⟩
  · refine RcNeAt.lists (A := X.A) (e := fun _ => true) ⟨o, ho, hc, n, hd⟩ ⟨o2, ho2, hc2, n2, hd2⟩ (by rw [e1, e2]) (by omega) (fun j h1 h2 => eqAt_items r r2 hi j h1 h2) X.prog X.w _ _ ?_
    rw [all_tt]
    exact ⟨.bl false, H, I, rfl, q⟩
def rEqTs (K : PySem.W.Frag) : R2 := fun x y H Q => ∃ (a b : Addr) (xs : List V), x = .ref a ∧ y = .ref b ∧ SqT K H a xs ∧ SqT K H b xs ∧ (∀ v ∈ xs, idV v = true) ∧ Q (.bl true) H
theorem op_eqTs (hu : X.A.units + 64 < cLine) : OpR X (compareOp .Eq) (rEqTs X.K) := by
  intro pins s σ H x y v u Q I rx ry h
  obtain ⟨a, b, xs, rfl, rfl, ha, hb, hi, q⟩ := h
  cases rx
  cases ry
  obtain ⟨its, r, ⟨o, ho, hc, n, hd⟩, _⟩ := I.tuple ha
  obtain ⟨its2, r2, ⟨o2, ho2, hc2, n2, hd2⟩, _⟩ := I.tuple hb
  have e1 : its.toArray.size = xs.length := by rw [List.size_toArray]; exact r.length.symm
  have e2 : its2.toArray.size = xs.length := by rw [List.size_toArray]; exact r2.length.symm
  refine RcAt.tuples (A := X.A) (e := fun _ => true) ⟨o, ho, hc, n, hd⟩ ⟨o2, ho2, hc2, n2, hd2⟩ (by omega) (fun j h1 h2 => eqAt_items r r2 hi j h1 h2) X.prog X.w _ _ ?_
  rw [all_tt, Bool.true_and, e1, e2, beq_self_eq_true]
  exact ⟨.bl true, H, I, rfl, q⟩
/-- t + u, of any tuples -/
def rCatTa (K : PySem.W.Frag) : R2 := fun x y H Q => ∃ a b xs ys, x = .ref a ∧ y = .ref b ∧ SqT K H a xs ∧ SqT K H b ys ∧ xs.length + ys.length ≤ sizeLine ∧
  (xs = [] → Q (.ref b) H) ∧ (xs ≠ [] → ys = [] → Q (.ref a) H) ∧ (xs ≠ [] → ys ≠ [] → ∀ p, H p = none → Q (.ref p) (upd H p (.tup (xs ++ ys))))
theorem op_catTa : OpR X (binaryOp .Add) (rCatTa X.K) := by
  intro pins s σ H x y v u Q I rx ry h
  obtain ⟨a, b, xs, ys, rfl, rfl, ha, hb, hz, q0, q1, q2⟩ := h
  by_cases hx : xs = []
  · cases rx
    cases ry
    obtain ⟨its, r1, p1, _⟩ := I.tuple ha
    obtain ⟨its2, r2, p2, _⟩ := I.tuple hb
    obtain ⟨⟨cls, dd, data, sl⟩, ho, hc, n, hd⟩ := id p1
    obtain ⟨⟨cls2, dd2, data2, sl2⟩, ho2, hc2, n2, hd2⟩ := id p2
    simp only at hc hd hc2 hd2
    subst hc hd hc2 hd2
    have e : its = [] := r1.nil_iff.mpr hx
    exact concat_meets ⟨_, ho, rfl⟩ ⟨_, ho2, rfl⟩ noFill_tuple_add seq_tuple_add PySem.F.slot_tuple_add PySem.F.entry_tuple_add (PySem.F.args_tuple_add_2 _ _)
      (tuple_addW0 a b its.toArray its2.toArray n n2 dd dd2 sl sl2 (by simp [e])) ⟨ho, ho2, .ref b, H, I, rfl, q0 hx⟩
  · exact op_catT pins s σ H _ _ v u Q I rx ry ⟨a, b, xs, ys, rfl, rfl, ha, hb, hx, hz, q1 hx, q2 hx⟩
theorem pe_meV0 {X : Cx} {W : WX} {k : Nat} {dom : Addr → Prop} {f : Addr → Addr} {sp : Addr → SpK} {m : Str} {o : Expr} {qs apos : Pos} {ta : TE} {pl : Sem Bool} (tk : Takes X W) (he : PE X o ta) (hm : ∀ C, dom C → Cls X.K C ∧ Meth X.K C m (f C))
    (F : ∀ C, dom C → CallG X.prog X.w X.K X.mg X.base k (.ref (f C)) (sp C)) (hr : Room k X.A) (hg : X.A.guards = some [])
    (ht : eval (.Call (.Attribute o m apos) [] [] qs) X.env = (do
      let ov ← eval o X.env
      standAt apos.atName
      let (f, first) ← holding [ov] (getMethod ov m pl)
      callWith qs f first (backTo qs (starEach [] X.env)) (backToKw qs (keywordEach [] X.env))) := by rfl) :
    PE X (.Call (.Attribute o m apos) [] [] qs) (tMeV W dom m sp ta tNil) := by
  refine ⟨fun pins s σ H Q I h => ?_⟩
  refine PySem.W.methodCall_KW (pl := pl) (thn (he.run pins s σ H _ I h) fun u s1 ⟨x, H1, I1, rx, a, C, dx, fs, ex, d, ea, l, q⟩ => ?_) ht
  subst ex
  obtain rfl : u = Value.ref a := rx
  refine getmeth_ok I1 ea (hm C d).1 (hm C d).2 l ?_
  exact PySem.W.callWith_K0 (first := [.ref a]) I1.kIn (hm C d).2.kp (run_call (us := [.ref a]) (vs := [.ref a]) tk (F C d) hr hg I1 (.cons rfl .nil) .nil q)
end
end Uk

/-! UkAA: == of a dict and of anything else but a dict: False, either way -/
namespace PySem.SeqAt
open AutoSeq1 (wpAny_loadPart')
open MeetsSeq
theorem int_eq_dict_bool (b : Bool) (l : Addr) (es : Array DictEntry) (ep : Nat) (dd : Option Addr) (sl : Array (Option Value)) :
    Meets (Builtin.«int.__eq__» ⟨[.bool b, .ref l], []⟩) (fun _ R s => s.heap.get? l = some { cls := .type "dict", dict := dd, data := .dict es ep, slots := sl } ∧ R (.ok (.ret .notImplemented)) s) :=
  .of_wp fun prog w A R s h => by obtain ⟨hp, g, d, tk, os⟩ := s; obtain ⟨hl, h⟩ := h; wp_walk using wpAny_loadPart' hl, wpAny_load hl; exact ⟨_, rfl, h⟩
theorem int_eq_dict_int (b : Int) (u : Tok) (l : Addr) (es : Array DictEntry) (ep : Nat) (dd : Option Addr) (sl : Array (Option Value)) :
    Meets (Builtin.«int.__eq__» ⟨[.int b u, .ref l], []⟩) (fun _ R s => s.heap.get? l = some { cls := .type "dict", dict := dd, data := .dict es ep, slots := sl } ∧ R (.ok (.ret .notImplemented)) s) :=
  .of_wp fun prog w A R s h => by obtain ⟨hp, g, d, tk, os⟩ := s; obtain ⟨hl, h⟩ := h; wp_walk using wpAny_loadPart' hl, wpAny_load hl; exact ⟨_, rfl, h⟩
theorem str_eq_dict_str (b : Str) (u : Tok) (l : Addr) (es : Array DictEntry) (ep : Nat) (dd : Option Addr) (sl : Array (Option Value)) :
    Meets (Builtin.«str.__eq__» ⟨[.str b u, .ref l], []⟩) (fun _ R s => s.heap.get? l = some { cls := .type "dict", dict := dd, data := .dict es ep, slots := sl } ∧ R (.ok (.ret .notImplemented)) s) :=
  .of_wp fun prog w A R s h => by obtain ⟨hp, g, d, tk, os⟩ := s; obtain ⟨hl, h⟩ := h; wp_walk using wpAny_loadPart' hl, wpAny_load hl; exact ⟨_, rfl, h⟩
theorem list_eq_dict (l b : Addr) (items : Array Value) (n : Nat) (dd : Option Addr) (sl : Array (Option Value)) (es : Array DictEntry) (ep : Nat) (dd2 : Option Addr) (sl2 : Array (Option Value)) :
    Meets (Builtin.«list.__eq__» ⟨[.ref l, .ref b], []⟩) (fun _ R s => s.heap.get? l = some { cls := .type "list", dict := dd, data := .seq items n, slots := sl } ∧ s.heap.get? b = some { cls := .type "dict", dict := dd2, data := .dict es ep, slots := sl2 } ∧ R (.ok (.ret .notImplemented)) s) :=
  .of_wp fun prog w A R s h => by obtain ⟨hp, g, d, tk, os⟩ := s; obtain ⟨hl, hb, h⟩ := h; have f1 := F.sub_dict_list; wp_walk using wpAny_loadPart' hl, wpAny_loadPart' hb; exact ⟨_, rfl, h⟩
theorem tuple_eq_dict (l b : Addr) (items : Array Value) (n : Nat) (dd : Option Addr) (sl : Array (Option Value)) (es : Array DictEntry) (ep : Nat) (dd2 : Option Addr) (sl2 : Array (Option Value)) :
    Meets (Builtin.«tuple.__eq__» ⟨[.ref l, .ref b], []⟩) (fun _ R s => s.heap.get? l = some { cls := .type "tuple", dict := dd, data := .seq items n, slots := sl } ∧ s.heap.get? b = some { cls := .type "dict", dict := dd2, data := .dict es ep, slots := sl2 } ∧ R (.ok (.ret .notImplemented)) s) :=
  .of_wp fun prog w A R s h => by obtain ⟨hp, g, d, tk, os⟩ := s; obtain ⟨hl, hb, h⟩ := h; have f1 := F.sub_dict_tuple; wp_walk using wpAny_loadPart' hl, wpAny_loadPart' hb; exact ⟨_, rfl, h⟩
section
variable {prog : Program} {w : World} {A : Around} {E : Value → Shared → Prop} {s : Shared}
theorem dict_declines {id : String} {l : Addr} {v : Value} {T : String} {f : Str} (hslot : Slot "dict" f id) (e : id = "dict.__eq__") (hl : s.TypeIs (.ref l) "dict") (hv : s.TypeIs v T) (hsub : isSubtype (.type T) (.type "dict") = pure false) (Q' : Value → Shared → Prop) (hq : Q' .notImplemented s) :
    wpAny (model prog w) A (call (.builtin id) [.ref l, v]) Q' E s := by
  subst e
  refine wpAny_call_entry hslot hl PySem.F.entry_dict_eq ?_ (PySem.F.args_dict_eq_2 _ _)
  show wpAny _ _ (Builtin.Dict.dictSlotArgs "__eq__" ⟨[.ref l, v], []⟩ >>= _) _ _ s
  refine wpAny_bind ?_
  unfold Builtin.Dict.dictSlotArgs
  refine wpAny_bind (wpAny_notOrdered_dict hl ?_)
  show wpAny _ _ (pure (Value.ref l, v)) _ _ s
  refine wpAny_pure ?_
  refine wpAny_bind (wpAny_isInstance (T := T) hv hsub ?_)
  simp only [Bool.not_false, if_true]
  exact wpAny_bind (wpAny_rule (wpAny_pure ⟨_, rfl, hq⟩))
/-- a plain dict lies at l -/
def IsDict (s : Shared) (l : Addr) : Prop := ∃ dd es ep sl, s.heap.get? l = some { cls := .type "dict", dict := dd, data := .dict es ep, slots := sl }
theorem RcAt.dict_none {l : Addr} (hl : IsDict s l) (hu : A.units < cLine) : RcAt A s (.ref l) .none false := fun prog w E Q h => by
  obtain ⟨dd, es, ep, sl, ho⟩ := hl
  exact rc_eq_decline_or (k := false) ⟨_, ho, rfl⟩ rfl (by decide) F.sub_NoneType_dict F.slot_dict_eq F.slot_NoneType_eq_refl
    (fun _ hq => dict_declines (v := .none) (T := "NoneType") F.slot_dict_eq rfl ⟨_, ho, rfl⟩ rfl F.sub_NoneType_dict _ hq)
    (fun _ hq => call_gives F.slot_NoneType_eq_refl rfl F.entry_NoneType_eq (F.args_NoneType_eq_2 _ _) (NoneType___eq___none_ref_0 l) hq)
    (fun _ hq => wpAny_of_eq (rfl : isSame (.ref l) .none = pure false) hq) (.inr hu) h
theorem EqAt.dict_none {l : Addr} (hl : IsDict s l) (hu : A.units < cLine) : EqAt A s (.ref l) .none false := fun prog w E Q h => by
  unfold eqBool
  refine wpAny_holding ?_
  refine wpAny_ite_split (fun hab => absurd (eq_of_beq hab) nofun) (fun _ => ?_)
  exact wpAny_bind (RcAt.dict_none  hl hu prog w E _ (wpAny_truthy_bool h))
theorem RcAt.none_dict {l : Addr} (hl : IsDict s l) (hu : A.units < cLine) : RcAt A s .none (.ref l) false := fun prog w E Q h => by
  obtain ⟨dd, es, ep, sl, ho⟩ := hl
  exact rc_eq_decline_or (k := false) rfl ⟨_, ho, rfl⟩ (by decide) F.sub_dict_NoneType F.slot_NoneType_eq F.slot_dict_eq_refl
    (fun _ hq => call_gives F.slot_NoneType_eq rfl F.entry_NoneType_eq (F.args_NoneType_eq_2 _ _) (NoneType___eq___none_ref_0 l) hq)
    (fun _ hq => dict_declines (v := .none) (T := "NoneType") F.slot_dict_eq_refl rfl ⟨_, ho, rfl⟩ rfl F.sub_NoneType_dict _ hq)
    (fun _ hq => wpAny_of_eq (rfl : isSame .none (.ref l) = pure false) hq) (.inr hu) h
theorem EqAt.none_dict {l : Addr} (hl : IsDict s l) (hu : A.units < cLine) : EqAt A s .none (.ref l) false := fun prog w E Q h => by
  unfold eqBool
  refine wpAny_holding ?_
  refine wpAny_ite_split (fun hab => absurd (eq_of_beq hab) nofun) (fun _ => ?_)
  exact wpAny_bind (RcAt.none_dict  hl hu prog w E _ (wpAny_truthy_bool h))
theorem RcAt.dict_bool {l : Addr} (b : Bool) (hl : IsDict s l) (hu : A.units < cLine) : RcAt A s (.ref l) (.bool b) false := fun prog w E Q h => by
  obtain ⟨dd, es, ep, sl, ho⟩ := hl
  exact rc_eq_decline_or (k := false) ⟨_, ho, rfl⟩ rfl (by decide) F.sub_bool_dict F.slot_dict_eq F.slot_bool_eq_refl
    (fun _ hq => dict_declines (v := (.bool b)) (T := "bool") F.slot_dict_eq rfl ⟨_, ho, rfl⟩ rfl F.sub_bool_dict _ hq)
    (fun _ hq => call_meets F.slot_bool_eq_refl rfl F.entry_int_eq (F.args_int_eq_2 _ _) (int_eq_dict_bool b l es ep dd sl) ⟨ho, hq⟩)
    (fun _ hq => wpAny_of_eq (rfl : isSame (.ref l) (.bool b) = pure false) hq) (.inr hu) h
theorem EqAt.dict_bool {l : Addr} (b : Bool) (hl : IsDict s l) (hu : A.units < cLine) : EqAt A s (.ref l) (.bool b) false := fun prog w E Q h => by
  unfold eqBool
  refine wpAny_holding ?_
  refine wpAny_ite_split (fun hab => absurd (eq_of_beq hab) nofun) (fun _ => ?_)
  exact wpAny_bind (RcAt.dict_bool b hl hu prog w E _ (wpAny_truthy_bool h))
theorem RcAt.bool_dict {l : Addr} (b : Bool) (hl : IsDict s l) (hu : A.units < cLine) : RcAt A s (.bool b) (.ref l) false := fun prog w E Q h => by
  obtain ⟨dd, es, ep, sl, ho⟩ := hl
  exact rc_eq_decline_or (k := false) rfl ⟨_, ho, rfl⟩ (by decide) F.sub_dict_bool F.slot_bool_eq F.slot_dict_eq_refl
    (fun _ hq => call_meets F.slot_bool_eq rfl F.entry_int_eq (F.args_int_eq_2 _ _) (int_eq_dict_bool b l es ep dd sl) ⟨ho, hq⟩)
    (fun _ hq => dict_declines (v := (.bool b)) (T := "bool") F.slot_dict_eq_refl rfl ⟨_, ho, rfl⟩ rfl F.sub_bool_dict _ hq)
    (fun _ hq => wpAny_of_eq (rfl : isSame (.bool b) (.ref l) = pure false) hq) (.inr hu) h
theorem EqAt.bool_dict {l : Addr} (b : Bool) (hl : IsDict s l) (hu : A.units < cLine) : EqAt A s (.bool b) (.ref l) false := fun prog w E Q h => by
  unfold eqBool
  refine wpAny_holding ?_
  refine wpAny_ite_split (fun hab => absurd (eq_of_beq hab) nofun) (fun _ => ?_)
  exact wpAny_bind (RcAt.bool_dict b hl hu prog w E _ (wpAny_truthy_bool h))
theorem RcAt.dict_int {l : Addr} (b : Int) (u : Tok) (hl : IsDict s l) (hu : A.units < cLine) : RcAt A s (.ref l) (.int b u) false := fun prog w E Q h => by
  obtain ⟨dd, es, ep, sl, ho⟩ := hl
  exact rc_eq_decline_or (k := false) ⟨_, ho, rfl⟩ (typeIs_int s b u) (by decide) F.sub_int_dict F.slot_dict_eq F.slot_int_eq_refl
    (fun _ hq => dict_declines (v := (.int b u)) (T := "int") F.slot_dict_eq rfl ⟨_, ho, rfl⟩ (typeIs_int s b u) F.sub_int_dict _ hq)
    (fun _ hq => call_meets F.slot_int_eq_refl (typeIs_int s b u) F.entry_int_eq (F.args_int_eq_2 _ _) (int_eq_dict_int b u l es ep dd sl) ⟨ho, hq⟩)
    (fun _ hq => wpAny_of_eq (rfl : isSame (.ref l) (.int b u) = pure false) hq) (.inr hu) h
theorem EqAt.dict_int {l : Addr} (b : Int) (u : Tok) (hl : IsDict s l) (hu : A.units < cLine) : EqAt A s (.ref l) (.int b u) false := fun prog w E Q h => by
  unfold eqBool
  refine wpAny_holding ?_
  refine wpAny_ite_split (fun hab => absurd (eq_of_beq hab) nofun) (fun _ => ?_)
  exact wpAny_bind (RcAt.dict_int b u hl hu prog w E _ (wpAny_truthy_bool h))
theorem RcAt.int_dict {l : Addr} (b : Int) (u : Tok) (hl : IsDict s l) (hu : A.units < cLine) : RcAt A s (.int b u) (.ref l) false := fun prog w E Q h => by
  obtain ⟨dd, es, ep, sl, ho⟩ := hl
  exact rc_eq_decline_or (k := false) (typeIs_int s b u) ⟨_, ho, rfl⟩ (by decide) F.sub_dict_int F.slot_int_eq F.slot_dict_eq_refl
    (fun _ hq => call_meets F.slot_int_eq (typeIs_int s b u) F.entry_int_eq (F.args_int_eq_2 _ _) (int_eq_dict_int b u l es ep dd sl) ⟨ho, hq⟩)
    (fun _ hq => dict_declines (v := (.int b u)) (T := "int") F.slot_dict_eq_refl rfl ⟨_, ho, rfl⟩ (typeIs_int s b u) F.sub_int_dict _ hq)
    (fun _ hq => wpAny_of_eq (rfl : isSame (.int b u) (.ref l) = pure false) hq) (.inr hu) h
theorem EqAt.int_dict {l : Addr} (b : Int) (u : Tok) (hl : IsDict s l) (hu : A.units < cLine) : EqAt A s (.int b u) (.ref l) false := fun prog w E Q h => by
  unfold eqBool
  refine wpAny_holding ?_
  refine wpAny_ite_split (fun hab => absurd (eq_of_beq hab) nofun) (fun _ => ?_)
  exact wpAny_bind (RcAt.int_dict b u hl hu prog w E _ (wpAny_truthy_bool h))
theorem RcAt.dict_str {l : Addr} (b : Str) (u : Tok) (hl : IsDict s l) (hu : A.units < cLine) : RcAt A s (.ref l) (.str b u) false := fun prog w E Q h => by
  obtain ⟨dd, es, ep, sl, ho⟩ := hl
  exact rc_eq_decline_or (k := false) ⟨_, ho, rfl⟩ (typeIs_str s b u) (by decide) F.sub_str_dict F.slot_dict_eq F.slot_str_eq_refl
    (fun _ hq => dict_declines (v := (.str b u)) (T := "str") F.slot_dict_eq rfl ⟨_, ho, rfl⟩ (typeIs_str s b u) F.sub_str_dict _ hq)
    (fun _ hq => call_meets F.slot_str_eq_refl (typeIs_str s b u) F.entry_str_eq (F.args_str_eq_2 _ _) (str_eq_dict_str b u l es ep dd sl) ⟨ho, hq⟩)
    (fun _ hq => wpAny_of_eq (rfl : isSame (.ref l) (.str b u) = pure false) hq) (.inr hu) h
theorem EqAt.dict_str {l : Addr} (b : Str) (u : Tok) (hl : IsDict s l) (hu : A.units < cLine) : EqAt A s (.ref l) (.str b u) false := fun prog w E Q h => by
  unfold eqBool
  refine wpAny_holding ?_
  refine wpAny_ite_split (fun hab => absurd (eq_of_beq hab) nofun) (fun _ => ?_)
  exact wpAny_bind (RcAt.dict_str b u hl hu prog w E _ (wpAny_truthy_bool h))
theorem RcAt.str_dict {l : Addr} (b : Str) (u : Tok) (hl : IsDict s l) (hu : A.units < cLine) : RcAt A s (.str b u) (.ref l) false := fun prog w E Q h => by
  obtain ⟨dd, es, ep, sl, ho⟩ := hl
  exact rc_eq_decline_or (k := false) (typeIs_str s b u) ⟨_, ho, rfl⟩ (by decide) F.sub_dict_str F.slot_str_eq F.slot_dict_eq_refl
    (fun _ hq => call_meets F.slot_str_eq (typeIs_str s b u) F.entry_str_eq (F.args_str_eq_2 _ _) (str_eq_dict_str b u l es ep dd sl) ⟨ho, hq⟩)
    (fun _ hq => dict_declines (v := (.str b u)) (T := "str") F.slot_dict_eq_refl rfl ⟨_, ho, rfl⟩ (typeIs_str s b u) F.sub_str_dict _ hq)
    (fun _ hq => wpAny_of_eq (rfl : isSame (.str b u) (.ref l) = pure false) hq) (.inr hu) h
theorem EqAt.str_dict {l : Addr} (b : Str) (u : Tok) (hl : IsDict s l) (hu : A.units < cLine) : EqAt A s (.str b u) (.ref l) false := fun prog w E Q h => by
  unfold eqBool
  refine wpAny_holding ?_
  refine wpAny_ite_split (fun hab => absurd (eq_of_beq hab) nofun) (fun _ => ?_)
  exact wpAny_bind (RcAt.str_dict b u hl hu prog w E _ (wpAny_truthy_bool h))
theorem ne_of_dict_list {l b : Addr} {items : Array Value} (hl : IsDict s l) (hb : s.heap.IsList b items) : l ≠ b := fun e => by
  subst e
  obtain ⟨dd, es, ep, sl, ho⟩ := hl
  obtain ⟨o2, ho2, hc2, _⟩ := hb
  rw [ho] at ho2
  cases ho2
  exact absurd hc2 (by simp)
theorem EqAt.dict_list {l b : Addr} {items : Array Value} (hl : IsDict s l) (hb : s.heap.IsList b items) (hu : A.units < cLine) : EqAt A s (.ref l) (.ref b) false := .of_refs (ne_of_dict_list hl hb) fun prog w E Q h => by
  have hne := ne_of_dict_list hl hb
  obtain ⟨dd, es, ep, sl, ho⟩ := hl
  obtain ⟨⟨cls2, dd2, data2, sl2⟩, ho2, hc2, n2, hd2⟩ := id hb
  simp only at hc2 hd2
  subst hc2 hd2
  exact (rc_eq_decline_or (k := false) ⟨_, ho, rfl⟩ ⟨_, ho2, rfl⟩ (by decide) F.sub_list_dict F.slot_dict_eq F.slot_list_eq_refl
    (fun _ hq => dict_declines (v := .ref b) (T := "list") F.slot_dict_eq rfl ⟨_, ho, rfl⟩ ⟨_, ho2, rfl⟩ F.sub_list_dict _ hq)
    (fun _ hq => call_meets F.slot_list_eq_refl ⟨_, ho2, rfl⟩ F.entry_list_eq (F.args_list_eq_2 _ _) (list_eq_dict b l items n2 dd2 sl2 es ep dd sl) ⟨ho2, ho, hq⟩)
    (fun _ hq => wpAny_isSame_ref_other hne ho ho2 (by simp) hq) (.inr hu) h)
theorem EqAt.list_dict {l b : Addr} {items : Array Value} (hl : IsDict s l) (hb : s.heap.IsList b items) (hu : A.units < cLine) : EqAt A s (.ref b) (.ref l) false := .of_refs (ne_of_dict_list hl hb).symm fun prog w E Q h => by
  have hne := ne_of_dict_list hl hb
  obtain ⟨dd, es, ep, sl, ho⟩ := hl
  obtain ⟨⟨cls2, dd2, data2, sl2⟩, ho2, hc2, n2, hd2⟩ := id hb
  simp only at hc2 hd2
  subst hc2 hd2
  exact (rc_eq_decline_or (k := false) ⟨_, ho2, rfl⟩ ⟨_, ho, rfl⟩ (by decide) F.sub_dict_list F.slot_list_eq F.slot_dict_eq_refl
    (fun _ hq => call_meets F.slot_list_eq ⟨_, ho2, rfl⟩ F.entry_list_eq (F.args_list_eq_2 _ _) (list_eq_dict b l items n2 dd2 sl2 es ep dd sl) ⟨ho2, ho, hq⟩)
    (fun _ hq => dict_declines (v := .ref b) (T := "list") F.slot_dict_eq_refl rfl ⟨_, ho, rfl⟩ ⟨_, ho2, rfl⟩ F.sub_list_dict _ hq)
    (fun _ hq => wpAny_isSame_ref_other' hne.symm ho2 ho (by simp) hq) (.inr hu) h)
theorem ne_of_dict_tuple {l b : Addr} {items : Array Value} (hl : IsDict s l) (hb : s.heap.IsTuple b items) : l ≠ b := fun e => by
  subst e
  obtain ⟨dd, es, ep, sl, ho⟩ := hl
  obtain ⟨o2, ho2, hc2, _⟩ := hb
  rw [ho] at ho2
  cases ho2
  exact absurd hc2 (by simp)
theorem EqAt.dict_tuple {l b : Addr} {items : Array Value} (hl : IsDict s l) (hb : s.heap.IsTuple b items) (hu : A.units < cLine) : EqAt A s (.ref l) (.ref b) false := .of_refs (ne_of_dict_tuple hl hb) fun prog w E Q h => by
  have hne := ne_of_dict_tuple hl hb
  obtain ⟨dd, es, ep, sl, ho⟩ := hl
  obtain ⟨⟨cls2, dd2, data2, sl2⟩, ho2, hc2, n2, hd2⟩ := id hb
  simp only at hc2 hd2
  subst hc2 hd2
  exact (rc_eq_decline_or (k := false) ⟨_, ho, rfl⟩ ⟨_, ho2, rfl⟩ (by decide) F.sub_tuple_dict F.slot_dict_eq F.slot_tuple_eq_refl
    (fun _ hq => dict_declines (v := .ref b) (T := "tuple") F.slot_dict_eq rfl ⟨_, ho, rfl⟩ ⟨_, ho2, rfl⟩ F.sub_tuple_dict _ hq)
    (fun _ hq => call_meets F.slot_tuple_eq_refl ⟨_, ho2, rfl⟩ F.entry_tuple_eq (F.args_tuple_eq_2 _ _) (tuple_eq_dict b l items n2 dd2 sl2 es ep dd sl) ⟨ho2, ho, hq⟩)
    (fun _ hq => wpAny_isSame_ref_other hne ho ho2 (by simp) hq) (.inr hu) h)
theorem EqAt.tuple_dict {l b : Addr} {items : Array Value} (hl : IsDict s l) (hb : s.heap.IsTuple b items) (hu : A.units < cLine) : EqAt A s (.ref b) (.ref l) false := .of_refs (ne_of_dict_tuple hl hb).symm fun prog w E Q h => by
  have hne := ne_of_dict_tuple hl hb
  obtain ⟨dd, es, ep, sl, ho⟩ := hl
  obtain ⟨⟨cls2, dd2, data2, sl2⟩, ho2, hc2, n2, hd2⟩ := id hb
  simp only at hc2 hd2
  subst hc2 hd2
  exact (rc_eq_decline_or (k := false) ⟨_, ho2, rfl⟩ ⟨_, ho, rfl⟩ (by decide) F.sub_dict_tuple F.slot_tuple_eq F.slot_dict_eq_refl
    (fun _ hq => call_meets F.slot_tuple_eq ⟨_, ho2, rfl⟩ F.entry_tuple_eq (F.args_tuple_eq_2 _ _) (tuple_eq_dict b l items n2 dd2 sl2 es ep dd sl) ⟨ho2, ho, hq⟩)
    (fun _ hq => dict_declines (v := .ref b) (T := "tuple") F.slot_dict_eq_refl rfl ⟨_, ho, rfl⟩ ⟨_, ho2, rfl⟩ F.sub_tuple_dict _ hq)
    (fun _ hq => wpAny_isSame_ref_other' hne.symm ho2 ho (by simp) hq) (.inr hu) h)
end
end PySem.SeqAt

/-! UkAB: == and != of data with dicts within (each dict of one entry with a text as its key) -/
namespace Uk
open PySem PySem.Spec PyProof.Rows L2 StX PySem.SeqAt
open PySem.W (EqTree)
def eqKey : PyData → PyData → Bool
  | .str x, .str y => x == y
  | _, _ => false
def isStrD : PyData → Bool
  | .str _ => true
  | _ => false
mutual
def eqQ : PyData → PyData → Bool
  | .list xs, e => match e with
    | .list ys => eqQAll xs ys
    | _ => false
  | .tuple xs, e => match e with
    | .tuple ys => eqQAll xs ys
    | _ => false
  | .dict ps, e => match e with
    | .dict qs => eqQKv ps qs
    | _ => false
  | .none, e => PyData.eqv .none e
  | .bool b, e => PyData.eqv (.bool b) e
  | .int b, e => PyData.eqv (.int b) e
  | .str b, e => PyData.eqv (.str b) e
def eqQAll : List PyData → List PyData → Bool
  | [], e => match e with
    | [] => true
    | _ => false
  | x :: xs, e => match e with
    | y :: ys => eqQ x y && eqQAll xs ys
    | _ => false
def eqQKv : List (PyData × PyData) → List (PyData × PyData) → Bool
  | [], _ => false
  | (k, d) :: r, e => match e with
    | (k', d') :: r' => eqKey k k' && eqQ d d'
    | [] => false
end
mutual
def okQ : PyData → Bool
  | .list xs => okQAll xs
  | .tuple xs => okQAll xs
  | .dict ps => decide (ps.length = 1) && okQKv ps
  | _ => true
def okQAll : List PyData → Bool
  | [] => true
  | x :: xs => okQ x && okQAll xs
def okQKv : List (PyData × PyData) → Bool
  | [] => true
  | (k, d) :: r => isStrD k && okQ d && okQKv r
end
theorem eqKey_refl {k : PyData} (h : isStrD k = true) : eqKey k k = true := by
  cases k <;> first | (show (_ == _) = true; simp) | exact absurd h (by simp [isStrD])
mutual
theorem eqQ_refl : ∀ d : PyData, okQ d = true → eqQ d d = true
  | .none, _ => rfl
  | .bool b, _ => by show (b == b) = true; simp
  | .int i, _ => by show (i == i) = true; simp
  | .str x, _ => by show (x == x) = true; simp
  | .list xs, h => eqQAll_refl xs h
  | .tuple xs, h => eqQAll_refl xs h
  | .dict ps, h => by
    have h : (decide (ps.length = 1) && okQKv ps) = true := h
    rw [Bool.and_eq_true, decide_eq_true_eq] at h
    exact eqQKv_refl ps h.2 (by rw [h.1]; exact Nat.one_ne_zero)
theorem eqQAll_refl : ∀ xs : List PyData, okQAll xs = true → eqQAll xs xs = true
  | [], _ => rfl
  | x :: xs, h => by
    have h : (okQ x && okQAll xs) = true := h
    rw [Bool.and_eq_true] at h
    show (eqQ x x && eqQAll xs xs) = true
    rw [eqQ_refl x h.1, eqQAll_refl xs h.2] <;> rfl
theorem eqQKv_refl : ∀ ps : List (PyData × PyData), okQKv ps = true → ps.length ≠ 0 → eqQKv ps ps = true
  | [], _, h => absurd rfl h
  | (k, d) :: r, h, _ => by
    have h : (isStrD k && okQ d && okQKv r) = true := h
    rw [Bool.and_eq_true, Bool.and_eq_true] at h
    show (eqKey k k && eqQ d d) = true
    rw [eqKey_refl h.1.1, eqQ_refl d h.1.2] <;> rfl
end
theorem okQAll_get : ∀ {xs : List PyData} {i : Nat} {d : PyData}, okQAll xs = true → xs[i]? = some d → okQ d = true
  | [], _, _, _, e => by simp at e
  | x :: xs, 0, d, h, e => by
    have h : (okQ x && okQAll xs) = true := h
    rw [Bool.and_eq_true] at h
    simp at e
    subst e
    exact h.1
  | x :: xs, i + 1, d, h, e => by
    have h : (okQ x && okQAll xs) = true := h
    rw [Bool.and_eq_true] at h
    exact okQAll_get (i := i) h.2 (by simpa using e)
theorem eqQAll_range : ∀ {xs ys : List PyData}, xs.length = ys.length → eqQAll xs ys = (List.range xs.length).all fun j => eqQ (xs.getD j .none) (ys.getD j .none)
  | [], [], _ => rfl
  | x :: xs, y :: ys, h => by
    show (eqQ x y && eqQAll xs ys) = _
    rw [eqQAll_range (Nat.succ.inj h), List.length_cons, List.range_succ_eq_map, List.all_cons, List.all_map]
    rfl
theorem eqQAll_len : ∀ {xs ys : List PyData}, xs.length ≠ ys.length → eqQAll xs ys = false
  | [], [], h => absurd rfl h
  | [], _ :: _, _ => rfl
  | _ :: _, [], _ => rfl
  | x :: xs, y :: ys, h => by
    show (eqQ x y && eqQAll xs ys) = _
    rw [eqQAll_len fun e => h (congrArg Nat.succ e), Bool.and_false]
theorem eqQAll_min {xs ys : List PyData} : eqQAll xs ys = ((List.range (min xs.length ys.length)).all (fun j => eqQ (xs.getD j .none) (ys.getD j .none)) && xs.length == ys.length) := by
  by_cases h : xs.length = ys.length
  · rw [eqQAll_range h, ← h, Nat.min_self, beq_self_eq_true, Bool.and_true]
  · rw [eqQAll_len h, beq_eq_false_iff_ne.mpr h, Bool.and_false]
section
variable {X : Cx} {pins : List (Addr × Obj)} {σ : L2.St} {H : Hp} {s : Shared}
theorem isDict_of (I : Inv X pins σ H s) {a : Addr} {kvs : List (Key × V)} (h : H a = some (.dK kvs)) : IsDict s a := by
  obtain ⟨_, hne, vs, kv, o, es, ep, ho, hx, hd, _, hp, _⟩ := dk_of I.hok h
  obtain ⟨cls, dd, data, sl⟩ := o
  have h1 : cls = .type "dict" := hx.1
  have h2 : data = .dict es ep := hd
  subst h1 h2
  exact ⟨dd, es, ep, sl, ho⟩
theorem isList_of (I : Inv X pins σ H s) {a : Addr} {xs : List V} (h : H a = some (.lst xs)) : ∃ its, Vals xs its ∧ s.heap.IsList a its.toArray := by
  obtain ⟨its, rv, ⟨o, n, ho, hc, _, hd⟩, _⟩ := I.list (SqL.of h)
  exact ⟨its, rv, o, ho, hc, n, hd⟩
theorem isTup_of (I : Inv X pins σ H s) {a : Addr} {xs : List V} (h : SqT X.K H a xs) : ∃ its, Vals xs its ∧ s.heap.IsTuple a its.toArray := by
  obtain ⟨its, rv, ⟨o, ho, hc, n, hd⟩, _⟩ := I.tuple h
  exact ⟨its, rv, o, ho, hc, n, hd⟩
theorem list_not_tuple (I : Inv X pins σ H s) {a : Addr} {xs ys : List V} (g : H a = some (.lst xs)) (g' : SqT X.K H a ys) : False := by
  obtain ⟨_, _, hl⟩ := isList_of I g
  obtain ⟨_, _, hl'⟩ := isTup_of I g'
  exact ne_of_list_tuple hl hl' rfl
theorem dict_not_tuple (I : Inv X pins σ H s) {a : Addr} {kvs : List (Key × V)} {ys : List V} (g : H a = some (.dK kvs)) (g' : SqT X.K H a ys) : False := by
  obtain ⟨_, _, hl'⟩ := isTup_of I g'
  exact ne_of_dict_tuple (isDict_of I g) hl' rfl
theorem tup_uniq (I : Inv X pins σ H s) {a : Addr} {xs ys : List V} (g : SqT X.K H a xs) (g' : SqT X.K H a ys) : xs = ys := I.tuple_inj g g'
mutual
theorem dq_uniq (I : Inv X pins σ H s) : ∀ (d e : PyData) (v : V), Dq X.K H v d → Dq X.K H v e → d = e
  | .none, _, _, h, h' => by cases h; cases h'; rfl
  | .bool b, _, _, h, h' => by cases h; cases h'; rfl
  | .int i, _, _, h, h' => by cases h; cases h'; rfl
  | .str x, _, _, h, h' => by cases h; cases h'; rfl
  | .list ds, e, _, h, h' => by
    cases h with
    | lst g q =>
      cases h' with
      | lst g' q' =>
        rw [g] at g'
        cases g'
        rw [dqAll_uniq I ds _ _ q q']
      | tup g' q' =>
        exact (list_not_tuple I g g').elim
      | dct g' q' => rw [g] at g'; cases g'
  | .tuple ds, e, _, h, h' => by
    cases h with
    | tup g q =>
      cases h' with
      | lst g' q' => exact (list_not_tuple I g' g).elim
      | tup g' q' =>
        have := tup_uniq I g g'
        subst this
        rw [dqAll_uniq I ds _ _ q q']
      | dct g' q' => exact (dict_not_tuple I g' g).elim
  | .dict ps, e, _, h, h' => by
    cases h with
    | dct g q =>
      cases h' with
      | lst g' q' => rw [g] at g'; cases g'
      | tup g' q' => exact (dict_not_tuple I g g').elim
      | dct g' q' =>
        rw [g] at g'
        cases g'
        rw [dqKv_uniq I ps _ _ q q']
theorem dqAll_uniq (I : Inv X pins σ H s) : ∀ (ds es : List PyData) (vs : List V), DqAll X.K H vs ds → DqAll X.K H vs es → ds = es
  | [], _, _, h, h' => by cases h; cases h'; rfl
  | d :: ds, _, _, h, h' => by
    cases h with
    | cons a r =>
      cases h' with
      | cons a' r' => rw [dq_uniq I d _ _ a a', dqAll_uniq I ds _ _ r r']
theorem dqKv_uniq (I : Inv X pins σ H s) : ∀ (ps qs : List (PyData × PyData)) (vs : List (Key × V)), DqKv X.K H vs ps → DqKv X.K H vs qs → ps = qs
  | [], _, _, h, h' => by cases h; cases h'; rfl
  | (k, d) :: ps, _, _, h, h' => by
    cases h with
    | cons a r =>
      cases h' with
      | cons a' r' => rw [dq_uniq I d _ _ a a', dqKv_uniq I ps _ _ r r']
end
mutual
theorem dq_tree (I : Inv X pins σ H s) : ∀ (d e : PyData) (v v' : V) (u u' : Value) (n : Nat), Dq X.K H v d → Dq X.K H v' e → RelV v u → RelV v' u' → okQ d = true → okQ e = true → PyData.depth d ≤ n → EqTree X.prog X.w s n u u' (eqQ d e)
  | .none, e, v, v', u, u', n, h, h', r, r', o, o', hn => by
    cases h with
    | non =>
      cases h' with
      | non =>
        cases r
        cases r'
        exact .leaf fun A hu => EqAt.same _
      | bl b' =>
        cases r
        cases r'
        exact .leaf fun A hu => EqAt.none_bool  b'
      | int b' =>
        cases r
        obtain ⟨t', rfl⟩ := r'
        exact .leaf fun A hu => EqAt.none_int  b' t'
      | str b' =>
        cases r
        obtain ⟨t', rfl⟩ := r'
        exact .leaf fun A hu => EqAt.none_str  b' t'
      | @lst a' xs' ds' g' q' =>
        cases r
        cases r'
        obtain ⟨its', _, hl'⟩ := isList_of I g'
        exact .leaf fun A hu => EqAt.none_list  hl' (by omega)
      | @tup a' xs' ds' g' q' =>
        cases r
        cases r'
        obtain ⟨its', _, hl'⟩ := isTup_of I g'
        exact .leaf fun A hu => EqAt.none_tuple  hl' (by omega)
      | @dct a' kvs' ps' g' q' =>
        cases r
        cases r'
        have hl' := isDict_of I g'
        exact .leaf fun A hu => EqAt.none_dict  hl' (by omega)
  | .bool b, e, v, v', u, u', n, h, h', r, r', o, o', hn => by
    cases h with
    | bl _ =>
      cases h' with
      | non =>
        cases r
        cases r'
        exact .leaf fun A hu => EqAt.bool_none b 
      | bl b' =>
        cases r
        cases r'
        exact .leaf fun A hu => EqAt.bool_bool b b'
      | int b' =>
        cases r
        obtain ⟨t', rfl⟩ := r'
        exact .leaf fun A hu => EqAt.bool_int b b' t'
      | str b' =>
        cases r
        obtain ⟨t', rfl⟩ := r'
        exact .leaf fun A hu => EqAt.bool_str b b' t'
      | @lst a' xs' ds' g' q' =>
        cases r
        cases r'
        obtain ⟨its', _, hl'⟩ := isList_of I g'
        exact .leaf fun A hu => EqAt.bool_list b hl' (by omega)
      | @tup a' xs' ds' g' q' =>
        cases r
        cases r'
        obtain ⟨its', _, hl'⟩ := isTup_of I g'
        exact .leaf fun A hu => EqAt.bool_tuple b hl' (by omega)
      | @dct a' kvs' ps' g' q' =>
        cases r
        cases r'
        have hl' := isDict_of I g'
        exact .leaf fun A hu => EqAt.bool_dict b hl' (by omega)
  | .int b, e, v, v', u, u', n, h, h', r, r', o, o', hn => by
    cases h with
    | int _ =>
      cases h' with
      | non =>
        obtain ⟨t, rfl⟩ := r
        cases r'
        exact .leaf fun A hu => EqAt.int_none b t 
      | bl b' =>
        obtain ⟨t, rfl⟩ := r
        cases r'
        exact .leaf fun A hu => EqAt.int_bool b t b'
      | int b' =>
        obtain ⟨t, rfl⟩ := r
        obtain ⟨t', rfl⟩ := r'
        exact .leaf fun A hu => EqAt.int_int b t b' t'
      | str b' =>
        obtain ⟨t, rfl⟩ := r
        obtain ⟨t', rfl⟩ := r'
        exact .leaf fun A hu => EqAt.int_str b t b' t'
      | @lst a' xs' ds' g' q' =>
        obtain ⟨t, rfl⟩ := r
        cases r'
        obtain ⟨its', _, hl'⟩ := isList_of I g'
        exact .leaf fun A hu => EqAt.int_list b t hl' (by omega)
      | @tup a' xs' ds' g' q' =>
        obtain ⟨t, rfl⟩ := r
        cases r'
        obtain ⟨its', _, hl'⟩ := isTup_of I g'
        exact .leaf fun A hu => EqAt.int_tuple b t hl' (by omega)
      | @dct a' kvs' ps' g' q' =>
        obtain ⟨t, rfl⟩ := r
        cases r'
        have hl' := isDict_of I g'
        exact .leaf fun A hu => EqAt.int_dict b t hl' (by omega)
  | .str b, e, v, v', u, u', n, h, h', r, r', o, o', hn => by
    cases h with
    | str _ =>
      cases h' with
      | non =>
        obtain ⟨t, rfl⟩ := r
        cases r'
        exact .leaf fun A hu => EqAt.str_none b t 
      | bl b' =>
        obtain ⟨t, rfl⟩ := r
        cases r'
        exact .leaf fun A hu => EqAt.str_bool b t b'
      | int b' =>
        obtain ⟨t, rfl⟩ := r
        obtain ⟨t', rfl⟩ := r'
        exact .leaf fun A hu => EqAt.str_int b t b' t'
      | str b' =>
        obtain ⟨t, rfl⟩ := r
        obtain ⟨t', rfl⟩ := r'
        exact .leaf fun A hu => EqAt.str_str b t b' t'
      | @lst a' xs' ds' g' q' =>
        obtain ⟨t, rfl⟩ := r
        cases r'
        obtain ⟨its', _, hl'⟩ := isList_of I g'
        exact .leaf fun A hu => EqAt.str_list b t hl' (by omega)
      | @tup a' xs' ds' g' q' =>
        obtain ⟨t, rfl⟩ := r
        cases r'
        obtain ⟨its', _, hl'⟩ := isTup_of I g'
        exact .leaf fun A hu => EqAt.str_tuple b t hl' (by omega)
      | @dct a' kvs' ps' g' q' =>
        obtain ⟨t, rfl⟩ := r
        cases r'
        have hl' := isDict_of I g'
        exact .leaf fun A hu => EqAt.str_dict b t hl' (by omega)
  | .list ds, e, v, v', u, u', n, h, h', r, r', o, o', hn => by
    cases h with
    | @lst a xs _ g q =>
      cases h' with
      | non =>
        cases r
        cases r'
        obtain ⟨its, _, hl⟩ := isList_of I g
        exact .leaf fun A hu => EqAt.list_none  hl (by omega)
      | bl b' =>
        cases r
        cases r'
        obtain ⟨its, _, hl⟩ := isList_of I g
        exact .leaf fun A hu => EqAt.list_bool b' hl (by omega)
      | int b' =>
        cases r
        obtain ⟨t', rfl⟩ := r'
        obtain ⟨its, _, hl⟩ := isList_of I g
        exact .leaf fun A hu => EqAt.list_int b' t' hl (by omega)
      | str b' =>
        cases r
        obtain ⟨t', rfl⟩ := r'
        obtain ⟨its, _, hl⟩ := isList_of I g
        exact .leaf fun A hu => EqAt.list_str b' t' hl (by omega)
      | @lst a' xs' ds' g' q' =>
        cases r
        cases r'
        by_cases ea : a = a'
        · subst ea
          rw [g] at g'; cases g'
          have e := dqAll_uniq I _ _ _ q q'
          subst e
          rw [show eqQ (.list ds) (.list ds) = true from eqQ_refl _ o]
          exact .same
        · obtain ⟨its, rv, hl⟩ := isList_of I g
          obtain ⟨its', rv', hl'⟩ := isList_of I g'
          have n1 : its.toArray.size = ds.length := by rw [List.size_toArray, ← rv.length, dqAll_len q]
          have n2 : its'.toArray.size = ds'.length := by rw [List.size_toArray, ← rv'.length, dqAll_len q']
          obtain ⟨k, rfl⟩ : ∃ k, n = k + 1 := ⟨n - 1, by have : PyData.depthAll ds + 1 ≤ n := hn; omega⟩
          have hk : PyData.depthAll ds ≤ k := Nat.le_of_succ_le_succ hn
          have ih := dqAll_tree I ds _ _ ds' _ _ k q q' rv rv' o o' hk
          by_cases hz : its.toArray.size = its'.toArray.size
          · have t := EqTree.lists (prog := X.prog) (w := X.w) (e := fun j => eqQ (ds.getD j .none) (ds'.getD j .none)) ea hl hl' hz ih
            rw [n1, ← eqQAll_range (by omega)] at t
            exact t
          · rw [show eqQ (.list ds) (.list ds') = false from eqQAll_len (by omega)]
            exact EqTree.listsLen ea hl hl' (bne_iff_ne.mpr hz)
      | @tup a' xs' ds' g' q' =>
        cases r
        cases r'
        obtain ⟨its, _, hl⟩ := isList_of I g
        obtain ⟨its', _, hl'⟩ := isTup_of I g'
        exact .leaf fun A hu => EqAt.list_tuple hl hl' (by omega)
      | @dct a' kvs' ps' g' q' =>
        cases r
        cases r'
        obtain ⟨its, _, hl⟩ := isList_of I g
        have hl' := isDict_of I g'
        exact .leaf fun A hu => EqAt.list_dict hl' hl (by omega)
  | .tuple ds, e, v, v', u, u', n, h, h', r, r', o, o', hn => by
    cases h with
    | @tup a xs _ g q =>
      cases h' with
      | non =>
        cases r
        cases r'
        obtain ⟨its, _, hl⟩ := isTup_of I g
        exact .leaf fun A hu => EqAt.tuple_none  hl (by omega)
      | bl b' =>
        cases r
        cases r'
        obtain ⟨its, _, hl⟩ := isTup_of I g
        exact .leaf fun A hu => EqAt.tuple_bool b' hl (by omega)
      | int b' =>
        cases r
        obtain ⟨t', rfl⟩ := r'
        obtain ⟨its, _, hl⟩ := isTup_of I g
        exact .leaf fun A hu => EqAt.tuple_int b' t' hl (by omega)
      | str b' =>
        cases r
        obtain ⟨t', rfl⟩ := r'
        obtain ⟨its, _, hl⟩ := isTup_of I g
        exact .leaf fun A hu => EqAt.tuple_str b' t' hl (by omega)
      | @lst a' xs' ds' g' q' =>
        cases r
        cases r'
        obtain ⟨its, _, hl⟩ := isTup_of I g
        obtain ⟨its', _, hl'⟩ := isList_of I g'
        exact .leaf fun A hu => EqAt.tuple_list hl hl' (by omega)
      | @tup a' xs' ds' g' q' =>
        cases r
        cases r'
        by_cases ea : a = a'
        · subst ea
          have ex := tup_uniq I g g'; subst ex
          have e := dqAll_uniq I _ _ _ q q'
          subst e
          rw [show eqQ (.tuple ds) (.tuple ds) = true from eqQ_refl _ o]
          exact .same
        · obtain ⟨its, rv, hl⟩ := isTup_of I g
          obtain ⟨its', rv', hl'⟩ := isTup_of I g'
          have n1 : its.toArray.size = ds.length := by rw [List.size_toArray, ← rv.length, dqAll_len q]
          have n2 : its'.toArray.size = ds'.length := by rw [List.size_toArray, ← rv'.length, dqAll_len q']
          obtain ⟨k, rfl⟩ : ∃ k, n = k + 1 := ⟨n - 1, by have : PyData.depthAll ds + 1 ≤ n := hn; omega⟩
          have hk : PyData.depthAll ds ≤ k := Nat.le_of_succ_le_succ hn
          have ih := dqAll_tree I ds _ _ ds' _ _ k q q' rv rv' o o' hk
          have t := EqTree.tuples (prog := X.prog) (w := X.w) (e := fun j => eqQ (ds.getD j .none) (ds'.getD j .none)) ea hl hl' ih
          rw [n1, n2, ← eqQAll_min] at t
          exact t
      | @dct a' kvs' ps' g' q' =>
        cases r
        cases r'
        obtain ⟨its, _, hl⟩ := isTup_of I g
        have hl' := isDict_of I g'
        exact .leaf fun A hu => EqAt.tuple_dict hl' hl (by omega)
  | .dict ps, e, v, v', u, u', n, h, h', r, r', o, o', hn => by
    cases h with
    | @dct a kvs _ g q =>
      cases h' with
      | non =>
        cases r
        cases r'
        have hl := isDict_of I g
        exact .leaf fun A hu => EqAt.dict_none  hl (by omega)
      | bl b' =>
        cases r
        cases r'
        have hl := isDict_of I g
        exact .leaf fun A hu => EqAt.dict_bool b' hl (by omega)
      | int b' =>
        cases r
        obtain ⟨t', rfl⟩ := r'
        have hl := isDict_of I g
        exact .leaf fun A hu => EqAt.dict_int b' t' hl (by omega)
      | str b' =>
        cases r
        obtain ⟨t', rfl⟩ := r'
        have hl := isDict_of I g
        exact .leaf fun A hu => EqAt.dict_str b' t' hl (by omega)
      | @lst a' xs' ds' g' q' =>
        cases r
        cases r'
        have hl := isDict_of I g
        obtain ⟨its', _, hl'⟩ := isList_of I g'
        exact .leaf fun A hu => EqAt.dict_list hl hl' (by omega)
      | @tup a' xs' ds' g' q' =>
        cases r
        cases r'
        have hl := isDict_of I g
        obtain ⟨its', _, hl'⟩ := isTup_of I g'
        exact .leaf fun A hu => EqAt.dict_tuple hl hl' (by omega)
      | @dct a' kvs' ps' g' q' =>
        cases r
        cases r'
        by_cases ea : a = a'
        · subst ea
          rw [g] at g'; cases g'
          have e := dqKv_uniq I _ _ _ q q'
          subst e
          rw [show eqQ (.dict ps) (.dict ps) = true from eqQ_refl _ o]
          exact .same
        · obtain ⟨k, rfl⟩ : ∃ k, n = k + 1 := ⟨n - 1, by have : PyData.depthKv ps + 1 ≤ n := hn; omega⟩
          have hk : PyData.depthKv ps ≤ k := Nat.le_of_succ_le_succ hn
          have o : (decide (ps.length = 1) && okQKv ps) = true := o
          have o' : (decide (ps'.length = 1) && okQKv ps') = true := o'
          rw [Bool.and_eq_true, decide_eq_true_eq] at o o'
          exact dqKv_tree I ps kvs ps' kvs' a a' k ea g g' q q' o.1 o.2 o'.1 o'.2 hk
theorem dqAll_tree (I : Inv X pins σ H s) : ∀ (ds : List PyData) (vs : List V) (us : List Value) (es : List PyData) (vs' : List V) (us' : List Value) (n : Nat), DqAll X.K H vs ds → DqAll X.K H vs' es → Vals vs us → Vals vs' us' → okQAll ds = true → okQAll es = true → PyData.depthAll ds ≤ n →
    ∀ j (h1 : j < us.toArray.size) (h2 : j < us'.toArray.size), EqTree X.prog X.w s n us.toArray[j] us'.toArray[j] (eqQ (ds.getD j .none) (es.getD j .none))
  | [], _, _, _, _, _, _, h, _, r, _, _, _, _, j, h1, _ => by
    cases h
    cases r
    exact absurd h1 (Nat.not_lt_zero j)
  | d :: ds, _, _, es, _, _, n, h, h', r, r', o, o', hn, j, h1, h2 => by
    cases h with
    | cons a q =>
      cases r with
      | cons b t =>
        cases h' with
        | nil =>
          cases r'
          exact absurd h2 (Nat.not_lt_zero j)
        | @cons _ _ e es a' q' =>
          cases r' with
          | cons b' t' =>
            have o : (okQ d && okQAll ds) = true := o
            have o' : (okQ e && okQAll es) = true := o'
            rw [Bool.and_eq_true] at o o'
            have hn : max (PyData.depth d) (PyData.depthAll ds) ≤ n := hn
            match j, h1, h2 with
            | 0, _, _ => exact dq_tree I d e _ _ _ _ n a a' b b' o.1 o'.1 (by omega)
            | j + 1, h1, h2 =>
              have z := dqAll_tree I ds _ _ es _ _ n q q' t t' o.2 o'.2 (by omega) j (by simpa using h1) (by simpa using h2)
              simpa using z
theorem dqKv_tree (I : Inv X pins σ H s) : ∀ (ps : List (PyData × PyData)) (kvs : List (Key × V)) (qs : List (PyData × PyData)) (kvs' : List (Key × V)) (a a' : Addr) (n : Nat), a ≠ a' → H a = some (.dK kvs) → H a' = some (.dK kvs') → DqKv X.K H kvs ps → DqKv X.K H kvs' qs → ps.length = 1 → okQKv ps = true → qs.length = 1 → okQKv qs = true → PyData.depthKv ps ≤ n →
    EqTree X.prog X.w s (n + 1) (.ref a) (.ref a') (eqQKv ps qs)
  | [], _, _, _, _, _, _, _, _, _, _, _, l, _, _, _, _ => absurd l (by decide)
  | _ :: _ :: _, _, _, _, _, _, _, _, _, _, _, _, l, _, _, _, _ => absurd l (by simp)
  | [(k, d)], kvs, qs, kvs', a, a', n, ea, g, g', h, h', _, o, l', o', hn => by
    match qs, l', o', h' with
    | [(k', e)], _, o', h' =>
      cases h with
      | @cons ky v _ _ _ q r =>
        cases r
        cases h' with
        | @cons ky' v' _ _ _ q' r =>
          cases r
          have o : (isStrD (kD ky) && okQ d && okQKv []) = true := o
          have o' : (isStrD (kD ky') && okQ e && okQKv []) = true := o'
          rw [Bool.and_eq_true, Bool.and_eq_true] at o o'
          have hn : max (max (PyData.depth (kD ky)) (PyData.depth d)) 0 ≤ n := hn
          cases ky with
          | inl i => exact absurd o.1.1 (by simp [kD, isStrD])
          | inr x =>
            cases ky' with
            | inl i => exact absurd o'.1.1 (by simp [kD, isStrD])
            | inr y =>
              obtain ⟨_, na, va, ra, da⟩ := dk_of I.hok g
              obtain ⟨_, nb, vb, rb, db⟩ := dk_of I.hok g'
              unfold KV at ra rb
              cases ra with
              | @cons _ pa _ _ ha ta =>
                cases ta
                cases rb with
                | @cons _ pb _ _ hb tb =>
                  cases tb
                  obtain ⟨ka, ua⟩ := pa
                  obtain ⟨kb, ub⟩ := pb
                  obtain ⟨ha1, ha2⟩ := ha
                  obtain ⟨hb1, hb2⟩ := hb
                  have ha1 : ka = .inr x := ha1.symm
                  have hb1 : kb = .inr y := hb1.symm
                  subst ha1 hb1
                  have z := dq_tree I d e _ _ ua ub n q q' ha2 hb2 o.1.2 o'.1.2 (by omega)
                  have t := EqTree.dicts (prog := X.prog) (w := X.w) (s := s) (knd := mixKind X.prog X.w) (n := n) (e := fun _ => eqQ d e) ea na nb da db (fun k v y' hm hv => by
                    rw [List.mem_singleton] at hm
                    cases hm
                    unfold valueAt at hv
                    by_cases exy : x = y
                    · subst exy
                      simp at hv
                      subst hv
                      exact z
                    · have : ¬ (Sum.inr y : Key) = Sum.inr x := fun h => exy (Sum.inr.inj h).symm
                      simp [this] at hv)
                  have eb : eqQKv [(kD (.inr x), d)] [(kD (.inr y), e)] = ([((.inr x : Key), ua)].length == [((.inr y : Key), ub)].length && [((.inr x : Key), ua)].all fun p => (valueAt [((.inr y : Key), ub)] p.1).isSome && eqQ d e) := by
                    show (x == y && eqQ d e) = _
                    unfold valueAt
                    by_cases exy : x = y
                    · subst exy
                      simp
                    · have : ¬ (Sum.inr y : Key) = Sum.inr x := fun h => exy (Sum.inr.inj h).symm
                      simp [this, exy]
                  rw [eb]
                  exact t
end
end
section
variable {X : Cx}
/-- == of two lists, or of two tuples -/
def rEqQ (K : PySem.W.Frag) : R2 := fun x y H Q => ∃ d e, Dq K H x d ∧ Dq K H y e ∧ okQ d = true ∧ okQ e = true ∧ PyData.depth d ≤ 60 ∧ ((∃ ds es, d = .list ds ∧ e = .list es) ∨ ∃ ds es, d = .tuple ds ∧ e = .tuple es) ∧ Q (.bl (eqQ d e)) H
theorem op_eqQ (hu : X.A.units + 64 < cLine) : OpR X (compareOp .Eq) (rEqQ X.K) := by
  intro pins s σ H x y v u Q I rx ry h
  obtain ⟨d, e, h, h', o, o', hn, hk, q⟩ := h
  rcases hk with ⟨ds, es, rfl, rfl⟩ | ⟨ds, es, rfl, rfl⟩
  · cases h with
    | @lst a xs _ g q1 =>
      cases h' with
      | @lst a' xs' _ g' q1' =>
        cases rx
        cases ry
        obtain ⟨its, rv, hl⟩ := isList_of I g
        obtain ⟨its', rv', hl'⟩ := isList_of I g'
        have n1 : its.toArray.size = ds.length := by rw [List.size_toArray, ← rv.length, dqAll_len q1]
        have n2 : its'.toArray.size = es.length := by rw [List.size_toArray, ← rv'.length, dqAll_len q1']
        have hk : PyData.depthAll ds ≤ 60 := Nat.le_of_succ_le hn
        have ih := dqAll_tree I ds _ _ es _ _ 60 q1 q1' rv rv' o o' hk
        by_cases hz : its.toArray.size = its'.toArray.size
        · refine PySem.W.eq_listsT (prog := X.prog) (w := X.w) (e := fun j => eqQ (ds.getD j .none) (es.getD j .none)) hl hl' hz ih (by omega) ?_
          rw [n1, ← eqQAll_range (by omega)]
          exact ⟨.bl _, H, I, rfl, q⟩
        · have z : eqQ (.list ds) (.list es) = false := eqQAll_len (by omega)
          rw [z] at q
          exact RcAt.lists_lengths hl hl' (bne_iff_ne.mpr hz) (by omega) X.prog X.w _ _ ⟨.bl _, H, I, rfl, q⟩
  · cases h with
    | @tup a xs _ g q1 =>
      cases h' with
      | @tup a' xs' _ g' q1' =>
        cases rx
        cases ry
        obtain ⟨its, rv, hl⟩ := isTup_of I g
        obtain ⟨its', rv', hl'⟩ := isTup_of I g'
        have n1 : its.toArray.size = ds.length := by rw [List.size_toArray, ← rv.length, dqAll_len q1]
        have n2 : its'.toArray.size = es.length := by rw [List.size_toArray, ← rv'.length, dqAll_len q1']
        have hk : PyData.depthAll ds ≤ 60 := Nat.le_of_succ_le hn
        have ih := dqAll_tree I ds _ _ es _ _ 60 q1 q1' rv rv' o o' hk
        refine PySem.W.eq_tuplesT (prog := X.prog) (w := X.w) (e := fun j => eqQ (ds.getD j .none) (es.getD j .none)) hl hl' ih (by omega) ?_
        rw [n1, n2, ← eqQAll_min]
        exact ⟨.bl _, H, I, rfl, q⟩
end
end Uk

/-! UkAC: x is True / x is False of any x; bool(x) by x's class; == of data is even-handed -/
namespace Uk
open PySem PySem.Spec PyProof.Rows L2 StX
section
variable {X : Cx}
theorem op_isB : OpR X (compareOp .Is) (fun x y H Q => ∃ b, y = .bl b ∧ Q (.bl (decide (x = .bl b))) H) := by
  intro pins s σ H x y v u Q I rx ry h
  obtain ⟨b, rfl, q⟩ := h
  cases (show u = Value.bool b from ry)
  by_cases e : x = .bl b
  · subst e
    cases (show v = Value.bool b from rx)
    exact wpAny_is_self rfl ⟨.bl true, H, I, rfl, by simpa using q⟩
  · have q2 : Q (.bl false) H := by rw [decide_eq_false e] at q; exact q
    cases x with
    | bl a =>
      cases (show v = Value.bool a from rx)
      exact wpAny_is_other rfl (fun z => e (by rw [Value.bool.inj z])) ⟨.bl false, H, I, rfl, q2⟩
    | non => cases rx; exact wpAny_bind (wpAny_of_eq (rfl : isSame .none (.bool b) = pure false) (wpAny_pure ⟨.bl false, H, I, rfl, q2⟩))
    | int i => obtain ⟨t, rfl⟩ := rx; exact wpAny_bind (wpAny_of_eq (rfl : isSame (.int i t) (.bool b) = pure false) (wpAny_pure ⟨.bl false, H, I, rfl, q2⟩))
    | str i => obtain ⟨t, rfl⟩ := rx; exact wpAny_bind (wpAny_of_eq (rfl : isSame (.str i t) (.bool b) = pure false) (wpAny_pure ⟨.bl false, H, I, rfl, q2⟩))
    | byt i => obtain ⟨t, rfl⟩ := rx; exact wpAny_bind (wpAny_of_eq (rfl : isSame (.bytes i t) (.bool b) = pure false) (wpAny_pure ⟨.bl false, H, I, rfl, q2⟩))
    | flt i => obtain ⟨t, rfl⟩ := rx; exact wpAny_bind (wpAny_of_eq (rfl : isSame (.float i t) (.bool b) = pure false) (wpAny_pure ⟨.bl false, H, I, rfl, q2⟩))
    | ref a => cases rx; exact wpAny_bind (wpAny_of_eq (rfl : isSame (.ref a) (.bool b) = pure false) (wpAny_pure ⟨.bl false, H, I, rfl, q2⟩))
    | ty n => cases rx; exact wpAny_bind (wpAny_of_eq (rfl : isSame (.type n) (.bool b) = pure false) (wpAny_pure ⟨.bl false, H, I, rfl, q2⟩))
end
/-- bool(x), x an instance with an own __bool__, by its class -/
theorem call_boolV {X : Cx} {k : Nat} {sp : Addr → SpK} {D : Addr → Prop} {f : Addr → Addr} (F : ∀ C, D C → CallG X.prog X.w X.K X.mg X.base k (.ref (f C)) (sp C)) (hr : Room (k + 2) X.A) (hg : X.A.guards = some []) (hD : ∀ C, D C → Own X.K C "__bool__" (f C)) :
    CallR X (.type "bool") (fun xs H Q => ∃ (a C dx : Addr) (fs : List (Str × V)), xs = [.ref a] ∧ D C ∧ H a = some (.ins C dx fs) ∧ sp C [.ref a] [] H (fun v H' => ∃ b, v = .bl b ∧ Q (.bl b) H') NoE) := by
  intro pins s σ H xs us Q I r h
  obtain ⟨a, C, dx, fs, rfl, d, e, q⟩ := h
  obtain ⟨u, rfl, r1⟩ := vals1 r
  obtain rfl : u = Value.ref a := r1
  refine call_bool_in fun tk => ?_
  have I := I.tok tk
  obtain ⟨od, J⟩ := ins_at I.hok e
  obtain ⟨m, fr⟩ := I.fr
  refine PySem.W.truthy_K fr I.ok.mod.kin J (hD C d).at_ (hD C d).fn (wpAny_mono (run_callN (F C d) hr.in1.in1 hg rfl I (vs := [.ref a]) (us := [.ref a]) (.cons rfl .nil) q) (fun z s' hz => ?_) fun _ _ y => y)
  obtain ⟨v', H', I', rv, b, rfl, q'⟩ := hz
  obtain rfl : z = Value.bool b := rv
  exact ⟨.bl b, H', I', rfl, q'⟩
theorem eqv_symm_sc (d e : PyData) (h : match d with | .list _ | .tuple _ | .dict _ => False | _ => True) : PyData.eqv d e = eqQ e d := by
  cases d <;> cases e <;> first | exact absurd h id | rfl | (simp [PyData.eqv, eqQ, Bool.beq_comm]) | (show (_ == _) = (_ == _); exact Bool.beq_comm) 
mutual
theorem eqQ_symm : ∀ d e : PyData, eqQ d e = eqQ e d
  | .none, e => eqv_symm_sc _ e trivial
  | .bool b, e => eqv_symm_sc _ e trivial
  | .int i, e => eqv_symm_sc _ e trivial
  | .str x, e => eqv_symm_sc _ e trivial
  | .list xs, e => by
    cases e with
    | list ys => exact eqQAll_symm xs ys
    | _ => rfl
  | .tuple xs, e => by
    cases e with
    | tuple ys => exact eqQAll_symm xs ys
    | _ => rfl
  | .dict ps, e => by
    cases e with
    | dict qs => exact eqQKv_symm ps qs
    | _ => rfl
theorem eqQAll_symm : ∀ xs ys : List PyData, eqQAll xs ys = eqQAll ys xs
  | [], [] => rfl
  | [], _ :: _ => rfl
  | _ :: _, [] => rfl
  | x :: xs, y :: ys => by
    show (eqQ x y && eqQAll xs ys) = (eqQ y x && eqQAll ys xs)
    rw [eqQ_symm x y, eqQAll_symm xs ys]
theorem eqQKv_symm : ∀ ps qs : List (PyData × PyData), eqQKv ps qs = eqQKv qs ps
  | [], [] => rfl
  | [], _ :: _ => rfl
  | _ :: _, [] => rfl
  | (k, d) :: r, (k', d') :: r' => by
    show (eqKey k k' && eqQ d d') = (eqKey k' k && eqQ d' d)
    rw [eqQ_symm d d']
    have : eqKey k k' = eqKey k' k := by
      cases k <;> cases k' <;> first | rfl | (show (_ == _) = (_ == _); exact Bool.beq_comm)
    rw [this]
end
end Uk

/-! UkBA: comprehensions of any container (one clause): sets of ints, dicts with tuple keys -/
namespace Uk
open PySem PySem.Spec PyProof.Rows L2 StX

abbrev AddT := L2.St → Hp → Addr → (Hp → Prop) → Prop
/-- how a block adds: place, where to go on, what leaves, state -/
abbrev BodyT := Env → Addr → (Shared → Prop) → (Value → Shared → Prop) → Shared → Prop
def tCc (o0 : Addr → HO) (wi : TI) (g : TG) (tt : TT) (tb : AddT) (vs : List Nat) : TE := fun σ H Q => wi σ H fun J Ha => ∀ D, Ha D = none → ∃ W : Nat → Nat → Hp → Prop, (∃ m, W 0 m (upd Ha D (o0 D))) ∧ ∀ i m Hb, W i m Hb →
  (J.stop i Hb ∧ Q (.ref D) Hb) ∨ (J.go i Hb ∧ ∃ Nx : Hp → Prop, (∀ Hz, Nx Hz → ∃ l, l < m ∧ W (i + 1) l Hz) ∧ ∀ x Hc, J.yld i Hb x Hc → g x (wipe σ vs) Hc fun τ Hd => wipe τ vs = wipe σ vs ∧ tt τ Hd fun b He =>
    if b = true then tb τ He D Nx else Nx He)
section
variable {X : Cx}
/-- a turn of a block's loop -/
def TurnC (P : Program) (w : World) (A : Around) (R : Result → Shared → Prop) (bd : BodyT) (tg : Expr) (ifs : List Expr) (it D : Addr) (env : Env) (I : Nat → Shared → Prop) (n : Nat) (t0 : Shared) : Prop :=
  wpAny (model P w) A (pyNext (.ref it)) (fun r t1 => match r with
    | none => R (.ok .next) t1
    | some v => wpAny (model P w) A (letOwnedTupleGo tg (.ref it) v) (fun _ t2 => wpAny (model P w) A (assign tg env v) (fun _ t3 =>
        wpAny (model P w) A (forIn ifs true fun c r => if r = true then do let ok ← isTrue c env (eval c env); pure (ForInStep.yield ok) else pure (ForInStep.yield r)) (fun ok t4 =>
          if ok = true then bd env D (fun t5 => ∃ m, m < n ∧ I m t5) (notedBy (model P w) A env fun e s' => R (.error e) s') t4 else ∃ m, m < n ∧ I m t4)
        (notedBy (model P w) A env fun e s' => R (.error e) s') t3) (notedBy (model P w) A env fun e s' => R (.error e) s') t2) (notedBy (model P w) A env fun e s' => R (.error e) s') t1) (notedBy (model P w) A env fun e s' => R (.error e) s') t0
structure CcK (X : Cx) (e tg iter : Expr) (ifs : List Expr) (scope : Scope) (na : Sem Value) (ob : Obj) (o0 : Addr → HO) (bd : BodyT) (tb : AddT) : Prop where
  cl : clausesOf e = [⟨tg, iter, ifs, 0⟩]
  new : ∀ {A : Around} {t : Shared} {Q : Value → Shared → Prop} {E : Value → Shared → Prop}, Q (.ref t.heap.objs.size) { t with heap := t.heap.push ob } → wpAny (model X.prog X.w) A na Q E t
  okNew : ∀ (H : Hp) (h : Heap), sysModules < h.objs.size → ObjOk X.prog X.w H (h.push ob) h.objs.size (o0 h.objs.size)
  loop : ∀ {R : Result → Shared → Prop} {t : Shared} {it D : Addr} {env : Env} (I : Nat → Shared → Prop), (∀ n s, I n s → TurnC X.prog X.w X.A R bd tg ifs it D env I n s) → ∀ n, I n t → codeAny (model X.prog X.w) X.A (.compLoop e 0 (.ref it) (.ref D) env) R t
  start : ∀ {R : Result → Shared → Prop} {t : Shared} {it D : Addr} {env : Env}, codeAny (model X.prog X.w) X.A (.compLoop e 0 (.ref it) (.ref D) env) R t →
    wpAny (model X.prog X.w) X.A (pyIter (.ref it)) (fun it' s' => codeAny (model X.prog X.w) X.A (.compLoop e 0 it' (.ref D) env) R s') (notedBy (model X.prog X.w) X.A env fun x s' => R (.error x) s') t → codeAny (model X.prog X.w) X.A (.compStart e 0 (.ref it) (.ref D) env) R t
  body : ∀ (s : Shared) (H : Hp) (C : Addr) (cl : List (Str × Addr)) (fp : List Addr) {pins : List (Addr × Obj)} {τ : L2.St} {He : Hp} {D : Addr} {Nx : Hp → Prop} {t : Shared} {Z : Shared → Prop} {Ex : Value → Shared → Prop},
    Inv (X.blk s H scope (compEnvC scope cl C X.env) fp) pins τ He t → tb τ He D Nx → (∀ t' H', Inv (X.blk s H scope (compEnvC scope cl C X.env) fp) pins τ H' t' → Nx H' → Z t') → bd (compEnvC scope cl C X.env) D Z Ex t
theorem cc_core {pins : List (Addr × Obj)} {s : Shared} {σ : L2.St} {H : Hp} {Q : VK} {e tg iter : Expr} {ifs : List Expr} {scope : Scope} {own : List (Str × Nat)} {pos' : Pos} {wi : TI} {g : TG} {tt : TT} {na : Sem Value} {ob : Obj} {o0 : Addr → HO} {bd : BodyT} {tb : AddT}
    {use : Option (Value → Sem Unit)} {Qf : Value → Shared → Prop} (hc : X.calm = true) (hN : X.N.Nodup) (I : Inv X pins σ H s) (hi : PI X tg iter wi) (ok : BlkOk X.N X.env.scope scope own) (k : CcK X e tg iter ifs scope na ob o0 bd tb)
    (hg : ∀ (s : Shared) (H : Hp) (C : Addr) (cl : List (Str × Addr)) (fp : List Addr), PG (X.blk s H scope (compEnvC scope cl C X.env) fp) tg g)
    (ht : ∀ (s : Shared) (H : Hp) (C : Addr) (cl : List (Str × Addr)) (fp : List Addr), PTs (X.blk s H scope (compEnvC scope cl C X.env) fp) ifs tt) (hs : ∀ x, foldedSetIterable iter X.env x = pure x)
    (h : tCc o0 wi g tt tb (own.map (·.2)) σ H Q)
    (fin : ∀ D C s' m H', Inv X pins σ H' s' → Q (.ref D) H' → s'.heap.Ns C m → FpOk X pins H' C → compPost (model X.prog X.w) X.A X.xe use Qf (.ref D) C (.ok .next) s') :
    wpAny (model X.prog X.w) X.A (comprehension e scope X.env pos' na false (eval iter X.env) use) Qf X.xe s := by
  have frees : ∀ y ∈ scope.names, y.2 = .free → ∃ c, X.env.cells.lookup y.1 = some c := fun y hy ey => by
    rcases ok.free y hy ey with z | z
    · exact I.ok.has _ (.inl z)
    · exact I.ok.has _ (.inr z)
  refine wpAny_comprehension_free (use := use) (gs := []) k.cl hs (closure_ok frees) ok.kind (fun y hy ey => by rw [ok.uniq y hy, ey]) (thn (hi.run pins s σ H _ I h) fun xv ta hx => thn hx fun itv tw hy => ?_)
  obtain ⟨it, fp, tn, J, Ha, ei, Ia, T, sta, fa, q⟩ := hy
  subst ei
  refine k.new (newEnv_comp ?_)
  generalize eD : tw.heap.objs.size = D
  have noD : Ha D = none := Ia.hok.fresh (Nat.le_of_eq eD)
  obtain ⟨W, ⟨m0, w0⟩, turn⟩ := q D noD
  generalize etc : ({ tw with heap := tw.heap.push ob } : Shared) = tc
  have hh : tc.heap = tw.heap.push ob := by rw [← etc]
  have grow : ∀ b o, tw.heap.get? b = some o → tc.heap.get? b = some o := fun b o z => by rw [hh]; exact Heap.get?_push_of_some _ z
  have Ib : Inv X pins σ (upd Ha D (o0 D)) tc := by
    rw [← etc]
    refine Ia.laid (t' := tw.toks) (fun b o z => Heap.get?_push_of_some _ z) (Nat.le_of_eq eD) ?_
    rw [← eD]
    exact k.okNew _ tw.heap Ia.big
  have below : ∀ b ∈ fp, b < tw.heap.objs.size := fun b hb => let ⟨o, z, _⟩ := T.obj _ _ sta b hb; Heap.lt_size z
  have fb : ∀ b ∈ fp, FpOk X pins (upd Ha D (o0 D)) b ∧ b < tc.heap.objs.size := fun b hb => by
    have lt := below b hb
    refine ⟨⟨(upd_ne (by rw [← eD]; exact Nat.ne_of_lt lt)).trans (fa b hb).1, (fa b hb).2⟩, ?_⟩
    rw [hh, Heap.size_push]
    exact Nat.lt_succ_of_lt lt
  have stb : tn 0 tc.heap := T.keep _ _ _ sta fun b _ o z => grow b o z
  have Ic := block_start Ib ok hN fb
  let cl := cellsFrom (tc.heap.objs.size + 1) scope.names (cloFrom X.env.cells scope.names [])
  have pg := hg tc (upd Ha D (o0 D)) tc.heap.objs.size cl fp
  have pt := ht tc (upd Ha D (o0 D)) tc.heap.objs.size cl fp
  have pb := @CcK.body X e tg iter ifs scope na ob o0 bd tb k tc (upd Ha D (o0 D)) tc.heap.objs.size cl fp
  show codeAny _ _ (.compStart e 0 (.ref it) (.ref D) (compEnvC scope cl tc.heap.objs.size X.env)) (compPost (model X.prog X.w) X.A X.xe use Qf (.ref D) tc.heap.objs.size) { tc with heap := pushCells (tc.heap.push { cls := .type "dict", data := .dict #[] }) scope.names }
  have none0 : ∀ b ∈ fp, (upd Ha D (o0 D)) b = none := fun b hb => (fb b hb).1.1
  have Ic : Inv (X.blk tc (upd Ha D (o0 D)) scope (compEnvC scope cl tc.heap.objs.size X.env) fp) [] (wipe σ (own.map (·.2))) (upd Ha D (o0 D)) { tc with heap := pushCells (tc.heap.push { cls := .type "dict", data := .dict #[] }) scope.names } := Ic
  generalize ebe : compEnvC scope cl tc.heap.objs.size X.env = be at Ic pg pt pb ⊢
  have locs : be.locals = tc.heap.objs.size := by rw [← ebe] <;> rfl
  generalize eHb : upd Ha D (o0 D) = Hb at Ib Ic pg pt pb w0 none0 fb
  generalize etd : ({ tc with heap := pushCells (tc.heap.push { cls := .type "dict", data := .dict #[] }) scope.names } : Shared) = td at Ic ⊢
  have std : tn 0 td.heap := T.keep _ _ _ stb fun b _ o z => by rw [← etd]; exact pushCells_keeps _ _ _ _ (Heap.get?_push_of_some _ z)
  have foot : ∀ {τ : L2.St} {Hz : Hp} {tz : Shared}, Inv (X.blk tc Hb scope be fp) [] τ Hz tz → (∀ b ∈ fp, Hz b = none) → ∀ b ∈ fp, FpOk (X.blk tc Hb scope be fp) [] Hz b := fun {τ Hz tz} Iz nz b hb =>
    ⟨nz b hb, (Iz.ok.exf b hb).1, Iz.ok.exfs b hb, .inl hb, fun x c z => (Iz.ok.exf b hb).2 x c z, fun p hp => by cases hp⟩
  have run : codeAny (model X.prog X.w) X.A (.compLoop e 0 (.ref it) (.ref D) be) (compPost (model X.prog X.w) X.A X.xe use Qf (.ref D) tc.heap.objs.size) td := by
    refine k.loop (fun n tz => ∃ i Hz, Inv (X.blk tc Hb scope be fp) [] (wipe σ (own.map (·.2))) Hz tz ∧ tn i tz.heap ∧ (∀ b ∈ fp, Hz b = none) ∧ W i n Hz) ?_ m0 ⟨0, Hb, Ic, std, none0, w0⟩
    rintro n te ⟨i, He, Ie, ste, ne, we⟩
    rcases turn i n He we with ⟨stop, qq⟩ | ⟨go, Nx, hNx, step⟩
    · refine thnF (T.done (X.blk tc Hb scope be fp) rfl rfl rfl hc i [] te _ He (fun _ _ => False) Ie (foot Ie ne) ste stop) fun r tf ⟨hr, If⟩ => ?_
      subst hr
      have Ig : Inv X pins σ He tf := Ib.call' (ch := fp) If.os If.base If.hok If.bare fun b hb => let z := (fb b hb).1.2; ⟨z.2.2.1, z.1, z.2.2.2.1, z.2.2.2.2⟩
      have nC : He tc.heap.objs.size = none := by
        have z : He be.locals = none := If.free
        rwa [locs] at z
      obtain ⟨m, hn, _⟩ := If.loc
      have hn : tf.heap.Ns be.locals m := hn
      rw [locs] at hn
      exact fin D tc.heap.objs.size tf m He Ig qq hn (Ib.fpOk (Nat.le_refl _) nC)
    · refine thnF (T.item (X.blk tc Hb scope be fp) rfl rfl rfl hc i [] te _ He (fun _ _ => False) Ie (foot Ie ne) ste go) fun r tf ⟨u, hr, hf⟩ => ?_
      subst hr
      refine thnF hf fun _ tk ⟨x, Hg, Ig, rg, yg, stg, ng⟩ => ?_
      have Igp := Ig.pinned (foot Ig ng) (T.obj _ _ stg)
      refine thnF (pg.run _ tk _ Hg x u _ Igp rg (step x Hg yg)) fun _ th ⟨τ, Hh, Ih, hw, qh⟩ => ?_
      refine thnF (pt.run _ th τ Hh _ Ih qh) fun b ti ⟨Hi, Ii, qi⟩ => ?_
      have turned : ∀ tz Hz, Inv (X.blk tc Hb scope be fp) ([] ++ pinsAt fp tk.heap) τ Hz tz → Nx Hz → ∃ m, m < n ∧ ∃ i Hz, Inv (X.blk tc Hb scope be fp) [] (wipe σ (own.map (·.2))) Hz tz ∧ tn i tz.heap ∧ (∀ b ∈ fp, Hz b = none) ∧ W i m Hz := fun tz Hz Iz nx => by
        obtain ⟨l, hl, wl⟩ := hNx Hz nx
        have pinned : ∀ b ∈ fp, ∀ o, tk.heap.get? b = some o → tz.heap.get? b = some o ∧ Hz b = none := fun b hb o z =>
          let y := Iz.pin (b, o) (List.mem_append_right _ (List.mem_append_right _ (mem_pinsAt hb z)))
          ⟨y.1, y.2.1⟩
        refine ⟨l, hl, i + 1, Hz, (Iz.unpinned (pins := [])).weak (by rw [← hw, wipe_length]) (fun j v z => ?_), T.keep _ _ _ stg fun b hb o z => (pinned b hb o z).1, fun b hb => ?_, wl⟩
        · rw [← hw] at z
          exact (wipe_some z).1
        · obtain ⟨o, z, _⟩ := T.obj _ _ stg b hb
          exact (pinned b hb o z).2
      cases b with
      | false => exact turned _ _ Ii qi
      | true => exact pb Ii qi turned
  exact k.start run (T.self X.A 0 _ _ _ std run)
theorem pe_cc {e tg iter : Expr} {ifs : List Expr} {scope : Scope} {own : List (Str × Nat)} {pos' : Pos} {wi : TI} {g : TG} {tt : TT} {na : Sem Value} {ob : Obj} {o0 : Addr → HO} {bd : BodyT} {tb : AddT}
    (hc : X.calm = true) (hN : X.N.Nodup) (hi : PI X tg iter wi) (ok : BlkOk X.N X.env.scope scope own) (k : CcK X e tg iter ifs scope na ob o0 bd tb)
    (hg : ∀ (s : Shared) (H : Hp) (C : Addr) (cl : List (Str × Addr)) (fp : List Addr), PG (X.blk s H scope (compEnvC scope cl C X.env) fp) tg g)
    (ht : ∀ (s : Shared) (H : Hp) (C : Addr) (cl : List (Str × Addr)) (fp : List Addr), PTs (X.blk s H scope (compEnvC scope cl C X.env) fp) ifs tt) (hs : ∀ x, foldedSetIterable iter X.env x = pure x)
    (ev : eval e X.env = comprehension e scope X.env pos' na false (eval iter X.env) none) : PE X e (tCc o0 wi g tt tb (own.map (·.2))) := by
  refine ⟨fun pins s σ H Q I h => ?_⟩
  rw [ev]
  refine cc_core hc hN I hi ok k hg ht hs h fun D C s' m H' I' q hn f => ⟨m, hn, fun h'' sb => ?_⟩
  obtain ⟨f0, f1, f2, f3, f4, f5⟩ := f
  exact ⟨.ref D, H', I'.turned (t' := s'.toks) (fun b o hb z => (sb.2 b hb).trans z) f0 f1 f3 f4 f5, rfl, q⟩
/-- name = {..} on one line, the name a local -/
theorem ps_setCc {i : Nat} {y : Str} {py spos pos' : Pos} {e tg iter : Expr} {ifs : List Expr} {scope : Scope} {own : List (Str × Nat)} {wi : TI} {g : TG} {tt : TT} {na : Sem Value} {ob : Obj} {o0 : Addr → HO} {bd : BodyT} {tb : AddT}
    (hc : X.calm = true) (hN : X.N.Nodup) (hy : X.N[i]? = some y) (hyl : X.env.scope.names.lookup y = some .local) (hsw : swapsWith e (some (.Name y py)) spos.line X.env = pure true) (hi : PI X tg iter wi) (ok : BlkOk X.N X.env.scope scope own) (k : CcK X e tg iter ifs scope na ob o0 bd tb)
    (hg : ∀ (s : Shared) (H : Hp) (C : Addr) (cl : List (Str × Addr)) (fp : List Addr), PG (X.blk s H scope (compEnvC scope cl C X.env) fp) tg g)
    (ht : ∀ (s : Shared) (H : Hp) (C : Addr) (cl : List (Str × Addr)) (fp : List Addr), PTs (X.blk s H scope (compEnvC scope cl C X.env) fp) ifs tt) (hs : ∀ x, foldedSetIterable iter X.env x = pure x)
    (ev : exec (.Assign [.Name y py] e spos) X.env = (do
      standAt spos
      (do let _ ← comprehension e scope X.env pos' na false (eval iter X.env) (some (assign (.Name y py) X.env)))
      pure Flow.next)) : PS X (.Assign [.Name y py] e spos) (tAsg (tCc o0 wi g tt tb (own.map (·.2))) (gName i)) := by
  refine ⟨fun pins s σ H D I h => ?_⟩
  rw [ev]
  refine wpAny_bind (wpAny_standAt (wpAny_bind (wpAny_bind ?_)))
  have h : tCc o0 wi g tt tb (own.map (·.2)) σ H (fun x Hx => gName i x σ Hx D.nx) := h
  refine thn (cc_core (Qf := fun _ s' => SP X pins D .next s') hc hN I hi ok k hg ht hs h fun L C s' m H' I' q hn f => ?_) fun _ s' hq => wpAny_pure (wpAny_pure hq)
  show wpAny _ _ (assign (.Name y py) X.env (.ref L)) _ _ _
  refine wpAny_assign_Name (store_ok2 (v := V.ref L) I' hN hy (.inl hyl) rfl (fun s2 I2 ⟨a, sb, ha⟩ => ?_) (.inr hyl))
  obtain ⟨f0, f1, f2, f3, f4, f5⟩ := f
  have apart : C ≠ a := by
    rcases ha with z | z
    · rw [z]; exact f1
    · exact fun u => f4 y a z u.symm
  exact ⟨m, hn.sameBut sb apart, fun h3 sb3 => ⟨_, H', I2.turned (t' := s2.toks) (fun b o hb u => (sb3.2 b hb).trans u) f0 f1 f3 f4 f5, q⟩⟩
end
end Uk

/-! UkBB: {e for ..} of ints; {k: v for ..} with tuple keys -/
namespace Uk
open PySem PySem.Spec PyProof.Rows L2 StX

section
variable {X : Cx} {tg iter : Expr} {ifs : List Expr} {scope : Scope} {pos : Pos}
/-- the object of set() -/
abbrev setObj0 (w : World) : Obj := { cls := .type "set", dict := none, data := .set #[] 0 (.fresh 0 0 (!w.params.followText "set-order")) }
def bdSet (P : Program) (w : World) (A : Around) (elt : Expr) : BodyT := fun env D Z Ex t => wpAny (model P w) A (eval elt env) (fun x t1 => wpAny (model P w) A (call (.builtin "set.add") [.ref D, x]) (fun _ t2 => Z t2) Ex t1) Ex t
def tbSet (w : World) (te : TE) : AddT := fun σ H D Nx => te σ H fun y Hy => ∃ (k : Int) (S : Int → Bool) (n : Nat), y = .int k ∧ Hy D = some (SetO w D S n) ∧ n + 1 < scanBound ∧ Nx (upd Hy D (SetO w D (fun j => S j || decide (j = k)) (if S k = true then n else n + 1)))
theorem cck_set {elt : Expr} {te : TE} (he : ∀ (s : Shared) (H : Hp) (C : Addr) (cl : List (Str × Addr)) (fp : List Addr), PE (X.blk s H scope (compEnvC scope cl C X.env) fp) elt te) :
    CcK X (.SetComp elt [⟨tg, iter, ifs, 0⟩] scope pos) tg iter ifs scope (newSet (.type "set")) (setObj0 X.w) (fun D => SetO X.w D (fun _ => false) 0) (bdSet X.prog X.w X.A elt) (tbSet X.w te) where
  cl := rfl
  new h := PpSet.newSet_ok h
  okNew H h hb := setO_new (setR_fresh X.w)
  loop I turn n hn := PpSet.compLoopS_any I turn n hn
  start h0 h1 := PpSet.codeAny_compStart_set h0 h1
  body s H C cl fp pins τ He D Nx t Z Ex I hq hz := by
    refine thnF ((he s H C cl fp).run pins t τ He _ I hq) fun x t1 ⟨y, Hy, Iy, ry, k, S, n, ey, hD, room, nx⟩ => ?_
    subst ey
    obtain ⟨tk, rfl⟩ := (show ∃ tk, x = Value.int k tk from ry)
    refine setR_add (setO_get (X := X.blk s H scope (compEnvC scope cl C X.env) fp) Iy hD) room fun h' sb new => ?_
    have there : ∃ u, h'.get? D = some u := let ⟨o, _, _, _, ho, _⟩ := new; ⟨o, ho⟩
    exact hz _ _ (Iy.write (e := D) (t' := t1.toks + 1) (by rw [hD]; trivial) (.inl rfl) (fun b u hb hu => (sb.2 b hb).trans hu) there (setO_new new)) nx
/-- {e for target in iter if ..}, e an int -/
theorem pe_scI {elt : Expr} {own : List (Str × Nat)} {wi : TI} {g : TG} {tt : TT} {te : TE} (hc : X.calm = true) (hN : X.N.Nodup) (hi : PI X tg iter wi) (ok : BlkOk X.N X.env.scope scope own)
    (hg : ∀ (s : Shared) (H : Hp) (C : Addr) (cl : List (Str × Addr)) (fp : List Addr), PG (X.blk s H scope (compEnvC scope cl C X.env) fp) tg g)
    (ht : ∀ (s : Shared) (H : Hp) (C : Addr) (cl : List (Str × Addr)) (fp : List Addr), PTs (X.blk s H scope (compEnvC scope cl C X.env) fp) ifs tt)
    (he : ∀ (s : Shared) (H : Hp) (C : Addr) (cl : List (Str × Addr)) (fp : List Addr), PE (X.blk s H scope (compEnvC scope cl C X.env) fp) elt te) (hs : ∀ x, foldedSetIterable iter X.env x = pure x := by intro _; rfl) :
    PE X (.SetComp elt [⟨tg, iter, ifs, 0⟩] scope pos) (tCc (fun D => SetO X.w D (fun _ => false) 0) wi g tt (tbSet X.w te) (own.map (·.2))) :=
  pe_cc hc hN hi ok (cck_set he) hg ht hs (PpSet.eval_SetComp ..)

theorem d_dictSetT {pins : List (Addr × Obj)} {σ : L2.St} {H : Hp} {s : Shared} {E : Value → Shared → Prop} {D b : Addr} {kvs : List (List L2.Key × V)} {k : List L2.Key} {v : V} {u : Value} {Q : Unit → Shared → Prop} (hu : X.A.units + 1 < cLine) (I : Inv X pins σ H s) (e : H D = some (.dT kvs)) (eb : H b = some (.tup (k.map kV)))
    (l : kvs.length < sizeLine) (rv : RelV v u) (h : ∀ s', Inv X pins σ (upd H D (.dT (putK kvs k v))) s' → Q () s') : wpAny (model X.prog X.w) X.A (dictSet D (.ref b) u) Q E s := by
  obtain ⟨z, hd, xs, rel, dd⟩ := dt_of I.hok e
  have xz : xs.length ≤ sizeLine := by rw [← Paired.length rel]; exact z
  have pl : (putK kvs k v).length ≤ sizeLine := by have := length_putK kvs k v; omega
  refine wpAny_dictSet_heap (hsz := xz) (Nat.lt_of_succ_lt hu) (key_of I.hok eb) dd fun h' dd' hs => h _ ?_
  obtain ⟨q, es, ep, hq, i2, i3, i4, _, i5⟩ := dd'
  refine d_write I (by rw [e]; exact True.intro) hs ⟨q, hq⟩ ⟨pl, hd, _, (rel.put k eb rv).keeps fun c ys ec => ?_, q, es, ep, hq, i2, i3, i4, i5⟩
  rw [upd_ne (ne_of ec e (fun z => nomatch z))]
  exact ec
def bdDict (P : Program) (w : World) (A : Around) (kx vx : Expr) : BodyT := fun env D Z Ex t => wpAny (model P w) A (eval kx env) (fun kv t1 => wpAny (model P w) A (eval vx env) (fun vv t2 => wpAny (model P w) A (dictSet D kv vv) (fun _ t3 => Z t3) Ex t2) Ex t1) Ex t
def tbDictT (tk tv : TE) : AddT := fun σ H D Nx => tk σ H fun y Hy => tv σ Hy fun z Hz => ∃ kvs k b, y = .ref b ∧ Hz b = some (.tup (k.map kV)) ∧ Hz D = some (.dT kvs) ∧ kvs.length < sizeLine ∧ Nx (upd Hz D (.dT (putK kvs k z)))
theorem cck_dictT {kx vx : Expr} {tk tv : TE} (hu : X.A.units + 1 < cLine) (hk : ∀ (s : Shared) (H : Hp) (C : Addr) (cl : List (Str × Addr)) (fp : List Addr), PE (X.blk s H scope (compEnvC scope cl C X.env) fp) kx tk)
    (hv : ∀ (s : Shared) (H : Hp) (C : Addr) (cl : List (Str × Addr)) (fp : List Addr), PE (X.blk s H scope (compEnvC scope cl C X.env) fp) vx tv) :
    CcK X (.DictComp kx vx [⟨tg, iter, ifs, 0⟩] scope pos) tg iter ifs scope newDict { cls := .type "dict", data := .dict #[] } (fun _ => .dT []) (bdDict X.prog X.w X.A kx vx) (tbDictT tk tv) where
  cl := rfl
  new h := wpAny_newObj_type h
  okNew H h hb := dt_empty h hb
  loop I turn n hn := compLoop_anyD I turn n hn
  start h0 h1 := codeAny_compStart_dict h0 h1
  body s H C cl fp pins τ He D Nx t Z Ex I hq hz := by
    refine thnF ((hk s H C cl fp).run pins t τ He _ I hq) fun x t1 ⟨y, Hy, Iy, ry, q⟩ => ?_
    refine thnF ((hv s H C cl fp).run pins t1 τ Hy _ Iy q) fun x2 t2 ⟨z, Hz, Iz, rz, kvs, k, b, ey, eb, eD, l, nx⟩ => ?_
    subst ey
    cases ry
    exact d_dictSetT (X := X.blk s H scope (compEnvC scope cl C X.env) fp) hu Iz eD eb l rz fun t3 I3 => hz t3 _ I3 nx
/-- {k: v for target in iter if ..}, k a tuple of ints and texts -/
theorem pe_dcT {kx vx : Expr} {own : List (Str × Nat)} {wi : TI} {g : TG} {tt : TT} {tk tv : TE} (hu : X.A.units + 1 < cLine) (hc : X.calm = true) (hN : X.N.Nodup) (hi : PI X tg iter wi) (ok : BlkOk X.N X.env.scope scope own)
    (hg : ∀ (s : Shared) (H : Hp) (C : Addr) (cl : List (Str × Addr)) (fp : List Addr), PG (X.blk s H scope (compEnvC scope cl C X.env) fp) tg g)
    (ht : ∀ (s : Shared) (H : Hp) (C : Addr) (cl : List (Str × Addr)) (fp : List Addr), PTs (X.blk s H scope (compEnvC scope cl C X.env) fp) ifs tt)
    (hk : ∀ (s : Shared) (H : Hp) (C : Addr) (cl : List (Str × Addr)) (fp : List Addr), PE (X.blk s H scope (compEnvC scope cl C X.env) fp) kx tk)
    (hv : ∀ (s : Shared) (H : Hp) (C : Addr) (cl : List (Str × Addr)) (fp : List Addr), PE (X.blk s H scope (compEnvC scope cl C X.env) fp) vx tv) (hs : ∀ x, foldedSetIterable iter X.env x = pure x := by intro _; rfl) :
    PE X (.DictComp kx vx [⟨tg, iter, ifs, 0⟩] scope pos) (tCc (fun _ => .dT []) wi g tt (tbDictT tk tv) (own.map (·.2))) :=
  pe_cc hc hN hi ok (cck_dictT hu hk hv) hg ht hs (arm_eval_DictComp ..)
def tbDictK (tk tv : TE) : AddT := fun σ H D Nx => tk σ H fun y Hy => tv σ Hy fun z Hz => ∃ kvs k, y = kV k ∧ Hz D = some (.dK kvs) ∧ kvs.length < sizeLine ∧ Nx (upd Hz D (.dK (putK kvs k z)))
theorem cck_dictK {kx vx : Expr} {tk tv : TE} (hk : ∀ (s : Shared) (H : Hp) (C : Addr) (cl : List (Str × Addr)) (fp : List Addr), PE (X.blk s H scope (compEnvC scope cl C X.env) fp) kx tk)
    (hv : ∀ (s : Shared) (H : Hp) (C : Addr) (cl : List (Str × Addr)) (fp : List Addr), PE (X.blk s H scope (compEnvC scope cl C X.env) fp) vx tv) :
    CcK X (.DictComp kx vx [⟨tg, iter, ifs, 0⟩] scope pos) tg iter ifs scope newDict { cls := .type "dict", data := .dict #[] } (fun _ => .dK []) (bdDict X.prog X.w X.A kx vx) (tbDictK tk tv) where
  cl := rfl
  new h := wpAny_newObj_type h
  okNew H h hb := dk_empty h hb
  loop I turn n hn := compLoop_anyD I turn n hn
  start h0 h1 := codeAny_compStart_dict h0 h1
  body s H C cl fp pins τ He D Nx t Z Ex I hq hz := by
    refine thnF ((hk s H C cl fp).run pins t τ He _ I hq) fun x t1 ⟨y, Hy, Iy, ry, q⟩ => ?_
    refine thnF ((hv s H C cl fp).run pins t1 τ Hy _ Iy q) fun x2 t2 ⟨z, Hz, Iz, rz, kvs, k, ey, eD, l, nx⟩ => ?_
    subst ey
    exact d_dictSet (X := X.blk s H scope (compEnvC scope cl C X.env) fp) Iz eD l ry rz fun t3 I3 => hz t3 _ I3 nx
/-- {k: v for target in iter if ..}, k an int or a text -/
theorem pe_dcK {kx vx : Expr} {own : List (Str × Nat)} {wi : TI} {g : TG} {tt : TT} {tk tv : TE} (hc : X.calm = true) (hN : X.N.Nodup) (hi : PI X tg iter wi) (ok : BlkOk X.N X.env.scope scope own)
    (hg : ∀ (s : Shared) (H : Hp) (C : Addr) (cl : List (Str × Addr)) (fp : List Addr), PG (X.blk s H scope (compEnvC scope cl C X.env) fp) tg g)
    (ht : ∀ (s : Shared) (H : Hp) (C : Addr) (cl : List (Str × Addr)) (fp : List Addr), PTs (X.blk s H scope (compEnvC scope cl C X.env) fp) ifs tt)
    (hk : ∀ (s : Shared) (H : Hp) (C : Addr) (cl : List (Str × Addr)) (fp : List Addr), PE (X.blk s H scope (compEnvC scope cl C X.env) fp) kx tk)
    (hv : ∀ (s : Shared) (H : Hp) (C : Addr) (cl : List (Str × Addr)) (fp : List Addr), PE (X.blk s H scope (compEnvC scope cl C X.env) fp) vx tv) (hs : ∀ x, foldedSetIterable iter X.env x = pure x := by intro _; rfl) :
    PE X (.DictComp kx vx [⟨tg, iter, ifs, 0⟩] scope pos) (tCc (fun _ => .dK []) wi g tt (tbDictK tk tv) (own.map (·.2))) :=
  pe_cc hc hN hi ok (cck_dictK hk hv) hg ht hs (arm_eval_DictComp ..)
theorem sw_trueD {kx vx : Expr} {gs : List Comprehension} {scope : Scope} {pos py : Pos} {y : Str} {l : Nat} {env : Env} (hk : env.scope.kind = .function) (hy : env.scope.names.lookup y = some .local) (hl : (py.line == pos.line) = true)
    (ha : (scope.names.any fun (n, k) => n == y && (k == .local || k == .cell)) = false) : swapsWith (.DictComp kx vx gs scope pos) (some (.Name y py)) l env = pure true := by
  have k1 : env.kindOf y = some .local := hy
  have k2 : env.blockKind = .function := by unfold Env.blockKind; rw [hk] <;> rfl
  unfold swapsWith
  simp only [k2, k1, ha, Expr.pos, hl]
  rfl
/-- name = {k: v for ..} -/
theorem ps_setDcK {i : Nat} {y : Str} {py spos : Pos} {kx vx : Expr} {own : List (Str × Nat)} {wi : TI} {g : TG} {tt : TT} {tk tv : TE} (hc : X.calm = true) (hN : X.N.Nodup) (hy : X.N[i]? = some y) (hyl : X.env.scope.names.lookup y = some .local)
    (hsw : swapsWith (.DictComp kx vx [⟨tg, iter, ifs, 0⟩] scope pos) (some (.Name y py)) spos.line X.env = pure true) (hi : PI X tg iter wi) (ok : BlkOk X.N X.env.scope scope own)
    (hg : ∀ (s : Shared) (H : Hp) (C : Addr) (cl : List (Str × Addr)) (fp : List Addr), PG (X.blk s H scope (compEnvC scope cl C X.env) fp) tg g)
    (ht : ∀ (s : Shared) (H : Hp) (C : Addr) (cl : List (Str × Addr)) (fp : List Addr), PTs (X.blk s H scope (compEnvC scope cl C X.env) fp) ifs tt)
    (hk : ∀ (s : Shared) (H : Hp) (C : Addr) (cl : List (Str × Addr)) (fp : List Addr), PE (X.blk s H scope (compEnvC scope cl C X.env) fp) kx tk)
    (hv : ∀ (s : Shared) (H : Hp) (C : Addr) (cl : List (Str × Addr)) (fp : List Addr), PE (X.blk s H scope (compEnvC scope cl C X.env) fp) vx tv) (hs : ∀ x, foldedSetIterable iter X.env x = pure x := by intro _; rfl) :
    PS X (.Assign [.Name y py] (.DictComp kx vx [⟨tg, iter, ifs, 0⟩] scope pos) spos) (tAsg (tCc (fun _ => .dK []) wi g tt (tbDictK tk tv) (own.map (·.2))) (gName i)) :=
  ps_setCc (pos' := firstIterPos [⟨tg, iter, ifs, 0⟩] pos) hc hN hy hyl hsw hi ok (cck_dictK hk hv) hg ht hs (by
    rw [exec_Assign_Name_used _ _ _ _ hsw]
    rfl)
end
/-- the walk of a block over anything -/
theorem cc_it {J : It} {n : Nat} {R : Hp → Prop} {Y : Nat → Hp → V → Hp → Prop} (wk : Walk J n R Y) {o0 : Addr → HO} {g : TG} {tt : TT} {tb : AddT} {vs : List Nat} {σ : L2.St} {Ha : Hp} {D : Addr} {Qd : Hp → Prop} (Pv : Nat → Hp → Prop) (h0 : Pv 0 (upd Ha D (o0 D))) (hl : ∀ i H, i ≤ n → Pv i H → R H)
    (hs : ∀ i x H H', i < n → Pv i H → Y i H x H' → g x (wipe σ vs) H' fun τ Hd => wipe τ vs = wipe σ vs ∧ tt τ Hd fun b He => if b = true then tb τ He D (Pv (i + 1)) else Pv (i + 1) He) (hd : ∀ H, Pv n H → Qd H) :
    ∃ W : Nat → Nat → Hp → Prop, (∃ m, W 0 m (upd Ha D (o0 D))) ∧ ∀ i m Hb, W i m Hb → (J.stop i Hb ∧ Qd Hb) ∨ (J.go i Hb ∧ ∃ Nx : Hp → Prop, (∀ Hz, Nx Hz → ∃ l, l < m ∧ W (i + 1) l Hz) ∧ ∀ x Hc, J.yld i Hb x Hc → g x (wipe σ vs) Hc fun τ Hd => wipe τ vs = wipe σ vs ∧ tt τ Hd fun b He =>
      if b = true then tb τ He D Nx else Nx He) := by
  refine ⟨fun i m H => m = n - i ∧ i ≤ n ∧ Pv i H, ⟨n, by simp, Nat.zero_le _, h0⟩, ?_⟩
  rintro i m H ⟨rfl, hi, p⟩
  have q := hl i H hi p
  rcases Nat.lt_or_eq_of_le hi with lt | rfl
  · exact .inr ⟨wk.goes i H lt q, Pv (i + 1), fun Hz pz => ⟨n - (i + 1), by omega, rfl, lt, pz⟩, fun x Hc y => hs i x H Hc lt p (wk.yields i H x Hc lt q y)⟩
  · exact .inl ⟨wk.stops H q, hd H p⟩
end Uk

/-! UkBC: x in o, o[x] of own classes, the latter raising; == of any two data -/
namespace Uk
open PySem PySem.Spec PyProof.Rows L2 StX

section
variable {X : Cx} {W : WX} {k : Nat} {f : Addr} {sp : SpK} {D : Addr → Prop} {pins : List (Addr × Obj)} {σ : L2.St} {H : Hp} {s : Shared} {Q : VK}
/-- the callee runs in surroundings like the body's, and may raise -/
theorem run_callE {A' : Around} {fv : Value} {us : List Value} {vs : List V} (tk : Takes X W) (F : CallG X.prog X.w X.K X.mg X.base k fv sp) (hr : Room k A') (hg : A'.guards = some []) (hf : A'.frames = X.A.frames) (I : Inv X pins σ H s) (r : Vals vs us)
    (h : sp vs [] H Q (WE W σ)) : wpAny (model X.prog X.w) A' (call fv us) (EP X pins σ Q) X.xe s := by
  have e := I.env0
  have e0 : Env0 X.prog X.w X.K X.mg X.base A' X.stack s H := ⟨hf.trans e.frames, e.mod, e.bs, e.bsz, e.funs, e.frf, e.hok, e.bare⟩
  refine wpAny_call (codeAny_mono (F A' X.stack s H us [] vs [] Q (WE W σ) hr hg e0 r .nil h) fun r s' hq => ?_)
  rcases r with e | fl
  · exact passAt tk σ pins H s e s' I hq
  · cases fl with
    | ret u => exact I.after hq
    | next => exact hq.elim
    | brk => exact hq.elim
    | cont => exact hq.elim
/-- x in o, o an instance with an own __contains__ -/
def rInO (D : Addr → Prop) (sp : SpK) : R2 := fun x y H Q => ∃ (a C dx : Addr) (fs : List (Str × V)), y = .ref a ∧ D C ∧ H a = some (.ins C dx fs) ∧ sp [y, x] [] H (fun v H' => ∃ b, v = .bl b ∧ Q (.bl b) H') NoE
theorem op_inO (F : CallG X.prog X.w X.K X.mg X.base k (.ref f) sp) (hr : Room k X.A) (hg : X.A.guards = some []) (hD : ∀ C, D C → Own X.K C "__contains__" f) : OpR X (compareOp .In) (rInO D sp) := by
  intro pins s σ H x y v u Q I rx ry h
  obtain ⟨a, C, dx, fs, rfl, d, e, q⟩ := h
  obtain rfl : u = Value.ref a := ry
  obtain ⟨od, J⟩ := ins_at I.hok e
  have KX := I.kIn
  have look := PySem.W.looks_findIn (M := model X.prog X.w) KX (hD C d).at_
  show wpAny _ _ (contains (Value.ref a) v >>= fun b => pure (Value.bool b)) _ _ _
  unfold contains
  refine wpAny_bind (wpAny_holding ?_)
  rw [stdlibNamesSay?_ref]
  dsimp only
  refine wpAny_bind (wpAny_bind (J.type.here (look.here ?_)))
  show wpAny _ _ (if (some (Value.ref f) == some Value.none) = true then _ else _) _ _ _
  rw [if_neg (by simp)]
  refine wpAny_bind ?_
  unfold callSpecialUnlessNone?
  refine wpAny_bind (wpAny_bind (J.type.here (look.here ?_)))
  dsimp only
  refine wpAny_holding (wpAny_bind ((PySem.W.bind_fn KX _ (beq_iff_eq.mp (hD C d).fn)).here ?_))
  dsimp only
  rw [if_neg (by simp)]
  refine wpAny_bind (wpAny_mono (run_callN F hr hg rfl I (vs := [.ref a, x]) (us := [.ref a, v]) (.cons rfl (.cons rx .nil)) q) (fun z s' hz => ?_) fun _ _ y => y)
  obtain ⟨v', H', I', rv, b, rfl, q'⟩ := hz
  obtain rfl : z = Value.bool b := rv
  exact wpAny_pure (wpAny_truthy_bool (wpAny_pure ⟨.bl b, H', I', rfl, q'⟩))
variable {a b : Expr} {ta tb : TE} {pos : Pos}
/-- o[x], o an instance with an own __getitem__ that may raise -/
def tIxE (W : WX) (D : Addr → Prop) (sp : SpK) (ta tb : TE) : TE := fun σ H Q => ta σ H fun x H1 => tb σ H1 fun y H2 => ∃ (c C dx : Addr) (fs : List (Str × V)), x = .ref c ∧ D C ∧ H2 c = some (.ins C dx fs) ∧ sp [x, y] [] H2 Q (WE W σ)
theorem pe_ixE (tk : Takes X W) (F : CallG X.prog X.w X.K X.mg X.base k (.ref f) sp) (hr : Room (k + 1) X.A) (hg : X.A.guards = some []) (hD : ∀ C, D C → Own X.K C "__getitem__" f) (hf : PySem.W.fnIn X.K f = true) (ha : PE X a ta) (hb : PE X b tb)
    (hsl : ∀ v u, subscripted b true v u = runValue (.builtin "lifetime.subscript" ⟨[v, u], []⟩)) : PE X (.Subscript a b pos) (tIxE W D sp ta tb) := by
  refine ⟨fun pins s σ H Q I h => Subscript_ (binT ha hb I h fun v u s2 x y H2 I2 rx ry q => ?_)⟩
  obtain ⟨c, C, dx, fs, rfl, d, e, q⟩ := q
  obtain rfl : v = Value.ref c := rx
  obtain ⟨od, J⟩ := ins_at I2.hok e
  obtain ⟨m, fr⟩ := I2.fr
  exact PySem.W.sub_K fr I2.ok.mod.kin J (hD C d).at_ hf (hD C d).fn (run_callE tk F hr.in1 hg rfl I2 (vs := [.ref c, y]) (us := [.ref c, u]) (.cons rfl (.cons ry .nil)) q) (hsl _ _)
end
end Uk

/-! UkBD: a == of a thing and itself; a text against any data; xs.count(t) of data -/
namespace Uk
open PySem PySem.Spec PyProof.Rows L2 StX SeqAt

section
variable {X : Cx}
theorem valAt_self {α : Type} [DecidableEq α] {ka : List (α × Value)} (hn : (ka.map (·.1)).Nodup) {k : α} {v y : Value} (h1 : (k, v) ∈ ka) (h2 : valueAt ka k = some y) : y = v := by
  obtain ⟨i, hi⟩ := List.getElem?_of_mem h1
  rw [valueAt_of_get hn hi] at h2
  exact (Option.some.inj h2).symm
/-- x == x, x any data -/
def rEqSelf (K : PySem.W.Frag) : R2 := fun x y H Q => ∃ d, x = y ∧ Dq K H x d ∧ Q (.bl true) H
theorem op_eqSelf (hu : X.A.units + 64 < cLine) : OpR X (compareOp .Eq) (rEqSelf X.K) := by
  intro pins s σ H x y v u Q I rx ry h
  obtain ⟨d, rfl, hd, q⟩ := h
  have fin : EP X pins σ Q (Value.bool true) s := ⟨.bl true, H, I, rfl, q⟩
  cases hd with
  | non =>
    cases rx
    cases ry
    exact RcAt.none_none (A := X.A) X.prog X.w _ _ fin
  | bl b =>
    cases rx
    cases ry
    refine RcAt.bool_bool (A := X.A) b b X.prog X.w _ _ ?_
    rw [beq_self_eq_true]
    exact fin
  | int i =>
    obtain ⟨t, rfl⟩ := rx
    obtain ⟨t', rfl⟩ := ry
    refine RcAt.int_int (A := X.A) i t i t' X.prog X.w _ _ ?_
    rw [beq_self_eq_true]
    exact fin
  | str z =>
    obtain ⟨t, rfl⟩ := rx
    obtain ⟨t', rfl⟩ := ry
    refine RcAt.str_str (A := X.A) z t z t' X.prog X.w _ _ ?_
    rw [beq_self_eq_true]
    exact fin
  | @lst a xs ds g q1 =>
    cases rx
    cases ry
    obtain ⟨its, rv, hl⟩ := isList_of I g
    refine RcAt.lists (A := X.A) (e := fun _ => true) hl hl rfl (by omega) (fun j h1 h2 => EqAt.same _) X.prog X.w _ _ ?_
    rw [all_tt]
    exact fin
  | @tup a xs ds g q1 =>
    cases rx
    cases ry
    obtain ⟨its, rv, hl⟩ := isTup_of I g
    refine RcAt.tuples (A := X.A) (e := fun _ => true) hl hl (by omega) (fun j h1 h2 => EqAt.same _) X.prog X.w _ _ ?_
    rw [all_tt, Bool.true_and, beq_self_eq_true]
    exact fin
  | @dct a kvs ps g q1 =>
    cases rx
    cases ry
    obtain ⟨z, na, ka, rv, da⟩ := dk_of I.hok g
    have nd : (ka.map (·.1)).Nodup := by
      obtain ⟨o, es, ep, _, _, _, _, _, n⟩ := da
      exact n
    refine PySem.W.eq_dictsT (n := 1) (e := fun _ => true) na na da da (fun k v y h1 h2 => by rw [valAt_self nd h1 h2]; exact .same) (by omega) ?_
    have e : (ka.all fun p => (valueAt ka p.1).isSome && true) = true := List.all_eq_true.mpr fun p hp => by
      obtain ⟨i, hi⟩ := List.getElem?_of_mem hp
      rw [valueAt_of_get nd hi] <;> rfl
    rw [e, beq_self_eq_true]
    exact fin
/-- a text == any data -/
def rEqStr (K : PySem.W.Frag) : R2 := fun x y H Q => ∃ z d, x = .str z ∧ Dq K H y d ∧ Q (.bl (eqQ (.str z) d)) H
theorem op_eqStr (hu : X.A.units + 64 < cLine) : OpR X (compareOp .Eq) (rEqStr X.K) := by
  intro pins s σ H x y v u Q I rx ry h
  obtain ⟨z, d, rfl, hd, q⟩ := h
  obtain ⟨t, rfl⟩ := rx
  cases hd with
  | non =>
    cases ry
    exact RcAt.str_none (A := X.A) z t X.prog X.w _ _ ⟨.bl _, H, I, rfl, q⟩
  | bl b =>
    cases ry
    exact RcAt.str_bool (A := X.A) z t b X.prog X.w _ _ ⟨.bl _, H, I, rfl, q⟩
  | int i =>
    obtain ⟨t', rfl⟩ := ry
    exact RcAt.str_int (A := X.A) z t i t' X.prog X.w _ _ ⟨.bl _, H, I, rfl, q⟩
  | str z2 =>
    obtain ⟨t', rfl⟩ := ry
    exact RcAt.str_str (A := X.A) z t z2 t' X.prog X.w _ _ ⟨.bl _, H, I, rfl, q⟩
  | @lst a xs ds g q1 =>
    cases ry
    obtain ⟨its, rv, hl⟩ := isList_of I g
    exact RcAt.str_list (A := X.A) z t hl (by omega) X.prog X.w _ _ ⟨.bl _, H, I, rfl, q⟩
  | @tup a xs ds g q1 =>
    cases ry
    obtain ⟨its, rv, hl⟩ := isTup_of I g
    exact RcAt.str_tuple (A := X.A) z t hl (by omega) X.prog X.w _ _ ⟨.bl _, H, I, rfl, q⟩
  | @dct a kvs ps g q1 =>
    cases ry
    exact RcAt.str_dict (A := X.A) z t (isDict_of I g) (by omega) X.prog X.w _ _ ⟨.bl _, H, I, rfl, q⟩
end
end Uk

/-! UkBE: xs.count(t) of data -/
namespace Uk
open PySem PySem.Spec PyProof.Rows L2 StX

section
variable {X : Cx}
def rCountD (K : PySem.W.Frag) : V → List V → Hp → VK → Prop := fun x xs H Q => ∃ (a : Addr) (y : V) (d : PyData) (ds : List PyData), x = V.ref a ∧ xs = [y] ∧ Dp K H (V.ref a) (.list ds) ∧ Dp K H y d ∧ SeqAt.shaped (.list ds) = true ∧ PyData.canLay0 d = true ∧ PyData.depth d ≤ 60 ∧ Q (.int ((ds.countP fun z => PyData.eqv z d : Nat) : Int)) H
theorem mt_countD (hu : X.A.units + 64 < cLine) : MtR X "list.count" (rCountD X.K) := by
  intro pins s σ H x xs v us Q I rx rxs h
  obtain ⟨a, y, d, ds, rfl, rfl, hl, hy, sl, sd, sdp, q⟩ := h
  cases rx
  obtain ⟨uy, rfl, ry⟩ := rxs.one
  obtain ⟨bs, rd⟩ := Dp.reads I d y uy hy ry
  have laid : PyData.canLayAll0 ds = true := SeqAt.canLay_of_shaped sl
  have room : X.A.units + 1 + min (PyData.depthAll ds) d.depth < cLine := by omega
  cases hl with
  | lst hs ha =>
    obtain ⟨its, rv, ⟨⟨cls, dd, data, sls⟩, n, ho, hc, hdn, hdt⟩, hlen⟩ := I.list hs
    simp only at hc hdt
    subst hc hdt
    obtain ⟨as, rs⟩ := Dp.readsAll I ds _ its ha rv
    have em : its.map (SeqAt.readOf s.heap) = ds := SeqAt.readsAll_map ds its as laid rs
    have ec : its.toArray.toList.countP (fun u => PyData.eqv (SeqAt.readOf s.heap u) d) = ds.countP fun z => PyData.eqv z d := by
      rw [← em, List.countP_map]
      rfl
    refine call_meets PySem.F.slot_list_count ⟨_, ho, rfl⟩ PySem.F.entry_list_count (PySem.F.args_list_count_2 _ _)
      (SeqAt.list_countAt a its.toArray n dd sls uy fun u => PyData.eqv (SeqAt.readOf s.heap u) d) ⟨ho, SeqAt.items_eqAt (vs := its.toArray) (show ReadsAll s.heap its.toArray.toList ds as from rs) rd laid sd room, ?_⟩
    rw [ec]
    exact ⟨.int _, H, I.tok _, ⟨_, rfl⟩, q⟩
end
end Uk

/-! UkBF: defs with a star and keyword-only parameters; calls with a star and keywords -/
namespace Uk
open PySem PySem.Spec PyProof.Rows L2 StX

/-- t looks names up in the dict at D and goes on as r -/
def KwCh {α : Type} (D : Addr) : List (Str × Value) → Sem α → Sem α → Prop
  | [], t, r => t = r
  | q :: l, t, r => ∃ (β γ : Type) (k1 : Option Value → Sem β) (k2 : β → Sem γ) (k3 : γ → Sem α) (a : β), t = ((nsGet D q.1 >>= k1) >>= k2) >>= k3 ∧ k1 (some q.2) = pure a ∧ KwCh D l (k2 a >>= k3) r
theorem KwCh.run {α : Type} {K : PySem.W.Frag} {M : Model} {A : Around} {E : Value → Shared → Prop} {s : Shared} {D : Addr} {Q : α → Shared → Prop} (KX : K.In s.heap) : ∀ {l : List (Str × Value)} {t r : Sem α}, (∀ q ∈ l, PySem.W.nsIn K D q.1 = some (some q.2)) → KwCh D l t r → wpAny M A r Q E s → wpAny M A t Q E s
  | [], t, r, _, e, h => by
    cases e
    exact h
  | q :: l, t, r, hl, e, h => by
    obtain ⟨β, γ, k1, k2, k3, a, e1, e2, e3⟩ := e
    rw [e1, bind_assoc]
    have look : PySem.W.Looks M s.heap (nsGet D q.1 >>= k1) a := (PySem.W.looks_nsIn KX (hl q (List.mem_cons_self ..))).andThen (PySem.W.Looks.of_pure e2)
    exact wpAny_bind (look.here (KwCh.run KX (fun p hp => hl p (List.mem_cons_of_mem _ hp)) e3 h))
section
variable {P : Program} {w : World} {K : PySem.W.Frag} {mg : Str → Option Value} {base : Heap} {k : Nat}
/-- what such a def is called with: its keyword-only values in order -/
def KwVals (ks : List Str) (dvs : List V) (zs : List (Str × V)) (ys : List V) : Prop := (zs = [] ∧ ys = dvs) ∨ (zs.map (·.1) = ks ∧ ys = zs.map (·.2))
def spStarK (n : Nat) (ks : List Str) (dvs : List V) (sp : Sp) : SpK := fun vs zs H Q E => ∃ ws rest ys, vs = ws ++ rest ∧ ws.length = n ∧ KwVals ks dvs zs ys ∧ rest.length ≤ sizeLine ∧ ∀ p, H p = none → sp (ws ++ (ys ++ [.ref p])) (upd H p (.tup rest)) Q E
theorem def_starK {x qual : Str} {st : Stmt} {f : Addr} {fd : FuncData} {N ps ks : List Str} {pv : Str} {dvs : List V} {sp : Sp} (F : FunD K x qual (defArgs st) (defBody st) (defScope st) [] (ks.zip dvs) f fd) (S : FnScope N (ps ++ (ks ++ [pv])) (defScope st)) (hkd : dvs.length = ks.length) (hk : ks ≠ [])
    (hb2 : ∀ (kV doc pm : Value) (an : Option Addr) (cdv ct : Value) (us rest ws : List Value), us.length = ps.length → ws.length = ks.length → bindArgs (PySem.W.fnOf x qual (defArgs st) (defBody st) (defScope st) .none kV doc pm an cdv ct) ⟨us ++ rest, ks.zip ws⟩ = (newTuple rest >>= fun t => pure (ps.zip us ++ (ks.zip ws ++ [(pv, t)]))))
    (hb0 : ∀ (D : Addr) (doc pm : Value) (an : Option Addr) (cdv ct : Value) (us rest ws : List Value), us.length = ps.length → ws.length = ks.length → KwCh D (ks.zip ws) (bindArgs (PySem.W.fnOf x qual (defArgs st) (defBody st) (defScope st) .none (.ref D) doc pm an cdv ct) ⟨us ++ rest, []⟩) (newTuple rest >>= fun t => pure (ps.zip us ++ (ks.zip ws ++ [(pv, t)]))))
    (hbody : ∀ (cdv : Value) (A : Around) (outer : List Env) (s : Shared) (H : Hp) (vs : List V) (Q : VK) (E : XK), Room k (A.deeper (envOfC qual (defScope st) s.heap.objs.size f cdv)) → A.guards = some [] → sp vs H Q E →
      ∃ t, PSs (cxOf (L2.CX P w) P w K mg base N qual (defScope st) f cdv A outer s H E) (defBody st) t ∧ t { nx := fun _ H' => Q .non H', rt := Q } (start N vs) H) :
    CallG P w K mg base (k + 1) (.ref f) (spStarK ps.length ks dvs sp) := by
  obtain ⟨oc, od, dV, kV, doc, pm, an, cdv, ct, osl, rfl, lk, hcd, hD, hK⟩ := F.ex
  obtain rfl : dV = .none := by
    rcases hD with ⟨_, e⟩ | ⟨e, _⟩
    · exact e
    · exact absurd rfl e
  rintro A outer s H us kws vs zs Q E hr hg e0 r rk ⟨ws, rest, ys, rfl, hl, hy, hz, hq⟩
  obtain ⟨u1, u2, rfl, r1, r2⟩ := vals_split r
  have hn : H s.heap.objs.size = none := e0.hok.fresh (Nat.le_refl _)
  have hl1 : u1.length = ps.length := by rw [← r1.length]; exact hl
  have hl2 : u2.length ≤ sizeLine := by rw [← r2.length]; exact hz
  have KX : K.In s.heap := e0.mod.kin.keeps fun b o e => (e0.bs b o e).1
  refine run_bnd lk hcd S hr e0 (G := fun xs H2 => ∃ p, H p = none ∧ xs = ws ++ (ys ++ [V.ref p]) ∧ H2 = upd H p (.tup rest)) (fun A' Ex Q' h => ?_) fun s2 H2 xs ⟨p, hp, ex, eH⟩ hr' => ?_
  · have goal : ∀ us3 : List Value, Vals ys us3 → us3.length = ks.length → wpAny (model P w) A' (newTuple u2 >>= fun t => pure (ps.zip u1 ++ (ks.zip us3 ++ [(pv, t)]))) Q' Ex s := fun us3 r3 l3 => by
      refine wpAny_bind (wpAny_newTuple (wpAny_pure ?_) hl2)
      have new : ObjOk P w (upd H s.heap.objs.size (.tup rest)) (s.heap.push ({ cls := .type "tuple", data := .seq u2.toArray } : Obj)) s.heap.objs.size (.tup rest) :=
        ⟨hz, u2, r2, ⟨_, Heap.get?_push_size _ rfl, rfl, _, rfl⟩⟩
      have un := un_laid (fs := frs outer) (s := s) (o := ({ cls := .type "tuple", data := .seq u2.toArray } : Obj)) (u := .tup rest) hn
      have ly : ys.length = ks.length := r3.length.trans l3
      have z := h _ _ (ws ++ (ys ++ [V.ref s.heap.objs.size])) (u1 ++ (us3 ++ [Value.ref s.heap.objs.size])) (env0_laid e0 new) un rfl
        (fun e s' => cxUp outer s H _ _ E e s' un (fun b o q => Heap.get?_push_of_some _ q) rfl) (r1.append (r3.append (.cons rfl .nil))) (by simp [hl, ly]) ⟨_, hn, rfl, rfl⟩
      rw [List.zip_append hl1.symm, List.zip_append l3.symm] at z
      exact z
    rcases hy with ⟨rfl, rfl⟩ | ⟨hks, rfl⟩
    · cases rk
      rcases hK with e | ⟨D, rfl, hd⟩
      · match ks, ys, hk, hkd, e with
        | [], _, hk, _, _ => exact absurd rfl hk
        | _ :: _, _ :: _, _, _, e => cases e
        | _ :: _, [], _, hkd, _ => cases hkd
      · obtain ⟨mv, lm, rm, hm⟩ := kwd_vals hd
        have e1 : (ks.zip ys).map (·.2) = ys := List.map_snd_zip (by omega)
        have e2 : (ks.zip ys).map (·.1) = ks := List.map_fst_zip (by omega)
        rw [e1] at rm
        rw [e2] at hm
        have lm : mv.length = ks.length := rm.length.symm.trans hkd
        exact KwCh.run KX hm (hb0 D doc pm an cdv ct u1 u2 mv hl1 lm) (goal mv rm lm)
    · obtain ⟨ek, rz⟩ := kvs_split rk
      rw [hks] at ek
      have lw : (kws.map (·.2)).length = ks.length := by rw [← rz.length, ← hks, List.length_map, List.length_map]
      rw [ek, hb2 kV doc pm an cdv ct u1 u2 _ hl1 lw]
      exact goal _ rz lw
  · subst ex eH
    exact hbody cdv A outer s2 _ _ Q E hr' hg (hq p hp)
end
section
variable {M : Model} {A : Around} {E : Value → Shared → Prop} {s : Shared}
theorem evalArgs_starK {f : Value} {x : Sem Value} {ap : Pos} {kws : List (Option Str × Sem Value)} {Q : Args → Shared → Prop} (hall : kws.all (·.1.isSome) = true)
    (h : wpAny M A x (fun v s1 => wpAny M A (evalAll (kws.map (·.2))) (fun ks s2 => PySem.W.StarOf M A E v (fun vs s3 => Q ⟨vs, (kws.filterMap (·.1)).zip ks⟩ s3) s2) E s1) E s) :
    wpAny M A (evalArgs f true [(true, (do let v ← x; standAt ap; pure v))] kws) Q E s := by
  unfold evalArgs
  refine wpAny_bind (wpAny_bind (wpAny_mono h (fun v s1 h1 => wpAny_bind (wpAny_standAt (wpAny_pure ?_))) fun _ _ z => z))
  refine wpAny_holding (wpAny_bind (wpAny_pure ?_))
  generalize instDecidableEqBool (kws.all fun x => x.1.isSome) true = dec
  cases dec with
  | isFalse n => exact absurd hall n
  | isTrue _ =>
    refine wpAny_bind (wpAny_mono h1 (fun ks s2 h2 => ?_) fun _ _ z => z)
    unfold PySem.W.StarOf at h2
    refine wpAny_bind (wpAny_bind (wpAny_mono h2 (fun b s3 h3 => ?_) fun _ _ z => z))
    obtain ⟨rfl, h3⟩ := h3
    try simp only [Bool.false_eq_true, if_false]
    have fin := wpAny_holding (vs := ((kws.filterMap (·.1)).zip ks).map (·.2)) (wpAny_mono h3 (fun vs s4 h4 => (wpAny_pure h4 : wpAny M A (pure (⟨vs, (kws.filterMap (·.1)).zip ks⟩ : Args)) Q E s4)) fun _ _ z => z)
    first
      | exact fin
      | exact wpAny_bind (wpAny_pure fin)
theorem cw_star {f : Value} {first : List Value} {ap : Pos} {Q : Value → Shared → Prop} {P : Heap → Prop} {args : List (Bool × Sem Value)} {kws : List (Option Str × Sem Value)} (hst : args.any (·.1) = true)
    (hk : ∀ h, P h → ∃ k, (k = Keeper.frame ∨ k = Keeper.machine ∨ k = Keeper.boundFrame) ∧ PySem.W.Looks M h (keeperOf f) k)
    (h : wpAny M A (evalArgs f true args kws) (fun a s1 => P s1.heap ∧ wpAny M A (call f (first ++ a.pos) a.kw) Q E s1) E s) : wpAny M A (callWith ap f first args kws) Q E s := by
  unfold callWith
  refine wpAny_bind (wpAny_holding (wpAny_mono h (fun a s1 h1 => wpAny_bind (wpAny_standAt ?_)) fun _ _ z => z))
  obtain ⟨kp, hkp, L⟩ := hk _ h1.1
  simp only [hst, Bool.true_or]
  refine wpAny_bind (L.here ?_)
  have back : ∀ {t : Sem Value}, wpAny M A t Q E s1 → wpAny M A (t >>= fun r => holding [r] point >>= fun _ => pure r) Q E s1 :=
    fun ht => wpAny_bind (wpAny_mono ht (fun r s2 hr => wpAny_bind (wpAny_holding (wpAny_point (wpAny_pure hr)))) fun _ _ z => z)
  have mk : ∀ m : Value, wpAny M A (callMarked m f (first ++ a.pos) a.kw) Q E s1 := fun m => by unfold callMarked; exact Calls.wpAny_keep h1.2
  rcases hkp with rfl | rfl | rfl <;> dsimp only <;> first | exact back (mk _) | exact back (wpAny_operating h1.2)
end
section
variable {X : Cx} {W : WX} {k i : Nat} {C f : Addr} {sp : SpK} {pins : List (Addr × Obj)} {σ : L2.St} {H : Hp} {s : Shared} {Q : VK}
def spMkK (C : Addr) (sp : SpK) : SpK := fun vs zs H Q E => ∀ x dx, H x = none → H dx = none → dx ≠ x → sp (.ref x :: vs) zs (upd (upd H dx (.own x)) x (.ins C dx [])) (fun v H2 => v = .non ∧ Q (.ref x) H2) E
theorem run_makeGK {us : List Value} {vs : List V} {kws : List (Str × Value)} {zs : List (Str × V)} (tk : Takes X W) (M : Mk X.K C f) (F : CallG X.prog X.w X.K X.mg X.base k (.ref f) sp) (hr : Room (k + 1) X.A) (hg : X.A.guards = some []) (I : Inv X pins σ H s) (r : Vals vs us) (rk : KVs zs kws)
    (h : spMkK C sp vs zs H Q (WE W σ)) : wpAny (model X.prog X.w) X.A (call (.ref C) us kws) (EP X pins σ Q) X.xe s := by
  have hq := h (s.heap.objs.size + 1) s.heap.objs.size (I.hok.fresh (Nat.le_succ _)) (I.hok.fresh (Nat.le_refl _)) (Nat.ne_of_lt (Nat.lt_succ_self _))
  have J := Inv.made (C := C) I
  have r2 : Vals (V.ref (s.heap.objs.size + 1) :: vs) (Value.ref (s.heap.objs.size + 1) :: us) := .cons rfl r
  refine wpAny_call (make_map (f := f) I.kIn M.makes M.init (beq_iff_eq.mp M.fn) (codeAny_mono (F _ X.stack _ _ _ kws _ zs _ _ (hr.make C us kws) (under_guardsK hg) (J.env0.make C us kws) r2 rk hq) fun r s' y => ?_))
  rcases r with e | fl
  · exact passAt tk σ pins _ _ e s' J y
  · cases fl with
    | ret u =>
      obtain ⟨v, H', I3, rv, ev, q3⟩ := J.after y
      subst ev
      exact ⟨rv, ⟨V.ref (s.heap.objs.size + 1), H', I3, rfl, q3⟩⟩
    | next => exact y.elim
    | brk => exact y.elim
    | cont => exact y.elim
/-- x(*e, k = v, ..), x a name of the def or of the module that holds a class -/
def tMkSK (W : WX) (dom : Addr → Prop) (ns : List Str) (sp : SpK) (tx te : TE) (tk : TA) : TE := fun σ H Q => tx σ H fun c H0 => ∃ C, c = .ref C ∧ dom C ∧ te σ H0 fun v H1 => tk σ H1 fun ys H2 => ∃ l xs, v = .ref l ∧ (SqT X.K H2 l xs ∨ SqL X.K H2 l xs) ∧ ys.length = ns.length ∧ spMkK C sp xs (ns.zip ys) H2 Q (WE W σ)
theorem pe_mkSK {x : Str} {e : Expr} {kws : List Keyword} {ns : List Str} {dom : Addr → Prop} {tx te : TE} {t : TA} {pp sp_ qs : Pos} (tk : Takes X W) (M : ∀ C, dom C → Mk X.K C f) (F : CallG X.prog X.w X.K X.mg X.base k (.ref f) sp) (hr : Room (k + 1) X.A) (hg : X.A.guards = some [])
    (hx : PE X (.Name x pp) tx) (he : PE X e te) (hkw : PK X kws t)
    (hall : (backToKw qs (keywordEach kws X.env)).all (·.1.isSome) = true := by rfl) (hks : (backToKw qs (keywordEach kws X.env)).filterMap (·.1) = ns := by rfl)
    (hs : starEach [.Starred e sp_] X.env = [(true, eval e X.env)] := by rfl) :
    PE X (.Call (.Name x pp) [.Starred e sp_] kws qs) (tMkSK (X := X) W dom ns sp tx te t) := by
  refine ⟨fun pins s σ H Q I h => ?_⟩
  refine wpAny_Call_Name_kw (thn (hx.run pins s σ H _ I h) fun u s0 ⟨c, H0, I0, rc, C, ec, hC, q0⟩ => ?_)
  subst ec
  obtain rfl : u = Value.ref C := rc
  rw [hs]
  refine cw_star (P := fun h => X.K.In h) rfl (PySem.W.keeps_K (M C hC).kp) (evalArgs_starK hall (thn (he.run pins s0 σ H0 _ I0 q0) fun v s1 ⟨y, H1, I1, ry, q1⟩ => thn (hkw.run qs pins s1 σ H1 _ I1 q1) fun ks s2 ⟨ys, H2, I2, rys, l, xs, ey, hsq, ly, q2⟩ => ?_))
  subst ey
  obtain rfl : v = Value.ref l := ry
  refine star_any I2 hsq fun us s3 I3 rv => ⟨I3.kIn, ?_⟩
  rw [hks]
  exact run_makeGK (us := us) tk (M C hC) F hr hg I3 rv (vals_kvs rys) q2
end
end Uk

/-! UkBG: defs with keyword-only parameters, or with defaults; classmethods called by place and by keywords -/
namespace Uk
open PySem PySem.Spec PyProof.Rows L2 StX

section
variable {P : Program} {w : World} {K : PySem.W.Frag} {mg : Str → Option Value} {base : Heap} {k : Nat}
def spKwD (n : Nat) (ks : List Str) (dvs : List V) (sp : Sp) : SpK := fun vs zs H Q E => ∃ ys, vs.length = n ∧ KwVals ks dvs zs ys ∧ sp (vs ++ ys) H Q E
theorem def_kwD {x qual : Str} {st : Stmt} {f : Addr} {fd : FuncData} {N ps ks : List Str} {dvs : List V} {sp : Sp} (F : FunD K x qual (defArgs st) (defBody st) (defScope st) [] (ks.zip dvs) f fd) (S : FnScope N (ps ++ ks) (defScope st)) (hkd : dvs.length = ks.length) (hk : ks ≠ [])
    (hb2 : ∀ (kV doc pm : Value) (an : Option Addr) (cdv ct : Value) (us ws : List Value), us.length = ps.length → ws.length = ks.length → bindArgs (PySem.W.fnOf x qual (defArgs st) (defBody st) (defScope st) .none kV doc pm an cdv ct) ⟨us, ks.zip ws⟩ = pure ((ps ++ ks).zip (us ++ ws)))
    (hb0 : ∀ (D : Addr) (doc pm : Value) (an : Option Addr) (cdv ct : Value) (us ws : List Value), us.length = ps.length → ws.length = ks.length → KwCh D (ks.zip ws) (bindArgs (PySem.W.fnOf x qual (defArgs st) (defBody st) (defScope st) .none (.ref D) doc pm an cdv ct) ⟨us, []⟩) (pure ((ps ++ ks).zip (us ++ ws))))
    (hbody : ∀ (cdv : Value) (A : Around) (outer : List Env) (s : Shared) (H : Hp) (vs : List V) (Q : VK) (E : XK), Room k (A.deeper (envOfC qual (defScope st) s.heap.objs.size f cdv)) → A.guards = some [] → sp vs H Q E →
      ∃ t, PSs (cxOf (L2.CX P w) P w K mg base N qual (defScope st) f cdv A outer s H E) (defBody st) t ∧ t { nx := fun _ H' => Q .non H', rt := Q } (start N vs) H) :
    CallG P w K mg base (k + 1) (.ref f) (spKwD ps.length ks dvs sp) := by
  obtain ⟨oc, od, dV, kV, doc, pm, an, cdv, ct, osl, rfl, lk, hcd, hD, hK⟩ := F.ex
  obtain rfl : dV = .none := by
    rcases hD with ⟨_, e⟩ | ⟨e, _⟩
    · exact e
    · exact absurd rfl e
  rintro A outer s H us kws vs zs Q E hr hg e0 r rk ⟨ys, hl, hy, hq⟩
  have hl1 : us.length = ps.length := by rw [← r.length]; exact hl
  have KX : K.In s.heap := e0.mod.kin.keeps fun b o e => (e0.bs b o e).1
  refine run_bnd lk hcd S hr e0 (G := fun xs H2 => xs = vs ++ ys ∧ H2 = H) (fun A' Ex Q' h => ?_) fun s2 H2 xs ⟨ex, eH⟩ hr' => ?_
  · have goal : ∀ us3 : List Value, Vals ys us3 → us3.length = ks.length → Q' ((ps ++ ks).zip (us ++ us3)) s := fun us3 r3 l3 =>
      h s H _ _ e0 Un.refl rfl (fun _ _ z => z) (r.append r3) (by rw [List.length_append, List.length_append, hl, r3.length, l3]) ⟨rfl, rfl⟩
    rcases hy with ⟨rfl, rfl⟩ | ⟨hks, rfl⟩
    · cases rk
      rcases hK with e | ⟨D, rfl, hd⟩
      · match ks, ys, hk, hkd, e with
        | [], _, hk, _, _ => exact absurd rfl hk
        | _ :: _, _ :: _, _, _, e => cases e
        | _ :: _, [], _, hkd, _ => cases hkd
      · obtain ⟨mv, lm, rm, hm⟩ := kwd_vals hd
        rw [show (ks.zip ys).map (·.2) = ys from List.map_snd_zip (by omega)] at rm
        rw [show (ks.zip ys).map (·.1) = ks from List.map_fst_zip (by omega)] at hm
        have lm : mv.length = ks.length := rm.length.symm.trans hkd
        exact KwCh.run KX hm (hb0 D doc pm an cdv ct us mv hl1 lm) (wpAny_pure (goal mv rm lm))
    · obtain ⟨ek, rz⟩ := kvs_split rk
      rw [hks] at ek
      have lw : (kws.map (·.2)).length = ks.length := by rw [← rz.length, ← hks, List.length_map, List.length_map]
      rw [ek, hb2 kV doc pm an cdv ct us _ hl1 lw]
      exact wpAny_pure (goal _ rz lw)
  · subst ex eH
    exact hbody cdv A outer s2 _ _ Q E hr' hg hq
/-- a def with defaults: all values by place, or the defaults' ones lacking -/
def spDfl (n : Nat) (dvs : List V) (sp : Sp) : SpK := fun vs zs H Q E => zs = [] ∧ ((vs.length = n + dvs.length ∧ sp vs H Q E) ∨ (vs.length = n ∧ sp (vs ++ dvs) H Q E))
theorem def_dfl {x qual : Str} {st : Stmt} {f : Addr} {fd : FuncData} {N ps : List Str} {n : Nat} {dvs : List V} {sp : Sp} (F : FunD K x qual (defArgs st) (defBody st) (defScope st) dvs [] f fd) (S : FnScope N ps (defScope st)) (hd : dvs ≠ []) (hn : n + dvs.length = ps.length)
    (hb1 : ∀ (T : Addr) (kV doc pm : Value) (an : Option Addr) (cdv ct : Value) (us its : List Value), us.length = n + dvs.length → its.length = dvs.length → ∃ k, bindArgs (PySem.W.fnOf x qual (defArgs st) (defBody st) (defScope st) (.ref T) kV doc pm an cdv ct) ⟨us, []⟩ = seqItems? (.ref T) >>= k ∧ k (some its.toArray) = pure (ps.zip us))
    (hb0 : ∀ (T : Addr) (kV doc pm : Value) (an : Option Addr) (cdv ct : Value) (us its : List Value), us.length = n → its.length = dvs.length → ∃ k, bindArgs (PySem.W.fnOf x qual (defArgs st) (defBody st) (defScope st) (.ref T) kV doc pm an cdv ct) ⟨us, []⟩ = seqItems? (.ref T) >>= k ∧ k (some its.toArray) = pure (ps.zip (us ++ its)))
    (hbody : ∀ (cdv : Value) (A : Around) (outer : List Env) (s : Shared) (H : Hp) (vs : List V) (Q : VK) (E : XK), Room k (A.deeper (envOfC qual (defScope st) s.heap.objs.size f cdv)) → A.guards = some [] → sp vs H Q E →
      ∃ t, PSs (cxOf (L2.CX P w) P w K mg base N qual (defScope st) f cdv A outer s H E) (defBody st) t ∧ t { nx := fun _ H' => Q .non H', rt := Q } (start N vs) H) :
    CallG P w K mg base (k + 1) (.ref f) (spDfl n dvs sp) := by
  obtain ⟨oc, od, dV, kV, doc, pm, an, cdv, ct, osl, rfl, lk, hcd, hD, hK⟩ := F.ex
  rcases hD with ⟨e, _⟩ | ⟨_, T, o, its, m, rfl, lT, oT, rT⟩
  · exact absurd e hd
  rintro A outer s H us kws vs zs Q E hr hg e0 r rk ⟨rfl, hq⟩
  cases rk
  have KX : K.In s.heap := e0.mod.kin.keeps fun b o e => (e0.bs b o e).1
  have go : ∀ (ys : List V) (ws : List Value), Vals ys ws → ys.length = ps.length → sp ys H Q E → (∃ k, bindArgs (PySem.W.fnOf x qual (defArgs st) (defBody st) (defScope st) (.ref T) kV doc pm an cdv ct) ⟨us, []⟩ = seqItems? (.ref T) >>= k ∧ k (some its.toArray) = pure (ps.zip ws)) →
      codeAny (model P w) A (.call (.ref f) ⟨us, []⟩) (CR (L2.CX P w) outer P w H s Q E) s := fun ys ws ry ly hy ⟨kk, e1, e2⟩ => by
    refine run_bnd lk hcd S hr e0 (G := fun xs H2 => xs = ys ∧ H2 = H) (fun A' Ex Q' h => ?_) fun s2 H2 xs ⟨ex, eH⟩ hr' => ?_
    · rw [e1]
      refine wpAny_bind (wpAny_seqItems (KX _ _ lT) oT ?_)
      rw [e2]
      exact wpAny_pure (h s H _ _ e0 Un.refl rfl (fun _ _ z => z) ry ly ⟨rfl, rfl⟩)
    · subst ex eH
      exact hbody cdv A outer s2 _ _ Q E hr' hg hy
  rcases hq with ⟨hl, hq⟩ | ⟨hl, hq⟩
  · exact go vs us r (hl.trans hn) hq (hb1 T kV doc pm an cdv ct us its (r.length.symm.trans hl) rT.length.symm)
  · exact go _ _ (r.append rT) (by rw [List.length_append, hl, hn]) hq (hb0 T kV doc pm an cdv ct us its (r.length.symm.trans hl) rT.length.symm)
end
theorem fnd_mk {K : PySem.W.Frag} {x qual : Str} {st : Stmt} {f : Addr} {oc : Value} {od an : Option Addr} {osl : Array (Option Value)} {dV kV doc pm cdv ct : Value} {dvs : List V} {kws : List (Str × V)}
    (l : K.lookup f = some ⟨oc, od, .func (PySem.W.fnOf x qual (defArgs st) (defBody st) (defScope st) dV kV doc pm an cdv ct), osl⟩) (c : PySem.W.codeIn K cdv qual = true) (k : PySem.W.keepIn K (.ref f) = true) (D : DflV K dV dvs) (Z : KwdV K kV kws) :
    ∃ fd, FunD K x qual (defArgs st) (defBody st) (defScope st) dvs kws f fd := ⟨_, ⟨oc, od, dV, kV, doc, pm, an, cdv, ct, osl, rfl, l, c, D, Z⟩, k⟩
section
variable {X : Cx} {W : WX} {k : Nat} {C p g : Addr} {mc : Value} {sp : SpK} {m : Str} {o e : Expr} {es : List Expr} {qs apos : Pos} {ta : TE} {t tz : TA} {pl : Sem Bool}
/-- C.m(e, .., k = v, ..), m a classmethod -/
def tCmpk (W : WX) (C : Addr) (ns : List Str) (sp : SpK) (ta : TE) (t tz : TA) : TE := fun σ H Q => ta σ H fun x H1 => x = .ref C ∧ t σ H1 fun vs H2 => tz σ H2 fun zs H3 => zs.length = ns.length ∧ sp (.ref C :: vs) (ns.zip zs) H3 Q (WE W σ)
theorem pe_cmGpk {kws : List Keyword} {ns : List Str} (tk : Takes X W) (he : PE X o ta) (r : ClX.CRead X.K C mc) (c : ClX.CMet X.K C mc m p g) (F : CallG X.prog X.w X.K X.mg X.base k (.ref g) sp) (hr : Room k X.A) (hg : X.A.guards = some []) (ha : PA X (e :: es) t) (hz : PK X kws tz)
    (hall : (backToKw qs (keywordEach kws X.env)).all (·.1.isSome) = true := by rfl) (hks : (backToKw qs (keywordEach kws X.env)).filterMap (·.1) = ns := by rfl)
    (hst : starEach (e :: es) X.env = (false, eval e X.env) :: starEach es X.env := by rfl)
    (hpl : ((backTo qs (starEach (e :: es) X.env)).any (·.1) || (backToKw qs (keywordEach kws X.env)).any (·.1.isNone)) = false := by rfl)
    (ht : eval (.Call (.Attribute o m apos) (e :: es) kws qs) X.env = (do
      let ov ← eval o X.env
      standAt apos.atName
      let (f, first) ← holding [ov] (getMethod ov m pl)
      callWith qs f first (backTo qs (starEach (e :: es) X.env)) (backToKw qs (keywordEach kws X.env))) := by rfl) :
    PE X (.Call (.Attribute o m apos) (e :: es) kws qs) (tCmpk W C ns sp ta t tz) := by
  refine ⟨fun pins s σ H Q I h => ?_⟩
  refine PySem.W.methodCall_KW (pl := pl) (thn (he.run pins s σ H _ I h) fun u s1 ⟨x, H1, I1, rx, ex, q⟩ => ?_) ht
  subst ex
  obtain rfl : u = Value.ref C := rx
  refine ClX.getmethcm_ok I1 r c fun s2 I2 => ?_
  refine PySem.W.callWith_of (P := PySem.W.MethP X.K s1.heap.objs.size g (.ref C)) hpl (PySem.W.keeps_M c.fi) (evalArgs_kw2 hall (thn (ha.run qs _ s2 σ H1 _ I2 q) fun us s3 ⟨vs, H2, I3, rv, q2⟩ => thn (hz.run qs _ s3 σ H2 _ I3 q2) fun ws s4 ⟨zs, H3, I4, rz, lz, q3⟩ => ⟨⟨ClX.pin_at I4, I4.kIn⟩, ?_⟩) hst)
  rw [hks]
  exact run_cmG (us := us) (vs := vs) tk F hr hg I4 rv (vals_kvs rz) q3
end
end Uk

/-! UkBH: rules whose reading speaks of the written part, that part told (for blocks of comprehensions) -/
namespace Uk
open PySem PySem.Spec PyProof.Rows L2 StX
section
variable {X : Cx} (K : PySem.W.Frag)
theorem xcall_isi (e : X.K = K := by rfl) : CallR X (.builtin "isinstance") (rIsi K) := e ▸ call_isi
theorem xcall_isiT (e : X.K = K := by rfl) : CallR X (.builtin "isinstance") (rIsiT K) := e ▸ call_isiT
theorem xcall_isX (e : X.K = K := by rfl) : CallR X (.builtin "isinstance") (rIsX K) := e ▸ call_isX
def rLenSq (K : PySem.W.Frag) : List V → Hp → VK → Prop := fun xs H Q => ∃ p ys, xs = [.ref p] ∧ (SqL K H p ys ∨ SqT K H p ys) ∧ Q (.int ys.length) H
theorem xcall_len_seq (e : X.K = K := by rfl) : CallR X (.builtin "len") (rLenSq K) := e ▸ call_len_seq
def rTupOf (K : PySem.W.Frag) : List V → Hp → VK → Prop := fun xs H Q => ∃ p ys, xs = [.ref p] ∧ ((SqL K H p ys ∧ ∀ l, H l = none → Q (.ref l) (upd H l (.tup ys))) ∨ (SqT K H p ys ∧ Q (.ref p) H))
theorem xcall_tuple_of (e : X.K = K := by rfl) : CallR X (.type "tuple") (rTupOf K) := e ▸ call_tuple_of
def rLstOf (K : PySem.W.Frag) : List V → Hp → VK → Prop := fun xs H Q => ∃ p ys, xs = [.ref p] ∧ (SqL K H p ys ∨ SqT K H p ys) ∧ ∀ l, H l = none → Q (.ref l) (upd H l (.lst ys))
theorem xcall_list_of (e : X.K = K := by rfl) : CallR X (.type "list") (rLstOf K) := e ▸ call_list_of
theorem xop_in_seq (e : X.K = K := by rfl) : OpR X (compareOp .In) (rIn K false) := e ▸ op_in_seq
theorem xop_notIn_seq (e : X.K = K := by rfl) : OpR X (compareOp .NotIn) (rIn K true) := e ▸ op_notIn_seq
theorem xix_list (e : X.K = K := by rfl) : IxR X (rIxL K) := e ▸ ix_list
theorem xix_tup (e : X.K = K := by rfl) : IxR X (rIxT K) := e ▸ ix_tup
theorem xsl_list (e : X.K = K := by rfl) : SlR X (rSlL K) := e ▸ sl_list
theorem xsl_tup (e : X.K = K := by rfl) : SlR X (rSlT K) := e ▸ sl_tup
theorem xsl_tupA (e : X.K = K := by rfl) : SlR X (rSlA K) := e ▸ sl_tupA
theorem xcr_all (hc : X.calm = true) (e : X.K = K := by rfl) : CallR X (.builtin "all") (rAll K) := e ▸ cr_all hc
theorem xcr_any (hc : X.calm = true) (e : X.K = K := by rfl) : CallR X (.builtin "any") (rAny K) := e ▸ cr_any hc
theorem xcr_sum (hc : X.calm = true) (e : X.K = K := by rfl) : CallR X (.builtin "sum") (rSum K) := e ▸ cr_sum hc
theorem xop_eqD (hu : X.A.units + 64 < cLine) (e : X.K = K := by rfl) : OpR X (compareOp .Eq) (rEqD K) := e ▸ op_eqD hu
theorem xop_neD (hu : X.A.units + 64 < cLine) (e : X.K = K := by rfl) : OpR X (compareOp .NotEq) (rNeD K) := e ▸ op_neD hu
theorem xop_eqQ (hu : X.A.units + 64 < cLine) (e : X.K = K := by rfl) : OpR X (compareOp .Eq) (rEqQ K) := e ▸ op_eqQ hu
theorem xop_eqStr (hu : X.A.units + 64 < cLine) (e : X.K = K := by rfl) : OpR X (compareOp .Eq) (rEqStr K) := e ▸ op_eqStr hu
theorem xop_eqSelf (hu : X.A.units + 64 < cLine) (e : X.K = K := by rfl) : OpR X (compareOp .Eq) (rEqSelf K) := e ▸ op_eqSelf hu
theorem xop_eqTs (hu : X.A.units + 64 < cLine) (e : X.K = K := by rfl) : OpR X (compareOp .Eq) (rEqTs K) := e ▸ op_eqTs hu
theorem xop_catA (e : X.K = K := by rfl) : OpR X (binaryOp .Add) (rCatA K) := e ▸ op_catA
theorem xpi_list {tg l : Expr} {tl : TE} (hl : PE X l tl) (e : X.K = K := by rfl) : PI X tg l (iList K tl) := e ▸ pi_list hl
theorem xpi_tup {tg l : Expr} {tl : TE} (hl : PE X l tl) (e : X.K = K := by rfl) : PI X tg l (iTup K tl) := e ▸ pi_tup hl
theorem xpe_fld {o : Expr} {f : Str} {pos : Pos} {ta : TE} (he : PE X o ta) (hb : attributeBase o f X.env (eval o X.env) = eval o X.env) (e : X.K = K := by rfl) : PE X (.Attribute o f pos) (tFld K ta f) := e ▸ pe_fld he hb
theorem xpe_con {o : Expr} {f : Str} {pos : Pos} {ta : TE} (he : PE X o ta) (hb : attributeBase o f X.env (eval o X.env) = eval o X.env) (e : X.K = K := by rfl) : PE X (.Attribute o f pos) (tCon K ta f) := e ▸ pe_con he hb
theorem xpi_enumT {p pos tpos : Pos} {o : Expr} {ta : TA} {elts : List Expr} {kk : Nat} (hg : Gl X "enumerate") (hm : X.mg "enumerate" = none) (ha : PA X [o] ta) (hs : starEach [o] X.env = [(false, eval o X.env)] := by rfl) (e : X.K = K := by rfl) : PI X (.Tuple elts kk tpos) (.Call (.Name "enumerate" p) [o] [] pos) (iEnumT K ta) := e ▸ pi_enumT hg hm ha hs
theorem xpi_enum {p pos tpos : Pos} {o : Expr} {ta : TA} {elts : List Expr} {kk : Nat} (hg : Gl X "enumerate") (hm : X.mg "enumerate" = none) (ha : PA X [o] ta) (hs : starEach [o] X.env = [(false, eval o X.env)] := by rfl) (e : X.K = K := by rfl) : PI X (.Tuple elts kk tpos) (.Call (.Name "enumerate" p) [o] [] pos) (iEnum K ta) := e ▸ pi_enum hg hm ha hs
end
/-- t[a:b], told by what it holds -/
def rSlF (K : PySem.W.Frag) : V → Option Int → Option Int → Hp → VK → Prop := fun x lo hi H Q => ∃ a xs, x = .ref a ∧ SqT K H a xs ∧ ∀ t H', Same H H' → SqT K H' t (cutV xs lo hi) → Q (.ref t) H'
theorem slF_A {K : PySem.W.Frag} {x : V} {lo hi : Option Int} {H : Hp} {Q : VK} (h : rSlF K x lo hi H Q) : rSlA K x lo hi H Q := by
  obtain ⟨a, xs, rfl, hs, q⟩ := h
  refine ⟨a, xs, rfl, hs, fun z => q a H (fun _ _ e => e) ?_, fun _ p hp => q p _ (fun b u e => by rw [upd_ne (ne_of_none e hp)]; exact e) (SqT.of upd_same)⟩
  unfold cutV
  rw [z.1, z.2, List.drop_zero, Nat.sub_zero, List.take_of_length_le (Nat.le_refl _)]
  exact hs
theorem sl_tupF {X : Cx} : SlR X (rSlF X.K) := fun pins s σ H x v vl vu lo hi sl Q I rx hs pl pu h => sl_tupA pins s σ H x v vl vu lo hi sl Q I rx hs pl pu (slF_A h)
theorem xsl_tupF {X : Cx} (K : PySem.W.Frag) (e : X.K = K := by rfl) : SlR X (rSlF K) := e ▸ sl_tupF
end Uk

/-! UkBI: a tuple of targets within a comprehension -/
namespace Uk
open PySem PySem.Spec PyProof.Rows L2 StX
section
variable {X : Cx} (K : PySem.W.Frag)
theorem xpg_tup {es : List Expr} {k : Nat} {t : TGs} {n : Nat} {pos : Pos} (hc : X.calm = true) (h : PGs X es t)
    (hn : (assignEach es X.env).length = n := by rfl) (hst : (assignEach es X.env).findIdx? (·.1) = none := by rfl) (e : X.K = K := by rfl) : PG X (.Tuple es k pos) (gTup K n t) := e ▸ pg_tup hc h hn hst
end
def p0 (sp : SpK) : Sp := fun vs H Q E => sp vs [] H Q E
theorem CallG.pos0 {P : Program} {w : World} {K : PySem.W.Frag} {mg : Str → Option Value} {base : Heap} {k : Nat} {fv : Value} {sp : SpK} (F : CallG P w K mg base k fv sp) : CallG P w K mg base k fv (pos (p0 sp)) :=
  F.imp fun vs zs H Q E h => by
    obtain ⟨rfl, h⟩ := h
    exact h
section
variable {X : Cx} {k : Nat}
/-- one of several classes with own ==, the other any -/
def rOws (K : PySem.W.Frag) (D : Addr → Prop) (sp : Addr → SpK) (g : V → V) : R2 := fun x y H Q => ∃ (a C dx : Addr) (fs : List (Str × V)) (t : Value), x = .ref a ∧ D C ∧ H a = some (.ins C dx fs) ∧ TyX K H y t ∧ PySem.W.notFirst K C t = true ∧ sp C [x, y] [] H (fun v H' => Q (g v) H') NoE
theorem op_eqOs {D : Addr → Prop} {f : Addr → Addr} {sp : Addr → SpK} (F : ∀ C, D C → CallG X.prog X.w X.K X.mg X.base k (.ref (f C)) (sp C)) (hr : Room k X.A) (hg : X.A.guards = some []) (hD : ∀ C, D C → Own X.K C "__eq__" (f C)) : OpR X (compareOp .Eq) (rOws X.K D sp id) := by
  intro pins s σ H x y u v Q I rx ry h
  obtain ⟨a, C, dx, fs, t, rfl, d, e, ty, nf, q⟩ := h
  exact op_eqO (D := fun c => c = C) (F C d) hr hg (fun c ec => by subst ec; exact hD c d) pins s σ H (.ref a) y u v Q I rx ry ⟨a, C, dx, fs, t, rfl, rfl, e, ty, nf, q⟩
end
end Uk

/-! UkN0: names, numbers and steps as data -/
namespace Uk
open PySem PySem.Spec PyProof.Rows L2 StX

def lettersOk (x : Str) : Bool := x.cps.toList.all fun c => decide (97 ≤ c ∧ c ≤ 122)
def nameOk (x : Str) : Bool := decide (1 ≤ x.length ∧ x.length ≤ 8) && lettersOk x
theorem letter_in (c : Nat) : decide (c ∈ (("abcdefghijklmnopqrstuvwxyz" : Str)).cps.toList) = decide (97 ≤ c ∧ c ≤ 122) := by
  have e : (("abcdefghijklmnopqrstuvwxyz" : Str)).cps.toList = [97,98,99,100,101,102,103,104,105,106,107,108,109,110,111,112,113,114,115,116,117,118,119,120,121,122] := by decide +kernel
  rw [e]
  apply decide_eq_decide.mpr
  simp only [List.mem_cons, List.not_mem_nil, or_false]
  omega
def isIntD : PyData → Bool
  | .int _ => true
  | _ => false
def within (d : PyData) (lo hi : Int) : Bool := match d with
  | .int i => decide (lo ≤ i) && decide (i ≤ hi)
  | _ => false
def nameD : PyData → Bool
  | .str x => nameOk x
  | _ => false
def smallD : PyData → Prop
  | .str x => x.length ≤ 1000
  | _ => True
theorem intD_of (d : PyData) : (isD "int" d && !isD "bool" d) = isIntD d := by
  cases d <;> (simp only [isD, tyD, isIntD]; decide)
theorem within_of {d : PyData} {lo hi : Int} (h : isIntD d = false) : within d lo hi = false := by
  cases d <;> first | rfl | exact absurd h (by simp [isIntD])
theorem nameD_of {d : PyData} (h : isD "str" d = false) : nameD d = false := by
  cases d <;> first | rfl | exact absurd h (by simp only [isD, tyD]; decide)
theorem dq_int {K : PySem.W.Frag} {H : Hp} {v : V} {d : PyData} (h : Dq K H v d) (e : isIntD d = true) : ∃ i, d = .int i ∧ v = .int i := by
  cases h <;> first | exact ⟨_, rfl, rfl⟩ | exact absurd e (by simp [isIntD])
theorem dq_str {K : PySem.W.Frag} {H : Hp} {v : V} {d : PyData} (h : Dq K H v d) (e : isD "str" d = true) : ∃ x, d = .str x ∧ v = .str x := by
  cases h <;> first | exact ⟨_, rfl, rfl⟩ | exact absurd e (by simp only [isD, tyD]; decide)
def spIsInt (K : PySem.W.Frag) : Sp := fun vs H Q _ => ∃ v d, vs = [v] ∧ Dq K H v d ∧ Q (.bl (isIntD d)) H
def spWithin (K : PySem.W.Frag) : Sp := fun vs H Q _ => ∃ v d lo hi, vs = [v, .int lo, .int hi] ∧ Dq K H v d ∧ Q (.bl (within d lo hi)) H
def spNameD (K : PySem.W.Frag) : Sp := fun vs H Q _ => ∃ v d, vs = [v] ∧ Dq K H v d ∧ smallD d ∧ ∀ H', Same H H' → Q (.bl (nameD d)) H'

def wordD (ws : List Str) : PyData → Bool
  | .str x => decide (x ∈ ws)
  | _ => false
def partsSmall : PyData → Prop
  | .tuple ds => ds.length ≤ 1000 ∧ ∀ d ∈ ds, smallD d
  | .list ds => ds.length ≤ 1000
  | _ => True
abbrev wAcc : List Str := ["read", "write", "get", "put"]
abbrev wUp : List Str := ["clean", "drop", "flush"]
/-- a step, of whatever agent -/
def stepD : PyData → Bool
  | .tuple [w, n] => nameD n && wordD ["post", "wait"] w
  | .tuple [w, n, s, f, l] => nameD n && (wordD (wAcc ++ wUp) w && (within s 0 3 && (within f 0 7 && within l (intV f) 7)))
  | _ => false
theorem flatStrs (ws : List Str) : (ws.map V.str).all flatV = true := by
  rw [List.all_map]
  exact List.all_eq_true.mpr fun _ _ => rfl
theorem stepD_of {d : PyData} (h : isD "tuple" d = false) : stepD d = false := by
  cases d <;> first | rfl | exact absurd h (by simp only [isD, tyD]; decide)
theorem dq_tup {K : PySem.W.Frag} {H : Hp} {v : V} {d : PyData} (h : Dq K H v d) (e : isD "tuple" d = true) : ∃ a xs ds, v = .ref a ∧ d = .tuple ds ∧ SqT K H a xs ∧ DqAll K H xs ds := by
  cases h with
  | tup a r => exact ⟨_, _, _, rfl, rfl, a, r⟩
  | _ => exact absurd e (by simp only [isD, tyD]; decide)
theorem in25 (n : Nat) : inV (.int n) [.int 2, .int 5] = (decide (n = 2) || decide (n = 5)) := by
  show (((2 : Int) == (n : Int)) || (((5 : Int) == (n : Int)) || false)) = _
  rw [Bool.or_false]
  have e1 : ((2 : Int) == (n : Int)) = decide (n = 2) := by
    by_cases h : n = 2
    · subst h; rfl
    · rw [decide_eq_false h]; exact beq_eq_false_iff_ne.mpr (by omega)
  have e2 : ((5 : Int) == (n : Int)) = decide (n = 5) := by
    by_cases h : n = 5
    · subst h; rfl
    · rw [decide_eq_false h]; exact beq_eq_false_iff_ne.mpr (by omega)
  rw [e1, e2]
theorem stepD_len {ds : List PyData} (h2 : ds.length ≠ 2) (h5 : ds.length ≠ 5) : stepD (.tuple ds) = false := by
  match ds, h2, h5 with
  | [], _, _ => rfl
  | [_], _, _ => rfl
  | [_, _, _], _, _ => rfl
  | [_, _, _, _], _, _ => rfl
  | _ :: _ :: _ :: _ :: _ :: _ :: _, _, _ => rfl
  | [_, _], h, _ => exact absurd rfl h
  | [_, _, _, _, _], _, h => exact absurd rfl h
theorem len2 {α : Type} : ∀ {l : List α}, l.length = 2 → ∃ a b, l = [a, b]
  | [a, b], _ => ⟨a, b, rfl⟩
theorem len5 {α : Type} : ∀ {l : List α}, l.length = 5 → ∃ a b c d e, l = [a, b, c, d, e]
  | [a, b, c, d, e], _ => ⟨a, b, c, d, e, rfl⟩
theorem all2 {K : PySem.W.Frag} {H : Hp} {xs : List V} {a b : PyData} (h : DqAll K H xs [a, b]) : ∃ x y, xs = [x, y] ∧ Dq K H x a ∧ Dq K H y b := by
  cases h with
  | cons h1 h => cases h with
    | cons h2 h =>
      cases h
      exact ⟨_, _, rfl, h1, h2⟩
theorem all5 {K : PySem.W.Frag} {H : Hp} {xs : List V} {a b c d e : PyData} (h : DqAll K H xs [a, b, c, d, e]) : ∃ x y z u v, xs = [x, y, z, u, v] ∧ Dq K H x a ∧ Dq K H y b ∧ Dq K H z c ∧ Dq K H u d ∧ Dq K H v e := by
  cases h with
  | cons h1 h => cases h with
    | cons h2 h => cases h with
      | cons h3 h => cases h with
        | cons h4 h => cases h with
          | cons h5 h =>
            cases h
            exact ⟨_, _, _, _, _, rfl, h1, h2, h3, h4, h5⟩
theorem wordD_of {ws : List Str} {d : PyData} (h : isD "str" d = false) : wordD ws d = false := by
  cases d <;> first | rfl | exact absurd h (by simp only [isD, tyD]; decide)

def spWord (K : PySem.W.Frag) : Sp := fun vs H Q _ => ∃ (v : V) (d : PyData) (p : Addr) (ws : List Str), vs = [v, .ref p] ∧ SqT K H p (ws.map V.str) ∧ Dq K H v d ∧ Q (.bl (wordD ws d)) H
def spRange (K : PySem.W.Frag) : Sp := fun vs H Q _ => ∃ (v1 v2 : V) (d1 d2 : PyData), vs = [v1, v2] ∧ Dq K H v1 d1 ∧ Dq K H v2 d2 ∧ Q (.bl (within d1 0 7 && within d2 (intV d1) 7)) H
def spStep (K : PySem.W.Frag) : Sp := fun vs H Q _ => ∃ (v : V) (d : PyData), vs = [v] ∧ Dq K H v d ∧ partsSmall d ∧ ∀ H', Same H H' → Q (.bl (stepD d)) H'
end Uk

/-! UkNA: parts of nets as data, and how they stand in the heap -/
namespace Uk
open PySem PySem.Spec PyProof.Rows L2 StX

inductive Stp where
  | two (w n : Str) | five (w n : Str) (s f l : Int)
deriving DecidableEq
inductive Prt where
  | var (n : Str) (b : Int) (ps : List Int) | sig (n : Str) (t : Int) | ag (k : Nat) (n : Str) (ss : List Stp)
deriving DecidableEq
def Stp.w : Stp → Str
  | .two w _ => w
  | .five w _ _ _ _ => w
def Stp.n : Stp → Str
  | .two _ n => n
  | .five _ n _ _ _ => n
def Stp.vs : Stp → List V
  | .two w n => [.str w, .str n]
  | .five w n s f l => [.str w, .str n, .int s, .int f, .int l]
def Stp.ds : Stp → List PyData
  | .two w n => [.str w, .str n]
  | .five w n s f l => [.str w, .str n, .int s, .int f, .int l]
def Stp.d (st : Stp) : PyData := .tuple st.ds
def Prt.n : Prt → Str
  | .var n _ _ => n
  | .sig n _ => n
  | .ag _ n _ => n
/-- the classes of parts -/
structure PCs where
  va : Addr
  sg : Addr
  ag : Nat → Addr
def kindW : Nat → Str
  | 0 => "plain"
  | 1 => "through"
  | _ => "back"
/-- v is the step st -/
def StpV (K : PySem.W.Frag) (H : Hp) (v : V) (st : Stp) : Prop := ∃ t, v = .ref t ∧ SqT K H t st.vs
inductive StpsV (K : PySem.W.Frag) (H : Hp) : List V → List Stp → Prop
  | nil : StpsV K H [] []
  | cons {v : V} {vs : List V} {s : Stp} {ss : List Stp} : StpV K H v s → StpsV K H vs ss → StpsV K H (v :: vs) (s :: ss)
abbrev varH (c : PCs) (dx pa q : Addr) (n : Str) (b : Int) : HO := .ins c.va dx [("name", .str n), ("size", .int b), ("at", .ref pa), ("shape", .ref q)]
abbrev sigH (c : PCs) (dx : Addr) (n : Str) (t : Int) : HO := .ins c.sg dx [("name", .str n), ("tokens", .int t)]
abbrev agH (c : PCs) (k : Nat) (dx pa q : Addr) (n : Str) : HO := .ins (c.ag k) dx [("name", .str n), ("steps", .ref pa), ("shape", .ref q)]
/-- the instance at x is the part p -/
def PrtA (c : PCs) (K : PySem.W.Frag) (H : Hp) (x : Addr) : Prt → Prop
  | .var n b ps => ∃ dx pa q, H x = some (varH c dx pa q n b) ∧ H pa = some (.tup (ps.map .int)) ∧ H q = some (.tup [.str n, .int b, .ref pa])
  | .sig n t => ∃ dx, H x = some (sigH c dx n t)
  | .ag k n ss => ∃ dx pa q vs, H x = some (agH c k dx pa q n) ∧ H pa = some (.tup vs) ∧ StpsV K H vs ss ∧ H q = some (.tup [.str (kindW k), .str n, .ref pa]) ∧ k < 3
inductive PrtsA (c : PCs) (K : PySem.W.Frag) (H : Hp) : List Addr → List Prt → Prop
  | nil : PrtsA c K H [] []
  | cons {x : Addr} {xs : List Addr} {p : Prt} {ps : List Prt} : PrtA c K H x p → PrtsA c K H xs ps → PrtsA c K H (x :: xs) (p :: ps)
section
variable {c : PCs} {K : PySem.W.Frag} {H H' : Hp}
theorem stpV_mono (e : Same H H') {v : V} {st : Stp} (h : StpV K H v st) : StpV K H' v st := let ⟨t, a, b⟩ := h; ⟨t, a, st_mono e b⟩
theorem stpsV_mono (e : Same H H') : ∀ {vs : List V} {ss : List Stp}, StpsV K H vs ss → StpsV K H' vs ss
  | [], [], _ => .nil
  | _ :: _, _ :: _, .cons a r => .cons (stpV_mono e a) (stpsV_mono e r)
theorem prtA_mono (e : Same H H') {x : Addr} : ∀ {p : Prt}, PrtA c K H x p → PrtA c K H' x p
  | .var _ _ _, ⟨dx, pa, q, a, b, d⟩ => ⟨dx, pa, q, e _ _ a, e _ _ b, e _ _ d⟩
  | .sig _ _, ⟨dx, a⟩ => ⟨dx, e _ _ a⟩
  | .ag _ _ _, ⟨dx, pa, q, vs, a, b, d, f, g⟩ => ⟨dx, pa, q, vs, e _ _ a, e _ _ b, stpsV_mono e d, e _ _ f, g⟩
theorem prtsA_mono (e : Same H H') : ∀ {xs : List Addr} {ps : List Prt}, PrtsA c K H xs ps → PrtsA c K H' xs ps
  | [], [], _ => .nil
  | _ :: _, _ :: _, .cons a r => .cons (prtA_mono e a) (prtsA_mono e r)
theorem prtsA_len : ∀ {xs : List Addr} {ps : List Prt}, PrtsA c K H xs ps → xs.length = ps.length
  | [], [], _ => rfl
  | _ :: _, _ :: _, .cons _ r => congrArg Nat.succ (prtsA_len r)
theorem prtsA_get : ∀ {xs : List Addr} {ps : List Prt} {i : Nat} {x : Addr}, PrtsA c K H xs ps → xs[i]? = some x → ∃ p, ps[i]? = some p ∧ PrtA c K H x p
  | _ :: _, _ :: _, 0, _, .cons a _, e => ⟨_, rfl, by cases e; exact a⟩
  | _ :: _, _ :: _, i + 1, _, .cons _ r, e => prtsA_get (i := i) r e
theorem prtsA_get' : ∀ {xs : List Addr} {ps : List Prt} {i : Nat} {p : Prt}, PrtsA c K H xs ps → ps[i]? = some p → ∃ x, xs[i]? = some x ∧ PrtA c K H x p
  | [], [], _, _, _, e => by cases e
  | _ :: _, _ :: _, 0, _, .cons a _, e => ⟨_, rfl, by cases e; exact a⟩
  | _ :: _, _ :: _, i + 1, _, .cons _ r, e => prtsA_get' (i := i) r e
theorem prtsA_take : ∀ {xs : List Addr} {ps : List Prt} (n : Nat), PrtsA c K H xs ps → PrtsA c K H (xs.take n) (ps.take n)
  | _, _, 0, _ => .nil
  | [], [], _ + 1, _ => .nil
  | _ :: _, _ :: _, n + 1, .cons a r => .cons a (prtsA_take n r)
theorem prtsA_app : ∀ {xs ys : List Addr} {ps qs : List Prt}, PrtsA c K H xs ps → PrtsA c K H ys qs → PrtsA c K H (xs ++ ys) (ps ++ qs)
  | [], _, [], _, _, h => h
  | _ :: _, _, _ :: _, _, .cons a r, h => .cons a (prtsA_app r h)
theorem stpsV_len : ∀ {vs : List V} {ss : List Stp}, StpsV K H vs ss → vs.length = ss.length
  | [], [], _ => rfl
  | _ :: _, _ :: _, .cons _ r => congrArg Nat.succ (stpsV_len r)
theorem stpsV_get : ∀ {vs : List V} {ss : List Stp} {i : Nat} {v : V}, StpsV K H vs ss → vs[i]? = some v → ∃ s, ss[i]? = some s ∧ StpV K H v s
  | _ :: _, _ :: _, 0, _, .cons a _, e => ⟨_, rfl, by cases e; exact a⟩
  | _ :: _, _ :: _, i + 1, _, .cons _ r, e => stpsV_get (i := i) r e
theorem stpsV_get' : ∀ {vs : List V} {ss : List Stp} {i : Nat} {s : Stp}, StpsV K H vs ss → ss[i]? = some s → ∃ v, vs[i]? = some v ∧ StpV K H v s
  | [], [], _, _, _, e => by cases e
  | _ :: _, _ :: _, 0, _, .cons a _, e => ⟨_, rfl, by cases e; exact a⟩
  | _ :: _, _ :: _, i + 1, _, .cons _ r, e => stpsV_get' (i := i) r e
theorem stpsV_app : ∀ {xs ys : List V} {ps qs : List Stp}, StpsV K H xs ps → StpsV K H ys qs → StpsV K H (xs ++ ys) (ps ++ qs)
  | [], _, [], _, _, h => h
  | _ :: _, _, _ :: _, _, .cons a r, h => .cons a (stpsV_app r h)
theorem stpsV_take : ∀ {xs : List V} {ps : List Stp} (n : Nat), StpsV K H xs ps → StpsV K H (xs.take n) (ps.take n)
  | _, _, 0, _ => .nil
  | [], [], _ + 1, _ => .nil
  | _ :: _, _ :: _, n + 1, .cons a r => .cons a (stpsV_take n r)
theorem stpsV_drop : ∀ {xs : List V} {ps : List Stp} (n : Nat), StpsV K H xs ps → StpsV K H (xs.drop n) (ps.drop n)
  | _, _, 0, h => h
  | [], [], _ + 1, _ => .nil
  | _ :: _, _ :: _, n + 1, .cons _ r => stpsV_drop n r
theorem stp_dqAll (st : Stp) : DqAll K H st.vs st.ds := by
  cases st with
  | two w n => exact .cons (.str _) (.cons (.str _) .nil)
  | five w n s f l => exact .cons (.str _) (.cons (.str _) (.cons (.int _) (.cons (.int _) (.cons (.int _) .nil))))
theorem stpV_dq {v : V} {st : Stp} (h : StpV K H v st) : Dq K H v st.d := let ⟨t, e, s⟩ := h; e ▸ .tup s (stp_dqAll st)
theorem stpsV_dq : ∀ {vs : List V} {ss : List Stp}, StpsV K H vs ss → DqAll K H vs (ss.map Stp.d)
  | [], [], _ => .nil
  | _ :: _, _ :: _, .cons a r => .cons (stpV_dq a) (stpsV_dq r)
theorem stp_dpAll (st : Stp) : DpAll K H st.vs st.ds := by
  cases st with
  | two w n => exact .cons (.str _) (.cons (.str _) .nil)
  | five w n s f l => exact .cons (.str _) (.cons (.str _) (.cons (.int _) (.cons (.int _) (.cons (.int _) .nil))))
theorem stpV_dp {v : V} {st : Stp} (h : StpV K H v st) : Dp K H v st.d := let ⟨t, e, s⟩ := h; e ▸ .tup s (stp_dpAll st)
theorem stpsV_dp : ∀ {vs : List V} {ss : List Stp}, StpsV K H vs ss → DpAll K H vs (ss.map Stp.d)
  | [], [], _ => .nil
  | _ :: _, _ :: _, .cons a r => .cons (stpV_dp a) (stpsV_dp r)
end
/-- a step whose texts can be laid -/
def Stp.lay (st : Stp) : Bool := PyData.canLay0 st.d
theorem stp_depth (st : Stp) : st.d.depth = 1 := by cases st <;> simp [Stp.d, Stp.ds, PyData.depth, PyData.depthAll]
theorem stps_lay : ∀ ss : List Stp, (∀ s ∈ ss, s.lay = true) → PyData.canLayAll0 (ss.map Stp.d) = true
  | [], _ => by simp [PyData.canLayAll0]
  | s :: r, h => by
    rw [List.map_cons, PyData.canLayAll0, stps_lay r fun x hx => h x (List.mem_cons_of_mem _ hx), Bool.and_true]
    exact h s (List.mem_cons_self ..)
theorem stps_depth : ∀ ss : List Stp, PyData.depthAll (ss.map Stp.d) ≤ 1
  | [] => by simp [PyData.depthAll]
  | s :: r => by
    rw [List.map_cons, PyData.depthAll, stp_depth]
    exact Nat.max_le.mpr ⟨Nat.le_refl _, stps_depth r⟩
theorem stps_shaped (ss : List Stp) (h : ∀ s ∈ ss, s.lay = true) : SeqAt.shaped (.list (ss.map Stp.d)) = true := by
  have h1 : PyData.canLay0 (.list (ss.map Stp.d)) = true := by rw [PyData.canLay0]; exact stps_lay ss h
  have h2 : PyData.depth (.list (ss.map Stp.d)) ≤ 64 := by
    rw [PyData.depth]
    exact Nat.le_trans (Nat.succ_le_succ (stps_depth ss)) (by decide)
  unfold SeqAt.shaped
  rw [h1, decide_eq_true h2] <;> rfl
theorem stp_shaped (st : Stp) (h : st.lay = true) : SeqAt.shaped st.d = true := by
  unfold SeqAt.shaped
  rw [show PyData.canLay0 st.d = true from h, stp_depth] <;> rfl
theorem stp_eqv (a b : Stp) : PyData.eqv a.d b.d = decide (a = b) := by
  cases a <;> cases b <;> simp [Stp.d, Stp.ds, PyData.eqv, PyData.eqvAll, Bool.decide_and, Stp.two.injEq, Stp.five.injEq] <;> rfl
theorem stp_count (ss : List Stp) (t : Stp) : (ss.map Stp.d).countP (fun z => PyData.eqv z t.d) = ss.count t := by
  rw [List.countP_map]
  exact List.countP_congr fun s _ => by simp [stp_eqv]
end Uk

/-! UkNB: what the classes of parts refuse, in plain words -/
namespace Uk
open PySem PySem.Spec PyProof.Rows L2 StX

def badAt (b : Int) (ds : List PyData) (k : Nat) : Bool := !within (ds.getD k .none) 0 (1024 - b)
def near (b i j : Int) : Bool := decide (j - b < i) && decide (i < j + b)
theorem near_eq (b i j : Int) : decide ((if i - j < 0 then -(i - j) else i - j) < b) = near b i j := by
  unfold near
  by_cases h : i - j < 0
  · rw [if_pos h]
    by_cases h2 : -(i - j) < b
    · rw [decide_eq_true h2, decide_eq_true (by omega), decide_eq_true (by omega)] <;> rfl
    · rw [decide_eq_false h2]
      by_cases h3 : j - b < i
      · omega
      · rw [decide_eq_false h3] <;> rfl
  · rw [if_neg h]
    by_cases h2 : i - j < b
    · rw [decide_eq_true h2, decide_eq_true (by omega), decide_eq_true (by omega)] <;> rfl
    · rw [decide_eq_false h2, decide_eq_false (p := i < j + b) (by omega), Bool.and_false]
def nearAt (b : Int) (ds : List PyData) (k : Nat) : Bool := (ds.take k).any fun e => near b (intV (ds.getD k .none)) (intV e)
/-- why these slots are refused, if they are -/
def slotsW (b : Int) (ds : List PyData) : Option (Str × Option Nat) := match firstK (badAt b ds) 0 ds.length with
  | some k => some ("address", some k)
  | none => match firstK (nearAt b ds) 0 ds.length with
    | some k => some ("bytes", some k)
    | none => none
def plV : Option Nat → V
  | none => .non
  | some k => .int k
def refFs (r : Str × Option Nat) : List (Str × V) := [("place", plV r.2), ("reason", .str r.1)]
/-- a promise that ends well, or by the error NP -/
def okOr (NP : Addr) (r : Option (Str × Option Nat)) (H : Hp) (Q : Hp → Prop) (E : XK) : Prop := match r with
  | none => ∀ H', Same H H' → Q H'
  | some r => ∀ H' d, Same H H' → H' d = some (.xd (refFs r)) → E (.ref NP) (some d) H'
/-- why a variable of these is refused, if it is -/
def wantV (d1 d2 : PyData) (ds : List PyData) : Option (Str × Option Nat) :=
  if nameD d1 = false then some ("name", none) else if within d2 1 8 = false then some ("size", none) else if ¬ (1 ≤ ds.length ∧ ds.length ≤ 4) then some ("slots", none) else slotsW (intV d2) ds
abbrev wordsA : List Str := (["read", "write"] : List Str) ++ (["post", "wait"] : List Str)
abbrev wordsB : List Str := (["get", "put"] : List Str) ++ (["clean", "drop", "flush"] : List Str)
def mayK (k : Nat) : List Str := if k = 0 then wordsA else wordsA ++ wordsB
theorem wordD_app (a b : List Str) (d : PyData) : wordD (a ++ b) d = (wordD a d || wordD b d) := by
  cases d with
  | str x =>
    show decide (x ∈ a ++ b) = (decide (x ∈ a) || decide (x ∈ b))
    rw [← Bool.decide_or]
    exact decide_eq_decide.mpr List.mem_append
  | _ => rfl
def headD : PyData → PyData
  | .tuple (w :: _) => w
  | _ => .none
def goodK (k : Nat) (d : PyData) : Bool := stepD d && wordD (mayK k) (headD d)
/-- why an agent of these is refused, if it is -/
def wantK (k : Nat) (d1 : PyData) (ds : List PyData) : Option (Str × Option Nat) :=
  if nameD d1 = false then some ("name", none) else if ¬ (1 ≤ ds.length ∧ ds.length ≤ 24) then some ("steps", none) else match firstK (fun i => !goodK k (ds.getD i .none)) 0 ds.length with
    | some i => some ("step", some i)
    | none => none
theorem stepD_head {d : PyData} (h : stepD d = true) : ∃ w ds, d = .tuple (w :: ds) := by
  match d, h with
  | .tuple (w :: ds), _ => exact ⟨w, ds, rfl⟩
theorem all_cons {K : PySem.W.Frag} {H : Hp} {xs : List V} {d : PyData} {ds : List PyData} (h : DqAll K H xs (d :: ds)) : ∃ x ys, xs = x :: ys ∧ Dq K H x d := by
  cases h with
  | cons h1 h2 => exact ⟨_, _, rfl, h1⟩
/-! ### what is accepted -/
def Stp.ok : Stp → Bool
  | .two w n => nameOk n && decide (w ∈ (["post", "wait"] : List Str))
  | .five w n s f l => nameOk n && (decide (w ∈ wAcc ++ wUp) && ((decide (0 ≤ s) && decide (s ≤ 3)) && ((decide (0 ≤ f) && decide (f ≤ 7)) && (decide (f ≤ l) && decide (l ≤ 7)))))
theorem stp_step (st : Stp) : stepD st.d = st.ok := by cases st <;> rfl
theorem step_stp {d : PyData} (h : stepD d = true) : ∃ st : Stp, d = st.d ∧ st.ok = true := by
  match d, h with
  | .tuple [w, n], h =>
    have h1 : (nameD n && wordD ["post", "wait"] w) = true := h
    rw [Bool.and_eq_true] at h1
    cases n with
    | str y =>
      cases w with
      | str x => exact ⟨.two x y, rfl, h⟩
      | _ => exact absurd h1.2 (by simp [wordD])
    | _ => exact absurd h1.1 (by simp [nameD])
  | .tuple [w, n, s, f, l], h =>
    have h1 : (nameD n && (wordD (wAcc ++ wUp) w && (within s 0 3 && (within f 0 7 && within l (intV f) 7)))) = true := h
    rw [Bool.and_eq_true, Bool.and_eq_true, Bool.and_eq_true, Bool.and_eq_true] at h1
    obtain ⟨a, b, c, d, e⟩ := h1
    cases n with
    | str y =>
      cases w with
      | str x =>
        cases s with
        | int i =>
          cases f with
          | int j =>
            cases l with
            | int m => exact ⟨.five x y i j m, rfl, h⟩
            | _ => exact absurd e (by simp [within])
          | _ => exact absurd d (by simp [within])
        | _ => exact absurd c (by simp [within])
      | _ => exact absurd b (by simp [wordD])
    | _ => exact absurd a (by simp [nameD])
theorem nameD_str {d : PyData} (h : nameD d = true) : ∃ n, d = .str n ∧ nameOk n = true := by
  cases d with
  | str x => exact ⟨x, rfl, h⟩
  | _ => exact absurd h (by simp [nameD])
theorem name_lay {n : Str} (h : nameOk n = true) : PyData.strOk n = true := by
  unfold nameOk lettersOk at h
  rw [Bool.and_eq_true, List.all_eq_true] at h
  unfold PyData.strOk
  rw [← Array.all_toList, List.all_eq_true]
  intro c hc
  have := of_decide_eq_true (h.2 c hc)
  exact decide_eq_true (by omega)
theorem words_lay {w : Str} {ws : List Str} (h : w ∈ ws) (e : (ws.all fun x => PyData.strOk x) = true) : PyData.strOk w = true := List.all_eq_true.mp e w h
theorem ok_lay {st : Stp} (h : st.ok = true) : st.lay = true := by
  cases st with
  | two w n =>
    have h : (nameOk n && decide (w ∈ (["post", "wait"] : List Str))) = true := h
    rw [Bool.and_eq_true, decide_eq_true_eq] at h
    show PyData.canLay0 (.tuple [.str w, .str n]) = true
    simp [PyData.canLay0, PyData.canLayAll0, name_lay h.1, words_lay h.2 (by decide +kernel)]
  | five w n s f l =>
    have h : (nameOk n && (decide (w ∈ wAcc ++ wUp) && _)) = true := h
    rw [Bool.and_eq_true, Bool.and_eq_true, decide_eq_true_eq] at h
    show PyData.canLay0 (.tuple [.str w, .str n, .int s, .int f, .int l]) = true
    simp [PyData.canLay0, PyData.canLayAll0, name_lay h.1, words_lay h.2.1 (by decide +kernel)]
section
variable {K : PySem.W.Frag} {H : Hp}
theorem dqAll_strs2 {xs : List V} {a b : Str} (h : DqAll K H xs [.str a, .str b]) : xs = [.str a, .str b] := by
  obtain ⟨x, y, rfl, h1, h2⟩ := all2 h
  cases h1
  cases h2
  rfl
theorem dq_stpV {v : V} {st : Stp} (h : Dq K H v st.d) : StpV K H v st := by
  cases st with
  | two w n =>
    obtain ⟨a, xs, ds, rfl, e, hs, hd⟩ := dq_tup h rfl
    cases e
    rw [dqAll_strs2 hd] at hs
    exact ⟨a, rfl, hs⟩
  | five w n s f l =>
    obtain ⟨a, xs, ds, rfl, e, hs, hd⟩ := dq_tup h rfl
    cases e
    obtain ⟨x, y, z, u, v, rfl, h1, h2, h3, h4, h5⟩ := all5 hd
    cases h1
    cases h2
    cases h3
    cases h4
    cases h5
    exact ⟨a, rfl, hs⟩
theorem dqAll_stpsV : ∀ {ss : List Stp} {vs : List V}, DqAll K H vs (ss.map Stp.d) → StpsV K H vs ss
  | [], _, h => by cases h; exact .nil
  | s :: r, _, h => by
    cases h with
    | cons a b => exact .cons (dq_stpV a) (dqAll_stpsV b)
end
theorem steps_stps : ∀ {ds : List PyData}, (∀ d ∈ ds, stepD d = true) → ∃ ss : List Stp, ds = ss.map Stp.d ∧ ∀ s ∈ ss, s.ok = true
  | [], _ => ⟨[], rfl, fun _ h => nomatch h⟩
  | d :: ds, h => by
    obtain ⟨s, e, o⟩ := step_stp (h d (List.mem_cons_self ..))
    obtain ⟨ss, e2, o2⟩ := steps_stps fun x hx => h x (List.mem_cons_of_mem _ hx)
    refine ⟨s :: ss, by rw [e, e2] <;> rfl, fun x hx => ?_⟩
    rcases List.mem_cons.mp hx with rfl | hx
    · exact o
    · exact o2 x hx
theorem wantK_ok {k : Nat} {d1 : PyData} {ds : List PyData} (h : wantK k d1 ds = none) : ∃ (n : Str) (ss : List Stp), d1 = .str n ∧ nameOk n = true ∧ ds = ss.map Stp.d ∧ 1 ≤ ss.length ∧ ss.length ≤ 24 ∧ ∀ s ∈ ss, s.ok = true ∧ s.w ∈ mayK k := by
  unfold wantK at h
  by_cases h1 : nameD d1 = false
  · rw [if_pos h1] at h; cases h
  rw [if_neg h1] at h
  by_cases h2 : ¬ (1 ≤ ds.length ∧ ds.length ≤ 24)
  · rw [if_pos h2] at h; cases h
  rw [if_neg h2] at h
  obtain ⟨n, rfl, hn⟩ := nameD_str (by rwa [Bool.not_eq_false] at h1)
  cases h3 : firstK (fun i => !goodK k (ds.getD i .none)) 0 ds.length with
  | some i => rw [h3] at h; cases h
  | none =>
    have h4 := firstK_none' h3
    have good : ∀ d ∈ ds, goodK k d = true := fun d hd => by
      obtain ⟨i, hi⟩ := List.getElem?_of_mem hd
      have hl := (List.getElem?_eq_some_iff.mp hi).1
      have := h4 i hl
      rw [Nat.zero_add, List.getD_eq_getElem?_getD, hi] at this
      simpa using this
    obtain ⟨ss, rfl, ho⟩ := steps_stps fun d hd => (Bool.and_eq_true_iff.mp (good d hd)).1
    rw [List.length_map] at h2
    refine ⟨n, ss, rfl, hn, rfl, by omega, by omega, fun s hs => ⟨ho s hs, ?_⟩⟩
    have := (Bool.and_eq_true_iff.mp (good s.d (List.mem_map_of_mem hs))).2
    cases s with
    | two w n => exact of_decide_eq_true (p := w ∈ mayK k) this
    | five w n s f l => exact of_decide_eq_true (p := w ∈ mayK k) this
theorem ok_wantK {k : Nat} {n : Str} {ss : List Stp} (hn : nameOk n = true) (h1 : 1 ≤ ss.length) (h2 : ss.length ≤ 24) (h : ∀ s ∈ ss, s.ok = true ∧ s.w ∈ mayK k) : wantK k (.str n) (ss.map Stp.d) = none := by
  unfold wantK
  rw [if_neg (by show ¬ nameOk n = false; rw [hn]; exact Bool.noConfusion), if_neg (by rw [List.length_map]; omega), firstK_none fun i hi => ?_]
  rw [Nat.zero_add]
  rw [List.length_map] at hi
  rw [List.getD_eq_getElem?_getD, List.getElem?_map, List.getElem?_eq_getElem hi]
  have := h _ (List.getElem_mem hi)
  have e : goodK k (ss[i]).d = true := by
    unfold goodK
    rw [stp_step, this.1, Bool.true_and]
    have y := this.2
    revert y
    cases ss[i] with
    | two w n => exact fun y => decide_eq_true y
    | five w n s f l => exact fun y => decide_eq_true y
  show (!goodK k (ss[i]).d) = false
  rw [e] <;> rfl
/-- why a signal of these is refused, if it is -/
def wantS (d1 d2 : PyData) : Option (Str × Option Nat) := if nameD d1 = false then some ("name", none) else if within d2 0 3 = false then some ("tokens", none) else none
theorem within_int {d : PyData} {lo hi : Int} (h : within d lo hi = true) : ∃ i, d = .int i ∧ lo ≤ i ∧ i ≤ hi := by
  cases d with
  | int i =>
    have h : (decide (lo ≤ i) && decide (i ≤ hi)) = true := h
    rw [Bool.and_eq_true, decide_eq_true_eq, decide_eq_true_eq] at h
    exact ⟨i, rfl, h.1, h.2⟩
  | _ => exact absurd h (by simp [within])
theorem wantS_ok {d1 d2 : PyData} (h : wantS d1 d2 = none) : ∃ n t, d1 = .str n ∧ nameOk n = true ∧ d2 = .int t ∧ 0 ≤ t ∧ t ≤ 3 := by
  unfold wantS at h
  by_cases h1 : nameD d1 = false
  · rw [if_pos h1] at h; cases h
  rw [if_neg h1] at h
  by_cases h2 : within d2 0 3 = false
  · rw [if_pos h2] at h; cases h
  obtain ⟨n, rfl, hn⟩ := nameD_str (by rwa [Bool.not_eq_false] at h1)
  obtain ⟨t, rfl, a, b⟩ := within_int (by rwa [Bool.not_eq_false] at h2)
  exact ⟨n, t, rfl, hn, rfl, a, b⟩
theorem ok_wantS {n : Str} {t : Int} (hn : nameOk n = true) (h0 : 0 ≤ t) (h3 : t ≤ 3) : wantS (.str n) (.int t) = none := by
  unfold wantS
  rw [if_neg (by show ¬ nameOk n = false; rw [hn]; exact Bool.noConfusion), if_neg (by show ¬ (decide (0 ≤ t) && decide (t ≤ 3)) = false; rw [decide_eq_true h0, decide_eq_true h3]; exact Bool.noConfusion)]
theorem slotsW_ok {b : Int} {ds : List PyData} (h : slotsW b ds = none) : ∃ ps : List Int, ds = ps.map PyData.int ∧ (∀ a ∈ ps, 0 ≤ a ∧ a + b ≤ 1024) ∧ ∀ (i j : Nat) (x y : Int), i < j → ps[i]? = some x → ps[j]? = some y → near b y x = false := by
  unfold slotsW at h
  cases h1 : firstK (badAt b ds) 0 ds.length with
  | some k => rw [h1] at h; cases h
  | none =>
    rw [h1] at h
    cases h2 : firstK (nearAt b ds) 0 ds.length with
    | some k => rw [h2] at h; cases h
    | none =>
      have g1 := firstK_none' h1
      have g2 := firstK_none' h2
      have ok : ∀ (j : Nat) (d : PyData), ds[j]? = some d → ∃ a : Int, d = PyData.int a ∧ 0 ≤ a ∧ a + b ≤ 1024 := fun j d e => by
        have z := g1 j (List.getElem?_eq_some_iff.mp e).1
        unfold badAt at z
        rw [Nat.zero_add, List.getD_eq_getElem?_getD, e] at z
        obtain ⟨i, hi, a1, a2⟩ := within_int (d := d) (lo := 0) (hi := 1024 - b) (by simpa using z)
        exact ⟨i, hi, a1, by omega⟩
      obtain ⟨ps, rfl⟩ := all_ints fun j d e => let ⟨a, h, _⟩ := ok j d e; ⟨a, h⟩
      refine ⟨ps, rfl, fun a ha => ?_, fun i j x y hij hx hy => ?_⟩
      · obtain ⟨j, hj⟩ := List.getElem?_of_mem ha
        obtain ⟨a', e, r⟩ := ok j (.int a) (by rw [List.getElem?_map, hj] <;> rfl)
        cases e
        exact r
      · have z := g2 j (by rw [List.length_map]; exact (List.getElem?_eq_some_iff.mp hy).1)
        unfold nearAt at z
        rw [Nat.zero_add, List.getD_eq_getElem?_getD, List.getElem?_map, hy, List.any_eq_false] at z
        have m : PyData.int x ∈ (ps.map PyData.int).take j := List.mem_of_getElem? (i := i) (by rw [List.getElem?_take_of_lt hij, List.getElem?_map, hx] <;> rfl)
        simpa [intV] using z _ m
theorem ok_slotsW {b : Int} {ps : List Int} (h1 : ∀ a ∈ ps, 0 ≤ a ∧ a + b ≤ 1024) (h2 : ∀ (i j : Nat) (x y : Int), i < j → ps[i]? = some x → ps[j]? = some y → near b y x = false) : slotsW b (ps.map PyData.int) = none := by
  unfold slotsW
  rw [firstK_none fun j hj => ?_, firstK_none fun j hj => ?_]
  · rw [List.length_map] at hj
    unfold nearAt
    rw [Nat.zero_add, List.getD_eq_getElem?_getD, List.getElem?_map, List.getElem?_eq_getElem hj, List.any_eq_false]
    intro d hd
    obtain ⟨i, hi⟩ := List.getElem?_of_mem hd
    have hij : i < j := by
      have := (List.getElem?_eq_some_iff.mp hi).1
      rw [List.length_take] at this
      omega
    rw [List.getElem?_take_of_lt hij, List.getElem?_map] at hi
    cases e : ps[i]? with
    | none => rw [e] at hi; cases hi
    | some x =>
      rw [e] at hi
      cases hi
      have := h2 i j x _ hij e (List.getElem?_eq_getElem hj)
      simpa [intV] using this
  · rw [List.length_map] at hj
    unfold badAt
    rw [Nat.zero_add, List.getD_eq_getElem?_getD, List.getElem?_map, List.getElem?_eq_getElem hj]
    have := h1 _ (List.getElem_mem hj)
    show (!(decide (0 ≤ ps[j]) && decide (ps[j] ≤ 1024 - b))) = false
    rw [decide_eq_true this.1, decide_eq_true (by omega)] <;> rfl
theorem wantV_ok {d1 d2 : PyData} {ds : List PyData} (h : wantV d1 d2 ds = none) : ∃ (n : Str) (b : Int) (ps : List Int), d1 = .str n ∧ nameOk n = true ∧ d2 = .int b ∧ ds = ps.map PyData.int ∧ 1 ≤ b ∧ b ≤ 8 ∧ 1 ≤ ps.length ∧ ps.length ≤ 4 ∧ (∀ a ∈ ps, 0 ≤ a ∧ a + b ≤ 1024) ∧ ∀ (i j : Nat) (x y : Int), i < j → ps[i]? = some x → ps[j]? = some y → near b y x = false := by
  unfold wantV at h
  by_cases h1 : nameD d1 = false
  · rw [if_pos h1] at h; cases h
  rw [if_neg h1] at h
  by_cases h2 : within d2 1 8 = false
  · rw [if_pos h2] at h; cases h
  rw [if_neg h2] at h
  by_cases h3 : ¬ (1 ≤ ds.length ∧ ds.length ≤ 4)
  · rw [if_pos h3] at h; cases h
  rw [if_neg h3] at h
  obtain ⟨n, rfl, hn⟩ := nameD_str (by rwa [Bool.not_eq_false] at h1)
  obtain ⟨b, rfl, a1, a2⟩ := within_int (by rwa [Bool.not_eq_false] at h2)
  obtain ⟨ps, rfl, p1, p2⟩ := slotsW_ok h
  rw [List.length_map] at h3
  exact ⟨n, b, ps, rfl, hn, rfl, rfl, a1, a2, by omega, by omega, p1, p2⟩
theorem ok_wantV {n : Str} {b : Int} {ps : List Int} (hn : nameOk n = true) (b1 : 1 ≤ b) (b8 : b ≤ 8) (l1 : 1 ≤ ps.length) (l4 : ps.length ≤ 4) (h1 : ∀ a ∈ ps, 0 ≤ a ∧ a + b ≤ 1024) (h2 : ∀ (i j : Nat) (x y : Int), i < j → ps[i]? = some x → ps[j]? = some y → near b y x = false) :
    wantV (.str n) (.int b) (ps.map PyData.int) = none := by
  unfold wantV
  rw [if_neg (by show ¬ nameOk n = false; rw [hn]; exact Bool.noConfusion), if_neg (by show ¬ (decide (1 ≤ b) && decide (b ≤ 8)) = false; rw [decide_eq_true b1, decide_eq_true b8]; exact Bool.noConfusion), if_neg (by rw [List.length_map]; omega)]
  exact ok_slotsW h1 h2
end Uk

/-! UkNC: what a net refuses, in plain words -/
namespace Uk
open PySem PySem.Spec PyProof.Rows L2 StX

/-- the inner walk of a comprehension of two clauses -/
theorem in_it {J : It} {n : Nat} {G : Hp → Prop} {Y : Nat → Hp → V → Hp → Prop} (wk : Walk J n G Y) {g : TG} {tt : TT} {te : TE} {vs : List Nat} {σ : L2.St} {Ha : Hp} {D : Addr} {Nx : Hp → Prop} (Pv : Nat → Hp → Prop) (h0 : Pv 0 Ha) (hl : ∀ i H, i ≤ n → Pv i H → G H)
    (hs : ∀ i x H H', i < n → Pv i H → Y i H x H' → g x (wipe σ vs) H' fun τ Hd => wipe τ vs = wipe σ vs ∧ tt τ Hd fun b He => if b = true then te τ He fun y Hy => ∃ acc, Hy D = some (.lst acc) ∧ acc.length < sizeLine ∧ Pv (i + 1) (upd Hy D (.lst (acc ++ [y]))) else Pv (i + 1) He) (hd : ∀ H, Pv n H → Nx H) :
    ∃ W : Nat → Nat → Hp → Prop, (∃ m, W 0 m Ha) ∧ ∀ j k H, W j k H → (J.stop j H ∧ Nx H) ∨ (J.go j H ∧ ∃ Nx1 : Hp → Prop, (∀ H', Nx1 H' → ∃ k', k' < k ∧ W (j + 1) k' H') ∧ ∀ x H', J.yld j H x H' → g x (wipe σ vs) H' fun τ Hd => wipe τ vs = wipe σ vs ∧ tt τ Hd fun b He =>
      if b = true then te τ He fun y Hy => ∃ acc, Hy D = some (.lst acc) ∧ acc.length < sizeLine ∧ Nx1 (upd Hy D (.lst (acc ++ [y]))) else Nx1 He) := by
  refine ⟨fun i m H => m = n - i ∧ i ≤ n ∧ Pv i H, ⟨n, by simp, Nat.zero_le _, h0⟩, ?_⟩
  rintro i m H ⟨rfl, hi, p⟩
  have q := hl i H hi p
  rcases Nat.lt_or_eq_of_le hi with lt | rfl
  · exact .inr ⟨wk.goes i H lt q, Pv (i + 1), fun Hz pz => ⟨n - (i + 1), by omega, rfl, lt, pz⟩, fun x Hc y => hs i x H Hc lt p (wk.yields i H x Hc lt q y)⟩
  · exact .inl ⟨wk.stops H q, hd H p⟩

/-! ### parts by class -/
def Prt.cl : Prt → Nat
  | .var _ _ _ => 2
  | .sig _ _ => 1
  | .ag _ _ _ => 0
def ofC (k : Nat) (ps : List Prt) : List Prt := ps.filter fun p => p.cl == k
def ofA (k : Nat) (xs : List Addr) (ps : List Prt) : List Addr := ((xs.zip ps).filter fun q => q.2.cl == k).map (·.1)
section
variable {c : PCs} {K : PySem.W.Frag} {H : Hp}
theorem ofA_parts (k : Nat) : ∀ {xs : List Addr} {ps : List Prt}, PrtsA c K H xs ps → PrtsA c K H (ofA k xs ps) (ofC k ps)
  | [], [], _ => .nil
  | x :: xs, p :: ps, .cons a r => by
    unfold ofA ofC
    rw [List.zip_cons_cons, List.filter_cons, List.filter_cons]
    dsimp only
    by_cases e : (p.cl == k) = true
    · rw [if_pos e, if_pos e]
      exact .cons a (ofA_parts k r)
    · rw [if_neg e, if_neg e]
      exact ofA_parts k r
end
theorem zip_take {α β : Type} : ∀ (n : Nat) (xs : List α) (ys : List β), (xs.take n).zip (ys.take n) = (xs.zip ys).take n
  | 0, _, _ => rfl
  | _ + 1, [], _ => by simp
  | _ + 1, _ :: _, [] => by simp
  | n + 1, x :: xs, y :: ys => by simp [zip_take n xs ys]
theorem ofA_succ {k i : Nat} {xs : List Addr} {ps : List Prt} {x : Addr} {p : Prt} (hx : xs[i]? = some x) (hp : ps[i]? = some p) : ofA k (xs.take (i + 1)) (ps.take (i + 1)) = ofA k (xs.take i) (ps.take i) ++ (if (p.cl == k) = true then [x] else []) := by
  unfold ofA
  have hz : (xs.zip ps)[i]? = some (x, p) := by
    rw [List.getElem?_zip_eq_some]
    exact ⟨hx, hp⟩
  rw [zip_take, zip_take, List.take_add_one, hz, List.filter_append, List.map_append]
  congr 1
  by_cases e : (p.cl == k) = true
  · rw [if_pos e, show (some (x, p)).toList = [(x, p)] from rfl, List.filter_cons, if_pos e] <;> rfl
  · rw [if_neg e, show (some (x, p)).toList = [(x, p)] from rfl, List.filter_cons, if_neg e] <;> rfl
theorem ofA_len {k : Nat} {xs : List Addr} {ps : List Prt} (h : xs.length = ps.length) : (ofA k xs ps).length = (ofC k ps).length := by
  induction xs generalizing ps with
  | nil => cases ps <;> first | rfl | cases h
  | cons x xs ih =>
    cases ps with
    | nil => cases h
    | cons p ps =>
      have := ih (Nat.succ.inj h)
      unfold ofA ofC at *
      rw [List.zip_cons_cons, List.filter_cons, List.filter_cons]
      dsimp only
      by_cases e : (p.cl == k) = true
      · rw [if_pos e, if_pos e, List.map_cons, List.length_cons, List.length_cons, this]
      · rw [if_neg e, if_neg e, this]
theorem ofC_le (k : Nat) (ps : List Prt) : (ofC k ps).length ≤ ps.length := List.length_filter_le ..

/-! ### places in refusals -/
inductive Pl where
  | non | at_ (k : Nat) | two (a s : Nat)
def PlV (H : Hp) (v : V) : Pl → Prop
  | .non => v = .non
  | .at_ k => v = .int k
  | .two a s => ∃ t, v = .ref t ∧ H t = some (.tup [.int a, .int s])
abbrev Rf := Option (Str × Pl)
/-- a promise that ends well, or by the error NN -/
def okOrN (NN : Addr) (r : Rf) (H : Hp) (Q : Hp → Prop) (E : XK) : Prop := match r with
  | none => ∀ H', Same H H' → Q H'
  | some r => ∀ H' d v, Same H H' → PlV H' v r.2 → H' d = some (.xd [("place", v), ("reason", .str r.1)]) → E (.ref NN) (some d) H'
theorem okOrN.same {NN : Addr} {r : Rf} {H H1 : Hp} {Q : Hp → Prop} {E : XK} (h : okOrN NN r H Q E) (s : Same H H1) : okOrN NN r H1 Q E := by
  unfold okOrN at *
  cases r with
  | none => exact fun H' s' => h H' (same_trans s s')
  | some r => exact fun H' d v s' => h H' d v (same_trans s s')

/-! ### the checks -/
def tooMany (ps : List Prt) : Bool := decide (4 < (ofC 0 ps).length) || (decide (6 < (ofC 1 ps).length) || decide (6 < (ofC 2 ps).length))
def firstR (p : Nat → Bool) (n : Nat) (w : Str) : Rf := (firstK p 0 n).map fun k => (w, .at_ k)
theorem firstR_some {p : Nat → Bool} {n i : Nat} {w : Str} (h0 : ∀ j, j < i → p j = false) (h : p i = true) (hi : i < n) : firstR p n w = some (w, .at_ i) := by
  unfold firstR
  rw [firstK_some (k := 0) (i := i) (fun j hj => by rw [Nat.zero_add]; exact h0 j hj) (by rw [Nat.zero_add]; exact h) hi, Nat.zero_add] <;> rfl
theorem firstR_none {p : Nat → Bool} {n : Nat} {w : Str} (h : ∀ j, j < n → p j = false) : firstR p n w = none := by
  unfold firstR
  rw [firstK_none fun j hj => by rw [Nat.zero_add]; exact h j hj] <;> rfl
theorem firstR_none' {p : Nat → Bool} {n : Nat} {w : Str} (h : firstR p n w = none) : ∀ j, j < n → p j = false := by
  unfold firstR at h
  cases e : firstK p 0 n with
  | some k => rw [e] at h; cases h
  | none => exact fun j hj => by have := firstK_none' e j hj; rwa [Nat.zero_add] at this
/-- the first refusal of two -/
def orR (a b : Rf) : Rf := match a with
  | some r => some r
  | none => b
theorem orR_some {a b : Rf} {r : Str × Pl} (h : a = some r) : orR a b = some r := by rw [h] <;> rfl
theorem orR_none {a b : Rf} (h : a = none) : orR a b = b := by rw [h] <;> rfl
theorem orR_none' {a b : Rf} (h : orR a b = none) : a = none ∧ b = none := by
  cases a with
  | some r => cases h
  | none => exact ⟨rfl, h⟩
def prtAt (ps : List Prt) (k : Nat) : Prt := ps.getD k (.sig ⟨#[]⟩ 0)
theorem prtAt_of {ps : List Prt} {k : Nat} {p : Prt} (h : ps[k]? = some p) : prtAt ps k = p := by
  unfold prtAt
  rw [List.getD_eq_getElem?_getD, h] <;> rfl
def manyAt (ps : List Prt) (k : Nat) : Bool := tooMany (ps.take (k + 1))
def dupAt (ps : List Prt) (k : Nat) : Bool := decide ((prtAt ps k).n ∈ (ps.take k).map Prt.n)
def ckP (ps : List Prt) : Rf := orR (firstR (manyAt ps) ps.length "many") (firstR (dupAt ps) ps.length "name")
/-- an argument: a part, or something else -/
inductive NArg where
  | part (p : Prt) | data (d : PyData)
def NArg.isData : NArg → Bool
  | .data _ => true
  | _ => false
def argP : NArg → Prt
  | .part p => p
  | .data _ => .sig ⟨#[]⟩ 0
def argAt (as : List NArg) (k : Nat) : Bool := (as.getD k (.data .none)).isData
def ckA (as : List NArg) : Rf := orR (firstR (argAt as) as.length "part") (ckP (as.map argP))
def slotsAt (ring : Int) (ps : List Prt) (k : Nat) : Bool := match prtAt ps k with
  | .var _ _ as => !(decide ((as.length : Int) = 1) || decide ((as.length : Int) = ring))
  | _ => false
def allBy (b : Int) (as : List Int) : List Int := as.flatMap fun a => (List.range b.toNat).map fun (k : Nat) => a + (k : Int)
def Prt.bytes : Prt → List Int
  | .var _ b as => allBy b as
  | _ => []
def bytesAt (ps : List Prt) (k : Nat) : Bool := (prtAt ps k).bytes.any fun a => decide (a ∈ (ps.take k).flatMap Prt.bytes)
def ckV (ring : Int) (ps : List Prt) : Rf := orR (firstR (slotsAt ring ps) ps.length "slots") (firstR (bytesAt ps) ps.length "bytes")
def Prt.sz : Prt → Int
  | .var _ b _ => b
  | _ => 0
def sizeOf? (ps : List Prt) (n : Str) : Option Int := ((ofC 2 ps).find? fun p => p.n == n).map Prt.sz
def fitsB (ps : List Prt) : Stp → Bool
  | .two _ n => decide (n ∈ (ofC 1 ps).map Prt.n)
  | .five _ n _ _ l => match sizeOf? ps n with
    | some b => decide (l < b)
    | none => false
def Prt.ss : Prt → List Stp
  | .ag _ _ ss => ss
  | _ => []
def misAt (ps : List Prt) (ss : List Stp) (s : Nat) : Bool := !fitsB ps (ss.getD s (.two ⟨#[]⟩ ⟨#[]⟩))
def stepAt (ps : List Prt) (a : Nat) : Option Nat := firstK (misAt ps (prtAt (ofC 0 ps) a).ss) 0 (prtAt (ofC 0 ps) a).ss.length
def ckS (ps : List Prt) : Rf := (firstK (fun a => (stepAt ps a).isSome) 0 (ofC 0 ps).length).map fun a => ("step", .two a ((stepAt ps a).getD 0))
def allSs (ps : List Prt) : List Stp := (ofC 0 ps).flatMap Prt.ss
def sigAt (ps : List Prt) (k : Nat) : Bool := match prtAt ps k with
  | .sig n _ => !(decide ((allSs ps).count (.two "post" n) = 1) && decide ((allSs ps).count (.two "wait" n) = 1))
  | _ => false
def ckG (ps : List Prt) : Rf := firstR (sigAt ps) ps.length "signal"
def lineOk (i : Int) : Bool := decide (i = 1) || (decide (i = 2) || (decide (i = 4) || (decide (i = 8) || decide (i = 16))))
/-- why a net of these is refused, if it is -/
def ckRest (ring : Int) (ps : List Prt) : Rf := orR (ckV ring ps) (orR (ckS ps) (ckG ps))
def wantN (dl dr : PyData) (as : List NArg) : Rf :=
  if (isIntD dl && lineOk (intV dl)) = false then some ("line", .non) else if within dr 1 4 = false then some ("ring", .non) else orR (ckA as) (ckRest (intV dr) (as.map argP))
def Prt.ok : Prt → Prop
  | .var n b as => nameOk n = true ∧ 1 ≤ b ∧ b ≤ 8 ∧ 1 ≤ as.length ∧ as.length ≤ 4 ∧ ∀ a ∈ as, 0 ≤ a ∧ a + b ≤ 1024
  | .sig n t => nameOk n = true ∧ 0 ≤ t ∧ t ≤ 3
  | .ag k n ss => nameOk n = true ∧ k < 3 ∧ 1 ≤ ss.length ∧ ss.length ≤ 24 ∧ ∀ s ∈ ss, s.ok = true ∧ s.w ∈ mayK k
section
variable {c : PCs} {K : PySem.W.Frag} {H H' : Hp}
def ArgV (c : PCs) (K : PySem.W.Frag) (H : Hp) (v : V) : NArg → Prop
  | .part p => ∃ x, v = .ref x ∧ PrtA c K H x p ∧ p.ok
  | .data d => Dq K H v d
inductive ArgsV (c : PCs) (K : PySem.W.Frag) (H : Hp) : List V → List NArg → Prop
  | nil : ArgsV c K H [] []
  | cons {v : V} {vs : List V} {a : NArg} {as : List NArg} : ArgV c K H v a → ArgsV c K H vs as → ArgsV c K H (v :: vs) (a :: as)
theorem argV_mono (e : Same H H') {v : V} : ∀ {a : NArg}, ArgV c K H v a → ArgV c K H' v a
  | .part _, ⟨x, a, b, o⟩ => ⟨x, a, prtA_mono e b, o⟩
  | .data _, h => dq_mono e h
theorem argsV_mono (e : Same H H') : ∀ {vs : List V} {as : List NArg}, ArgsV c K H vs as → ArgsV c K H' vs as
  | [], [], _ => .nil
  | _ :: _, _ :: _, .cons a r => .cons (argV_mono e a) (argsV_mono e r)
theorem argsV_len : ∀ {vs : List V} {as : List NArg}, ArgsV c K H vs as → vs.length = as.length
  | [], [], _ => rfl
  | _ :: _, _ :: _, .cons _ r => congrArg Nat.succ (argsV_len r)
theorem argsV_get : ∀ {vs : List V} {as : List NArg} {i : Nat} {v : V}, ArgsV c K H vs as → vs[i]? = some v → ∃ a, as[i]? = some a ∧ ArgV c K H v a
  | _ :: _, _ :: _, 0, _, .cons a _, e => ⟨_, rfl, by cases e; exact a⟩
  | _ :: _, _ :: _, i + 1, _, .cons _ r, e => argsV_get (i := i) r e
/-- all are parts -/
theorem args_parts : ∀ {vs : List V} {as : List NArg}, ArgsV c K H vs as → (∀ j, j < as.length → argAt as j = false) → ∃ xs, vs = xs.map V.ref ∧ PrtsA c K H xs (as.map argP) ∧ ∀ p ∈ as.map argP, p.ok
  | [], [], _, _ => ⟨[], rfl, .nil, fun _ h => nomatch h⟩
  | v :: vs, a :: as, .cons ha hr, h => by
    obtain ⟨xs, rfl, hp, ho⟩ := args_parts hr fun j hj => h (j + 1) (Nat.succ_lt_succ hj)
    cases a with
    | data d => exact absurd (h 0 (Nat.succ_pos _)) (by simp [argAt, NArg.isData])
    | part p =>
      obtain ⟨x, rfl, hx, hok⟩ := ha
      refine ⟨x :: xs, rfl, .cons hx hp, fun q hq => ?_⟩
      rcases List.mem_cons.mp hq with rfl | hq
      · exact hok
      · exact ho q hq
theorem parts_args : ∀ {xs : List Addr} {ps : List Prt}, PrtsA c K H xs ps → (∀ p ∈ ps, p.ok) → ArgsV c K H (xs.map V.ref) (ps.map NArg.part)
  | [], [], _, _ => .nil
  | _ :: _, _ :: _, .cons a r, h => .cons ⟨_, rfl, a, h _ (List.mem_cons_self ..)⟩ (parts_args r fun p hp => h p (List.mem_cons_of_mem _ hp))
end
theorem map_argP (ps : List Prt) : (ps.map NArg.part).map argP = ps := by
  rw [List.map_map]
  exact List.map_id _
end Uk

/-! UkND: small words for the walks over parts -/
namespace Uk
open PySem PySem.Spec PyProof.Rows L2 StX

theorem same_upd {H H' : Hp} {D : Addr} {o : HO} (s : Same H H') (h : H D = none) : Same H (upd H' D o) := fun b u e => by rw [upd_ne (ne_of_none e h)]; exact s _ _ e
theorem ofA_le {k : Nat} {xs : List Addr} {ps : List Prt} : (ofA k xs ps).length ≤ xs.length := by
  unfold ofA
  rw [List.length_map]
  refine Nat.le_trans (List.length_filter_le ..) ?_
  rw [List.length_zip]
  exact Nat.min_le_left ..
theorem map_ref_get {xs : List Addr} {i : Nat} {v : V} (h : (xs.map V.ref)[i]? = some v) : ∃ x, xs[i]? = some x ∧ v = .ref x := by
  rw [List.getElem?_map] at h
  cases e : xs[i]? with
  | none => rw [e] at h; cases h
  | some x => rw [e] at h; cases h; exact ⟨x, rfl, rfl⟩
theorem take_all {α : Type} {xs : List α} {n : Nat} (h : xs.length ≤ n) : xs.take n = xs := List.take_of_length_le h
theorem small {n : Nat} (h : n ≤ 100000) : n < sizeLine := Nat.lt_of_le_of_lt h (by decide)
theorem smallE {n : Nat} (h : n ≤ 100000) : n ≤ sizeLine := Nat.le_of_lt (small h)
/-- a slice from the front -/
theorem cut_front {xs : List V} {i : Nat} (h : i ≤ xs.length) : cutV xs none (some (i : Int)) = xs.take i := by
  unfold cutV
  rw [HT.sIx_none, HT.sIx_nat, List.drop_zero, Nat.sub_zero, Nat.min_eq_left h]
theorem sixFront {n i : Nat} (h : i ≤ n) : HT.sIx n n (some (i : Int)) = i := by rw [HT.sIx_nat, Nat.min_eq_left h]
theorem not_b {b : Bool} (h : (!b) = true) : b = false := by cases b <;> first | rfl | cases h
theorem not_b' {b : Bool} (h : (!b) = false) : b = true := by cases b <;> first | rfl | cases h
theorem lt_succ_cases {j i : Nat} (h : j < i + 1) : j < i ∨ j = i := Nat.lt_or_eq_of_le (Nat.le_of_lt_succ h)
theorem refs_idV {xs : List Addr} : ∀ v ∈ xs.map V.ref, idV v = true := fun v h => by
  obtain ⟨x, _, rfl⟩ := List.mem_map.mp h
  rfl
theorem allBy_len {b : Int} {l : List Int} (h0 : 0 ≤ b) (h : b ≤ 8) (hl : l.length ≤ 4) : (allBy b l).length ≤ 32 := by
  have e : ∀ l : List Int, (allBy b l).length = l.length * b.toNat := fun l => by
    unfold allBy
    induction l with
    | nil => simp
    | cons a l ih => rw [List.flatMap_cons, List.length_append, ih, List.length_map, List.length_range, List.length_cons, Nat.succ_mul, Nat.add_comm]
  rw [e]
  have : b.toNat ≤ 8 := by omega
  exact Nat.le_trans (Nat.mul_le_mul hl this) (by decide)
/-- what the inner clause of a comprehension of two asks -/
def In2 (D : Addr) (g1 : TG) (tt1 : TT) (te : TE) (vs1 : List Nat) (σ : L2.St) (Nx : Hp → Prop) (J : It) (Ha : Hp) : Prop := ∃ W1 : Nat → Nat → Hp → Prop, (∃ m, W1 0 m Ha) ∧ ∀ j k Hb, W1 j k Hb →
  (J.stop j Hb ∧ Nx Hb) ∨ (J.go j Hb ∧ ∃ Nz : Hp → Prop, (∀ Hz, Nz Hz → ∃ l, l < k ∧ W1 (j + 1) l Hz) ∧ ∀ x Hc, J.yld j Hb x Hc → g1 x (wipe σ vs1) Hc fun τ Hd => wipe τ vs1 = wipe σ vs1 ∧ tt1 τ Hd fun b He =>
    if b = true then te τ He fun y Hy => ∃ acc, Hy D = some (.lst acc) ∧ acc.length < sizeLine ∧ Nz (upd Hy D (.lst (acc ++ [y]))) else Nz He)
theorem lc2_it {J : It} {n : Nat} {G : Hp → Prop} {Y : Nat → Hp → V → Hp → Prop} (wk : Walk J n G Y) {g g1 : TG} {tt tt1 : TT} {te : TE} {wi1 : TI} {vs vs1 : List Nat} {σ : L2.St} {Ha : Hp} {D : Addr} {Qd : Hp → Prop} (Pv : Nat → Hp → Prop) (h0 : Pv 0 (upd Ha D (.lst []))) (hl : ∀ i H, i ≤ n → Pv i H → G H)
    (hs : ∀ i x H H', i < n → Pv i H → Y i H x H' → g x (wipe σ vs) H' fun τ Hd => wipe τ vs = wipe σ vs ∧ tt τ Hd fun b He => if b = true then wi1 τ He fun J1 Hf => In2 D g1 tt1 te vs1 τ (Pv (i + 1)) J1 Hf else Pv (i + 1) He) (hd : ∀ H, Pv n H → Qd H) :
    ∃ W : Nat → Nat → Hp → Prop, (∃ m, W 0 m (upd Ha D (.lst []))) ∧ ∀ i m Hb, W i m Hb → (J.stop i Hb ∧ Qd Hb) ∨ (J.go i Hb ∧ ∃ Nx : Hp → Prop, (∀ Hz, Nx Hz → ∃ l, l < m ∧ W (i + 1) l Hz) ∧ ∀ x Hc, J.yld i Hb x Hc → g x (wipe σ vs) Hc fun τ Hd => wipe τ vs = wipe σ vs ∧ tt τ Hd fun b He =>
      if b = true then wi1 τ He fun J1 Hf => In2 D g1 tt1 te vs1 τ Nx J1 Hf else Nx He) := by
  refine ⟨fun i m H => m = n - i ∧ i ≤ n ∧ Pv i H, ⟨n, by simp, Nat.zero_le _, h0⟩, ?_⟩
  rintro i m H ⟨rfl, hi, p⟩
  have q := hl i H hi p
  rcases Nat.lt_or_eq_of_le hi with lt | rfl
  · exact .inr ⟨wk.goes i H lt q, Pv (i + 1), fun Hz pz => ⟨n - (i + 1), by omega, rfl, lt, pz⟩, fun x Hc y => hs i x H Hc lt p (wk.yields i H x Hc lt q y)⟩
  · exact .inl ⟨wk.stops H q, hd H p⟩
theorem valV_names (n : Str) : ∀ l : List Prt, valV (l.map fun p => ((Sum.inr p.n : Key), V.int p.sz)) (Sum.inr n) = ((l.find? fun p => p.n == n).map Prt.sz).map V.int
  | [] => rfl
  | p :: l => by
    rw [List.map_cons, List.find?_cons]
    by_cases e : p.n = n
    · rw [valV_pos (by rw [e]), show (p.n == n) = true from by rw [e]; exact beq_self_eq_true n] <;> rfl
    · rw [valV_neg (fun h => e (Sum.inr.inj h)), show (p.n == n) = false from beq_eq_false_iff_ne.mpr e]
      exact valV_names n l
theorem ofC_names (k : Nat) {ps : List Prt} (h : (ps.map Prt.n).Nodup) : ((ofC k ps).map Prt.n).Nodup := List.Nodup.sublist (List.Sublist.map _ (List.filter_sublist ..)) h
theorem ofC_mem {k : Nat} {ps : List Prt} {p : Prt} (h : p ∈ ofC k ps) : p ∈ ps ∧ p.cl = k := by
  obtain ⟨a, b⟩ := List.mem_filter.mp h
  exact ⟨a, beq_iff_eq.mp b⟩
theorem cl0 {p : Prt} (h : p.cl = 0) : ∃ k n ss, p = .ag k n ss := by
  cases p with
  | var => cases h
  | sig => cases h
  | ag k n ss => exact ⟨k, n, ss, rfl⟩
theorem cl1 {p : Prt} (h : p.cl = 1) : ∃ n t, p = .sig n t := by
  cases p with
  | var => cases h
  | sig n t => exact ⟨n, t, rfl⟩
  | ag => cases h
theorem cl2 {p : Prt} (h : p.cl = 2) : ∃ n b as, p = .var n b as := by
  cases p with
  | var n b as => exact ⟨n, b, as, rfl⟩
  | sig => cases h
  | ag => cases h
theorem in1r (n : Nat) (r : Int) : inV (.int n) [.int 1, .int r] = (decide ((n : Int) = 1) || decide ((n : Int) = r)) := by
  show (((1 : Int) == (n : Int)) || ((r == (n : Int)) || false)) = _
  rw [Bool.or_false]
  have e : ∀ i : Int, (i == (n : Int)) = decide ((n : Int) = i) := fun i => by
    by_cases h : (n : Int) = i
    · rw [h, decide_eq_true rfl]; exact beq_self_eq_true i
    · rw [decide_eq_false h]; exact beq_eq_false_iff_ne.mpr fun z => h z.symm
  rw [e, e]
theorem sig_two (w : Str) (h : w ∈ (["post", "wait"] : List Str)) : inV (.str w) ((["post", "wait"] : List Str).map V.str) = true := by rw [inV_strs, decide_eq_true h]
theorem not_sig {w : Str} (h : w ∈ wAcc ++ wUp) : inV (.str w) ((["post", "wait"] : List Str).map V.str) = false := by
  have z : ((wAcc ++ wUp).all fun w => !decide (w ∈ (["post", "wait"] : List Str))) = true := by decide +kernel
  have y := List.all_eq_true.mp z w h
  rw [inV_strs]
  exact not_b y
theorem ok_two {w n : Str} (h : (Stp.two w n).ok = true) : nameOk n = true ∧ w ∈ (["post", "wait"] : List Str) := by
  have h : (nameOk n && decide (w ∈ (["post", "wait"] : List Str))) = true := h
  rw [Bool.and_eq_true, decide_eq_true_eq] at h
  exact h
theorem ok_five {w n : Str} {s f l : Int} (h : (Stp.five w n s f l).ok = true) : nameOk n = true ∧ w ∈ wAcc ++ wUp ∧ 0 ≤ s ∧ s ≤ 3 ∧ 0 ≤ f ∧ f ≤ l ∧ l ≤ 7 := by
  have h : (nameOk n && (decide (w ∈ wAcc ++ wUp) && ((decide (0 ≤ s) && decide (s ≤ 3)) && ((decide (0 ≤ f) && decide (f ≤ 7)) && (decide (f ≤ l) && decide (l ≤ 7)))))) = true := h
  simp only [Bool.and_eq_true, decide_eq_true_eq] at h
  obtain ⟨a, b, ⟨c, d⟩, ⟨e, _⟩, f, g⟩ := h
  exact ⟨a, b, c, d, e, f, g⟩
theorem nodup_at {α β : Type} {f : α → β} : ∀ {l : List α} {i j : Nat} {a b : α}, (l.map f).Nodup → i < j → l[i]? = some a → l[j]? = some b → f a ≠ f b
  | [], _, _, _, _, _, _, h, _ => by cases h
  | x :: l, 0, j + 1, a, b, hn, _, ha, hb => by
    cases ha
    rw [List.map_cons, List.nodup_cons] at hn
    exact fun e => hn.1 (by rw [e]; exact List.mem_map_of_mem (List.mem_of_getElem? (i := j) hb))
  | x :: l, i + 1, j + 1, a, b, hn, hij, ha, hb => by
    rw [List.map_cons, List.nodup_cons] at hn
    exact nodup_at (i := i) (j := j) hn.2 (Nat.lt_of_succ_lt_succ hij) ha hb
theorem lay2 (w n : Str) (hw : w ∈ (["post", "wait"] : List Str)) (hn : nameOk n = true) : PyData.canLay0 (Stp.two w n).d = true :=
  ok_lay (st := .two w n) (by show (nameOk n && decide (w ∈ (["post", "wait"] : List Str))) = true; rw [hn, decide_eq_true hw] <;> rfl)
/-- a tuple stays when a list is changed -/
theorem sqT_lst {K : PySem.W.Frag} {H : Hp} {L t : Addr} {ys zs xs : List V} (hL : H L = some (.lst ys)) (h : SqT K H t xs) : SqT K (upd H L (.lst zs)) t xs := by
  rcases h with (h | ⟨o, h⟩) | h
  · exact .inl (.inl ((upd_ne (ne_of h hL (fun z => nomatch z))).trans h))
  · exact .inl (.inr ⟨o, (upd_ne (ne_of h hL (fun z => nomatch z))).trans h⟩)
  · exact .inr h
end Uk

/-! UkNE: what a net keeps -/
namespace Uk
open PySem PySem.Spec PyProof.Rows L2 StX

/-! ### lines -/
theorem asc_uniq : ∀ {l m : List Int}, l.Pairwise (· < ·) → m.Pairwise (· < ·) → (∀ x, x ∈ l ↔ x ∈ m) → l = m
  | [], [], _, _, _ => rfl
  | [], y :: m, _, _, h => absurd ((h y).mpr (List.mem_cons_self ..)) (by simp)
  | x :: l, [], _, _, h => absurd ((h x).mp (List.mem_cons_self ..)) (by simp)
  | x :: l, y :: m, hl, hm, h => by
    rw [List.pairwise_cons] at hl hm
    have exy : x = y := by
      rcases List.mem_cons.mp ((h x).mp (List.mem_cons_self ..)) with e | e
      · exact e
      · rcases List.mem_cons.mp ((h y).mpr (List.mem_cons_self ..)) with e2 | e2
        · exact e2.symm
        · have a := hm.1 x e
          have b := hl.1 y e2
          omega
    subst exy
    congr 1
    refine asc_uniq hl.2 hm.2 fun z => ⟨fun hz => ?_, fun hz => ?_⟩
    · rcases List.mem_cons.mp ((h z).mp (List.mem_cons_of_mem _ hz)) with e | e
      · have := hl.1 z hz
        omega
      · exact e
    · rcases List.mem_cons.mp ((h z).mpr (List.mem_cons_of_mem _ hz)) with e | e
      · have := hm.1 z hz
        omega
      · exact e
/-- the lines of addresses below 1024, ascending -/
def linesL (ns : List Int) (line : Int) : List Int := ((List.range 1024).map fun (k : Nat) => (k : Int)).filter fun k => ns.any fun a => a.fdiv line == k
theorem linesL_asc (ns : List Int) (line : Int) : (linesL ns line).Pairwise (· < ·) := by
  unfold linesL
  refine List.Pairwise.filter _ (List.pairwise_map.mpr (List.Pairwise.imp (fun h => ?_) List.pairwise_lt_range))
  omega
theorem fdiv_range {a line : Int} (h0 : 0 ≤ a) (h1 : a < 1024) (hl : 1 ≤ line) : 0 ≤ a.fdiv line ∧ a.fdiv line < 1024 := by
  rw [Int.fdiv_eq_ediv_of_nonneg _ (by omega)]
  exact ⟨Int.ediv_nonneg h0 (by omega), Int.lt_of_le_of_lt (Int.ediv_le_self _ h0) h1⟩
theorem linesL_mem {ns : List Int} {line k : Int} (h : ∀ a ∈ ns, 0 ≤ a ∧ a < 1024) (hl : 1 ≤ line) : k ∈ linesL ns line ↔ ∃ a ∈ ns, a.fdiv line = k := by
  unfold linesL
  rw [List.mem_filter, List.any_eq_true]
  constructor
  · rintro ⟨_, a, ha, e⟩
    exact ⟨a, ha, beq_iff_eq.mp e⟩
  · rintro ⟨a, ha, rfl⟩
    obtain ⟨x, y⟩ := fdiv_range (h a ha).1 (h a ha).2 hl
    exact ⟨List.mem_map.mpr ⟨(a.fdiv line).toNat, List.mem_range.mpr (by omega), by omega⟩, a, ha, beq_self_eq_true _⟩

/-! ### the bytes of a step -/
def startOf (as : List Int) (s : Int) (r : Nat) : Int := as.getD ((r : Int) + s |>.fmod as.length).toNat 0
def bytesOf (as : List Int) (s f l : Int) (r : Nat) : List Int := (List.range (l + 1 - f).toNat).map fun (k : Nat) => startOf as s r + (f + (k : Int))
def slotsOf (ps : List Prt) (n : Str) : List Int := match (ofC 2 ps).find? fun p => p.n == n with
  | some (.var _ _ as) => as
  | _ => []
def stepB (ps : List Prt) (st : Stp) (r : Nat) : List Int := match st with
  | .two _ _ => []
  | .five _ n s f l => bytesOf (slotsOf ps n) s f l r
/-- rows of a step, for each round of a ring -/
def RowsV (K : PySem.W.Frag) (H : Hp) (l : Addr) (f : Nat → List Int) (ring : Int) : Prop := ∃ ts : List Addr, H l = some (.lst (ts.map V.ref)) ∧ ts.length = ring.toNat ∧ ∀ r t, ts[r]? = some t → SqT K H t ((f r).map V.int)
theorem RowsV.mono {K : PySem.W.Frag} {H H' : Hp} {l : Addr} {f : Nat → List Int} {ring : Int} (s : Same H H') (h : RowsV K H l f ring) : RowsV K H' l f ring := let ⟨ts, a, b, c⟩ := h; ⟨ts, s _ _ a, b, fun r t e => st_mono s (c r t e)⟩
def stepOf? (ps : List Prt) (a s : Nat) : Option Stp := ((ofC 0 ps)[a]?).bind fun p => p.ss[s]?

/-! ### parts by name -/
def nameKv (xs : List Addr) (ps : List Prt) : List (Key × V) := (xs.zip ps).map fun q => ((Sum.inr q.2.n : Key), V.ref q.1)
theorem nameKv_succ {xs : List Addr} {ps : List Prt} {i : Nat} {x : Addr} {p : Prt} (hx : xs[i]? = some x) (hp : ps[i]? = some p) : nameKv (xs.take (i + 1)) (ps.take (i + 1)) = nameKv (xs.take i) (ps.take i) ++ [(Sum.inr p.n, V.ref x)] := by
  unfold nameKv
  have hz : (xs.zip ps)[i]? = some (x, p) := by
    rw [List.getElem?_zip_eq_some]
    exact ⟨hx, hp⟩
  rw [zip_take, zip_take, List.take_add_one, hz, List.map_append] <;> rfl
theorem nameKv_none {n : Str} : ∀ {xs : List Addr} {ps : List Prt}, n ∉ ps.map Prt.n → valV (nameKv xs ps) (Sum.inr n) = none
  | [], _, _ => rfl
  | _ :: _, [], _ => rfl
  | x :: xs, p :: ps, h => by
    rw [List.map_cons, List.mem_cons, not_or] at h
    show valV ((Sum.inr p.n, V.ref x) :: nameKv xs ps) _ = _
    rw [valV_neg (fun e => h.1 (Sum.inr.inj e).symm)]
    exact nameKv_none h.2
theorem nameKv_some : ∀ {xs : List Addr} {ps : List Prt} {i : Nat} {x : Addr} {p : Prt}, (ps.map Prt.n).Nodup → xs[i]? = some x → ps[i]? = some p → valV (nameKv xs ps) (Sum.inr p.n) = some (.ref x)
  | x0 :: xs, p0 :: ps, 0, x, p, hn, hx, hp => by
    cases hx
    cases hp
    exact valV_pos rfl
  | x0 :: xs, p0 :: ps, i + 1, x, p, hn, hx, hp => by
    rw [List.map_cons, List.nodup_cons] at hn
    show valV ((Sum.inr p0.n, V.ref x0) :: nameKv xs ps) _ = _
    rw [valV_neg (fun e => hn.1 (by rw [Sum.inr.inj e]; exact List.mem_map_of_mem (List.mem_of_getElem? (i := i) hp)))]
    exact nameKv_some (i := i) hn.2 hx hp

/-! ### places -/
def rowN (l : List Prt) (a : Nat) : List (Nat × Nat) := (List.range (prtAt l a).ss.length).map fun s => (a, s)
def spotsN (l : List Prt) (j : Nat) : List (Nat × Nat) := (List.range j).flatMap (rowN l)
def spots (ps : List Prt) : List (Nat × Nat) := spotsN (ofC 0 ps) (ofC 0 ps).length
theorem spotsN_succ (l : List Prt) (j : Nat) : spotsN l (j + 1) = spotsN l j ++ rowN l j := by
  unfold spotsN
  rw [List.range_succ, List.flatMap_append] <;> simp
theorem spotsN_mem {l : List Prt} {j a s : Nat} : (a, s) ∈ spotsN l j ↔ a < j ∧ s < (prtAt l a).ss.length := by
  unfold spotsN rowN
  simp only [List.mem_flatMap, List.mem_range, List.mem_map, Prod.mk.injEq]
  constructor
  · rintro ⟨b, hb, t, ht, rfl, rfl⟩
    exact ⟨hb, ht⟩
  · rintro ⟨h1, h2⟩
    exact ⟨a, h1, s, h2, rfl, rfl⟩
theorem spotsN_nodup (l : List Prt) (j : Nat) : (spotsN l j).Nodup := by
  rw [List.nodup_iff_pairwise_ne]
  unfold spotsN rowN
  refine List.pairwise_flatMap.mpr ⟨fun a _ => ?_, List.Pairwise.imp (fun {a b} h x hx y hy e => ?_) List.pairwise_lt_range⟩
  · refine List.pairwise_map.mpr (List.Pairwise.imp (fun h e => ?_) List.pairwise_lt_range)
    injection e
    omega
  · obtain ⟨_, _, rfl⟩ := List.mem_map.mp hx
    obtain ⟨_, _, rfl⟩ := List.mem_map.mp hy
    injection e
    omega
theorem spots_mem {ps : List Prt} {a s : Nat} : (a, s) ∈ spots ps ↔ ∃ st, stepOf? ps a s = some st := by
  unfold spots
  rw [spotsN_mem]
  unfold stepOf?
  constructor
  · rintro ⟨h1, h2⟩
    have e := List.getElem?_eq_getElem h1
    rw [prtAt_of e] at h2
    exact ⟨_, by rw [e]; exact List.getElem?_eq_getElem h2⟩
  · rintro ⟨st, h⟩
    cases e : (ofC 0 ps)[a]? with
    | none => rw [e] at h; cases h
    | some p =>
      rw [e] at h
      exact ⟨(List.getElem?_eq_some_iff.mp e).1, by rw [prtAt_of e]; exact (List.getElem?_eq_some_iff.mp h).1⟩
def plK (q : Nat × Nat) : List Key := [Sum.inl (q.1 : Int), Sum.inl (q.2 : Int)]
theorem plK_inj {p q : Nat × Nat} (h : plK p = plK q) : p = q := by
  obtain ⟨a, b⟩ := p
  obtain ⟨c, d⟩ := q
  unfold plK at h
  injection h with h1 h2
  injection h2 with h2 _
  have h1 := Sum.inl.inj h1
  have h2 := Sum.inl.inj h2
  exact Prod.ext (by omega) (by omega)
/-- the tuples of places -/
inductive PlsV (H : Hp) : List Addr → List (Nat × Nat) → Prop
  | nil : PlsV H [] []
  | cons {t : Addr} {ts : List Addr} {q : Nat × Nat} {qs : List (Nat × Nat)} : H t = some (.tup [.int q.1, .int q.2]) → PlsV H ts qs → PlsV H (t :: ts) (q :: qs)
section
variable {H H' : Hp}
theorem plsV_mono (s : Same H H') : ∀ {ts : List Addr} {qs : List (Nat × Nat)}, PlsV H ts qs → PlsV H' ts qs
  | [], [], _ => .nil
  | _ :: _, _ :: _, .cons a r => .cons (s _ _ a) (plsV_mono s r)
theorem plsV_app : ∀ {ts us : List Addr} {qs rs : List (Nat × Nat)}, PlsV H ts qs → PlsV H us rs → PlsV H (ts ++ us) (qs ++ rs)
  | [], _, [], _, _, h => h
  | _ :: _, _, _ :: _, _, .cons a r, h => .cons a (plsV_app r h)
theorem plsV_get : ∀ {ts : List Addr} {qs : List (Nat × Nat)} {i : Nat} {t : Addr}, PlsV H ts qs → ts[i]? = some t → ∃ q, qs[i]? = some q ∧ H t = some (.tup [.int q.1, .int q.2])
  | _ :: _, _ :: _, 0, _, .cons a _, e => ⟨_, rfl, by cases e; exact a⟩
  | _ :: _, _ :: _, i + 1, _, .cons _ r, e => plsV_get (i := i) r e
theorem plsV_len : ∀ {ts : List Addr} {qs : List (Nat × Nat)}, PlsV H ts qs → ts.length = qs.length
  | [], [], _ => rfl
  | _ :: _, _ :: _, .cons _ r => congrArg Nat.succ (plsV_len r)
end
/-- a dict by places -/
def plKv (qs : List (Nat × Nat)) (ls : List Addr) : List (List Key × V) := (qs.zip ls).map fun z => (plK z.1, V.ref z.2)
theorem plKv_none {q : Nat × Nat} : ∀ {qs : List (Nat × Nat)} {ls : List Addr}, q ∉ qs → valV (plKv qs ls) (plK q) = none
  | [], _, _ => rfl
  | _ :: _, [], _ => rfl
  | p :: qs, l :: ls, h => by
    rw [List.mem_cons, not_or] at h
    show valV ((plK p, V.ref l) :: plKv qs ls) _ = _
    rw [valV_neg (fun e => h.1 (plK_inj e).symm)]
    exact plKv_none h.2
theorem plKv_some : ∀ {qs : List (Nat × Nat)} {ls : List Addr} {i : Nat} {q : Nat × Nat} {l : Addr}, qs.Nodup → qs[i]? = some q → ls[i]? = some l → valV (plKv qs ls) (plK q) = some (.ref l)
  | p :: qs, k :: ls, 0, q, l, hn, hq, hl => by
    cases hq
    cases hl
    exact valV_pos rfl
  | p :: qs, k :: ls, i + 1, q, l, hn, hq, hl => by
    rw [List.nodup_cons] at hn
    show valV ((plK p, V.ref k) :: plKv qs ls) _ = _
    rw [valV_neg (fun e => hn.1 (by rw [plK_inj e]; exact List.mem_of_getElem? (i := i) hq))]
    exact plKv_some (i := i) hn.2 hq hl
theorem plKv_snoc {qs : List (Nat × Nat)} {ls : List Addr} {i : Nat} {q : Nat × Nat} {l : Addr} (hq : qs[i]? = some q) (hl : ls.length = i) : plKv (qs.take (i + 1)) (ls ++ [l]) = plKv (qs.take i) ls ++ [(plK q, .ref l)] := by
  unfold plKv
  have hi := (List.getElem?_eq_some_iff.mp hq).1
  rw [List.take_add_one, hq, List.zip_append (by rw [List.length_take, hl]; omega), List.map_append] <;> rfl
theorem plKv_len {qs : List (Nat × Nat)} {ls : List Addr} (h : qs.length = ls.length) : (plKv qs ls).length = qs.length := by
  unfold plKv
  rw [List.length_map, List.length_zip, h, Nat.min_self]
theorem plKv_get {qs : List (Nat × Nat)} {ls : List Addr} {i : Nat} {k : List Key} {v : V} (h : (plKv qs ls)[i]? = some (k, v)) : ∃ q l, qs[i]? = some q ∧ ls[i]? = some l ∧ k = plK q ∧ v = .ref l := by
  unfold plKv at h
  rw [List.getElem?_map] at h
  cases e : (qs.zip ls)[i]? with
  | none => rw [e] at h; cases h
  | some z =>
    rw [e] at h
    cases h
    obtain ⟨h1, h2⟩ := List.getElem?_zip_eq_some.mp e
    exact ⟨z.1, z.2, h1, h2, rfl, rfl⟩
/-- rows for all places -/
def TabV (K : PySem.W.Frag) (H : Hp) (ls : List Addr) (qs : List (Nat × Nat)) (f : Nat × Nat → Nat → List Int) (ring : Int) : Prop := ls.length = qs.length ∧ ∀ (i : Nat) (l : Addr) (q : Nat × Nat), ls[i]? = some l → qs[i]? = some q → RowsV K H l (f q) ring
theorem TabV.mono {K : PySem.W.Frag} {H H' : Hp} {ls : List Addr} {qs : List (Nat × Nat)} {f : Nat × Nat → Nat → List Int} {ring : Int} (s : Same H H') (h : TabV K H ls qs f ring) : TabV K H' ls qs f ring := ⟨h.1, fun i l q a b => (h.2 i l q a b).mono s⟩
theorem TabV.snoc {K : PySem.W.Frag} {H : Hp} {ls : List Addr} {qs : List (Nat × Nat)} {f : Nat × Nat → Nat → List Int} {ring : Int} {i : Nat} {q : Nat × Nat} {l : Addr} (hq : qs[i]? = some q) (h : TabV K H ls (qs.take i) f ring) (r : RowsV K H l (f q) ring) : TabV K H (ls ++ [l]) (qs.take (i + 1)) f ring := by
  have hi := (List.getElem?_eq_some_iff.mp hq).1
  have hl : ls.length = i := by rw [h.1, List.length_take]; omega
  refine ⟨by rw [List.length_append, List.length_take, hl, List.length_singleton]; omega, fun j l2 q2 h1 h2 => ?_⟩
  by_cases hj : j < i
  · rw [List.getElem?_append_left (by omega)] at h1
    rw [List.getElem?_take_of_lt (by omega)] at h2
    exact h.2 j l2 q2 h1 (by rw [List.getElem?_take_of_lt hj]; exact h2)
  · have hjl := (List.getElem?_eq_some_iff.mp h1).1
    rw [List.length_append, List.length_singleton, hl] at hjl
    obtain rfl : j = i := by omega
    rw [List.getElem?_append_right (by omega), hl, Nat.sub_self] at h1
    cases h1
    rw [List.getElem?_take_of_lt (by omega), hq] at h2
    cases h2
    exact r
def bytesAtF (ps : List Prt) (q : Nat × Nat) (r : Nat) : List Int := match stepOf? ps q.1 q.2 with
  | some st => stepB ps st r
  | none => []
def linesAtF (ps : List Prt) (line : Int) (q : Nat × Nat) (r : Nat) : List Int := linesL (bytesAtF ps q r) line
abbrev netH (NC dx : Addr) (line ring : Int) (pv pg pa sh bn ba la : Addr) : HO := .ins NC dx [("line", .int line), ("ring", .int ring), ("variables", .ref pv), ("signals", .ref pg), ("agents", .ref pa), ("shape", .ref sh), ("by_name", .ref bn), ("bytes_at", .ref ba), ("lines_at", .ref la)]
/-- what stands beside a net -/
structure NetB (c : PCs) (K : PySem.W.Frag) (H : Hp) (line ring : Int) (xs : List Addr) (ps : List Prt) (pv pg pa sh bn ba la : Addr) : Prop where
  prts : PrtsA c K H xs ps
  hv : H pv = some (.tup ((ofA 2 xs ps).map V.ref))
  hg : H pg = some (.tup ((ofA 1 xs ps).map V.ref))
  ha : H pa = some (.tup ((ofA 0 xs ps).map V.ref))
  hs : H sh = some (.tup [.int line, .int ring, .ref pv, .ref pg, .ref pa])
  hn : H bn = some (.dK (nameKv xs ps))
  hb : ∃ ls, H ba = some (.dT (plKv (spots ps) ls)) ∧ TabV K H ls (spots ps) (bytesAtF ps) ring
  hl : ∃ ls, H la = some (.dT (plKv (spots ps) ls)) ∧ TabV K H ls (spots ps) (linesAtF ps line) ring
theorem NetB.mono {c : PCs} {K : PySem.W.Frag} {H H' : Hp} {line ring : Int} {xs : List Addr} {ps : List Prt} {pv pg pa sh bn ba la : Addr} (s : Same H H') (h : NetB c K H line ring xs ps pv pg pa sh bn ba la) : NetB c K H' line ring xs ps pv pg pa sh bn ba la :=
  ⟨prtsA_mono s h.prts, s _ _ h.hv, s _ _ h.hg, s _ _ h.ha, s _ _ h.hs, s _ _ h.hn, let ⟨ls, a, b⟩ := h.hb; ⟨ls, s _ _ a, b.mono s⟩, let ⟨ls, a, b⟩ := h.hl; ⟨ls, s _ _ a, b.mono s⟩⟩
/-- the net at x -/
def NetA (NC : Addr) (c : PCs) (K : PySem.W.Frag) (H : Hp) (x : Addr) (line ring : Int) (xs : List Addr) (ps : List Prt) : Prop := ∃ dx pv pg pa sh bn ba la, H x = some (netH NC dx line ring pv pg pa sh bn ba la) ∧ NetB c K H line ring xs ps pv pg pa sh bn ba la
theorem NetA.mono {NC : Addr} {c : PCs} {K : PySem.W.Frag} {H H' : Hp} {x : Addr} {line ring : Int} {xs : List Addr} {ps : List Prt} (s : Same H H') (h : NetA NC c K H x line ring xs ps) : NetA NC c K H' x line ring xs ps := let ⟨dx, pv, pg, pa, sh, bn, ba, la, a, b⟩ := h; ⟨dx, pv, pg, pa, sh, bn, ba, la, s _ _ a, b.mono s⟩
end Uk

/-! UkNF: words for the making of a net -/
namespace Uk
open PySem PySem.Spec PyProof.Rows L2 StX

theorem okOrN.step {NN : Addr} {a b : Rf} {H : Hp} {Q R : Hp → Prop} {E : XK} (q : okOrN NN (orR a b) H Q E) (h : a = none → ∀ H', Same H H' → okOrN NN b H' Q E → R H') : okOrN NN a H R E := by
  cases a with
  | some r => exact q
  | none => exact fun H' s => h rfl H' s (okOrN.same q s)
theorem ckA_none {as : List NArg} (h : ckA as = none) : (∀ j, j < as.length → argAt as j = false) ∧ ckP (as.map argP) = none := by
  obtain ⟨h1, h2⟩ := orR_none' h
  exact ⟨firstR_none' h1, h2⟩
theorem ckP_nodup {ps : List Prt} (h : ckP ps = none) : (ps.map Prt.n).Nodup := by
  obtain ⟨_, h2⟩ := orR_none' h
  have g := firstR_none' h2
  rw [List.nodup_iff_pairwise_ne, List.pairwise_iff_getElem]
  intro i j hi hj hij e
  rw [List.length_map] at hi hj
  have := g j hj
  unfold dupAt at this
  rw [prtAt_of (List.getElem?_eq_getElem hj)] at this
  refine of_decide_eq_false this ?_
  rw [List.getElem_map, List.getElem_map] at e
  rw [← e]
  refine List.mem_map_of_mem (List.mem_of_getElem? (i := i) ?_)
  rw [List.getElem?_take_of_lt hij]
  exact List.getElem?_eq_getElem hi
theorem ckS_fits {ps : List Prt} (h : ckS ps = none) {a s : Nat} {st : Stp} (e : stepOf? ps a s = some st) : fitsB ps st = true := by
  unfold ckS at h
  cases h1 : firstK (fun a => (stepAt ps a).isSome) 0 (ofC 0 ps).length with
  | some k => rw [h1] at h; cases h
  | none =>
    have g := firstK_none' h1
    unfold stepOf? at e
    cases e1 : (ofC 0 ps)[a]? with
    | none => rw [e1] at e; cases e
    | some p =>
      rw [e1] at e
      have e : p.ss[s]? = some st := e
      have ga := g a (List.getElem?_eq_some_iff.mp e1).1
      rw [Nat.zero_add] at ga
      have : stepAt ps a = none := by
        cases z : stepAt ps a with
        | none => rfl
        | some k => rw [z] at ga; cases ga
      unfold stepAt at this
      rw [prtAt_of e1] at this
      have gs := firstK_none' this s (List.getElem?_eq_some_iff.mp e).1
      rw [Nat.zero_add] at gs
      unfold misAt at gs
      rw [List.getD_eq_getElem?_getD, e] at gs
      exact not_b' gs
theorem line_in (i : Int) : inV (.int i) [.int 1, .int 2, .int 4, .int 8, .int 16] = lineOk i := by
  have e : ∀ j : Int, (j == i) = decide (i = j) := fun j => by
    by_cases h : i = j
    · rw [h, decide_eq_true rfl]; exact beq_self_eq_true j
    · rw [decide_eq_false h]; exact beq_eq_false_iff_ne.mpr fun z => h z.symm
  show (((1 : Int) == i) || (((2 : Int) == i) || (((4 : Int) == i) || (((8 : Int) == i) || (((16 : Int) == i) || false))))) = _
  rw [Bool.or_false, e, e, e, e, e] <;> rfl
theorem offU {H : Hp} {a : Addr} {o : HO} : Same (Off a H) (Off a (upd H a o)) := fun b u e => Off.of (by rw [upd_ne (Off.ne e)]; exact Off.at e) (Off.ne e)
theorem offAt {H : Hp} {a : Addr} : Same (Off a H) H := fun b u e => Off.at e
theorem same_lock {H H' : Hp} {d : Addr} {u : HO} {od : Obj} (h : H d = some u) (s : Same (upd H d (.frz od u)) H') : Same H (upd H' d u) := fun b v e => by
  by_cases hb : b = d
  · subst hb
    rw [upd_same, ← e, h]
  · rw [upd_ne hb]
    exact s _ _ (by rw [upd_ne hb]; exact e)
/-- no list, no tuple -/
def NotSq : Option HO → Prop
  | some (.lst _) => False
  | some (.tup _) => False
  | some (.frz _ (.tup _)) => False
  | some (.frz _ (.lst _)) => False
  | _ => True
section
variable {K : PySem.W.Frag} {H : Hp} {d : Addr} {o : HO}
theorem sqT_chg (n : NotSq (H d)) {t : Addr} {xs : List V} (h : SqT K H t xs) : SqT K (upd H d o) t xs := by
  rcases h with (h | ⟨od, h⟩) | h
  · exact .inl (.inl ((upd_ne (fun e => by rw [← e, h] at n; exact n)).trans h))
  · exact .inl (.inr ⟨od, (upd_ne (fun e => by rw [← e, h] at n; exact n)).trans h⟩)
  · exact .inr h
theorem lst_chg (n : NotSq (H d)) {l : Addr} {xs : List V} (h : H l = some (.lst xs)) : upd H d o l = some (.lst xs) := (upd_ne (fun e => by rw [← e, h] at n; exact n)).trans h
theorem rowsV_chg (n : NotSq (H d)) {l : Addr} {f : Nat → List Int} {ring : Int} (h : RowsV K H l f ring) : RowsV K (upd H d o) l f ring := let ⟨ts, a, b, c⟩ := h; ⟨ts, lst_chg n a, b, fun r t e => sqT_chg n (c r t e)⟩
theorem tabV_chg (n : NotSq (H d)) {ls : List Addr} {qs : List (Nat × Nat)} {f : Nat × Nat → Nat → List Int} {ring : Int} (h : TabV K H ls qs f ring) : TabV K (upd H d o) ls qs f ring := ⟨h.1, fun i l q a b => rowsV_chg n (h.2 i l q a b)⟩
end
theorem plsV_chg {H : Hp} {d : Addr} {o : HO} (n : NotSq (H d)) : ∀ {ts : List Addr} {qs : List (Nat × Nat)}, PlsV H ts qs → PlsV (upd H d o) ts qs
  | [], [], _ => .nil
  | _ :: _, _ :: _, .cons a r => .cons ((upd_ne (fun e => by rw [← e, a] at n; exact n)).trans a) (plsV_chg n r)
theorem plsV_lst {H : Hp} {D : Addr} {xs zs : List V} (h : H D = some (.lst xs)) : ∀ {ts : List Addr} {qs : List (Nat × Nat)}, PlsV H ts qs → PlsV (upd H D (.lst zs)) ts qs
  | [], [], _ => .nil
  | _ :: _, _ :: _, .cons a r => .cons ((upd_ne (ne_of a h (fun z => nomatch z))).trans a) (plsV_lst h r)
theorem spotsN_le {l : List Prt} {j n : Nat} (h : j ≤ n) : (spotsN l j).length ≤ (spotsN l n).length := by
  induction n with
  | zero => rw [Nat.le_zero.mp h]; exact Nat.le_refl _
  | succ n ih =>
    rcases Nat.lt_or_eq_of_le h with h | rfl
    · rw [spotsN_succ, List.length_append]
      exact Nat.le_trans (ih (Nat.le_of_lt_succ h)) (Nat.le_add_right ..)
    · exact Nat.le_refl _
/-- what stands beside an instance -/
theorem sqT_off {K : PySem.W.Frag} {H : Hp} {a t : Addr} {xs : List V} (n : NotSq (H a)) (h : SqT K H t xs) : SqT K (Off a H) t xs := by
  rcases h with (h | ⟨o, h⟩) | h
  · exact .inl (.inl (Off.of h (fun e => by rw [← e, h] at n; exact n)))
  · exact .inl (.inr ⟨o, Off.of h (fun e => by rw [← e, h] at n; exact n)⟩)
  · exact .inr h
theorem tabV_off {K : PySem.W.Frag} {H : Hp} {a : Addr} {ls : List Addr} {qs : List (Nat × Nat)} {f : Nat × Nat → Nat → List Int} {ring : Int} (n : NotSq (H a)) (h : TabV K H ls qs f ring) : TabV K (Off a H) ls qs f ring :=
  ⟨h.1, fun i l q e1 e2 => let ⟨ts, x, y, z⟩ := h.2 i l q e1 e2; ⟨ts, Off.of x (fun e => by rw [← e, x] at n; exact n), y, fun r t e => sqT_off n (z r t e)⟩⟩
theorem spots_small {ps : List Prt} (hok : ∀ p ∈ ps, p.ok) (hl : ps.length ≤ 1000) : (spots ps).length ≤ 24000 := by
  have h : ∀ j, j ≤ (ofC 0 ps).length → (spotsN (ofC 0 ps) j).length ≤ 24 * j := fun j => by
    induction j with
    | zero => exact fun _ => Nat.zero_le _
    | succ j ih =>
      intro hj
      have := ih (by omega)
      rw [spotsN_succ, List.length_append]
      have e := List.getElem?_eq_getElem (show j < (ofC 0 ps).length by omega)
      obtain ⟨hm, hcl⟩ := ofC_mem (List.mem_of_getElem? e)
      obtain ⟨k, n, ss, es⟩ := cl0 hcl
      have hk := hok _ hm
      rw [es] at hk
      unfold rowN
      rw [List.length_map, List.length_range, prtAt_of e, es]
      show _ + ss.length ≤ _
      have := hk.2.2.2.1
      omega
  have := h _ (Nat.le_refl _)
  have := ofC_le 0 ps
  unfold spots
  omega
/-- bytes of a step that fits lie within the memory -/
theorem stepB_range {ps : List Prt} {st : Stp} (hok : ∀ p ∈ ps, p.ok) (ho : st.ok = true) (hf : fitsB ps st = true) (r : Nat) : (stepB ps st r).length ≤ 8 ∧ ∀ a ∈ stepB ps st r, 0 ≤ a ∧ a < 1024 := by
  cases st with
  | two w n => exact ⟨Nat.zero_le _, fun a h => by cases h⟩
  | five w n s f l =>
    obtain ⟨_, _, hs0, _, hf0, hfl, hl7⟩ := ok_five ho
    have h : (match sizeOf? ps n with | some b => decide (l < b) | none => false) = true := hf
    unfold sizeOf? at h
    show (bytesOf (slotsOf ps n) s f l r).length ≤ 8 ∧ ∀ a ∈ bytesOf (slotsOf ps n) s f l r, 0 ≤ a ∧ a < 1024
    cases e : (ofC 2 ps).find? (fun p => p.n == n) with
    | none => rw [e] at h; cases h
    | some p =>
      rw [e] at h
      have hm := List.mem_of_find?_eq_some e
      obtain ⟨n1, b, as, rfl⟩ := cl2 (ofC_mem hm).2
      have hb : l < b := of_decide_eq_true h
      obtain ⟨_, hb1, hb8, hl1, hl4, hbd⟩ := hok _ (ofC_mem hm).1
      have es : slotsOf ps n = as := by unfold slotsOf; rw [e]
      rw [es]
      unfold bytesOf
      refine ⟨by rw [List.length_map, List.length_range]; omega, fun a ha => ?_⟩
      obtain ⟨k, hk, rfl⟩ := List.mem_map.mp ha
      have hk := List.mem_range.mp hk
      have hfm := @fmod_range ((r : Int) + s) as.length (by omega)
      have hmem : startOf as s r ∈ as := by
        unfold startOf
        rw [List.getD_eq_getElem?_getD, List.getElem?_eq_getElem (show ((r : Int) + s |>.fmod as.length).toNat < as.length by omega)]
        exact List.getElem_mem _
      have := hbd _ hmem
      omega
theorem stepOf_ok {ps : List Prt} (hok : ∀ p ∈ ps, p.ok) {a s : Nat} {st : Stp} (e : stepOf? ps a s = some st) : st.ok = true := by
  unfold stepOf? at e
  cases e1 : (ofC 0 ps)[a]? with
  | none => rw [e1] at e; cases e
  | some p =>
    rw [e1] at e
    obtain ⟨hm, hcl⟩ := ofC_mem (List.mem_of_getElem? e1)
    obtain ⟨k, n, ss, rfl⟩ := cl0 hcl
    exact ((hok _ hm).2.2.2.2 st (List.mem_of_getElem? e)).1
end Uk

/-! UkNG: good parts, in any order; items; the heap without some lists -/
namespace Uk
open PySem PySem.Spec PyProof.Rows L2 StX

/-! ### good parts -/
def fitsP (ps : List Prt) : Stp → Prop
  | .two _ n => ∃ t, Prt.sig n t ∈ ps
  | .five _ n _ _ l => ∃ b as, Prt.var n b as ∈ ps ∧ l < b
def disjP (p q : Prt) : Prop := ∀ a, a ∈ p.bytes → a ∉ q.bytes
theorem disjP_symm {p q : Prt} (h : disjP p q) : disjP q p := fun a ha hb => h a hb ha
/-- parts of which a net can be made -/
structure GoodN (ring : Int) (ps : List Prt) : Prop where
  ok : ∀ p ∈ ps, p.ok
  nd : (ps.map Prt.n).Nodup
  m0 : (ofC 0 ps).length ≤ 4
  m1 : (ofC 1 ps).length ≤ 6
  m2 : (ofC 2 ps).length ≤ 6
  slots : ∀ n b as, Prt.var n b as ∈ ps → (as.length : Int) = 1 ∨ (as.length : Int) = ring
  dis : ps.Pairwise disjP
  fits : ∀ k n ss, Prt.ag k n ss ∈ ps → ∀ s ∈ ss, fitsP ps s
  sigs : ∀ n t, Prt.sig n t ∈ ps → (allSs ps).count (.two "post" n) = 1 ∧ (allSs ps).count (.two "wait" n) = 1
theorem fitsP_perm {ps qs : List Prt} (h : ps.Perm qs) {s : Stp} (f : fitsP ps s) : fitsP qs s := by
  cases s with
  | two w n => exact let ⟨t, e⟩ := f; ⟨t, h.mem_iff.mp e⟩
  | five w n a b l => exact let ⟨b, as, e, g⟩ := f; ⟨b, as, h.mem_iff.mp e, g⟩
theorem allSs_perm {ps qs : List Prt} (h : ps.Perm qs) : (allSs ps).Perm (allSs qs) := by
  unfold allSs
  exact List.Perm.flatMap_right _ (h.filter _)
theorem GoodN.perm {ring : Int} {ps qs : List Prt} (h : ps.Perm qs) (g : GoodN ring ps) : GoodN ring qs where
  ok p hp := g.ok p (h.mem_iff.mpr hp)
  nd := (h.map _).nodup_iff.mp g.nd
  m0 := (h.filter (fun p : Prt => p.cl == 0)).length_eq ▸ g.m0
  m1 := (h.filter (fun p : Prt => p.cl == 1)).length_eq ▸ g.m1
  m2 := (h.filter (fun p : Prt => p.cl == 2)).length_eq ▸ g.m2
  slots n b as hp := g.slots n b as (h.mem_iff.mpr hp)
  dis := (h.pairwise_iff (fun h => disjP_symm h)).mp g.dis
  fits k n ss hp s hs := fitsP_perm h (g.fits k n ss (h.mem_iff.mpr hp) s hs)
  sigs n t hp := by
    have := g.sigs n t (h.mem_iff.mpr hp)
    rw [(allSs_perm h).count_eq, (allSs_perm h).count_eq] at this
    exact this
theorem take_le_C (k i : Nat) (ps : List Prt) : (ofC k (ps.take i)).length ≤ (ofC k ps).length := by
  unfold ofC
  exact (List.Sublist.filter _ (List.take_sublist i ps)).length_le
theorem part_at (ps : List Prt) (j : Nat) (h : j < ps.length) : argAt (ps.map NArg.part) j = false := by
  unfold argAt
  rw [List.getD_eq_getElem?_getD, List.getElem?_map, List.getElem?_eq_getElem h] <;> rfl
theorem fits_ok {ps : List Prt} (hn : (ps.map Prt.n).Nodup) {s : Stp} (f : fitsP ps s) : fitsB ps s = true := by
  cases s with
  | two w n =>
    obtain ⟨t, e⟩ := f
    exact decide_eq_true (List.mem_map.mpr ⟨_, List.mem_filter.mpr ⟨e, rfl⟩, rfl⟩)
  | five w n a c l =>
    obtain ⟨b, as, e, g⟩ := f
    have hc : Prt.var n b as ∈ ofC 2 ps := List.mem_filter.mpr ⟨e, rfl⟩
    have hd := ofC_names 2 hn
    have hs : sizeOf? ps n = some b := by
      unfold sizeOf?
      cases e2 : (ofC 2 ps).find? (fun p => p.n == n) with
      | none => exact absurd (beq_self_eq_true n) (List.find?_eq_none.mp e2 _ hc)
      | some r =>
        have hm := List.mem_of_find?_eq_some e2
        have hr : r.n = n := by
          have z := List.find?_some e2
          exact beq_iff_eq.mp z
        obtain ⟨i, hi⟩ := List.getElem?_of_mem hm
        obtain ⟨j, hj⟩ := List.getElem?_of_mem hc
        have : r = .var n b as := by
          rcases Nat.lt_trichotomy i j with h | h | h
          · exact absurd hr (nodup_at hd h hi hj)
          · rw [h, hj] at hi
            exact (Option.some.inj hi).symm
          · exact absurd hr.symm (nodup_at hd h hj hi)
        rw [this] <;> rfl
    show (match sizeOf? ps n with | some b => decide (l < b) | none => false) = true
    rw [hs]
    exact decide_eq_true g
theorem wantN_none {line ring : Int} {ps : List Prt} (g : GoodN ring ps) (hl : lineOk line = true) (h1 : 1 ≤ ring) (h4 : ring ≤ 4) : wantN (.int line) (.int ring) (ps.map NArg.part) = none := by
  unfold wantN
  rw [if_neg (by rw [show (isIntD (.int line) && lineOk (intV (.int line))) = true from hl]; exact Bool.noConfusion),
    if_neg (by show ¬ (decide (1 ≤ ring) && decide (ring ≤ 4)) = false; rw [decide_eq_true h1, decide_eq_true h4]; exact Bool.noConfusion), map_argP]
  have e1 : ckA (ps.map NArg.part) = ckP ps := by
    unfold ckA
    rw [map_argP]
    exact orR_none (firstR_none fun j hj => part_at ps j (by rwa [List.length_map] at hj))
  have e2 : ckP ps = none := by
    unfold ckP
    rw [orR_none (firstR_none fun j hj => ?_)]
    · refine firstR_none fun j hj => decide_eq_false fun hm => ?_
      have ej := List.getElem?_eq_getElem hj
      rw [prtAt_of ej, List.map_take] at hm
      obtain ⟨i, hi⟩ := List.getElem?_of_mem hm
      have hij : i < j := by
        have := (List.getElem?_eq_some_iff.mp hi).1
        rw [List.length_take] at this
        omega
      rw [List.getElem?_take_of_lt hij, List.getElem?_map] at hi
      cases e : ps[i]? with
      | none => rw [e] at hi; cases hi
      | some r =>
        rw [e] at hi
        exact nodup_at g.nd hij e ej (Option.some.inj hi)
    · unfold manyAt tooMany
      have a0 := take_le_C 0 (j + 1) ps
      have a1 := take_le_C 1 (j + 1) ps
      have a2 := take_le_C 2 (j + 1) ps
      have := g.m0
      have := g.m1
      have := g.m2
      rw [decide_eq_false (by omega), decide_eq_false (by omega), decide_eq_false (by omega)] <;> rfl
  have e3 : ckV ring ps = none := by
    unfold ckV
    rw [orR_none (firstR_none fun j hj => ?_)]
    · refine firstR_none fun j hj => ?_
      unfold bytesAt
      have ej := List.getElem?_eq_getElem hj
      rw [prtAt_of ej, List.any_eq_false]
      intro a ha hm
      obtain ⟨q, hq, hb⟩ := List.mem_flatMap.mp (of_decide_eq_true hm)
      obtain ⟨i, hi⟩ := List.getElem?_of_mem hq
      have hij : i < j := by
        have := (List.getElem?_eq_some_iff.mp hi).1
        rw [List.length_take] at this
        omega
      rw [List.getElem?_take_of_lt hij] at hi
      have hd := List.pairwise_iff_getElem.mp g.dis i j (List.getElem?_eq_some_iff.mp hi).1 hj hij
      rw [(List.getElem?_eq_some_iff.mp hi).2] at hd
      exact hd a hb ha
    · unfold slotsAt
      have ej := List.getElem?_eq_getElem hj
      rw [prtAt_of ej]
      have hm := List.getElem_mem hj
      revert hm
      generalize ps[j] = r
      intro hm
      cases r with
      | var n b as =>
        rcases g.slots n b as hm with e | e
        · show (!(decide ((as.length : Int) = 1) || _)) = false
          rw [decide_eq_true e] <;> rfl
        · show (!(_ || decide ((as.length : Int) = ring))) = false
          rw [decide_eq_true e, Bool.or_true] <;> rfl
      | sig => rfl
      | ag => rfl
  have e4 : ckS ps = none := by
    unfold ckS
    rw [firstK_none fun a ha => ?_] <;> try rfl
    rw [Nat.zero_add]
    have ea := List.getElem?_eq_getElem ha
    unfold stepAt
    rw [prtAt_of ea]
    have hm := ofC_mem (List.getElem_mem ha)
    obtain ⟨k, n, ss, e⟩ := cl0 hm.2
    rw [e] at hm ⊢
    rw [firstK_none fun s hs => ?_] <;> try rfl
    rw [Nat.zero_add]
    unfold misAt
    show (!fitsB ps (ss.getD s _)) = false
    have hs : s < ss.length := hs
    rw [List.getD_eq_getElem?_getD, List.getElem?_eq_getElem hs]
    show (!fitsB ps ss[s]) = false
    rw [fits_ok g.nd (g.fits k n ss hm.1 _ (List.getElem_mem hs))] <;> rfl
  have e5 : ckG ps = none := by
    unfold ckG
    refine firstR_none fun j hj => ?_
    unfold sigAt
    have ej := List.getElem?_eq_getElem hj
    rw [prtAt_of ej]
    have hm := List.getElem_mem hj
    revert hm
    generalize ps[j] = r
    intro hm
    cases r with
    | sig n t =>
      obtain ⟨a, b⟩ := g.sigs n t hm
      show (!(decide ((allSs ps).count (.two "post" n) = 1) && decide ((allSs ps).count (.two "wait" n) = 1))) = false
      rw [decide_eq_true a, decide_eq_true b] <;> rfl
    | var => rfl
    | ag => rfl
  unfold ckRest
  show orR (ckA (ps.map NArg.part)) (orR (ckV ring ps) (orR (ckS ps) (ckG ps))) = none
  rw [e1, e2, e3, e4, e5] <;> rfl

/-! ### the heap without some lists -/
def OffL (S : List Addr) (H : Hp) : Hp := fun a => if a ∈ S then none else H a
section
variable {S : List Addr} {H H' : Hp} {a p : Addr} {u o : HO}
theorem OffL.at (h : OffL S H a = some u) : H a = some u := by
  unfold OffL at h
  split at h
  · cases h
  · exact h
theorem OffL.ne (h : OffL S H a = some u) : a ∉ S := fun e => by
  unfold OffL at h
  rw [if_pos e] at h
  cases h
theorem OffL.of (h : H a = some u) (n : a ∉ S) : OffL S H a = some u := by
  unfold OffL
  rw [if_neg n]
  exact h
theorem OffL.same (s : Same H H') : Same (OffL S H) (OffL S H') := fun b u e => OffL.of (s _ _ (OffL.at e)) (OffL.ne e)
theorem OffL.off (hp : p ∈ S) (s : Same (Off p H) (Off p H')) : Same (OffL S H) (OffL S H') := fun b u e => OffL.of (Off.at (s _ _ (Off.of (OffL.at e) (fun z => OffL.ne e (z ▸ hp))))) (OffL.ne e)
theorem OffL.chg (h : a ∈ S) : Same (OffL S H) (OffL S (upd H a o)) := fun b u e => OffL.of ((upd_ne (fun z : b = a => OffL.ne e (by rw [z]; exact h))).trans (OffL.at e)) (OffL.ne e)
theorem OffL.toOff (hp : p ∈ S) : Same (OffL S H) (Off p H) := fun b u e => Off.of (OffL.at e) (fun z => OffL.ne e (z ▸ hp))
theorem OffL.all : Same (OffL S H) H := fun b u e => OffL.at e
/-- of an object known apart from p, if it is none of S -/
theorem OffL.ofOff (n : a ∉ S) (h : Off p H a = some u) : OffL S H a = some u := OffL.of (Off.at h) n
end

/-! ### items -/
def ItmV (K : PySem.W.Frag) (H : Hp) (v : V) : Prt → Prop
  | .var n b as => ∃ t l, v = .ref t ∧ H t = some (.tup [.str "var", .str n, .int b, .ref l]) ∧ H l = some (.lst (as.map .int))
  | .sig n k => ∃ t, v = .ref t ∧ H t = some (.tup [.str "sig", .str n, .int k])
  | .ag k n ss => ∃ t l vs, v = .ref t ∧ H t = some (.tup [.str "agent", .str n, .int k, .ref l]) ∧ H l = some (.lst vs) ∧ StpsV K H vs ss
inductive ItmsV (K : PySem.W.Frag) (H : Hp) : List V → List Prt → Prop
  | nil : ItmsV K H [] []
  | cons {v : V} {vs : List V} {p : Prt} {ps : List Prt} : ItmV K H v p → ItmsV K H vs ps → ItmsV K H (v :: vs) (p :: ps)
section
variable {K : PySem.W.Frag} {H H' : Hp}
theorem itmV_mono (e : Same H H') {v : V} : ∀ {p : Prt}, ItmV K H v p → ItmV K H' v p
  | .var _ _ _, ⟨t, l, a, b, c⟩ => ⟨t, l, a, e _ _ b, e _ _ c⟩
  | .sig _ _, ⟨t, a, b⟩ => ⟨t, a, e _ _ b⟩
  | .ag _ _ _, ⟨t, l, vs, a, b, c, d⟩ => ⟨t, l, vs, a, e _ _ b, e _ _ c, stpsV_mono e d⟩
theorem itmsV_mono (e : Same H H') : ∀ {vs : List V} {ps : List Prt}, ItmsV K H vs ps → ItmsV K H' vs ps
  | [], [], _ => .nil
  | _ :: _, _ :: _, .cons a r => .cons (itmV_mono e a) (itmsV_mono e r)
theorem itmsV_len : ∀ {vs : List V} {ps : List Prt}, ItmsV K H vs ps → vs.length = ps.length
  | [], [], _ => rfl
  | _ :: _, _ :: _, .cons _ r => congrArg Nat.succ (itmsV_len r)
theorem itmsV_get : ∀ {vs : List V} {ps : List Prt} {i : Nat} {v : V}, ItmsV K H vs ps → vs[i]? = some v → ∃ p, ps[i]? = some p ∧ ItmV K H v p
  | _ :: _, _ :: _, 0, _, .cons a _, e => ⟨_, rfl, by cases e; exact a⟩
  | _ :: _, _ :: _, i + 1, _, .cons _ r, e => itmsV_get (i := i) r e
theorem itmsV_app : ∀ {xs ys : List V} {ps qs : List Prt}, ItmsV K H xs ps → ItmsV K H ys qs → ItmsV K H (xs ++ ys) (ps ++ qs)
  | [], _, [], _, _, h => h
  | _ :: _, _, _ :: _, _, .cons a r, h => .cons a (itmsV_app r h)
theorem itmsV_take : ∀ {xs : List V} {ps : List Prt} (n : Nat), ItmsV K H xs ps → ItmsV K H (xs.take n) (ps.take n)
  | _, _, 0, _ => .nil
  | [], [], _ + 1, _ => .nil
  | _ :: _, _ :: _, n + 1, .cons a r => .cons a (itmsV_take n r)
theorem itmsV_drop : ∀ {xs : List V} {ps : List Prt} (n : Nat), ItmsV K H xs ps → ItmsV K H (xs.drop n) (ps.drop n)
  | _, _, 0, h => h
  | [], [], _ + 1, _ => .nil
  | _ :: _, _ :: _, n + 1, .cons _ r => itmsV_drop n r
/-- an item is a tuple, its name second -/
theorem itmV_name {v : V} : ∀ {p : Prt}, ItmV K H v p → ∃ t xs, v = .ref t ∧ H t = some (.tup xs) ∧ atI xs 1 = some (.str p.n)
  | .var _ _ _, ⟨t, l, a, b, c⟩ => ⟨t, _, a, b, rfl⟩
  | .sig _ _, ⟨t, a, b⟩ => ⟨t, _, a, b, rfl⟩
  | .ag _ _ _, ⟨t, l, vs, a, b, c, d⟩ => ⟨t, _, a, b, rfl⟩
end
end Uk

/-! UkNH: plain words for drawn items -/
namespace Uk
open PySem PySem.Spec PyProof.Rows L2 StX

theorem cut_back {xs : List V} {i : Nat} (h : i ≤ xs.length) : cutV xs (some (i : Int)) none = xs.drop i := by
  unfold cutV
  rw [HT.sIx_none, HT.sIx_nat, Nat.min_eq_left h, List.take_of_length_le]
  rw [List.length_drop]
  exact Nat.le_refl _
theorem ins_perm {α : Type} (xs : List α) (i : Nat) (a : α) : (xs.take i ++ [a] ++ xs.drop i).Perm (xs ++ [a]) := by
  rw [List.append_assoc, List.singleton_append]
  refine List.perm_middle.trans ?_
  rw [List.take_append_drop]
  exact (List.perm_append_singleton a xs).symm
/-- an object that was not there is changed -/
theorem offP_upd {p D : Addr} {H H' : Hp} {o : HO} (s : Same (Off p H) (Off p H')) (h : H D = none) : Same (Off p H) (Off p (upd H' D o)) := fun b u e => Off.of ((upd_ne (ne_of_none (Off.at e) h)).trans (Off.at (s _ _ e))) (Off.ne e)
theorem OffL.grow {S T : List Addr} {H H' : Hp} (s : Same H H') (hn : ∀ a ∈ T, a ∈ S ∨ H a = none) : Same (OffL S H) (OffL T H') := fun b u e => OffL.of (s _ _ (OffL.at e)) fun hb => by
  rcases hn b hb with h | h
  · exact OffL.ne e h
  · have := OffL.at e
    rw [h] at this
    cases this
theorem stpsV_offL {K : PySem.W.Frag} {S : List Addr} {H : Hp} (hS : ∀ a ∈ S, ∃ xs, H a = some (.lst xs)) : ∀ {vs : List V} {ss : List Stp}, StpsV K H vs ss → StpsV K (OffL S H) vs ss
  | [], [], _ => .nil
  | _ :: _, _ :: _, .cons ⟨t, e, q⟩ r => .cons ⟨t, e, by
      rcases q with (h | ⟨o, h⟩) | h
      · exact .inl (.inl (OffL.of h fun hb => by obtain ⟨xs, e⟩ := hS _ hb; rw [h] at e; cases e))
      · exact .inl (.inr ⟨o, OffL.of h fun hb => by obtain ⟨xs, e⟩ := hS _ hb; rw [h] at e; cases e⟩)
      · exact .inr h⟩ (stpsV_offL hS r)
theorem perm_snoc {α : Type} {xs ys : List α} {a : α} (h : xs.Perm ys) : (xs ++ [a]).Perm (ys ++ [a]) := h.append_right _
end Uk

/-! UkNI: drawn items are good -/
namespace Uk
open PySem PySem.Spec PyProof.Rows L2 StX

def apartP : Prt → Prop
  | .var _ b as => ∀ (i j : Nat) (x y : Int), i < j → as[i]? = some x → as[j]? = some y → near b y x = false
  | _ => True
def FiveOk (k : Nat) (vps : List Prt) (s : Stp) : Prop := s.ok = true ∧ s.w ∈ mayK k ∧ ∃ w n sh f l b as, s = .five w n sh f l ∧ Prt.var n b as ∈ vps ∧ l < b
def VarsG (vps : List Prt) : Prop := ∀ p ∈ vps, ∃ n b as, p = .var n b as ∧ nameOk n = true ∧ 1 ≤ b ∧ b ≤ 8
abbrev vNs : List Str := ["va", "vb", "vc"]
abbrev sNs : List Str := ["sa", "sb", "sc", "sd", "se", "sf"]
abbrev aNs : List Str := ["aa", "ab", "ac", "ad"]
abbrev vN (i : Nat) : Str := vNs.getD i "va"
abbrev sN (i : Nat) : Str := sNs.getD i "sa"
abbrev aN (i : Nat) : Str := aNs.getD i "aa"
theorem vN_ok : ∀ i, i < 3 → nameOk (vN i) = true := by decide +kernel
theorem sN_ok : ∀ i, i < 6 → nameOk (sN i) = true := by decide +kernel
theorem aN_ok : ∀ i, i < 4 → nameOk (aN i) = true := by decide +kernel
/-- one drawn variable, its slots from lo to below hi -/
def VarA (slots lo hi : Int) (i : Nat) (p : Prt) : Prop := ∃ b as, p = .var (vN i) b as ∧ 1 ≤ b ∧ b ≤ 8 ∧ 1 ≤ as.length ∧ ((as.length : Int) = 1 ∨ (as.length : Int) = slots) ∧ (∀ a ∈ as, lo ≤ a ∧ a + b ≤ hi) ∧ as.Pairwise (fun x y => near b y x = false)
structure VarsA (slots free : Int) (vps : List Prt) : Prop where
  each : ∀ (i : Nat) (p : Prt), vps[i]? = some p → VarA slots 0 free i p
  dis : vps.Pairwise disjP
theorem VarA.wide {slots lo hi lo' hi' : Int} {i : Nat} {p : Prt} (h : VarA slots lo hi i p) (hl : lo' ≤ lo) (hh : hi ≤ hi') : VarA slots lo' hi' i p := by
  obtain ⟨b, as, rfl, b1, b8, l1, ls, ha, hp⟩ := h
  exact ⟨b, as, rfl, b1, b8, l1, ls, fun a h => ⟨by have := ha a h; omega, by have := ha a h; omega⟩, hp⟩
theorem allBy_mem {b : Int} {as : List Int} {x : Int} (h : x ∈ allBy b as) : ∃ a ∈ as, a ≤ x ∧ x < a + b := by
  unfold allBy at h
  obtain ⟨a, ha, hx⟩ := List.mem_flatMap.mp h
  obtain ⟨k, hk, rfl⟩ := List.mem_map.mp hx
  have := List.mem_range.mp hk
  exact ⟨a, ha, by omega, by omega⟩
theorem VarsA.snoc {slots free hi : Int} {vps : List Prt} {p : Prt} (h : VarsA slots free vps) (h0 : 0 ≤ free) (hh : free ≤ hi) (hp : VarA slots free hi vps.length p) : VarsA slots hi (vps ++ [p]) := by
  refine ⟨fun i q hq => ?_, ?_⟩
  · by_cases hi : i < vps.length
    · rw [List.getElem?_append_left hi] at hq
      exact (h.each i q hq).wide (by omega) hh
    · have hl := (List.getElem?_eq_some_iff.mp hq).1
      rw [List.length_append, List.length_singleton] at hl
      obtain rfl : i = vps.length := by omega
      rw [List.getElem?_append_right (Nat.le_refl _), Nat.sub_self] at hq
      cases hq
      exact hp.wide h0 (Int.le_refl _)
  · refine List.pairwise_append.mpr ⟨h.dis, List.pairwise_singleton _ _, fun q hq r hr x hx hy => ?_⟩
    rw [List.mem_singleton.mp hr] at hy
    obtain ⟨i, hi⟩ := List.getElem?_of_mem hq
    obtain ⟨b, as, rfl, b1, b8, _, _, ha, _⟩ := h.each i q hi
    obtain ⟨b2, as2, rfl, _, _, _, _, ha2, _⟩ := hp
    obtain ⟨a, hm, h1, h2⟩ := allBy_mem hx
    obtain ⟨a2, hm2, h3, h4⟩ := allBy_mem hy
    have := ha a hm
    have := ha2 a2 hm2
    omega
theorem near_symm {b x y : Int} (h : near b y x = false) : near b x y = false := by
  unfold near at *
  simp only [Bool.and_eq_false_iff, decide_eq_false_iff_not] at *
  omega
theorem apart_of {n : Str} {b : Int} {as : List Int} (h : as.Pairwise (fun x y => near b y x = false)) : apartP (.var n b as) := fun i j x y hij hi hj => by
  have := List.pairwise_iff_getElem.mp h i j (List.getElem?_eq_some_iff.mp hi).1 (List.getElem?_eq_some_iff.mp hj).1 hij
  rw [(List.getElem?_eq_some_iff.mp hi).2, (List.getElem?_eq_some_iff.mp hj).2] at this
  exact this
theorem varA_perm {slots lo hi b : Int} {i : Nat} {n : Str} {as bs : List Int} (e : as.Perm bs) (h : VarA slots lo hi i (.var n b as)) : VarA slots lo hi i (.var n b bs) := by
  obtain ⟨b', as', e2, b1, b8, l1, ls, ha, hp⟩ := h
  cases e2
  exact ⟨b, bs, rfl, b1, b8, by rw [← e.length_eq]; exact l1, by rw [← e.length_eq]; exact ls, fun a h => ha a (e.mem_iff.mpr h), (e.pairwise_iff (fun h => near_symm h)).mp hp⟩
/-- the signal steps of i signals -/
def sigSteps (i : Nat) : List Stp := (List.range i).flatMap fun j => [.two "post" (sN j), .two "wait" (sN j)]
theorem sigSteps_count : ∀ ns, ns ≤ 6 → ∀ j, j < ns → (sigSteps ns).count (.two "post" (sN j)) = 1 ∧ (sigSteps ns).count (.two "wait" (sN j)) = 1 := by decide +kernel
theorem sigSteps_mem {ns : Nat} {s : Stp} (h : s ∈ sigSteps ns) : ∃ j w, j < ns ∧ s = .two w (sN j) ∧ w ∈ (["post", "wait"] : List Str) := by
  unfold sigSteps at h
  obtain ⟨j, hj, hs⟩ := List.mem_flatMap.mp h
  simp only [List.mem_cons, List.not_mem_nil, or_false] at hs
  rcases hs with rfl | rfl
  · exact ⟨j, "post", List.mem_range.mp hj, rfl, by simp⟩
  · exact ⟨j, "wait", List.mem_range.mp hj, rfl, by simp⟩
theorem sigSteps_succ (i : Nat) : sigSteps (i + 1) = sigSteps i ++ [.two "post" (sN i), .two "wait" (sN i)] := by
  unfold sigSteps
  rw [List.range_succ, List.flatMap_append] <;> simp
theorem sigSteps_len (i : Nat) : (sigSteps i).length = 2 * i := by
  induction i with
  | zero => rfl
  | succ i ih =>
    rw [sigSteps_succ, List.length_append, ih]
    show _ + 2 = _
    omega
theorem set_flat {α : Type} : ∀ {sl : List (List α)} {j : Nat} {l : List α} {s : α}, sl[j]? = some l → (sl.set j (l ++ [s])).flatten.Perm (sl.flatten ++ [s])
  | x :: sl, 0, l, s, h => by
    cases h
    rw [List.set_cons_zero, List.flatten_cons, List.flatten_cons, List.append_assoc, List.append_assoc]
    exact List.Perm.append_left _ List.perm_append_comm
  | x :: sl, j + 1, l, s, h => by
    rw [List.set_cons_succ, List.flatten_cons, List.flatten_cons, List.append_assoc]
    exact List.Perm.append_left _ (set_flat (j := j) h)
def SigA (i : Nat) (p : Prt) : Prop := ∃ t, p = .sig (sN i) t ∧ 0 ≤ t ∧ t ≤ 3
def AgA (vps : List Prt) (l : List Stp) (i : Nat) (p : Prt) : Prop := ∃ k ss ex, p = .ag k (aN i) ss ∧ k < 3 ∧ ss.Perm (l ++ ex) ∧ 1 ≤ ex.length ∧ ex.length ≤ 4 ∧ ∀ s ∈ ex, FiveOk k vps s
theorem names_map {f : Nat → Str} {N : List Str} {d : Str} {ps : List Prt} (hl : ps.length ≤ N.length) (h : ∀ (i : Nat) (p : Prt), ps[i]? = some p → p.n = N.getD i d) : ps.map Prt.n = N.take ps.length := by
  refine List.ext_getElem? fun i => ?_
  by_cases hi : i < ps.length
  · rw [List.getElem?_take_of_lt hi, List.getElem?_map, List.getElem?_eq_getElem hi, List.getElem?_eq_getElem (by omega)]
    have := h i _ (List.getElem?_eq_getElem hi)
    rw [List.getD_eq_getElem?_getD, List.getElem?_eq_getElem (by omega)] at this
    exact congrArg some this
  · rw [List.getElem?_eq_none (by rw [List.length_map]; omega), List.getElem?_eq_none (by rw [List.length_take]; omega)]
theorem ofC_nil {k : Nat} {ps : List Prt} (h : ∀ p ∈ ps, p.cl ≠ k) : ofC k ps = [] := by
  unfold ofC
  exact List.filter_eq_nil_iff.mpr fun p hp e => h p hp (beq_iff_eq.mp e)
theorem ofC_app (k : Nat) (a b : List Prt) : ofC k (a ++ b) = ofC k a ++ ofC k b := by unfold ofC; rw [List.filter_append]
theorem five_ne {k : Nat} {vps : List Prt} {s : Stp} (h : FiveOk k vps s) (w n : Str) : s ≠ .two w n := by
  obtain ⟨_, _, w2, n2, a, b, c, d, e, rfl, _⟩ := h
  exact fun h => nomatch h
theorem goodItems {slots free : Int} {vps sps aps : List Prt} {sl : List (List Stp)} (hv : VarsA slots free vps) (hf : free ≤ 1024) (hs4 : slots ≤ 4) (v3 : vps.length ≤ 3)
    (s6 : sps.length ≤ 6) (hs' : ∀ (i : Nat) (p : Prt), sps[i]? = some p → SigA i p) (a4 : aps.length ≤ 4) (hal : aps.length = sl.length) (ha : ∀ (i : Nat) (p : Prt) (l : List Stp), aps[i]? = some p → sl[i]? = some l → AgA vps l i p)
    (hp : sl.flatten.Perm (sigSteps sps.length)) : GoodN slots (vps ++ sps ++ aps) ∧ ∀ p ∈ vps ++ sps ++ aps, apartP p := by
  have mv : ∀ p ∈ vps, ∃ i, i < 3 ∧ VarA slots 0 free i p := fun p h => by
    obtain ⟨i, hi⟩ := List.getElem?_of_mem h
    exact ⟨i, by have := (List.getElem?_eq_some_iff.mp hi).1; omega, hv.each i p hi⟩
  have ms : ∀ p ∈ sps, ∃ i, i < sps.length ∧ SigA i p ∧ sps[i]? = some p := fun p h => by
    obtain ⟨i, hi⟩ := List.getElem?_of_mem h
    exact ⟨i, (List.getElem?_eq_some_iff.mp hi).1, hs' i p hi, hi⟩
  have ma : ∀ p ∈ aps, ∃ i l, i < 4 ∧ sl[i]? = some l ∧ AgA vps l i p := fun p h => by
    obtain ⟨i, hi⟩ := List.getElem?_of_mem h
    have hl := (List.getElem?_eq_some_iff.mp hi).1
    have e := List.getElem?_eq_getElem (show i < sl.length by omega)
    exact ⟨i, _, by omega, e, ha i p _ hi e⟩
  have inl : ∀ {l : List Stp} {i : Nat}, sl[i]? = some l → ∀ s ∈ l, ∃ j w, j < sps.length ∧ s = .two w (sN j) ∧ w ∈ (["post", "wait"] : List Str) := fun {l i} h s hm => by
    refine sigSteps_mem (ns := sps.length) (hp.mem_iff.mp (List.mem_flatten.mpr ⟨l, List.mem_of_getElem? h, hm⟩))
  have lenl : ∀ {l : List Stp} {i : Nat}, sl[i]? = some l → l.length ≤ 12 := fun {l i} h => by
    have h1 := hp.length_eq
    rw [sigSteps_len] at h1
    have h2 : l.length ≤ sl.flatten.length := (List.sublist_flatten_of_mem (List.mem_of_getElem? h)).length_le
    omega
  have cv : ∀ p ∈ vps, p.cl = 2 := fun p h => by obtain ⟨_, _, b, as, rfl, _⟩ := mv p h; rfl
  have cS : ∀ p ∈ sps, p.cl = 1 := fun p h => by obtain ⟨_, _, ⟨t, rfl, _⟩, _⟩ := ms p h; rfl
  have ca : ∀ p ∈ aps, p.cl = 0 := fun p h => by obtain ⟨_, _, _, _, k, ss, ex, rfl, _⟩ := ma p h; rfl
  have varIn : ∀ {n b as}, Prt.var n b as ∈ vps ++ sps ++ aps → Prt.var n b as ∈ vps := fun {n b as} h => by
    rcases List.mem_append.mp h with h | h
    · rcases List.mem_append.mp h with h | h
      · exact h
      · exact absurd (cS _ h) (by show (2 : Nat) ≠ 1; decide)
    · exact absurd (ca _ h) (by show (2 : Nat) ≠ 0; decide)
  have agIn : ∀ {k n ss}, Prt.ag k n ss ∈ vps ++ sps ++ aps → Prt.ag k n ss ∈ aps := fun {n b as} h => by
    rcases List.mem_append.mp h with h | h
    · rcases List.mem_append.mp h with h | h
      · exact absurd (cv _ h) (by show (0 : Nat) ≠ 2; decide)
      · exact absurd (cS _ h) (by show (0 : Nat) ≠ 1; decide)
    · exact h
  have sigIn : ∀ {n t}, Prt.sig n t ∈ vps ++ sps ++ aps → Prt.sig n t ∈ sps := fun {n b} h => by
    rcases List.mem_append.mp h with h | h
    · rcases List.mem_append.mp h with h | h
      · exact absurd (cv _ h) (by show (1 : Nat) ≠ 2; decide)
      · exact h
    · exact absurd (ca _ h) (by show (1 : Nat) ≠ 0; decide)
  have e0 : ofC 0 (vps ++ sps ++ aps) = ofC 0 aps := by
    rw [ofC_app, ofC_app, ofC_nil (k := 0) (ps := vps) fun p h => by rw [cv p h]; decide, ofC_nil (k := 0) (ps := sps) fun p h => by rw [cS p h]; decide] <;> rfl
  have e0' : ofC 0 aps = aps := List.filter_eq_self.mpr fun p h => beq_iff_eq.mpr (ca p h)
  have e1 : ofC 1 (vps ++ sps ++ aps) = ofC 1 sps := by
    rw [ofC_app, ofC_app, ofC_nil (k := 1) (ps := vps) fun p h => by rw [cv p h]; decide, ofC_nil (k := 1) (ps := aps) fun p h => by rw [ca p h]; decide, List.append_nil] <;> rfl
  have e2 : ofC 2 (vps ++ sps ++ aps) = ofC 2 vps := by
    rw [ofC_app, ofC_app, ofC_nil (k := 2) (ps := sps) fun p h => by rw [cS p h]; decide, ofC_nil (k := 2) (ps := aps) fun p h => by rw [ca p h]; decide, List.append_nil, List.append_nil]
  refine ⟨?_, fun p h => ?_⟩
  · constructor
    · intro p h
      rcases List.mem_append.mp h with h | h
      · rcases List.mem_append.mp h with h | h
        · obtain ⟨i, hi, b, as, rfl, b1, b8, l1, ls, hr, _⟩ := mv p h
          exact ⟨vN_ok i hi, b1, b8, l1, by rcases ls with e | e <;> omega, fun a h => by have := hr a h; omega⟩
        · obtain ⟨i, hi, ⟨t, rfl, t0, t3⟩, _⟩ := ms p h
          exact ⟨sN_ok i (by omega), t0, t3⟩
      · obtain ⟨i, l, hi, hl, k, ss, ex, rfl, hk, hpm, x1, x4, hx⟩ := ma p h
        have hlen := hpm.length_eq
        rw [List.length_append] at hlen
        have := lenl hl
        refine ⟨aN_ok i hi, hk, by omega, by omega, fun s hs => ?_⟩
        rcases List.mem_append.mp (hpm.mem_iff.mp hs) with h | h
        · obtain ⟨j, w, hj, rfl, hw⟩ := inl hl s h
          refine ⟨?_, ?_⟩
          · show (nameOk (sN j) && decide (w ∈ (["post", "wait"] : List Str))) = true
            rw [sN_ok j (by omega), decide_eq_true hw] <;> rfl
          · show w ∈ mayK k
            have z : ∀ w ∈ (["post", "wait"] : List Str), w ∈ wordsA := by decide +kernel
            unfold mayK
            split
            · exact z w hw
            · exact List.mem_append_left _ (z w hw)
        · exact ⟨(hx s h).1, (hx s h).2.1⟩
    · have n1 : vps.map Prt.n = vNs.take vps.length := names_map (f := vN) (d := "va") v3 fun i p h => by obtain ⟨b, as, rfl, _⟩ := hv.each i p h; rfl
      have n2 : sps.map Prt.n = sNs.take sps.length := names_map (f := sN) (d := "sa") s6 fun i p h => by obtain ⟨t, rfl, _⟩ := hs' i p h; rfl
      have n3 : aps.map Prt.n = aNs.take aps.length := names_map (f := aN) (d := "aa") a4 fun i p h => by
        obtain ⟨k, ss, ex, rfl, _⟩ := ha i p _ h (List.getElem?_eq_getElem (show i < sl.length by have := (List.getElem?_eq_some_iff.mp h).1; omega))
        rfl
      rw [List.map_append, List.map_append, n1, n2, n3]
      have nd : (vNs ++ sNs ++ aNs).Nodup := by decide +kernel
      exact List.Nodup.sublist (((List.take_sublist _ _).append (List.take_sublist _ _)).append (List.take_sublist _ _)) nd
    · rw [e0, e0']; exact a4
    · rw [e1]; exact Nat.le_trans (ofC_le 1 sps) s6
    · rw [e2]; exact Nat.le_trans (ofC_le 2 vps) (by omega)
    · intro n b as h
      obtain ⟨i, hi, b2, as2, e, _, _, _, ls, _⟩ := mv _ (varIn h)
      cases e
      exact ls
    · have nb : ∀ p ∈ sps, p.bytes = [] := fun p h => by obtain ⟨_, _, ⟨t, rfl, _⟩, _⟩ := ms p h; rfl
      have na : ∀ p ∈ aps, p.bytes = [] := fun p h => by obtain ⟨_, _, _, _, k, ss, ex, rfl, _⟩ := ma p h; rfl
      have tr : ∀ {ps : List Prt}, (∀ p ∈ ps, p.bytes = []) → ps.Pairwise disjP := fun {ps} h => by
        refine List.pairwise_iff_getElem.mpr fun i j hi hj _ x hx => ?_
        rw [h _ (List.getElem_mem hi)] at hx
        cases hx
      refine List.pairwise_append.mpr ⟨List.pairwise_append.mpr ⟨hv.dis, tr nb, fun p _ q hq x _ hx => ?_⟩, tr na, fun p _ q hq x _ hx => ?_⟩
      · rw [nb q hq] at hx; cases hx
      · rw [na q hq] at hx; cases hx
    · intro k n ss h s hs
      obtain ⟨i, l, hi, hl, k2, ss2, ex, e, hk, hpm, x1, x4, hx⟩ := ma _ (agIn h)
      cases e
      rcases List.mem_append.mp (hpm.mem_iff.mp hs) with h | h
      · obtain ⟨j, w, hj, rfl, hw⟩ := inl hl s h
        obtain ⟨t, et, _⟩ := hs' j _ (List.getElem?_eq_getElem hj)
        exact ⟨t, List.mem_append_left _ (List.mem_append_right _ (by rw [← et]; exact List.getElem_mem hj))⟩
      · obtain ⟨_, _, w, n2, sh, f, la, b, as, rfl, hm, hlb⟩ := hx s h
        exact ⟨b, as, List.mem_append_left _ (List.mem_append_left _ hm), hlb⟩
    · intro n t h
      obtain ⟨i, hi, ⟨t2, e, _⟩, _⟩ := ms _ (sigIn h)
      cases e
      have cnt : ∀ w n, (allSs (vps ++ sps ++ aps)).count (.two w n) = (sigSteps sps.length).count (.two w n) := fun w n => by
        rw [← hp.count_eq, List.count_flatten]
        unfold allSs
        rw [e0, e0', List.count_flatMap]
        congr 1
        refine List.ext_getElem (by rw [List.length_map, List.length_map, hal]) fun i h1 h2 => ?_
        rw [List.length_map] at h1 h2
        rw [List.getElem_map, List.getElem_map]
        obtain ⟨k, ss, ex, e, _, hpm, _, _, hx⟩ := ha i _ _ (List.getElem?_eq_getElem h1) (List.getElem?_eq_getElem h2)
        show (aps[i].ss).count _ = _
        rw [e]
        show ss.count _ = _
        have z : ex.count (.two w n) = 0 := List.count_eq_zero.mpr fun hm => five_ne (hx _ hm) w n rfl
        rw [hpm.count_eq, List.count_append, z, Nat.add_zero]
      rw [cnt, cnt]
      exact sigSteps_count _ s6 i hi
  · rcases List.mem_append.mp h with h | h
    · rcases List.mem_append.mp h with h | h
      · obtain ⟨i, hi, b, as, rfl, _, _, _, _, _, hpw⟩ := mv p h
        exact apart_of hpw
      · obtain ⟨_, _, ⟨t, rfl, _⟩, _⟩ := ms p h
        trivial
    · obtain ⟨_, _, _, _, k, ss, ex, rfl, _⟩ := ma p h
      trivial
end Uk

/-! UkNJ: the heap while items are drawn -/
namespace Uk
open PySem PySem.Spec PyProof.Rows L2 StX

theorem vN_cat : ∀ k, k < 3 → ∃ c, atI ("abc" : Str).cps.toList ((k : Nat) : Int) = some c ∧ ("v" : Str) ++ ⟨#[c]⟩ = vN k
  | 0, _ => ⟨97, by decide +kernel, by decide +kernel⟩
  | 1, _ => ⟨98, by decide +kernel, by decide +kernel⟩
  | 2, _ => ⟨99, by decide +kernel, by decide +kernel⟩
theorem sN_cat : ∀ k, k < 6 → ∃ c, atI ("abcdef" : Str).cps.toList ((k : Nat) : Int) = some c ∧ ("s" : Str) ++ ⟨#[c]⟩ = sN k
  | 0, _ => ⟨97, by decide +kernel, by decide +kernel⟩
  | 1, _ => ⟨98, by decide +kernel, by decide +kernel⟩
  | 2, _ => ⟨99, by decide +kernel, by decide +kernel⟩
  | 3, _ => ⟨100, by decide +kernel, by decide +kernel⟩
  | 4, _ => ⟨101, by decide +kernel, by decide +kernel⟩
  | 5, _ => ⟨102, by decide +kernel, by decide +kernel⟩
theorem aN_cat : ∀ k, k < 4 → ∃ c, atI ("abcd" : Str).cps.toList ((k : Nat) : Int) = some c ∧ ("a" : Str) ++ ⟨#[c]⟩ = aN k
  | 0, _ => ⟨97, by decide +kernel, by decide +kernel⟩
  | 1, _ => ⟨98, by decide +kernel, by decide +kernel⟩
  | 2, _ => ⟨99, by decide +kernel, by decide +kernel⟩
  | 3, _ => ⟨100, by decide +kernel, by decide +kernel⟩
/-- what does not change while items are drawn -/
structure LF (p c : Addr) (H0 : Hp) (I : Addr) (sa : List Addr) : Prop where
  ip : I ≠ p
  ic : I ≠ c
  i0 : H0 I = none
  isa : I ∉ sa
  psa : p ∉ sa
  csa : c ∉ sa
  nd : sa.Nodup
  s0 : ∀ s ∈ sa, H0 s = none
structure LI (K : PySem.W.Frag) (p c : Addr) (H0 : Hp) (I G V0 : Addr) (sa : List Addr) (vxs : List V) (vps : List Prt) (H : Hp) (m : Int) (xs : List V) (qs : List Prt) (sl : List (List Stp)) : Prop where
  s : Same (Off p H0) (Off p H)
  P : Pen H p c m
  hI : H I = some (.lst xs)
  its : ItmsV K (OffL (p :: I :: sa) H) xs qs
  hG : OffL (p :: I :: sa) H G = some (.lst (sa.map V.ref))
  hV : OffL (p :: I :: sa) H V0 = some (.lst vxs)
  hvs : ItmsV K (OffL (p :: I :: sa) H) vxs vps
  sll : sl.length = sa.length
  hsl : ∀ (j : Nat) (s : Addr) (l : List Stp), sa[j]? = some s → sl[j]? = some l → ∃ gs, H s = some (.lst gs) ∧ StpsV K (OffL (p :: I :: sa) H) gs l
section
variable {K : PySem.W.Frag} {p c : Addr} {H0 : Hp} {I G V0 : Addr} {sa : List Addr} {vxs : List V} {vps : List Prt} {H H' : Hp} {m n : Int} {xs : List V} {qs : List Prt} {sl : List (List Stp)}
theorem LI.le (h : LI K p c H0 I G V0 sa vxs vps H m xs qs sl) (e : m ≤ n) : LI K p c H0 I G V0 sa vxs vps H n xs qs sl := { h with P := h.P.mono e }
theorem LI.to {ps : List Prt} (h : LI K p c H0 I G V0 sa vxs vps H m xs qs sl) (e : qs = ps) : LI K p c H0 I G V0 sa vxs vps H m xs ps sl := e ▸ h
theorem LI.draw (F : LF p c H0 I sa) (h : LI K p c H0 I G V0 sa vxs vps H m xs qs sl) (s : Same (Off p H) (Off p H')) (P : Pen H' p c n) : LI K p c H0 I G V0 sa vxs vps H' n xs qs sl where
  s := same_trans h.s s
  P := P
  hI := Off.at (s _ _ (Off.of h.hI F.ip))
  its := itmsV_mono (OffL.off (List.mem_cons_self ..) s) h.its
  hG := OffL.off (List.mem_cons_self ..) s _ _ h.hG
  hV := OffL.off (List.mem_cons_self ..) s _ _ h.hV
  hvs := itmsV_mono (OffL.off (List.mem_cons_self ..) s) h.hvs
  sll := h.sll
  hsl j a l h1 h2 := let ⟨gs, e, q⟩ := h.hsl j a l h1 h2; ⟨gs, Off.at (s _ _ (Off.of e (fun z => F.psa (z ▸ List.mem_of_getElem? h1)))), stpsV_mono (OffL.off (List.mem_cons_self ..) s) q⟩
theorem LI.new (h : LI K p c H0 I G V0 sa vxs vps H m xs qs sl) (s : Same H H') : LI K p c H0 I G V0 sa vxs vps H' m xs qs sl where
  s := same_trans h.s (Off.same s)
  P := h.P.same s
  hI := s _ _ h.hI
  its := itmsV_mono (OffL.same s) h.its
  hG := OffL.same s _ _ h.hG
  hV := OffL.same s _ _ h.hV
  hvs := itmsV_mono (OffL.same s) h.hvs
  sll := h.sll
  hsl j a l h1 h2 := let ⟨gs, e, q⟩ := h.hsl j a l h1 h2; ⟨gs, s _ _ e, stpsV_mono (OffL.same s) q⟩
theorem LI.put (F : LF p c H0 I sa) (h : LI K p c H0 I G V0 sa vxs vps H m xs qs sl) {v : V} {r : Prt} (hv : ItmV K (OffL (p :: I :: sa) H) v r) : LI K p c H0 I G V0 sa vxs vps (upd H I (.lst (xs ++ [v]))) m (xs ++ [v]) (qs ++ [r]) sl := by
  have S := OffL.chg (S := p :: I :: sa) (H := H) (o := .lst (xs ++ [v])) (List.mem_cons_of_mem _ (List.mem_cons_self (a := I) (l := sa)))
  exact {
    s := offP_upd h.s F.i0
    P := h.P.upd F.ip F.ic
    hI := upd_same
    its := itmsV_app (itmsV_mono S h.its) (.cons (itmV_mono S hv) .nil)
    hG := S _ _ h.hG
    hV := S _ _ h.hV
    hvs := itmsV_mono S h.hvs
    sll := h.sll
    hsl := fun j a l h1 h2 => let ⟨gs, e, q⟩ := h.hsl j a l h1 h2; ⟨gs, (upd_ne (fun z : a = I => F.isa (by rw [← z]; exact List.mem_of_getElem? h1))).trans e, stpsV_mono S q⟩ }
theorem LI.add (F : LF p c H0 I sa) (h : LI K p c H0 I G V0 sa vxs vps H m xs qs sl) {j : Nat} {a : Addr} {l : List Stp} {gs : List V} {v : V} {st : Stp} (ha : sa[j]? = some a) (hl : sl[j]? = some l) (hg : H a = some (.lst gs)) (hq : StpsV K (OffL (p :: I :: sa) H) gs l) (hv : StpV K (OffL (p :: I :: sa) H) v st) :
    LI K p c H0 I G V0 sa vxs vps (upd H a (.lst (gs ++ [v]))) m xs qs (sl.set j (l ++ [st])) := by
  have hm := List.mem_of_getElem? ha
  have S := OffL.chg (S := p :: I :: sa) (H := H) (o := .lst (gs ++ [v])) (List.mem_cons_of_mem p (List.mem_cons_of_mem I hm))
  exact {
    s := offP_upd h.s (F.s0 a hm)
    P := h.P.upd (fun z => F.psa (z ▸ hm)) (fun z => F.csa (z ▸ hm))
    hI := (upd_ne (fun z : I = a => F.isa (by rw [z]; exact hm))).trans h.hI
    its := itmsV_mono S h.its
    hG := S _ _ h.hG
    hV := S _ _ h.hV
    hvs := itmsV_mono S h.hvs
    sll := by rw [List.length_set]; exact h.sll
    hsl := fun j2 a2 l2 h1 h2 => by
      by_cases e : j2 = j
      · subst e
        rw [ha] at h1
        cases h1
        rw [List.getElem?_set_self (List.getElem?_eq_some_iff.mp hl).1] at h2
        cases h2
        exact ⟨_, upd_same, stpsV_app (stpsV_mono S hq) (.cons (stpV_mono S hv) .nil)⟩
      · rw [List.getElem?_set_ne (fun z => e z.symm)] at h2
        obtain ⟨gs2, e2, q2⟩ := h.hsl j2 a2 l2 h1 h2
        have na : a2 ≠ a := fun z => by
          subst z
          have x1 := (List.getElem?_eq_some_iff.mp h1)
          have x2 := (List.getElem?_eq_some_iff.mp ha)
          exact e ((List.getElem_inj (h₀ := x1.1) (h₁ := x2.1) F.nd).mp (x1.2.trans x2.2.symm))
        exact ⟨gs2, (upd_ne na).trans e2, stpsV_mono S q2⟩ }
/-- a list of this many, all lists -/
theorem LI.lsts (h : LI K p c H0 I G V0 sa vxs vps H m xs qs sl) : ∀ a ∈ p :: I :: sa, ∃ ys, H a = some (.lst ys) := fun a ha => by
  rcases List.mem_cons.mp ha with rfl | ha
  · obtain ⟨b, l, ns, e, _⟩ := h.P
    exact ⟨_, e⟩
  rcases List.mem_cons.mp ha with rfl | ha
  · exact ⟨_, h.hI⟩
  obtain ⟨j, hj⟩ := List.getElem?_of_mem ha
  have hl := List.getElem?_eq_getElem (show j < sl.length by rw [h.sll]; exact (List.getElem?_eq_some_iff.mp hj).1)
  obtain ⟨gs, e, _⟩ := h.hsl j a _ hj hl
  exact ⟨gs, e⟩
theorem LI.notIn (h : LI K p c H0 I G V0 sa vxs vps H m xs qs sl) {z : Addr} (hz : H z = none) : z ∉ p :: I :: sa := fun hm => by
  obtain ⟨ys, e⟩ := h.lsts z hm
  rw [hz] at e
  cases e
/-- a new object -/
theorem LI.obj (h : LI K p c H0 I G V0 sa vxs vps H m xs qs sl) {z : Addr} {o : HO} (hz : H z = none) : OffL (p :: I :: sa) (upd H z o) z = some o := OffL.of upd_same (h.notIn hz)
end
end Uk

/-! UkNK: nets beside a pen, parts beside a list -/
namespace Uk
open PySem PySem.Spec PyProof.Rows L2 StX

section
variable {c : PCs} {K : PySem.W.Frag} {H : Hp}
theorem stpsV_lst {D : Addr} {ys zs : List V} (hD : H D = some (.lst ys)) : ∀ {vs : List V} {ss : List Stp}, StpsV K H vs ss → StpsV K (upd H D (.lst zs)) vs ss
  | [], [], _ => .nil
  | _ :: _, _ :: _, .cons ⟨t, e, q⟩ r => .cons ⟨t, e, sqT_lst hD q⟩ (stpsV_lst hD r)
theorem prtA_lst {D : Addr} {ys zs : List V} (hD : H D = some (.lst ys)) {x : Addr} : ∀ {p : Prt}, PrtA c K H x p → PrtA c K (upd H D (.lst zs)) x p
  | .var _ _ _, ⟨dx, pa, q, h, h1, h2⟩ => ⟨dx, pa, q, (upd_ne (ne_of h hD (fun z => nomatch z))).trans h, (upd_ne (ne_of h1 hD (fun z => nomatch z))).trans h1, (upd_ne (ne_of h2 hD (fun z => nomatch z))).trans h2⟩
  | .sig _ _, ⟨dx, h⟩ => ⟨dx, (upd_ne (ne_of h hD (fun z => nomatch z))).trans h⟩
  | .ag _ _ _, ⟨dx, pa, q, vs, h, h1, h2, h3, hk⟩ => ⟨dx, pa, q, vs, (upd_ne (ne_of h hD (fun z => nomatch z))).trans h, (upd_ne (ne_of h1 hD (fun z => nomatch z))).trans h1, stpsV_lst hD h2, (upd_ne (ne_of h3 hD (fun z => nomatch z))).trans h3, hk⟩
theorem prtsA_lst {D : Addr} {ys zs : List V} (hD : H D = some (.lst ys)) : ∀ {xs : List Addr} {ps : List Prt}, PrtsA c K H xs ps → PrtsA c K (upd H D (.lst zs)) xs ps
  | [], [], _ => .nil
  | _ :: _, _ :: _, .cons a r => .cons (prtA_lst hD a) (prtsA_lst hD r)
/-! ### beside a pen -/
section
variable {p pc : Addr} {m : Int}
theorem pen_lst (P : Pen H p pc m) : ∃ b l : Int, H p = some (.lst [.ref pc, .int b, .int l]) := by
  obtain ⟨b, l, ns, h, _⟩ := P
  exact ⟨b, l, h⟩
theorem off_at (P : Pen H p pc m) {a : Addr} {o : HO} (h : H a = some o) (n : ∀ xs, o ≠ .lst xs) : Off p H a = some o := Off.of h fun e => by
  obtain ⟨b, l, z⟩ := pen_lst P
  rw [e, z] at h
  cases h
  exact n _ rfl
theorem sqT_offP (P : Pen H p pc m) {a : Addr} {xs : List V} (h : SqT K H a xs) : SqT K (Off p H) a xs := by
  rcases h with (h | ⟨o, h⟩) | h
  · exact .inl (.inl (off_at P h (fun _ z => nomatch z)))
  · exact .inl (.inr ⟨o, off_at P h (fun _ z => nomatch z)⟩)
  · exact .inr h
theorem stpsV_offP (P : Pen H p pc m) : ∀ {vs : List V} {ss : List Stp}, StpsV K H vs ss → StpsV K (Off p H) vs ss
  | [], [], _ => .nil
  | _ :: _, _ :: _, .cons ⟨t, e, q⟩ r => .cons ⟨t, e, sqT_offP P q⟩ (stpsV_offP P r)
theorem prtA_off (P : Pen H p pc m) {x : Addr} : ∀ {r : Prt}, PrtA c K H x r → PrtA c K (Off p H) x r
  | .var _ _ _, ⟨dx, pa, q, h, h1, h2⟩ => ⟨dx, pa, q, off_at P h (fun _ z => nomatch z), off_at P h1 (fun _ z => nomatch z), off_at P h2 (fun _ z => nomatch z)⟩
  | .sig _ _, ⟨dx, h⟩ => ⟨dx, off_at P h (fun _ z => nomatch z)⟩
  | .ag _ _ _, ⟨dx, pa, q, vs, h, h1, h2, h3, hk⟩ => ⟨dx, pa, q, vs, off_at P h (fun _ z => nomatch z), off_at P h1 (fun _ z => nomatch z), stpsV_offP P h2, off_at P h3 (fun _ z => nomatch z), hk⟩
theorem prtsA_off (P : Pen H p pc m) : ∀ {xs : List Addr} {ps : List Prt}, PrtsA c K H xs ps → PrtsA c K (Off p H) xs ps
  | [], [], _ => .nil
  | _ :: _, _ :: _, .cons a r => .cons (prtA_off P a) (prtsA_off P r)
theorem rowsV_offP (P : Pen H p pc m) {l : Addr} {f : Nat → List Int} {ring : Int} (h : RowsV K H l f ring) : RowsV K (Off p H) l f ring := by
  obtain ⟨ts, a, b, d⟩ := h
  refine ⟨ts, Off.of a (fun e => ?_), b, fun r t e => sqT_offP P (d r t e)⟩
  obtain ⟨b, l, z⟩ := pen_lst P
  rw [e, z] at a
  match ts, a with
  | [], a => cases a
  | [_], a => cases a
  | _ :: _ :: _, a => injection a with a; injection a with a; injection a with _ a; injection a with a _; cases a
theorem tabV_offP (P : Pen H p pc m) {ls : List Addr} {qs : List (Nat × Nat)} {f : Nat × Nat → Nat → List Int} {ring : Int} (h : TabV K H ls qs f ring) : TabV K (Off p H) ls qs f ring := ⟨h.1, fun i l q a b => rowsV_offP P (h.2 i l q a b)⟩
theorem NetA.off {NC : Addr} {x : Addr} {line ring : Int} {xs : List Addr} {ps : List Prt} (P : Pen H p pc m) (h : NetA NC c K H x line ring xs ps) : NetA NC c K (Off p H) x line ring xs ps := by
  obtain ⟨dx, pv, pg, pa, sh, bn, ba, la, a, b⟩ := h
  refine ⟨dx, pv, pg, pa, sh, bn, ba, la, off_at P a (fun _ z => nomatch z), prtsA_off P b.prts, off_at P b.hv (fun _ z => nomatch z), off_at P b.hg (fun _ z => nomatch z), off_at P b.ha (fun _ z => nomatch z), off_at P b.hs (fun _ z => nomatch z), off_at P b.hn (fun _ z => nomatch z), ?_, ?_⟩
  · obtain ⟨ls, e, t⟩ := b.hb
    exact ⟨ls, off_at P e (fun _ z => nomatch z), tabV_offP P t⟩
  · obtain ⟨ls, e, t⟩ := b.hl
    exact ⟨ls, off_at P e (fun _ z => nomatch z), tabV_offP P t⟩
end
end
def itmW : Nat → Str
  | 0 => "agent"
  | 1 => "sig"
  | _ => "var"
theorem itmV_cl {K : PySem.W.Frag} {H : Hp} {v : V} : ∀ {p : Prt}, ItmV K H v p → ∃ t xs, v = .ref t ∧ H t = some (.tup xs) ∧ atI xs 0 = some (.str (itmW p.cl))
  | .var _ _ _, ⟨t, l, a, b, c⟩ => ⟨t, _, a, b, rfl⟩
  | .sig _ _, ⟨t, a, b⟩ => ⟨t, _, a, b, rfl⟩
  | .ag _ _ _, ⟨t, l, vs, a, b, c, d⟩ => ⟨t, _, a, b, rfl⟩
theorem ofC_snoc {k i : Nat} {ps : List Prt} {r : Prt} (h : ps[i]? = some r) : ofC k (ps.take (i + 1)) = ofC k (ps.take i) ++ (if (r.cl == k) = true then [r] else []) := by
  unfold ofC
  rw [List.take_add_one, h, List.filter_append]
  congr 1
  by_cases e : (r.cl == k) = true
  · rw [if_pos e]
    show List.filter _ [r] = _
    rw [List.filter_cons, if_pos e] <;> rfl
  · rw [if_neg e]
    show List.filter _ [r] = _
    rw [List.filter_cons, if_neg e] <;> rfl
theorem prtsA_snoc {c : PCs} {K : PySem.W.Frag} {H : Hp} {xs : List Addr} {ps : List Prt} {i : Nat} {x : Addr} {r : Prt} (h : PrtsA c K H xs (ps.take i)) (hr : ps[i]? = some r) (hx : PrtA c K H x r) : PrtsA c K H (xs ++ [x]) (ps.take (i + 1)) := by
  rw [List.take_add_one, hr]
  exact prtsA_app h (.cons hx .nil)
theorem goodN_nil {ring : Int} : GoodN ring [] := ⟨(fun _ h => nomatch h), List.nodup_nil, Nat.zero_le _, Nat.zero_le _, Nat.zero_le _, (fun _ _ _ h => nomatch h), .nil, (fun _ _ _ h => nomatch h), (fun _ _ h => nomatch h)⟩
end Uk

/-! UkNL: the bytes of a step, reckoned otherwise -/
namespace Uk
open PySem PySem.Spec PyProof.Rows L2 StX

theorem sqT_ty {K : PySem.W.Frag} {H : Hp} {t : Addr} {xs : List V} (h : SqT K H t xs) : TyX K H (.ref t) (.type "tuple") := by
  rcases h with (h | ⟨o, h⟩) | ⟨o, its, n, h, c, _⟩
  · exact .base (.tup h)
  · exact .fTuple h
  · exact .kTuple h c
theorem fmod_same {n sh len ring : Int} (hr1 : 1 ≤ ring) (hr4 : ring ≤ 4) (hl : len = 1 ∨ len = ring) (j : Int) : ((n.fmod ring) + sh).fmod len = (n + sh + 12 * j).fmod len := by
  have h0 : (0 : Int) ≤ len := by omega
  rw [Int.fmod_eq_emod_of_nonneg _ h0, Int.fmod_eq_emod_of_nonneg _ h0, Int.fmod_eq_emod_of_nonneg _ (show (0 : Int) ≤ ring by omega)]
  rcases hl with rfl | rfl
  · omega
  · obtain rfl | rfl | rfl | rfl : len = 1 ∨ len = 2 ∨ len = 3 ∨ len = 4 := by omega
    · omega
    · omega
    · omega
    · omega
/-- the bytes from f to l, drawn out of all of a slot -/
theorem bytes_filter {b f l st : Int} (h0 : 0 ≤ f) (hfl : f ≤ l) (hb : l < b) : ((List.range b.toNat).filter fun (k : Nat) => decide (f ≤ (k : Int)) && decide ((k : Int) ≤ l)).map (fun (k : Nat) => st + (k : Int)) = (List.range (l + 1 - f).toNat).map fun (k : Nat) => st + (f + (k : Int)) := by
  refine asc_uniq ?_ ?_ fun x => ?_
  · refine List.pairwise_map.mpr (List.Pairwise.imp (fun h => ?_) (List.Pairwise.filter _ List.pairwise_lt_range))
    omega
  · refine List.pairwise_map.mpr (List.Pairwise.imp (fun h => ?_) List.pairwise_lt_range)
    omega
  · simp only [List.mem_map, List.mem_filter, List.mem_range, Bool.and_eq_true, decide_eq_true_eq]
    constructor
    · rintro ⟨k, ⟨h1, h2, h3⟩, rfl⟩
      exact ⟨((k : Int) - f).toNat, by omega, by omega⟩
    · rintro ⟨k, h1, rfl⟩
      exact ⟨(f + (k : Int)).toNat, ⟨by omega, by omega, by omega⟩, by omega⟩
theorem itmV_both {K : PySem.W.Frag} {H : Hp} {v : V} : ∀ {p : Prt}, ItmV K H v p → ∃ t xs, v = .ref t ∧ H t = some (.tup xs) ∧ atI xs 0 = some (.str (itmW p.cl)) ∧ atI xs 1 = some (.str p.n)
  | .var _ _ _, ⟨t, l, a, b, c⟩ => ⟨t, _, a, b, rfl, rfl⟩
  | .sig _ _, ⟨t, a, b⟩ => ⟨t, _, a, b, rfl, rfl⟩
  | .ag _ _ _, ⟨t, l, vs, a, b, c, d⟩ => ⟨t, _, a, b, rfl, rfl⟩
theorem var_uniq {ps : List Prt} (hn : (ps.map Prt.n).Nodup) {n : Str} {b b2 : Int} {as as2 : List Int} (h : Prt.var n b as ∈ ps) (h2 : Prt.var n b2 as2 ∈ ps) : b = b2 ∧ as = as2 := by
  obtain ⟨i, hi⟩ := List.getElem?_of_mem h
  obtain ⟨j, hj⟩ := List.getElem?_of_mem h2
  rcases Nat.lt_trichotomy i j with l | l | l
  · exact ((nodup_at hn l hi hj) rfl).elim
  · rw [l, hj] at hi
    have := Option.some.inj hi
    cases this
    exact ⟨rfl, rfl⟩
  · exact ((nodup_at hn l hj hi) rfl).elim
theorem inV_intsL (i : Int) : ∀ ms : List Int, inV (.int i) (ms.map V.int) = decide (i ∈ ms)
  | [] => rfl
  | m :: ms => by
    show ((m == i) || inV (.int i) (ms.map V.int)) = _
    rw [inV_intsL i ms]
    by_cases h : m = i
    · subst h
      rw [beq_self_eq_true, Bool.true_or]
      exact (decide_eq_true (List.mem_cons_self ..)).symm
    · rw [beq_eq_false_iff_ne.mpr h, Bool.false_or]
      exact decide_eq_decide.mpr ⟨fun z => List.mem_cons_of_mem _ z, fun z => (List.mem_cons.mp z).resolve_left fun e => h e.symm⟩
theorem flat_intsL (ms : List Int) : (ms.map V.int).all flatV = true := by
  rw [List.all_map]
  exact List.all_eq_true.mpr fun _ _ => rfl
theorem stepB_asc {ps : List Prt} {st : Stp} (r : Nat) : (stepB ps st r).Pairwise (· < ·) := by
  cases st with
  | two w n => exact .nil
  | five w n s f l =>
    refine List.pairwise_map.mpr (List.Pairwise.imp (fun h => ?_) List.pairwise_lt_range)
    omega
theorem fdiv_mono {a b w : Int} (h : a ≤ b) (hw : 1 ≤ w) : a.fdiv w ≤ b.fdiv w := by
  rw [Int.fdiv_eq_ediv_of_nonneg _ (by omega), Int.fdiv_eq_ediv_of_nonneg _ (by omega)]
  exact Int.ediv_le_ediv (by omega) h
/-- the variable that a step names -/
theorem slotsOf_good {ring : Int} {ps : List Prt} (g : GoodN ring ps) {n : Str} {b : Int} {as : List Int} (h : Prt.var n b as ∈ ps) : slotsOf ps n = as := by
  unfold slotsOf
  have hc : Prt.var n b as ∈ ofC 2 ps := List.mem_filter.mpr ⟨h, rfl⟩
  have hd := ofC_names 2 g.nd
  cases e2 : (ofC 2 ps).find? (fun p => p.n == n) with
  | none => exact absurd (beq_self_eq_true n) (List.find?_eq_none.mp e2 _ hc)
  | some r =>
    have hm := List.mem_of_find?_eq_some e2
    have hr : r.n = n := by
      have z := List.find?_some e2
      exact beq_iff_eq.mp z
    obtain ⟨i, hi⟩ := List.getElem?_of_mem hm
    obtain ⟨j, hj⟩ := List.getElem?_of_mem hc
    have : r = .var n b as := by
      rcases Nat.lt_trichotomy i j with h | h | h
      · exact absurd hr (nodup_at hd h hi hj)
      · rw [h, hj] at hi
        exact (Option.some.inj hi).symm
      · exact absurd hr.symm (nodup_at hd h hj hi)
    rw [this]
section
open SeqAt
variable {X : Cx}
/-- two lists of the same things -/
def rEqLs (K : PySem.W.Frag) : R2 := fun x y H Q => ∃ (a b : Addr) (xs : List V), x = .ref a ∧ y = .ref b ∧ SqL K H a xs ∧ SqL K H b xs ∧ (∀ v ∈ xs, idV v = true) ∧ Q (.bl true) H
theorem op_eqLs (hu : X.A.units + 64 < cLine) : OpR X (compareOp .Eq) (rEqLs X.K) := by
  intro pins s σ H x y v u Q I rx ry h
  obtain ⟨a, b, xs, rfl, rfl, ha, hb, hi, q⟩ := h
  cases rx
  cases ry
  obtain ⟨its, r, ⟨o, n, ho, hc, _, hd⟩, _⟩ := I.list ha
  obtain ⟨its2, r2, ⟨o2, n2, ho2, hc2, _, hd2⟩, _⟩ := I.list hb
  have e1 : its.toArray.size = xs.length := by rw [List.size_toArray]; exact r.length.symm
  have e2 : its2.toArray.size = xs.length := by rw [List.size_toArray]; exact r2.length.symm
  refine RcAt.lists (A := X.A) (e := fun _ => true) ⟨o, ho, hc, n, hd⟩ ⟨o2, ho2, hc2, n2, hd2⟩ (by rw [e1, e2]) (by omega) (fun j h1 h2 => eqAt_items r r2 hi j h1 h2) X.prog X.w _ _ ?_
  rw [all_tt]
  exact ⟨.bl true, H, I, rfl, q⟩
/-- two tuples of the same things -/
def rNeTs (K : PySem.W.Frag) : R2 := fun x y H Q => ∃ (a b : Addr) (xs : List V), x = .ref a ∧ y = .ref b ∧ SqT K H a xs ∧ SqT K H b xs ∧ (∀ v ∈ xs, idV v = true) ∧ Q (.bl false) H
theorem op_neTs (hu : X.A.units + 64 < cLine) : OpR X (compareOp .NotEq) (rNeTs X.K) := by
  intro pins s σ H x y v u Q I rx ry h
  obtain ⟨a, b, xs, rfl, rfl, ha, hb, hi, q⟩ := h
  cases rx
  cases ry
  obtain ⟨its, r, ⟨o, ho, hc, n, hd⟩, _⟩ := I.tuple ha
  obtain ⟨its2, r2, ⟨o2, ho2, hc2, n2, hd2⟩, _⟩ := I.tuple hb
  have e1 : its.toArray.size = xs.length := by rw [List.size_toArray]; exact r.length.symm
  have e2 : its2.toArray.size = xs.length := by rw [List.size_toArray]; exact r2.length.symm
  refine RcNeAt.tuples (A := X.A) (e := fun _ => true) ⟨o, ho, hc, n, hd⟩ ⟨o2, ho2, hc2, n2, hd2⟩ (by omega) (fun j h1 h2 => eqAt_items r r2 hi j h1 h2) X.prog X.w _ _ ?_
  rw [all_tt, Bool.true_and, e1, e2, beq_self_eq_true]
  exact ⟨.bl false, H, I, rfl, q⟩
end
end Uk

namespace M12
open PySem PySem.Spec PyProof.Rows L2 StX Uk
abbrev PP := PySem.Challenge.pw_unkeptlines_k12_whole_bytes_of_steps
def topS (i : Nat) : Stmt := PP.main.body.getD i (.Pass ⟨0, 0, 0, 0⟩)
abbrev s__wall : Stmt := topS 0
theorem sc__wall : FnScope ["k"] ["k"] (defScope s__wall) := ⟨rfl, rfl, rfl, by decide +kernel, rfl, by decide +kernel, by decide +kernel⟩
abbrev s_NoPart___init__ : Stmt := inClass (topS 3) 0
theorem sc_NoPart___init__ : ScopeS ["self", "reason", "place"] ["self", "reason", "place"] (defScope s_NoPart___init__) := ⟨rfl, rfl, rfl, by decide +kernel, rfl, by decide +kernel, by decide +kernel, by decide +kernel⟩
abbrev s_NoNet___init__ : Stmt := inClass (topS 4) 0
theorem sc_NoNet___init__ : ScopeS ["self", "reason", "place"] ["self", "reason", "place"] (defScope s_NoNet___init__) := ⟨rfl, rfl, rfl, by decide +kernel, rfl, by decide +kernel, by decide +kernel, by decide +kernel⟩
abbrev s_NoName___init__ : Stmt := inClass (topS 5) 0
theorem sc_NoName___init__ : ScopeS ["self", "name"] ["self", "name"] (defScope s_NoName___init__) := ⟨rfl, rfl, rfl, by decide +kernel, rfl, by decide +kernel, by decide +kernel, by decide +kernel⟩
abbrev s_NoStep___init__ : Stmt := inClass (topS 6) 0
theorem sc_NoStep___init__ : ScopeS ["self", "place"] ["self", "place"] (defScope s_NoStep___init__) := ⟨rfl, rfl, rfl, by decide +kernel, rfl, by decide +kernel, by decide +kernel, by decide +kernel⟩
abbrev s_is_integer : Stmt := topS 10
theorem sc_is_integer : FnScope ["value"] ["value"] (defScope s_is_integer) := ⟨rfl, rfl, rfl, by decide +kernel, rfl, by decide +kernel, by decide +kernel⟩
abbrev s_is_within : Stmt := topS 11
theorem sc_is_within : FnScope ["value", "least", "most"] ["value", "least", "most"] (defScope s_is_within) := ⟨rfl, rfl, rfl, by decide +kernel, rfl, by decide +kernel, by decide +kernel⟩
abbrev s_is_name : Stmt := topS 12
theorem sc_is_name : FnScope ["value", "letter"] ["value"] (defScope s_is_name) := ⟨rfl, rfl, rfl, by decide +kernel, rfl, by decide +kernel, by decide +kernel⟩
abbrev s_is_word : Stmt := topS 21
theorem sc_is_word : FnScope ["value", "words"] ["value", "words"] (defScope s_is_word) := ⟨rfl, rfl, rfl, by decide +kernel, rfl, by decide +kernel, by decide +kernel⟩
abbrev s_is_range : Stmt := topS 22
theorem sc_is_range : FnScope ["first", "last"] ["first", "last"] (defScope s_is_range) := ⟨rfl, rfl, rfl, by decide +kernel, rfl, by decide +kernel, by decide +kernel⟩
abbrev s_is_step : Stmt := topS 23
theorem sc_is_step : FnScope ["value"] ["value"] (defScope s_is_step) := ⟨rfl, rfl, rfl, by decide +kernel, rfl, by decide +kernel, by decide +kernel⟩
abbrev s_Agent___init__ : Stmt := inClass (topS 26) 2
theorem sc_Agent___init__ : FnScope ["self", "name", "steps", "k", "step"] ["self", "name", "steps"] (defScope s_Agent___init__) := ⟨rfl, rfl, rfl, by decide +kernel, rfl, by decide +kernel, by decide +kernel⟩
abbrev s_Agent_made : Stmt := inClass (topS 26) 3
theorem sc_Agent_made : FnScope ["cls", "name", "steps"] ["cls", "name", "steps"] (defScope s_Agent_made) := ⟨rfl, rfl, rfl, by decide +kernel, rfl, by decide +kernel, by decide +kernel⟩
abbrev s_Agent___len__ : Stmt := inClass (topS 26) 4
theorem sc_Agent___len__ : FnScope ["self"] ["self"] (defScope s_Agent___len__) := ⟨rfl, rfl, rfl, by decide +kernel, rfl, by decide +kernel, by decide +kernel⟩
abbrev s_Agent___getitem__ : Stmt := inClass (topS 26) 5
theorem sc_Agent___getitem__ : FnScope ["self", "number"] ["self", "number"] (defScope s_Agent___getitem__) := ⟨rfl, rfl, rfl, by decide +kernel, rfl, by decide +kernel, by decide +kernel⟩
abbrev s_Agent___iter__ : Stmt := inClass (topS 26) 6
theorem sc_Agent___iter__ : FnScope ["self"] ["self"] (defScope s_Agent___iter__) := ⟨rfl, rfl, rfl, by decide +kernel, rfl, by decide +kernel, by decide +kernel⟩
abbrev s_Agent___eq__ : Stmt := inClass (topS 26) 7
theorem sc_Agent___eq__ : FnScope ["self", "other"] ["self", "other"] (defScope s_Agent___eq__) := ⟨rfl, rfl, rfl, by decide +kernel, rfl, by decide +kernel, by decide +kernel⟩
abbrev s_Agent_may : Stmt := inClass (topS 26) 8
theorem sc_Agent_may : FnScope ["self", "word"] ["self", "word"] (defScope s_Agent_may) := ⟨rfl, rfl, rfl, by decide +kernel, rfl, by decide +kernel, by decide +kernel⟩
abbrev s_Agent_with_steps : Stmt := inClass (topS 26) 9
theorem sc_Agent_with_steps : FnScope ["self", "steps"] ["self", "steps"] (defScope s_Agent_with_steps) := ⟨rfl, rfl, rfl, by decide +kernel, rfl, by decide +kernel, by decide +kernel⟩
abbrev s_Through_made : Stmt := inClass (topS 27) 2
theorem sc_Through_made : FnScope ["cls", "name", "steps"] ["cls", "name", "steps"] (defScope s_Through_made) := ⟨rfl, rfl, rfl, by decide +kernel, rfl, by decide +kernel, by decide +kernel⟩
abbrev s_Through_may : Stmt := inClass (topS 27) 3
theorem sc_Through_may : ScopeS ["self", "word"] ["self", "word"] (defScope s_Through_may) := ⟨rfl, rfl, rfl, by decide +kernel, rfl, by decide +kernel, by decide +kernel, by decide +kernel⟩
abbrev s_Through_with_steps : Stmt := inClass (topS 27) 4
theorem sc_Through_with_steps : FnScope ["self", "steps"] ["self", "steps"] (defScope s_Through_with_steps) := ⟨rfl, rfl, rfl, by decide +kernel, rfl, by decide +kernel, by decide +kernel⟩
abbrev s_Back_made : Stmt := inClass (topS 28) 1
theorem sc_Back_made : FnScope ["cls", "name", "steps"] ["cls", "name", "steps"] (defScope s_Back_made) := ⟨rfl, rfl, rfl, by decide +kernel, rfl, by decide +kernel, by decide +kernel⟩
abbrev s_Back_may : Stmt := inClass (topS 28) 2
theorem sc_Back_may : ScopeS ["self", "word"] ["self", "word"] (defScope s_Back_may) := ⟨rfl, rfl, rfl, by decide +kernel, rfl, by decide +kernel, by decide +kernel, by decide +kernel⟩
abbrev s_Back_with_steps : Stmt := inClass (topS 28) 3
theorem sc_Back_with_steps : FnScope ["self", "steps"] ["self", "steps"] (defScope s_Back_with_steps) := ⟨rfl, rfl, rfl, by decide +kernel, rfl, by decide +kernel, by decide +kernel⟩
abbrev s_Signal___init__ : Stmt := inClass (topS 31) 0
theorem sc_Signal___init__ : FnScope ["self", "name", "tokens"] ["self", "name", "tokens"] (defScope s_Signal___init__) := ⟨rfl, rfl, rfl, by decide +kernel, rfl, by decide +kernel, by decide +kernel⟩
abbrev s_Signal___eq__ : Stmt := inClass (topS 31) 1
theorem sc_Signal___eq__ : FnScope ["self", "other"] ["self", "other"] (defScope s_Signal___eq__) := ⟨rfl, rfl, rfl, by decide +kernel, rfl, by decide +kernel, by decide +kernel⟩
abbrev s_lines_of : Stmt := topS 36
theorem sc_lines_of : FnScope ["addresses", "line", "address"] ["addresses", "line"] (defScope s_lines_of) := ⟨rfl, rfl, rfl, by decide +kernel, rfl, by decide +kernel, by decide +kernel⟩
abbrev s_check_slots : Stmt := topS 37
theorem sc_check_slots : FnScope ["size", "at", "k", "address", "earlier"] ["size", "at"] (defScope s_check_slots) := ⟨rfl, rfl, rfl, by decide +kernel, rfl, by decide +kernel, by decide +kernel⟩
abbrev s_Variable___init__ : Stmt := inClass (topS 38) 0
theorem sc_Variable___init__ : FnScope ["self", "name", "size", "at"] ["self", "name", "size", "at"] (defScope s_Variable___init__) := ⟨rfl, rfl, rfl, by decide +kernel, rfl, by decide +kernel, by decide +kernel⟩
abbrev s_Variable_made : Stmt := inClass (topS 38) 1
theorem sc_Variable_made : FnScope ["cls", "name", "size", "at"] ["cls", "name", "size", "at"] (defScope s_Variable_made) := ⟨rfl, rfl, rfl, by decide +kernel, rfl, by decide +kernel, by decide +kernel⟩
abbrev s_Variable___len__ : Stmt := inClass (topS 38) 2
theorem sc_Variable___len__ : FnScope ["self"] ["self"] (defScope s_Variable___len__) := ⟨rfl, rfl, rfl, by decide +kernel, rfl, by decide +kernel, by decide +kernel⟩
abbrev s_Variable___getitem__ : Stmt := inClass (topS 38) 3
theorem sc_Variable___getitem__ : FnScope ["self", "slot"] ["self", "slot"] (defScope s_Variable___getitem__) := ⟨rfl, rfl, rfl, by decide +kernel, rfl, by decide +kernel, by decide +kernel⟩
abbrev s_Variable___iter__ : Stmt := inClass (topS 38) 4
theorem sc_Variable___iter__ : FnScope ["self"] ["self"] (defScope s_Variable___iter__) := ⟨rfl, rfl, rfl, by decide +kernel, rfl, by decide +kernel, by decide +kernel⟩
abbrev s_Variable___eq__ : Stmt := inClass (topS 38) 5
theorem sc_Variable___eq__ : FnScope ["self", "other"] ["self", "other"] (defScope s_Variable___eq__) := ⟨rfl, rfl, rfl, by decide +kernel, rfl, by decide +kernel, by decide +kernel⟩
abbrev s_Variable_all_bytes : Stmt := inClass (topS 38) 6
theorem sc_Variable_all_bytes : FnScope ["self", "address", "k"] ["self"] (defScope s_Variable_all_bytes) := ⟨rfl, rfl, rfl, by decide +kernel, rfl, by decide +kernel, by decide +kernel⟩
abbrev s_of_class : Stmt := topS 43
theorem sc_of_class : FnScope ["parts", "kind", "part"] ["parts", "kind"] (defScope s_of_class) := ⟨rfl, rfl, rfl, by decide +kernel, rfl, by decide +kernel, by decide +kernel⟩
abbrev s_is_too_many : Stmt := topS 44
theorem sc_is_too_many : FnScope ["parts"] ["parts"] (defScope s_is_too_many) := ⟨rfl, rfl, rfl, by decide +kernel, rfl, by decide +kernel, by decide +kernel⟩
abbrev s_check_parts : Stmt := topS 45
theorem sc_check_parts : FnScope ["parts", "k", "part", "earlier"] ["parts"] (defScope s_check_parts) := ⟨rfl, rfl, rfl, by decide +kernel, rfl, by decide +kernel, by decide +kernel⟩
abbrev s_check_variables : Stmt := topS 46
theorem sc_check_variables : FnScope ["parts", "ring", "k", "part", "taken", "address"] ["parts", "ring"] (defScope s_check_variables) := ⟨rfl, rfl, rfl, by decide +kernel, rfl, by decide +kernel, by decide +kernel⟩
abbrev s_fits : Stmt := topS 47
theorem sc_fits : FnScope ["step", "parts", "signal", "sizes", "variable"] ["step", "parts"] (defScope s_fits) := ⟨rfl, rfl, rfl, by decide +kernel, rfl, by decide +kernel, by decide +kernel⟩
abbrev s_check_steps : Stmt := topS 48
theorem sc_check_steps : FnScope ["parts", "a", "agent", "s", "step"] ["parts"] (defScope s_check_steps) := ⟨rfl, rfl, rfl, by decide +kernel, rfl, by decide +kernel, by decide +kernel⟩
abbrev s_check_signals : Stmt := topS 49
theorem sc_check_signals : FnScope ["parts", "steps", "agent", "row", "k", "part"] ["parts"] (defScope s_check_signals) := ⟨rfl, rfl, rfl, by decide +kernel, rfl, by decide +kernel, by decide +kernel⟩
abbrev s_Net___init__ : Stmt := inClass (topS 52) 1
theorem sc_Net___init__ : FnScope ["self", "line", "ring", "parts", "part", "spots", "a", "agent", "s", "place", "some"] ["self", "line", "ring", "parts"] (defScope s_Net___init__) := ⟨rfl, rfl, rfl, by decide +kernel, rfl, by decide +kernel, by decide +kernel⟩
abbrev s_Net_made : Stmt := inClass (topS 52) 2
theorem sc_Net_made : FnScope ["cls", "parts", "line", "ring"] ["cls", "parts", "line", "ring"] (defScope s_Net_made) := ⟨rfl, rfl, rfl, by decide +kernel, rfl, by decide +kernel, by decide +kernel⟩
abbrev s_Net___len__ : Stmt := inClass (topS 52) 3
theorem sc_Net___len__ : FnScope ["self"] ["self"] (defScope s_Net___len__) := ⟨rfl, rfl, rfl, by decide +kernel, rfl, by decide +kernel, by decide +kernel⟩
abbrev s_Net___eq__ : Stmt := inClass (topS 52) 4
theorem sc_Net___eq__ : FnScope ["self", "other"] ["self", "other"] (defScope s_Net___eq__) := ⟨rfl, rfl, rfl, by decide +kernel, rfl, by decide +kernel, by decide +kernel⟩
abbrev s_Net___contains__ : Stmt := inClass (topS 52) 5
theorem sc_Net___contains__ : FnScope ["self", "name"] ["self", "name"] (defScope s_Net___contains__) := ⟨rfl, rfl, rfl, by decide +kernel, rfl, by decide +kernel, by decide +kernel⟩
abbrev s_Net___getitem__ : Stmt := inClass (topS 52) 6
theorem sc_Net___getitem__ : FnScope ["self", "name"] ["self", "name"] (defScope s_Net___getitem__) := ⟨rfl, rfl, rfl, by decide +kernel, rfl, by decide +kernel, by decide +kernel⟩
abbrev s_Net___iter__ : Stmt := inClass (topS 52) 7
theorem sc_Net___iter__ : FnScope ["self"] ["self"] (defScope s_Net___iter__) := ⟨rfl, rfl, rfl, by decide +kernel, rfl, by decide +kernel, by decide +kernel⟩
abbrev s_Net___add__ : Stmt := inClass (topS 52) 8
theorem sc_Net___add__ : FnScope ["self", "part", "parts"] ["self", "part"] (defScope s_Net___add__) := ⟨rfl, rfl, rfl, by decide +kernel, rfl, by decide +kernel, by decide +kernel⟩
abbrev s_Net_parts : Stmt := inClass (topS 52) 9
theorem sc_Net_parts : FnScope ["self"] ["self"] (defScope s_Net_parts) := ⟨rfl, rfl, rfl, by decide +kernel, rfl, by decide +kernel, by decide +kernel⟩
abbrev s_Net_with_line : Stmt := inClass (topS 52) 10
theorem sc_Net_with_line : FnScope ["self", "line"] ["self", "line"] (defScope s_Net_with_line) := ⟨rfl, rfl, rfl, by decide +kernel, rfl, by decide +kernel, by decide +kernel⟩
abbrev s_Net_with_agents : Stmt := inClass (topS 52) 11
theorem sc_Net_with_agents : FnScope ["self", "agents"] ["self", "agents"] (defScope s_Net_with_agents) := ⟨rfl, rfl, rfl, by decide +kernel, rfl, by decide +kernel, by decide +kernel⟩
abbrev s_Net_with_variables : Stmt := inClass (topS 52) 12
theorem sc_Net_with_variables : FnScope ["self", "variables"] ["self", "variables"] (defScope s_Net_with_variables) := ⟨rfl, rfl, rfl, by decide +kernel, rfl, by decide +kernel, by decide +kernel⟩
abbrev s_Net_step : Stmt := inClass (topS 52) 13
theorem sc_Net_step : FnScope ["self", "place", "agent", "number"] ["self", "place"] (defScope s_Net_step) := ⟨rfl, rfl, rfl, by decide +kernel, rfl, by decide +kernel, by decide +kernel⟩
abbrev s_Net_bytes_in_ring : Stmt := inClass (topS 52) 16
theorem sc_Net_bytes_in_ring : FnScope ["self", "place", "row", "at", "starts", "n", "k", "first"] ["self", "place"] (defScope s_Net_bytes_in_ring) := ⟨rfl, rfl, rfl, by decide +kernel, rfl, by decide +kernel, by decide +kernel⟩
abbrev s_Net_touched : Stmt := inClass (topS 52) 17
theorem sc_Net_touched : FnScope ["self", "place", "n"] ["self", "place", "n"] (defScope s_Net_touched) := ⟨rfl, rfl, rfl, by decide +kernel, rfl, by decide +kernel, by decide +kernel⟩
abbrev s_Net_lines : Stmt := inClass (topS 52) 18
theorem sc_Net_lines : FnScope ["self", "place", "n"] ["self", "place", "n"] (defScope s_Net_lines) := ⟨rfl, rfl, rfl, by decide +kernel, rfl, by decide +kernel, by decide +kernel⟩
abbrev s_Net_number_of : Stmt := inClass (topS 52) 19
theorem sc_Net_number_of : FnScope ["self", "name"] ["self", "name"] (defScope s_Net_number_of) := ⟨rfl, rfl, rfl, by decide +kernel, rfl, by decide +kernel, by decide +kernel⟩
abbrev s__law_pen : Stmt := topS 54
theorem sc__law_pen : FnScope ["script"] ["script"] (defScope s__law_pen) := ⟨rfl, rfl, rfl, by decide +kernel, rfl, by decide +kernel, by decide +kernel⟩
abbrev s__law_draw : Stmt := topS 55
theorem sc__law_draw : FnScope ["pen", "many", "digit", "begun", "cell", "great", "mixed"] ["pen", "many"] (defScope s__law_draw) := ⟨rfl, rfl, rfl, by decide +kernel, rfl, by decide +kernel, by decide +kernel⟩
abbrev s__law_steps : Stmt := topS 56
theorem sc__law_steps : FnScope ["pen", "kind", "variables_here", "signalled", "found", "k", "words", "word", "chosen", "first", "step", "spot"] ["pen", "kind", "variables_here", "signalled"] (defScope s__law_steps) := ⟨rfl, rfl, rfl, by decide +kernel, rfl, by decide +kernel, by decide +kernel⟩
abbrev s__law_items : Stmt := topS 57
theorem sc__law_items : FnScope ["pen", "slots_here", "items", "free", "k", "big", "spots", "j", "variables_here", "many", "signalled", "kind"] ["pen", "slots_here"] (defScope s__law_items) := ⟨rfl, rfl, rfl, by decide +kernel, rfl, by decide +kernel, by decide +kernel⟩
abbrev s__law_shuffled : Stmt := topS 58
theorem sc__law_shuffled : FnScope ["pen", "items", "found", "item", "spot"] ["pen", "items"] (defScope s__law_shuffled) := ⟨rfl, rfl, rfl, by decide +kernel, rfl, by decide +kernel, by decide +kernel⟩
abbrev s__law_part : Stmt := topS 59
theorem sc__law_part : FnScope ["item"] ["item"] (defScope s__law_part) := ⟨rfl, rfl, rfl, by decide +kernel, rfl, by decide +kernel, by decide +kernel⟩
abbrev s__law_bytes : Stmt := topS 60
theorem sc__law_bytes : FnScope ["items", "slots_here", "step", "n", "chosen", "item", "number", "start", "k"] ["items", "slots_here", "step", "n"] (defScope s__law_bytes) := ⟨rfl, rfl, rfl, by decide +kernel, rfl, by decide +kernel, by decide +kernel⟩
abbrev s__law_lines : Stmt := topS 61
theorem sc__law_lines : FnScope ["spots", "width", "found", "spot", "number"] ["spots", "width"] (defScope s__law_lines) := ⟨rfl, rfl, rfl, by decide +kernel, rfl, by decide +kernel, by decide +kernel⟩
abbrev s__law_whole : Stmt := topS 62
theorem sc__law_whole : FnScope ["numbers", "one"] ["numbers"] (defScope s__law_whole) := ⟨rfl, rfl, rfl, by decide +kernel, rfl, by decide +kernel, by decide +kernel⟩
abbrev s__law_right : Stmt := topS 63
theorem sc__law_right : FnScope ["net", "items", "slots_here", "spot", "step", "n", "wanted", "found"] ["net", "items", "slots_here", "spot", "step", "n"] (defScope s__law_right) := ⟨rfl, rfl, rfl, by decide +kernel, rfl, by decide +kernel, by decide +kernel⟩
abbrev s__law_round : Stmt := topS 64
theorem sc__law_round : FnScope ["pen", "slots_here", "items", "handed", "item", "agents_here", "far", "width", "net", "a", "s", "step", "n"] ["pen"] (defScope s__law_round) := ⟨rfl, rfl, rfl, by decide +kernel, rfl, by decide +kernel, by decide +kernel⟩
abbrev s_law : Stmt := topS 65
theorem sc_law : FnScope ["script", "pen"] ["script"] (defScope s_law) := ⟨rfl, rfl, rfl, by decide +kernel, rfl, by decide +kernel, by decide +kernel⟩
section
variable {mg : PySem.Str → Option Value} {base : Heap} {w : World}
theorem mg_UnkeptError (M : Mod (hd12.heap_39 w.params) mg base) : mg "UnkeptError" = some (.ref 31) := PySem.W.mg_of M.kin M.glob (by k_is)
theorem kp_UnkeptError (w : World) : PySem.W.keepIn (hd12.heap_39 w.params) (.ref 31) = true := by k_is
theorem mg_NoPart (M : Mod (hd12.heap_39 w.params) mg base) : mg "NoPart" = some (.ref 53) := PySem.W.mg_of M.kin M.glob (by k_is)
theorem kp_NoPart (w : World) : PySem.W.keepIn (hd12.heap_39 w.params) (.ref 53) = true := by k_is
theorem mg_NoNet (M : Mod (hd12.heap_39 w.params) mg base) : mg "NoNet" = some (.ref 74) := PySem.W.mg_of M.kin M.glob (by k_is)
theorem kp_NoNet (w : World) : PySem.W.keepIn (hd12.heap_39 w.params) (.ref 74) = true := by k_is
theorem mg_NoName (M : Mod (hd12.heap_39 w.params) mg base) : mg "NoName" = some (.ref 95) := PySem.W.mg_of M.kin M.glob (by k_is)
theorem kp_NoName (w : World) : PySem.W.keepIn (hd12.heap_39 w.params) (.ref 95) = true := by k_is
theorem mg_NoStep (M : Mod (hd12.heap_39 w.params) mg base) : mg "NoStep" = some (.ref 116) := PySem.W.mg_of M.kin M.glob (by k_is)
theorem kp_NoStep (w : World) : PySem.W.keepIn (hd12.heap_39 w.params) (.ref 116) = true := by k_is
theorem mg_Agent (M : Mod (hd12.heap_39 w.params) mg base) : mg "Agent" = some (.ref 232) := PySem.W.mg_of M.kin M.glob (by k_is)
theorem kp_Agent (w : World) : PySem.W.keepIn (hd12.heap_39 w.params) (.ref 232) = true := by k_is
theorem mg_Through (M : Mod (hd12.heap_39 w.params) mg base) : mg "Through" = some (.ref 272) := PySem.W.mg_of M.kin M.glob (by k_is)
theorem kp_Through (w : World) : PySem.W.keepIn (hd12.heap_39 w.params) (.ref 272) = true := by k_is
theorem mg_Back (M : Mod (hd12.heap_39 w.params) mg base) : mg "Back" = some (.ref 310) := PySem.W.mg_of M.kin M.glob (by k_is)
theorem kp_Back (w : World) : PySem.W.keepIn (hd12.heap_39 w.params) (.ref 310) = true := by k_is
theorem mg_Signal (M : Mod (hd12.heap_39 w.params) mg base) : mg "Signal" = some (.ref 337) := PySem.W.mg_of M.kin M.glob (by k_is)
theorem kp_Signal (w : World) : PySem.W.keepIn (hd12.heap_39 w.params) (.ref 337) = true := by k_is
theorem mg_Variable (M : Mod (hd12.heap_39 w.params) mg base) : mg "Variable" = some (.ref 411) := PySem.W.mg_of M.kin M.glob (by k_is)
theorem kp_Variable (w : World) : PySem.W.keepIn (hd12.heap_39 w.params) (.ref 411) = true := by k_is
theorem mg_Net (M : Mod (hd12.heap_39 w.params) mg base) : mg "Net" = some (.ref 599) := PySem.W.mg_of M.kin M.glob (by k_is)
theorem kp_Net (w : World) : PySem.W.keepIn (hd12.heap_39 w.params) (.ref 599) = true := by k_is
theorem mg__wall (M : Mod (hd12.heap_39 w.params) mg base) : mg "_wall" = some (.ref 21) := PySem.W.mg_of M.kin M.glob (by k_is)
theorem kp__wall (w : World) : PySem.W.keepIn (hd12.heap_39 w.params) (.ref 21) = true := by k_is
theorem fn__wall (w : World) : ∃ fd, Fun (hd12.heap_39 w.params) "_wall" "_wall" s__wall 21 fd := ⟨_, fun_mk (by k_is) (by k_is) (by k_is)⟩
theorem mg_is_integer (M : Mod (hd12.heap_39 w.params) mg base) : mg "is_integer" = some (.ref 125) := PySem.W.mg_of M.kin M.glob (by k_is)
theorem kp_is_integer (w : World) : PySem.W.keepIn (hd12.heap_39 w.params) (.ref 125) = true := by k_is
theorem fn_is_integer (w : World) : ∃ fd, Fun (hd12.heap_39 w.params) "is_integer" "is_integer" s_is_integer 125 fd := ⟨_, fun_mk (by k_is) (by k_is) (by k_is)⟩
theorem mg_is_within (M : Mod (hd12.heap_39 w.params) mg base) : mg "is_within" = some (.ref 132) := PySem.W.mg_of M.kin M.glob (by k_is)
theorem kp_is_within (w : World) : PySem.W.keepIn (hd12.heap_39 w.params) (.ref 132) = true := by k_is
theorem fn_is_within (w : World) : ∃ fd, Fun (hd12.heap_39 w.params) "is_within" "is_within" s_is_within 132 fd := ⟨_, fun_mk (by k_is) (by k_is) (by k_is)⟩
theorem mg_is_name (M : Mod (hd12.heap_39 w.params) mg base) : mg "is_name" = some (.ref 137) := PySem.W.mg_of M.kin M.glob (by k_is)
theorem kp_is_name (w : World) : PySem.W.keepIn (hd12.heap_39 w.params) (.ref 137) = true := by k_is
theorem fn_is_name (w : World) : ∃ fd, Fun (hd12.heap_39 w.params) "is_name" "is_name" s_is_name 137 fd := ⟨_, fun_mk (by k_is) (by k_is) (by k_is)⟩
theorem mg_is_word (M : Mod (hd12.heap_39 w.params) mg base) : mg "is_word" = some (.ref 149) := PySem.W.mg_of M.kin M.glob (by k_is)
theorem kp_is_word (w : World) : PySem.W.keepIn (hd12.heap_39 w.params) (.ref 149) = true := by k_is
theorem fn_is_word (w : World) : ∃ fd, Fun (hd12.heap_39 w.params) "is_word" "is_word" s_is_word 149 fd := ⟨_, fun_mk (by k_is) (by k_is) (by k_is)⟩
theorem mg_is_range (M : Mod (hd12.heap_39 w.params) mg base) : mg "is_range" = some (.ref 156) := PySem.W.mg_of M.kin M.glob (by k_is)
theorem kp_is_range (w : World) : PySem.W.keepIn (hd12.heap_39 w.params) (.ref 156) = true := by k_is
theorem fn_is_range (w : World) : ∃ fd, Fun (hd12.heap_39 w.params) "is_range" "is_range" s_is_range 156 fd := ⟨_, fun_mk (by k_is) (by k_is) (by k_is)⟩
theorem mg_is_step (M : Mod (hd12.heap_39 w.params) mg base) : mg "is_step" = some (.ref 163) := PySem.W.mg_of M.kin M.glob (by k_is)
theorem kp_is_step (w : World) : PySem.W.keepIn (hd12.heap_39 w.params) (.ref 163) = true := by k_is
theorem fn_is_step (w : World) : ∃ fd, Fun (hd12.heap_39 w.params) "is_step" "is_step" s_is_step 163 fd := ⟨_, fun_mk (by k_is) (by k_is) (by k_is)⟩
theorem mg_lines_of (M : Mod (hd12.heap_39 w.params) mg base) : mg "lines_of" = some (.ref 346) := PySem.W.mg_of M.kin M.glob (by k_is)
theorem kp_lines_of (w : World) : PySem.W.keepIn (hd12.heap_39 w.params) (.ref 346) = true := by k_is
theorem fn_lines_of (w : World) : ∃ fd, Fun (hd12.heap_39 w.params) "lines_of" "lines_of" s_lines_of 346 fd := ⟨_, fun_mk (by k_is) (by k_is) (by k_is)⟩
theorem mg_check_slots (M : Mod (hd12.heap_39 w.params) mg base) : mg "check_slots" = some (.ref 351) := PySem.W.mg_of M.kin M.glob (by k_is)
theorem kp_check_slots (w : World) : PySem.W.keepIn (hd12.heap_39 w.params) (.ref 351) = true := by k_is
theorem fn_check_slots (w : World) : ∃ fd, Fun (hd12.heap_39 w.params) "check_slots" "check_slots" s_check_slots 351 fd := ⟨_, fun_mk (by k_is) (by k_is) (by k_is)⟩
theorem mg_of_class (M : Mod (hd12.heap_39 w.params) mg base) : mg "of_class" = some (.ref 420) := PySem.W.mg_of M.kin M.glob (by k_is)
theorem kp_of_class (w : World) : PySem.W.keepIn (hd12.heap_39 w.params) (.ref 420) = true := by k_is
theorem fn_of_class (w : World) : ∃ fd, Fun (hd12.heap_39 w.params) "of_class" "of_class" s_of_class 420 fd := ⟨_, fun_mk (by k_is) (by k_is) (by k_is)⟩
theorem mg_is_too_many (M : Mod (hd12.heap_39 w.params) mg base) : mg "is_too_many" = some (.ref 427) := PySem.W.mg_of M.kin M.glob (by k_is)
theorem kp_is_too_many (w : World) : PySem.W.keepIn (hd12.heap_39 w.params) (.ref 427) = true := by k_is
theorem fn_is_too_many (w : World) : ∃ fd, Fun (hd12.heap_39 w.params) "is_too_many" "is_too_many" s_is_too_many 427 fd := ⟨_, fun_mk (by k_is) (by k_is) (by k_is)⟩
theorem mg_check_parts (M : Mod (hd12.heap_39 w.params) mg base) : mg "check_parts" = some (.ref 432) := PySem.W.mg_of M.kin M.glob (by k_is)
theorem kp_check_parts (w : World) : PySem.W.keepIn (hd12.heap_39 w.params) (.ref 432) = true := by k_is
theorem fn_check_parts (w : World) : ∃ fd, Fun (hd12.heap_39 w.params) "check_parts" "check_parts" s_check_parts 432 fd := ⟨_, fun_mk (by k_is) (by k_is) (by k_is)⟩
theorem mg_check_variables (M : Mod (hd12.heap_39 w.params) mg base) : mg "check_variables" = some (.ref 437) := PySem.W.mg_of M.kin M.glob (by k_is)
theorem kp_check_variables (w : World) : PySem.W.keepIn (hd12.heap_39 w.params) (.ref 437) = true := by k_is
theorem fn_check_variables (w : World) : ∃ fd, Fun (hd12.heap_39 w.params) "check_variables" "check_variables" s_check_variables 437 fd := ⟨_, fun_mk (by k_is) (by k_is) (by k_is)⟩
theorem mg_fits (M : Mod (hd12.heap_39 w.params) mg base) : mg "fits" = some (.ref 442) := PySem.W.mg_of M.kin M.glob (by k_is)
theorem kp_fits (w : World) : PySem.W.keepIn (hd12.heap_39 w.params) (.ref 442) = true := by k_is
theorem fn_fits (w : World) : ∃ fd, Fun (hd12.heap_39 w.params) "fits" "fits" s_fits 442 fd := ⟨_, fun_mk (by k_is) (by k_is) (by k_is)⟩
theorem mg_check_steps (M : Mod (hd12.heap_39 w.params) mg base) : mg "check_steps" = some (.ref 449) := PySem.W.mg_of M.kin M.glob (by k_is)
theorem kp_check_steps (w : World) : PySem.W.keepIn (hd12.heap_39 w.params) (.ref 449) = true := by k_is
theorem fn_check_steps (w : World) : ∃ fd, Fun (hd12.heap_39 w.params) "check_steps" "check_steps" s_check_steps 449 fd := ⟨_, fun_mk (by k_is) (by k_is) (by k_is)⟩
theorem mg_check_signals (M : Mod (hd12.heap_39 w.params) mg base) : mg "check_signals" = some (.ref 454) := PySem.W.mg_of M.kin M.glob (by k_is)
theorem kp_check_signals (w : World) : PySem.W.keepIn (hd12.heap_39 w.params) (.ref 454) = true := by k_is
theorem fn_check_signals (w : World) : ∃ fd, Fun (hd12.heap_39 w.params) "check_signals" "check_signals" s_check_signals 454 fd := ⟨_, fun_mk (by k_is) (by k_is) (by k_is)⟩
theorem mg__law_pen (M : Mod (hd12.heap_39 w.params) mg base) : mg "_law_pen" = some (.ref 610) := PySem.W.mg_of M.kin M.glob (by k_is)
theorem kp__law_pen (w : World) : PySem.W.keepIn (hd12.heap_39 w.params) (.ref 610) = true := by k_is
theorem fn__law_pen (w : World) : ∃ fd, Fun (hd12.heap_39 w.params) "_law_pen" "_law_pen" s__law_pen 610 fd := ⟨_, fun_mk (by k_is) (by k_is) (by k_is)⟩
theorem mg__law_draw (M : Mod (hd12.heap_39 w.params) mg base) : mg "_law_draw" = some (.ref 617) := PySem.W.mg_of M.kin M.glob (by k_is)
theorem kp__law_draw (w : World) : PySem.W.keepIn (hd12.heap_39 w.params) (.ref 617) = true := by k_is
theorem fn__law_draw (w : World) : ∃ fd, Fun (hd12.heap_39 w.params) "_law_draw" "_law_draw" s__law_draw 617 fd := ⟨_, fun_mk (by k_is) (by k_is) (by k_is)⟩
theorem mg__law_steps (M : Mod (hd12.heap_39 w.params) mg base) : mg "_law_steps" = some (.ref 624) := PySem.W.mg_of M.kin M.glob (by k_is)
theorem kp__law_steps (w : World) : PySem.W.keepIn (hd12.heap_39 w.params) (.ref 624) = true := by k_is
theorem fn__law_steps (w : World) : ∃ fd, Fun (hd12.heap_39 w.params) "_law_steps" "_law_steps" s__law_steps 624 fd := ⟨_, fun_mk (by k_is) (by k_is) (by k_is)⟩
theorem mg__law_items (M : Mod (hd12.heap_39 w.params) mg base) : mg "_law_items" = some (.ref 629) := PySem.W.mg_of M.kin M.glob (by k_is)
theorem kp__law_items (w : World) : PySem.W.keepIn (hd12.heap_39 w.params) (.ref 629) = true := by k_is
theorem fn__law_items (w : World) : ∃ fd, Fun (hd12.heap_39 w.params) "_law_items" "_law_items" s__law_items 629 fd := ⟨_, fun_mk (by k_is) (by k_is) (by k_is)⟩
theorem mg__law_shuffled (M : Mod (hd12.heap_39 w.params) mg base) : mg "_law_shuffled" = some (.ref 636) := PySem.W.mg_of M.kin M.glob (by k_is)
theorem kp__law_shuffled (w : World) : PySem.W.keepIn (hd12.heap_39 w.params) (.ref 636) = true := by k_is
theorem fn__law_shuffled (w : World) : ∃ fd, Fun (hd12.heap_39 w.params) "_law_shuffled" "_law_shuffled" s__law_shuffled 636 fd := ⟨_, fun_mk (by k_is) (by k_is) (by k_is)⟩
theorem mg__law_part (M : Mod (hd12.heap_39 w.params) mg base) : mg "_law_part" = some (.ref 643) := PySem.W.mg_of M.kin M.glob (by k_is)
theorem kp__law_part (w : World) : PySem.W.keepIn (hd12.heap_39 w.params) (.ref 643) = true := by k_is
theorem fn__law_part (w : World) : ∃ fd, Fun (hd12.heap_39 w.params) "_law_part" "_law_part" s__law_part 643 fd := ⟨_, fun_mk (by k_is) (by k_is) (by k_is)⟩
theorem mg__law_bytes (M : Mod (hd12.heap_39 w.params) mg base) : mg "_law_bytes" = some (.ref 648) := PySem.W.mg_of M.kin M.glob (by k_is)
theorem kp__law_bytes (w : World) : PySem.W.keepIn (hd12.heap_39 w.params) (.ref 648) = true := by k_is
theorem fn__law_bytes (w : World) : ∃ fd, Fun (hd12.heap_39 w.params) "_law_bytes" "_law_bytes" s__law_bytes 648 fd := ⟨_, fun_mk (by k_is) (by k_is) (by k_is)⟩
theorem mg__law_lines (M : Mod (hd12.heap_39 w.params) mg base) : mg "_law_lines" = some (.ref 655) := PySem.W.mg_of M.kin M.glob (by k_is)
theorem kp__law_lines (w : World) : PySem.W.keepIn (hd12.heap_39 w.params) (.ref 655) = true := by k_is
theorem fn__law_lines (w : World) : ∃ fd, Fun (hd12.heap_39 w.params) "_law_lines" "_law_lines" s__law_lines 655 fd := ⟨_, fun_mk (by k_is) (by k_is) (by k_is)⟩
theorem mg__law_whole (M : Mod (hd12.heap_39 w.params) mg base) : mg "_law_whole" = some (.ref 660) := PySem.W.mg_of M.kin M.glob (by k_is)
theorem kp__law_whole (w : World) : PySem.W.keepIn (hd12.heap_39 w.params) (.ref 660) = true := by k_is
theorem fn__law_whole (w : World) : ∃ fd, Fun (hd12.heap_39 w.params) "_law_whole" "_law_whole" s__law_whole 660 fd := ⟨_, fun_mk (by k_is) (by k_is) (by k_is)⟩
theorem mg__law_right (M : Mod (hd12.heap_39 w.params) mg base) : mg "_law_right" = some (.ref 667) := PySem.W.mg_of M.kin M.glob (by k_is)
theorem kp__law_right (w : World) : PySem.W.keepIn (hd12.heap_39 w.params) (.ref 667) = true := by k_is
theorem fn__law_right (w : World) : ∃ fd, Fun (hd12.heap_39 w.params) "_law_right" "_law_right" s__law_right 667 fd := ⟨_, fun_mk (by k_is) (by k_is) (by k_is)⟩
theorem mg__law_round (M : Mod (hd12.heap_39 w.params) mg base) : mg "_law_round" = some (.ref 672) := PySem.W.mg_of M.kin M.glob (by k_is)
theorem kp__law_round (w : World) : PySem.W.keepIn (hd12.heap_39 w.params) (.ref 672) = true := by k_is
theorem fn__law_round (w : World) : ∃ fd, Fun (hd12.heap_39 w.params) "_law_round" "_law_round" s__law_round 672 fd := ⟨_, fun_mk (by k_is) (by k_is) (by k_is)⟩
theorem mg_law (M : Mod (hd12.heap_39 w.params) mg base) : mg "law" = some (.ref 679) := PySem.W.mg_of M.kin M.glob (by k_is)
theorem kp_law (w : World) : PySem.W.keepIn (hd12.heap_39 w.params) (.ref 679) = true := by k_is
theorem fn_law (w : World) : ∃ fd, Fun (hd12.heap_39 w.params) "law" "law" s_law 679 fd := ⟨_, fun_mk (by k_is) (by k_is) (by k_is)⟩
theorem fn_NoPart___init__ (w : World) : FunS (hd12.heap_39 w.params) "__init__" "NoPart.__init__" s_NoPart___init__ 50 38 49 53 := ⟨⟨_, _, _, _, _, _, _, _, by k_is, by k_is⟩, ⟨_, _, _, by k_is⟩, by k_is⟩
theorem sup_NoPart___init__ (w : World) : SupF PP (hd12.heap_39 w.params) 49 53 := ⟨⟨_, _, _, _, _, _, by k_is, by rfl, by decide +kernel⟩, ⟨_, by k_is⟩, by k_is, by decide +kernel, by k_is⟩
theorem fn_NoNet___init__ (w : World) : FunS (hd12.heap_39 w.params) "__init__" "NoNet.__init__" s_NoNet___init__ 71 59 70 74 := ⟨⟨_, _, _, _, _, _, _, _, by k_is, by k_is⟩, ⟨_, _, _, by k_is⟩, by k_is⟩
theorem sup_NoNet___init__ (w : World) : SupF PP (hd12.heap_39 w.params) 70 74 := ⟨⟨_, _, _, _, _, _, by k_is, by rfl, by decide +kernel⟩, ⟨_, by k_is⟩, by k_is, by decide +kernel, by k_is⟩
theorem fn_NoName___init__ (w : World) : FunS (hd12.heap_39 w.params) "__init__" "NoName.__init__" s_NoName___init__ 92 80 91 95 := ⟨⟨_, _, _, _, _, _, _, _, by k_is, by k_is⟩, ⟨_, _, _, by k_is⟩, by k_is⟩
theorem sup_NoName___init__ (w : World) : SupF PP (hd12.heap_39 w.params) 91 95 := ⟨⟨_, _, _, _, _, _, by k_is, by rfl, by decide +kernel⟩, ⟨_, by k_is⟩, by k_is, by decide +kernel, by k_is⟩
theorem fn_NoStep___init__ (w : World) : FunS (hd12.heap_39 w.params) "__init__" "NoStep.__init__" s_NoStep___init__ 113 101 112 116 := ⟨⟨_, _, _, _, _, _, _, _, by k_is, by k_is⟩, ⟨_, _, _, by k_is⟩, by k_is⟩
theorem sup_NoStep___init__ (w : World) : SupF PP (hd12.heap_39 w.params) 112 116 := ⟨⟨_, _, _, _, _, _, by k_is, by rfl, by decide +kernel⟩, ⟨_, by k_is⟩, by k_is, by decide +kernel, by k_is⟩
theorem fn_Agent___init__ (w : World) : ∃ fd, Fun (hd12.heap_39 w.params) "__init__" "Agent.__init__" s_Agent___init__ 177 fd := ⟨_, fun_mk (by k_is) (by k_is) (by k_is)⟩
theorem fn_Agent___len__ (w : World) : ∃ fd, Fun (hd12.heap_39 w.params) "__len__" "Agent.__len__" s_Agent___len__ 194 fd := ⟨_, fun_mk (by k_is) (by k_is) (by k_is)⟩
theorem fn_Agent___getitem__ (w : World) : ∃ fd, Fun (hd12.heap_39 w.params) "__getitem__" "Agent.__getitem__" s_Agent___getitem__ 201 fd := ⟨_, fun_mk (by k_is) (by k_is) (by k_is)⟩
theorem fn_Agent___iter__ (w : World) : ∃ fd, Fun (hd12.heap_39 w.params) "__iter__" "Agent.__iter__" s_Agent___iter__ 208 fd := ⟨_, fun_mk (by k_is) (by k_is) (by k_is)⟩
theorem fn_Agent___eq__ (w : World) : ∃ fd, Fun (hd12.heap_39 w.params) "__eq__" "Agent.__eq__" s_Agent___eq__ 215 fd := ⟨_, fun_mk (by k_is) (by k_is) (by k_is)⟩
theorem fn_Agent_may (w : World) : ∃ fd, Fun (hd12.heap_39 w.params) "may" "Agent.may" s_Agent_may 222 fd := ⟨_, fun_mk (by k_is) (by k_is) (by k_is)⟩
theorem fn_Agent_with_steps (w : World) : ∃ fd, Fun (hd12.heap_39 w.params) "with_steps" "Agent.with_steps" s_Agent_with_steps 229 fd := ⟨_, fun_mk (by k_is) (by k_is) (by k_is)⟩
theorem fn_Through_may (w : World) : FunS (hd12.heap_39 w.params) "may" "Through.may" s_Through_may 262 240 261 272 := ⟨⟨_, _, _, _, _, _, _, _, by k_is, by k_is⟩, ⟨_, _, _, by k_is⟩, by k_is⟩
theorem sup_Through_may (w : World) : SupF PP (hd12.heap_39 w.params) 261 272 := ⟨⟨_, _, _, _, _, _, by k_is, by rfl, by decide +kernel⟩, ⟨_, by k_is⟩, by k_is, by decide +kernel, by k_is⟩
theorem fn_Through_with_steps (w : World) : ∃ fd, Fun (hd12.heap_39 w.params) "with_steps" "Through.with_steps" s_Through_with_steps 269 fd := ⟨_, fun_mk (by k_is) (by k_is) (by k_is)⟩
theorem fn_Back_may (w : World) : FunS (hd12.heap_39 w.params) "may" "Back.may" s_Back_may 300 278 299 310 := ⟨⟨_, _, _, _, _, _, _, _, by k_is, by k_is⟩, ⟨_, _, _, by k_is⟩, by k_is⟩
theorem sup_Back_may (w : World) : SupF PP (hd12.heap_39 w.params) 299 310 := ⟨⟨_, _, _, _, _, _, by k_is, by rfl, by decide +kernel⟩, ⟨_, by k_is⟩, by k_is, by decide +kernel, by k_is⟩
theorem fn_Back_with_steps (w : World) : ∃ fd, Fun (hd12.heap_39 w.params) "with_steps" "Back.with_steps" s_Back_with_steps 307 fd := ⟨_, fun_mk (by k_is) (by k_is) (by k_is)⟩
theorem fnd_Signal___init__ (w : World) : ∃ fd, FunD (hd12.heap_39 w.params) "__init__" "Signal.__init__" (defArgs s_Signal___init__) (defBody s_Signal___init__) (defScope s_Signal___init__) [.int 0] [] 327 fd := fnd_mk (by k_is) (by k_is) (by k_is) (by exact .inr ⟨by simp, _, _, [_], _, rfl, by k_is, rfl, (.cons ⟨_, rfl⟩ .nil)⟩) (by exact .inl rfl)
theorem fn_Signal___eq__ (w : World) : ∃ fd, Fun (hd12.heap_39 w.params) "__eq__" "Signal.__eq__" s_Signal___eq__ 334 fd := ⟨_, fun_mk (by k_is) (by k_is) (by k_is)⟩
theorem fn_Variable___init__ (w : World) : ∃ fd, Fun (hd12.heap_39 w.params) "__init__" "Variable.__init__" s_Variable___init__ 365 fd := ⟨_, fun_mk (by k_is) (by k_is) (by k_is)⟩
theorem fn_Variable___len__ (w : World) : ∃ fd, Fun (hd12.heap_39 w.params) "__len__" "Variable.__len__" s_Variable___len__ 382 fd := ⟨_, fun_mk (by k_is) (by k_is) (by k_is)⟩
theorem fn_Variable___getitem__ (w : World) : ∃ fd, Fun (hd12.heap_39 w.params) "__getitem__" "Variable.__getitem__" s_Variable___getitem__ 389 fd := ⟨_, fun_mk (by k_is) (by k_is) (by k_is)⟩
theorem fn_Variable___iter__ (w : World) : ∃ fd, Fun (hd12.heap_39 w.params) "__iter__" "Variable.__iter__" s_Variable___iter__ 396 fd := ⟨_, fun_mk (by k_is) (by k_is) (by k_is)⟩
theorem fn_Variable___eq__ (w : World) : ∃ fd, Fun (hd12.heap_39 w.params) "__eq__" "Variable.__eq__" s_Variable___eq__ 403 fd := ⟨_, fun_mk (by k_is) (by k_is) (by k_is)⟩
theorem fn_Variable_all_bytes (w : World) : ∃ fd, Fun (hd12.heap_39 w.params) "all_bytes" "Variable.all_bytes" s_Variable_all_bytes 408 fd := ⟨_, fun_mk (by k_is) (by k_is) (by k_is)⟩
theorem fnd_Net___init__ (w : World) : ∃ fd, FunD (hd12.heap_39 w.params) "__init__" "Net.__init__" (defArgs s_Net___init__) (defBody s_Net___init__) (defScope s_Net___init__) [] ((["line", "ring"] : List PySem.Str).zip ([.int 8, .int 1] : List V)) 468 fd := fnd_mk (by k_is) (by k_is) (by k_is) (by exact .inl ⟨rfl, rfl⟩) (by exact .inr ⟨_, rfl, (List.forall_mem_cons.mpr ⟨⟨_, by k_is, ⟨_, rfl⟩⟩, (List.forall_mem_cons.mpr ⟨⟨_, by k_is, ⟨_, rfl⟩⟩, (fun _ h => nomatch h)⟩)⟩)⟩)
theorem fn_Net___len__ (w : World) : ∃ fd, Fun (hd12.heap_39 w.params) "__len__" "Net.__len__" s_Net___len__ 486 fd := ⟨_, fun_mk (by k_is) (by k_is) (by k_is)⟩
theorem fn_Net___eq__ (w : World) : ∃ fd, Fun (hd12.heap_39 w.params) "__eq__" "Net.__eq__" s_Net___eq__ 493 fd := ⟨_, fun_mk (by k_is) (by k_is) (by k_is)⟩
theorem fn_Net___contains__ (w : World) : ∃ fd, Fun (hd12.heap_39 w.params) "__contains__" "Net.__contains__" s_Net___contains__ 500 fd := ⟨_, fun_mk (by k_is) (by k_is) (by k_is)⟩
theorem fn_Net___getitem__ (w : World) : ∃ fd, Fun (hd12.heap_39 w.params) "__getitem__" "Net.__getitem__" s_Net___getitem__ 507 fd := ⟨_, fun_mk (by k_is) (by k_is) (by k_is)⟩
theorem fn_Net___iter__ (w : World) : ∃ fd, Fun (hd12.heap_39 w.params) "__iter__" "Net.__iter__" s_Net___iter__ 514 fd := ⟨_, fun_mk (by k_is) (by k_is) (by k_is)⟩
theorem fn_Net___add__ (w : World) : ∃ fd, Fun (hd12.heap_39 w.params) "__add__" "Net.__add__" s_Net___add__ 521 fd := ⟨_, fun_mk (by k_is) (by k_is) (by k_is)⟩
theorem fn_Net_parts (w : World) : ∃ fd, Fun (hd12.heap_39 w.params) "parts" "Net.parts" s_Net_parts 528 fd := ⟨_, fun_mk (by k_is) (by k_is) (by k_is)⟩
theorem fn_Net_with_line (w : World) : ∃ fd, Fun (hd12.heap_39 w.params) "with_line" "Net.with_line" s_Net_with_line 535 fd := ⟨_, fun_mk (by k_is) (by k_is) (by k_is)⟩
theorem fn_Net_with_agents (w : World) : ∃ fd, Fun (hd12.heap_39 w.params) "with_agents" "Net.with_agents" s_Net_with_agents 542 fd := ⟨_, fun_mk (by k_is) (by k_is) (by k_is)⟩
theorem fn_Net_with_variables (w : World) : ∃ fd, Fun (hd12.heap_39 w.params) "with_variables" "Net.with_variables" s_Net_with_variables 549 fd := ⟨_, fun_mk (by k_is) (by k_is) (by k_is)⟩
theorem fn_Net_step (w : World) : ∃ fd, Fun (hd12.heap_39 w.params) "step" "Net.step" s_Net_step 556 fd := ⟨_, fun_mk (by k_is) (by k_is) (by k_is)⟩
theorem fn_Net_bytes_in_ring (w : World) : ∃ fd, Fun (hd12.heap_39 w.params) "bytes_in_ring" "Net.bytes_in_ring" s_Net_bytes_in_ring 575 fd := ⟨_, fun_mk (by k_is) (by k_is) (by k_is)⟩
theorem fn_Net_touched (w : World) : ∃ fd, Fun (hd12.heap_39 w.params) "touched" "Net.touched" s_Net_touched 582 fd := ⟨_, fun_mk (by k_is) (by k_is) (by k_is)⟩
theorem fn_Net_lines (w : World) : ∃ fd, Fun (hd12.heap_39 w.params) "lines" "Net.lines" s_Net_lines 589 fd := ⟨_, fun_mk (by k_is) (by k_is) (by k_is)⟩
theorem fn_Net_number_of (w : World) : ∃ fd, Fun (hd12.heap_39 w.params) "number_of" "Net.number_of" s_Net_number_of 596 fd := ⟨_, fun_mk (by k_is) (by k_is) (by k_is)⟩
theorem oex_UnkeptError (w : World) : OexC (hd12.heap_39 w.params) 31 := ⟨⟨_, _, _, _, _, _, _, _, _, _, _, _, _, _, _, by k_is, by decide +kernel⟩, by k_is, by k_is, by k_is, by k_is⟩
theorem exc_UnkeptError (w : World) : ExcC (hd12.heap_39 w.params) 31 := ⟨by k_is, by k_is, by k_is, by k_is, by k_is, by k_is, by k_is, by k_is⟩
theorem xf_UnkeptError (w : World) : XfC (hd12.heap_39 w.params) 31 := ⟨by k_is, by k_is, by k_is, by k_is⟩
theorem oex_NoPart (w : World) : OexC (hd12.heap_39 w.params) 53 := ⟨⟨_, _, _, _, _, _, _, _, _, _, _, _, _, _, _, by k_is, by decide +kernel⟩, by k_is, by k_is, by k_is, by k_is⟩
theorem exc_NoPart (w : World) : ExcC (hd12.heap_39 w.params) 53 := ⟨by k_is, by k_is, by k_is, by k_is, by k_is, by k_is, by k_is, by k_is⟩
theorem xf_NoPart (w : World) : XfC (hd12.heap_39 w.params) 53 := ⟨by k_is, by k_is, by k_is, by k_is⟩
theorem mke_NoPart (w : World) : MkE (hd12.heap_39 w.params) 53 50 := ⟨oex_NoPart w, by k_is, by k_is, exc_NoPart w⟩
theorem supe_NoPart (w : World) : SupE (hd12.heap_39 w.params) 53 53 := ⟨oex_NoPart w, ⟨_, by k_is⟩, by k_is, by ks_is, by k_is⟩
theorem nf_NoPart_reason (w : World) : PySem.W.findIn (hd12.heap_39 w.params) (.ref 53) "reason" = some none := by k_is
theorem nf_NoPart_place (w : World) : PySem.W.findIn (hd12.heap_39 w.params) (.ref 53) "place" = some none := by k_is
theorem oex_NoNet (w : World) : OexC (hd12.heap_39 w.params) 74 := ⟨⟨_, _, _, _, _, _, _, _, _, _, _, _, _, _, _, by k_is, by decide +kernel⟩, by k_is, by k_is, by k_is, by k_is⟩
theorem exc_NoNet (w : World) : ExcC (hd12.heap_39 w.params) 74 := ⟨by k_is, by k_is, by k_is, by k_is, by k_is, by k_is, by k_is, by k_is⟩
theorem xf_NoNet (w : World) : XfC (hd12.heap_39 w.params) 74 := ⟨by k_is, by k_is, by k_is, by k_is⟩
theorem mke_NoNet (w : World) : MkE (hd12.heap_39 w.params) 74 71 := ⟨oex_NoNet w, by k_is, by k_is, exc_NoNet w⟩
theorem supe_NoNet (w : World) : SupE (hd12.heap_39 w.params) 74 74 := ⟨oex_NoNet w, ⟨_, by k_is⟩, by k_is, by ks_is, by k_is⟩
theorem nf_NoNet_reason (w : World) : PySem.W.findIn (hd12.heap_39 w.params) (.ref 74) "reason" = some none := by k_is
theorem nf_NoNet_place (w : World) : PySem.W.findIn (hd12.heap_39 w.params) (.ref 74) "place" = some none := by k_is
theorem oex_NoName (w : World) : OexC (hd12.heap_39 w.params) 95 := ⟨⟨_, _, _, _, _, _, _, _, _, _, _, _, _, _, _, by k_is, by decide +kernel⟩, by k_is, by k_is, by k_is, by k_is⟩
theorem exc_NoName (w : World) : ExcC (hd12.heap_39 w.params) 95 := ⟨by k_is, by k_is, by k_is, by k_is, by k_is, by k_is, by k_is, by k_is⟩
theorem xf_NoName (w : World) : XfC (hd12.heap_39 w.params) 95 := ⟨by k_is, by k_is, by k_is, by k_is⟩
theorem mke_NoName (w : World) : MkE (hd12.heap_39 w.params) 95 92 := ⟨oex_NoName w, by k_is, by k_is, exc_NoName w⟩
theorem supe_NoName (w : World) : SupE (hd12.heap_39 w.params) 95 95 := ⟨oex_NoName w, ⟨_, by k_is⟩, by k_is, by ks_is, by k_is⟩
theorem nf_NoName_name (w : World) : PySem.W.findIn (hd12.heap_39 w.params) (.ref 95) "name" = some none := by k_is
theorem oex_NoStep (w : World) : OexC (hd12.heap_39 w.params) 116 := ⟨⟨_, _, _, _, _, _, _, _, _, _, _, _, _, _, _, by k_is, by decide +kernel⟩, by k_is, by k_is, by k_is, by k_is⟩
theorem exc_NoStep (w : World) : ExcC (hd12.heap_39 w.params) 116 := ⟨by k_is, by k_is, by k_is, by k_is, by k_is, by k_is, by k_is, by k_is⟩
theorem xf_NoStep (w : World) : XfC (hd12.heap_39 w.params) 116 := ⟨by k_is, by k_is, by k_is, by k_is⟩
theorem mke_NoStep (w : World) : MkE (hd12.heap_39 w.params) 116 113 := ⟨oex_NoStep w, by k_is, by k_is, exc_NoStep w⟩
theorem supe_NoStep (w : World) : SupE (hd12.heap_39 w.params) 116 116 := ⟨oex_NoStep w, ⟨_, by k_is⟩, by k_is, by ks_is, by k_is⟩
theorem nf_NoStep_place (w : World) : PySem.W.findIn (hd12.heap_39 w.params) (.ref 116) "place" = some none := by k_is
theorem cls_Agent (w : World) : Cls (hd12.heap_39 w.params) 232 := ⟨by k_is, by k_is, by k_is, by k_is⟩
theorem tyc_Agent (w : World) : TyC (hd12.heap_39 w.params) 232 := ⟨cls_Agent w, by k_is, by k_is, by k_is, by k_is⟩
theorem mk_Agent (w : World) : Mk (hd12.heap_39 w.params) 232 177 := ⟨by k_is, by k_is, by k_is, by k_is⟩
theorem na_Agent_name (w : World) : NoAttr (hd12.heap_39 w.params) 232 "name" := by show PySem.W.findIn _ _ _ = _; k_is
theorem na_Agent_steps (w : World) : NoAttr (hd12.heap_39 w.params) 232 "steps" := by show PySem.W.findIn _ _ _ = _; k_is
theorem na_Agent_shape (w : World) : NoAttr (hd12.heap_39 w.params) 232 "shape" := by show PySem.W.findIn _ _ _ = _; k_is
theorem fi_Agent_len (w : World) : PySem.W.fnIn (hd12.heap_39 w.params) 194 = true := by k_is
theorem own_Agent_len (w : World) : Own (hd12.heap_39 w.params) 232 "__len__" 194 := ⟨by k_is, by k_is⟩
theorem fi_Agent_getitem (w : World) : PySem.W.fnIn (hd12.heap_39 w.params) 201 = true := by k_is
theorem own_Agent_getitem (w : World) : Own (hd12.heap_39 w.params) 232 "__getitem__" 201 := ⟨by k_is, by k_is⟩
theorem own_Agent_eq (w : World) : Own (hd12.heap_39 w.params) 232 "__eq__" 215 := ⟨by k_is, by k_is⟩
theorem own_Agent_ne (w : World) : OwnNe (hd12.heap_39 w.params) 232 215 := ⟨own_Agent_eq w, by k_is, by k_is⟩
theorem me_Agent_may (w : World) : Meth (hd12.heap_39 w.params) 232 "may" 222 := ⟨by k_is, by k_is, by k_is⟩
theorem me_Agent_with_steps (w : World) : Meth (hd12.heap_39 w.params) 232 "with_steps" 229 := ⟨by k_is, by k_is, by k_is⟩
theorem cls_Through (w : World) : Cls (hd12.heap_39 w.params) 272 := ⟨by k_is, by k_is, by k_is, by k_is⟩
theorem tyc_Through (w : World) : TyC (hd12.heap_39 w.params) 272 := ⟨cls_Through w, by k_is, by k_is, by k_is, by k_is⟩
theorem mk_Through (w : World) : Mk (hd12.heap_39 w.params) 272 177 := ⟨by k_is, by k_is, by k_is, by k_is⟩
theorem na_Through_name (w : World) : NoAttr (hd12.heap_39 w.params) 272 "name" := by show PySem.W.findIn _ _ _ = _; k_is
theorem na_Through_steps (w : World) : NoAttr (hd12.heap_39 w.params) 272 "steps" := by show PySem.W.findIn _ _ _ = _; k_is
theorem na_Through_shape (w : World) : NoAttr (hd12.heap_39 w.params) 272 "shape" := by show PySem.W.findIn _ _ _ = _; k_is
theorem me_Through_may (w : World) : Meth (hd12.heap_39 w.params) 272 "may" 262 := ⟨by k_is, by k_is, by k_is⟩
theorem me_Through_with_steps (w : World) : Meth (hd12.heap_39 w.params) 272 "with_steps" 269 := ⟨by k_is, by k_is, by k_is⟩
theorem cls_Back (w : World) : Cls (hd12.heap_39 w.params) 310 := ⟨by k_is, by k_is, by k_is, by k_is⟩
theorem tyc_Back (w : World) : TyC (hd12.heap_39 w.params) 310 := ⟨cls_Back w, by k_is, by k_is, by k_is, by k_is⟩
theorem mk_Back (w : World) : Mk (hd12.heap_39 w.params) 310 177 := ⟨by k_is, by k_is, by k_is, by k_is⟩
theorem na_Back_name (w : World) : NoAttr (hd12.heap_39 w.params) 310 "name" := by show PySem.W.findIn _ _ _ = _; k_is
theorem na_Back_steps (w : World) : NoAttr (hd12.heap_39 w.params) 310 "steps" := by show PySem.W.findIn _ _ _ = _; k_is
theorem na_Back_shape (w : World) : NoAttr (hd12.heap_39 w.params) 310 "shape" := by show PySem.W.findIn _ _ _ = _; k_is
theorem me_Back_may (w : World) : Meth (hd12.heap_39 w.params) 310 "may" 300 := ⟨by k_is, by k_is, by k_is⟩
theorem me_Back_with_steps (w : World) : Meth (hd12.heap_39 w.params) 310 "with_steps" 307 := ⟨by k_is, by k_is, by k_is⟩
theorem cls_Signal (w : World) : Cls (hd12.heap_39 w.params) 337 := ⟨by k_is, by k_is, by k_is, by k_is⟩
theorem tyc_Signal (w : World) : TyC (hd12.heap_39 w.params) 337 := ⟨cls_Signal w, by k_is, by k_is, by k_is, by k_is⟩
theorem mk_Signal (w : World) : Mk (hd12.heap_39 w.params) 337 327 := ⟨by k_is, by k_is, by k_is, by k_is⟩
theorem na_Signal_name (w : World) : NoAttr (hd12.heap_39 w.params) 337 "name" := by show PySem.W.findIn _ _ _ = _; k_is
theorem na_Signal_tokens (w : World) : NoAttr (hd12.heap_39 w.params) 337 "tokens" := by show PySem.W.findIn _ _ _ = _; k_is
theorem own_Signal_eq (w : World) : Own (hd12.heap_39 w.params) 337 "__eq__" 334 := ⟨by k_is, by k_is⟩
theorem own_Signal_ne (w : World) : OwnNe (hd12.heap_39 w.params) 337 334 := ⟨own_Signal_eq w, by k_is, by k_is⟩
theorem cls_Variable (w : World) : Cls (hd12.heap_39 w.params) 411 := ⟨by k_is, by k_is, by k_is, by k_is⟩
theorem tyc_Variable (w : World) : TyC (hd12.heap_39 w.params) 411 := ⟨cls_Variable w, by k_is, by k_is, by k_is, by k_is⟩
theorem mk_Variable (w : World) : Mk (hd12.heap_39 w.params) 411 365 := ⟨by k_is, by k_is, by k_is, by k_is⟩
theorem na_Variable_name (w : World) : NoAttr (hd12.heap_39 w.params) 411 "name" := by show PySem.W.findIn _ _ _ = _; k_is
theorem na_Variable_size (w : World) : NoAttr (hd12.heap_39 w.params) 411 "size" := by show PySem.W.findIn _ _ _ = _; k_is
theorem na_Variable_at (w : World) : NoAttr (hd12.heap_39 w.params) 411 "at" := by show PySem.W.findIn _ _ _ = _; k_is
theorem na_Variable_shape (w : World) : NoAttr (hd12.heap_39 w.params) 411 "shape" := by show PySem.W.findIn _ _ _ = _; k_is
theorem fi_Variable_len (w : World) : PySem.W.fnIn (hd12.heap_39 w.params) 382 = true := by k_is
theorem own_Variable_len (w : World) : Own (hd12.heap_39 w.params) 411 "__len__" 382 := ⟨by k_is, by k_is⟩
theorem fi_Variable_getitem (w : World) : PySem.W.fnIn (hd12.heap_39 w.params) 389 = true := by k_is
theorem own_Variable_getitem (w : World) : Own (hd12.heap_39 w.params) 411 "__getitem__" 389 := ⟨by k_is, by k_is⟩
theorem own_Variable_eq (w : World) : Own (hd12.heap_39 w.params) 411 "__eq__" 403 := ⟨by k_is, by k_is⟩
theorem own_Variable_ne (w : World) : OwnNe (hd12.heap_39 w.params) 411 403 := ⟨own_Variable_eq w, by k_is, by k_is⟩
theorem me_Variable_all_bytes (w : World) : Meth (hd12.heap_39 w.params) 411 "all_bytes" 408 := ⟨by k_is, by k_is, by k_is⟩
theorem cls_Net (w : World) : Cls (hd12.heap_39 w.params) 599 := ⟨by k_is, by k_is, by k_is, by k_is⟩
theorem tyc_Net (w : World) : TyC (hd12.heap_39 w.params) 599 := ⟨cls_Net w, by k_is, by k_is, by k_is, by k_is⟩
theorem mk_Net (w : World) : Mk (hd12.heap_39 w.params) 599 468 := ⟨by k_is, by k_is, by k_is, by k_is⟩
theorem na_Net_line (w : World) : NoAttr (hd12.heap_39 w.params) 599 "line" := by show PySem.W.findIn _ _ _ = _; k_is
theorem na_Net_ring (w : World) : NoAttr (hd12.heap_39 w.params) 599 "ring" := by show PySem.W.findIn _ _ _ = _; k_is
theorem na_Net_variables (w : World) : NoAttr (hd12.heap_39 w.params) 599 "variables" := by show PySem.W.findIn _ _ _ = _; k_is
theorem na_Net_signals (w : World) : NoAttr (hd12.heap_39 w.params) 599 "signals" := by show PySem.W.findIn _ _ _ = _; k_is
theorem na_Net_agents (w : World) : NoAttr (hd12.heap_39 w.params) 599 "agents" := by show PySem.W.findIn _ _ _ = _; k_is
theorem na_Net_shape (w : World) : NoAttr (hd12.heap_39 w.params) 599 "shape" := by show PySem.W.findIn _ _ _ = _; k_is
theorem na_Net_by_name (w : World) : NoAttr (hd12.heap_39 w.params) 599 "by_name" := by show PySem.W.findIn _ _ _ = _; k_is
theorem na_Net_bytes_at (w : World) : NoAttr (hd12.heap_39 w.params) 599 "bytes_at" := by show PySem.W.findIn _ _ _ = _; k_is
theorem na_Net_lines_at (w : World) : NoAttr (hd12.heap_39 w.params) 599 "lines_at" := by show PySem.W.findIn _ _ _ = _; k_is
theorem fi_Net_len (w : World) : PySem.W.fnIn (hd12.heap_39 w.params) 486 = true := by k_is
theorem own_Net_len (w : World) : Own (hd12.heap_39 w.params) 599 "__len__" 486 := ⟨by k_is, by k_is⟩
theorem own_Net_eq (w : World) : Own (hd12.heap_39 w.params) 599 "__eq__" 493 := ⟨by k_is, by k_is⟩
theorem own_Net_ne (w : World) : OwnNe (hd12.heap_39 w.params) 599 493 := ⟨own_Net_eq w, by k_is, by k_is⟩
theorem fi_Net_contains (w : World) : PySem.W.fnIn (hd12.heap_39 w.params) 500 = true := by k_is
theorem own_Net_contains (w : World) : Own (hd12.heap_39 w.params) 599 "__contains__" 500 := ⟨by k_is, by k_is⟩
theorem fi_Net_getitem (w : World) : PySem.W.fnIn (hd12.heap_39 w.params) 507 = true := by k_is
theorem own_Net_getitem (w : World) : Own (hd12.heap_39 w.params) 599 "__getitem__" 507 := ⟨by k_is, by k_is⟩
theorem own_Net_add (w : World) : OwnBin (hd12.heap_39 w.params) 599 (PySem.dunder Operator.Add.info.2) 521 := ⟨by show PySem.W.findIn _ _ "__add__" = _; k_is, by k_is, by k_is⟩
theorem me_Net_parts (w : World) : Meth (hd12.heap_39 w.params) 599 "parts" 528 := ⟨by k_is, by k_is, by k_is⟩
theorem me_Net_with_line (w : World) : Meth (hd12.heap_39 w.params) 599 "with_line" 535 := ⟨by k_is, by k_is, by k_is⟩
theorem me_Net_with_agents (w : World) : Meth (hd12.heap_39 w.params) 599 "with_agents" 542 := ⟨by k_is, by k_is, by k_is⟩
theorem me_Net_with_variables (w : World) : Meth (hd12.heap_39 w.params) 599 "with_variables" 549 := ⟨by k_is, by k_is, by k_is⟩
theorem me_Net_step (w : World) : Meth (hd12.heap_39 w.params) 599 "step" 556 := ⟨by k_is, by k_is, by k_is⟩
theorem me_Net_places (w : World) : Meth (hd12.heap_39 w.params) 599 "places" 563 := ⟨by k_is, by k_is, by k_is⟩
theorem me_Net_accesses (w : World) : Meth (hd12.heap_39 w.params) 599 "accesses" 570 := ⟨by k_is, by k_is, by k_is⟩
theorem me_Net_bytes_in_ring (w : World) : Meth (hd12.heap_39 w.params) 599 "bytes_in_ring" 575 := ⟨by k_is, by k_is, by k_is⟩
theorem me_Net_touched (w : World) : Meth (hd12.heap_39 w.params) 599 "touched" 582 := ⟨by k_is, by k_is, by k_is⟩
theorem me_Net_lines (w : World) : Meth (hd12.heap_39 w.params) 599 "lines" 589 := ⟨by k_is, by k_is, by k_is⟩
theorem me_Net_number_of (w : World) : Meth (hd12.heap_39 w.params) 599 "number_of" 596 := ⟨by k_is, by k_is, by k_is⟩
theorem fn_Agent_made (w : World) : ∃ fd, Fun (hd12.heap_39 w.params) "made" "Agent.made" s_Agent_made 184 fd := ⟨_, fun_mk (by k_is) (by k_is) (by k_is)⟩
theorem crd_Agent (w : World) : ClX.CRead (hd12.heap_39 w.params) 232 (.type "type") := ⟨by k_is, by k_is⟩
theorem cm_Agent_made (w : World) : ClX.CMet (hd12.heap_39 w.params) 232 (.type "type") "made" 186 184 := ⟨by k_is, ⟨_, by k_is⟩, by k_is⟩
theorem fn_Through_made (w : World) : ∃ fd, Fun (hd12.heap_39 w.params) "made" "Through.made" s_Through_made 251 fd := ⟨_, fun_mk (by k_is) (by k_is) (by k_is)⟩
theorem crd_Through (w : World) : ClX.CRead (hd12.heap_39 w.params) 272 (.type "type") := ⟨by k_is, by k_is⟩
theorem cm_Through_made (w : World) : ClX.CMet (hd12.heap_39 w.params) 272 (.type "type") "made" 253 251 := ⟨by k_is, ⟨_, by k_is⟩, by k_is⟩
theorem fn_Back_made (w : World) : ∃ fd, Fun (hd12.heap_39 w.params) "made" "Back.made" s_Back_made 289 fd := ⟨_, fun_mk (by k_is) (by k_is) (by k_is)⟩
theorem crd_Back (w : World) : ClX.CRead (hd12.heap_39 w.params) 310 (.type "type") := ⟨by k_is, by k_is⟩
theorem cm_Back_made (w : World) : ClX.CMet (hd12.heap_39 w.params) 310 (.type "type") "made" 291 289 := ⟨by k_is, ⟨_, by k_is⟩, by k_is⟩
theorem fn_Variable_made (w : World) : ∃ fd, Fun (hd12.heap_39 w.params) "made" "Variable.made" s_Variable_made 372 fd := ⟨_, fun_mk (by k_is) (by k_is) (by k_is)⟩
theorem crd_Variable (w : World) : ClX.CRead (hd12.heap_39 w.params) 411 (.type "type") := ⟨by k_is, by k_is⟩
theorem cm_Variable_made (w : World) : ClX.CMet (hd12.heap_39 w.params) 411 (.type "type") "made" 374 372 := ⟨by k_is, ⟨_, by k_is⟩, by k_is⟩
theorem fnd_Net_made (w : World) : ∃ fd, FunD (hd12.heap_39 w.params) "made" "Net.made" (defArgs s_Net_made) (defBody s_Net_made) (defScope s_Net_made) [] ((["line", "ring"] : List PySem.Str).zip ([.int 8, .int 1] : List V)) 476 fd := fnd_mk (by k_is) (by k_is) (by k_is) (by exact .inl ⟨rfl, rfl⟩) (by exact .inr ⟨_, rfl, (List.forall_mem_cons.mpr ⟨⟨_, by k_is, ⟨_, rfl⟩⟩, (List.forall_mem_cons.mpr ⟨⟨_, by k_is, ⟨_, rfl⟩⟩, (fun _ h => nomatch h)⟩)⟩)⟩)
theorem crd_Net (w : World) : ClX.CRead (hd12.heap_39 w.params) 599 (.type "type") := ⟨by k_is, by k_is⟩
theorem cm_Net_made (w : World) : ClX.CMet (hd12.heap_39 w.params) 599 (.type "type") "made" 478 476 := ⟨by k_is, ⟨_, by k_is⟩, by k_is⟩
theorem mg_LETTERS (M : Mod (hd12.heap_39 w.params) mg base) : mg "LETTERS" = some (.str "abcdefghijklmnopqrstuvwxyz" 328) := PySem.W.mg_of M.kin M.glob (by k_is)
theorem mg_LONGEST (M : Mod (hd12.heap_39 w.params) mg base) : mg "LONGEST" = some (.int 8 330) := PySem.W.mg_of M.kin M.glob (by k_is)
theorem mg_ACCESSES (M : Mod (hd12.heap_39 w.params) mg base) : mg "ACCESSES" = some (.ref 138) := PySem.W.mg_of M.kin M.glob (by k_is)
theorem sq_ACCESSES (w : World) (H : Hp) : SqT (hd12.heap_39 w.params) H 138 [.str "read", .str "write", .str "get", .str "put"] := sqT_k (by k_is) (.cons ⟨_, rfl⟩ (.cons ⟨_, rfl⟩ (.cons ⟨_, rfl⟩ (.cons ⟨_, rfl⟩ .nil)))) (by decide)
theorem mg_CACHED_ACCESSES (M : Mod (hd12.heap_39 w.params) mg base) : mg "CACHED_ACCESSES" = some (.ref 139) := PySem.W.mg_of M.kin M.glob (by k_is)
theorem sq_CACHED_ACCESSES (w : World) (H : Hp) : SqT (hd12.heap_39 w.params) H 139 [.str "read", .str "write"] := sqT_k (by k_is) (.cons ⟨_, rfl⟩ (.cons ⟨_, rfl⟩ .nil)) (by decide)
theorem mg_DIRECT (M : Mod (hd12.heap_39 w.params) mg base) : mg "DIRECT" = some (.ref 140) := PySem.W.mg_of M.kin M.glob (by k_is)
theorem sq_DIRECT (w : World) (H : Hp) : SqT (hd12.heap_39 w.params) H 140 [.str "get", .str "put"] := sqT_k (by k_is) (.cons ⟨_, rfl⟩ (.cons ⟨_, rfl⟩ .nil)) (by decide)
theorem mg_UPKEEP (M : Mod (hd12.heap_39 w.params) mg base) : mg "UPKEEP" = some (.ref 141) := PySem.W.mg_of M.kin M.glob (by k_is)
theorem sq_UPKEEP (w : World) (H : Hp) : SqT (hd12.heap_39 w.params) H 141 [.str "clean", .str "drop", .str "flush"] := sqT_k (by k_is) (.cons ⟨_, rfl⟩ (.cons ⟨_, rfl⟩ (.cons ⟨_, rfl⟩ .nil))) (by decide)
theorem mg_SIGNALLING (M : Mod (hd12.heap_39 w.params) mg base) : mg "SIGNALLING" = some (.ref 142) := PySem.W.mg_of M.kin M.glob (by k_is)
theorem sq_SIGNALLING (w : World) (H : Hp) : SqT (hd12.heap_39 w.params) H 142 [.str "post", .str "wait"] := sqT_k (by k_is) (.cons ⟨_, rfl⟩ (.cons ⟨_, rfl⟩ .nil)) (by decide)
theorem mg_MOST_SHIFT (M : Mod (hd12.heap_39 w.params) mg base) : mg "MOST_SHIFT" = some (.int 3 374) := PySem.W.mg_of M.kin M.glob (by k_is)
theorem mg_LAST_BYTE (M : Mod (hd12.heap_39 w.params) mg base) : mg "LAST_BYTE" = some (.int 7 376) := PySem.W.mg_of M.kin M.glob (by k_is)
theorem mg_MOST_STEPS (M : Mod (hd12.heap_39 w.params) mg base) : mg "MOST_STEPS" = some (.int 24 403) := PySem.W.mg_of M.kin M.glob (by k_is)
theorem mg_MOST_TOKENS (M : Mod (hd12.heap_39 w.params) mg base) : mg "MOST_TOKENS" = some (.int 3 627) := PySem.W.mg_of M.kin M.glob (by k_is)
theorem mg_MOST_BYTES (M : Mod (hd12.heap_39 w.params) mg base) : mg "MOST_BYTES" = some (.int 8 672) := PySem.W.mg_of M.kin M.glob (by k_is)
theorem mg_MOST_SLOTS (M : Mod (hd12.heap_39 w.params) mg base) : mg "MOST_SLOTS" = some (.int 4 674) := PySem.W.mg_of M.kin M.glob (by k_is)
theorem mg_MEMORY (M : Mod (hd12.heap_39 w.params) mg base) : mg "MEMORY" = some (.int 1024 676) := PySem.W.mg_of M.kin M.glob (by k_is)
theorem mg_MOST_AGENTS (M : Mod (hd12.heap_39 w.params) mg base) : mg "MOST_AGENTS" = some (.int 4 785) := PySem.W.mg_of M.kin M.glob (by k_is)
theorem mg_MOST_VARIABLES (M : Mod (hd12.heap_39 w.params) mg base) : mg "MOST_VARIABLES" = some (.int 6 787) := PySem.W.mg_of M.kin M.glob (by k_is)
theorem mg_MOST_SIGNALS (M : Mod (hd12.heap_39 w.params) mg base) : mg "MOST_SIGNALS" = some (.int 6 789) := PySem.W.mg_of M.kin M.glob (by k_is)
theorem mg_MOST_RING (M : Mod (hd12.heap_39 w.params) mg base) : mg "MOST_RING" = some (.int 4 841) := PySem.W.mg_of M.kin M.glob (by k_is)
theorem mn_len (M : Mod (hd12.heap_39 w.params) mg base) : mg "len" = none := PySem.W.mg_none_of M.kin M.glob (by k_is)
theorem mn_int (M : Mod (hd12.heap_39 w.params) mg base) : mg "int" = none := PySem.W.mg_none_of M.kin M.glob (by k_is)
theorem mn_abs (M : Mod (hd12.heap_39 w.params) mg base) : mg "abs" = none := PySem.W.mg_none_of M.kin M.glob (by k_is)
theorem mn_list (M : Mod (hd12.heap_39 w.params) mg base) : mg "list" = none := PySem.W.mg_none_of M.kin M.glob (by k_is)
theorem mn_tuple (M : Mod (hd12.heap_39 w.params) mg base) : mg "tuple" = none := PySem.W.mg_none_of M.kin M.glob (by k_is)
theorem mn_range (M : Mod (hd12.heap_39 w.params) mg base) : mg "range" = none := PySem.W.mg_none_of M.kin M.glob (by k_is)
theorem mn_isinstance (M : Mod (hd12.heap_39 w.params) mg base) : mg "isinstance" = none := PySem.W.mg_none_of M.kin M.glob (by k_is)
theorem mn_bool (M : Mod (hd12.heap_39 w.params) mg base) : mg "bool" = none := PySem.W.mg_none_of M.kin M.glob (by k_is)
theorem mn_all (M : Mod (hd12.heap_39 w.params) mg base) : mg "all" = none := PySem.W.mg_none_of M.kin M.glob (by k_is)
theorem mn_any (M : Mod (hd12.heap_39 w.params) mg base) : mg "any" = none := PySem.W.mg_none_of M.kin M.glob (by k_is)
theorem mn_sorted (M : Mod (hd12.heap_39 w.params) mg base) : mg "sorted" = none := PySem.W.mg_none_of M.kin M.glob (by k_is)
theorem mn_enumerate (M : Mod (hd12.heap_39 w.params) mg base) : mg "enumerate" = none := PySem.W.mg_none_of M.kin M.glob (by k_is)
theorem mn_str (M : Mod (hd12.heap_39 w.params) mg base) : mg "str" = none := PySem.W.mg_none_of M.kin M.glob (by k_is)
theorem mn_ValueError (M : Mod (hd12.heap_39 w.params) mg base) : mg "ValueError" = none := PySem.W.mg_none_of M.kin M.glob (by k_is)
theorem mn_reversed (M : Mod (hd12.heap_39 w.params) mg base) : mg "reversed" = none := PySem.W.mg_none_of M.kin M.glob (by k_is)
theorem mn_super (M : Mod (hd12.heap_39 w.params) mg base) : mg "super" = none := PySem.W.mg_none_of M.kin M.glob (by k_is)
theorem mn_TypeError (M : Mod (hd12.heap_39 w.params) mg base) : mg "TypeError" = none := PySem.W.mg_none_of M.kin M.glob (by k_is)
theorem con_Agent_KIND (w : World) : Con (hd12.heap_39 w.params) 232 "KIND" (.str "plain") (.str "plain" 417) := ⟨by k_is, ⟨_, rfl⟩, by k_is, by decide +kernel⟩
theorem con_Through_KIND (w : World) : Con (hd12.heap_39 w.params) 272 "KIND" (.str "through") (.str "through" 522) := ⟨by k_is, ⟨_, rfl⟩, by k_is, by decide +kernel⟩
theorem con_Back_KIND (w : World) : Con (hd12.heap_39 w.params) 310 "KIND" (.str "back") (.str "back" 580) := ⟨by k_is, ⟨_, rfl⟩, by k_is, by decide +kernel⟩
theorem kt_Agent_Agent (w : World) : PySem.W.kitOne (hd12.heap_39 w.params) (.ref 232) (.ref 232) = some true := by kit_is
theorem kt_Agent_Signal (w : World) : PySem.W.kitOne (hd12.heap_39 w.params) (.ref 232) (.ref 337) = some false := by kit_is
theorem kt_Agent_Variable (w : World) : PySem.W.kitOne (hd12.heap_39 w.params) (.ref 232) (.ref 411) = some false := by kit_is
theorem kt_Agent_Net (w : World) : PySem.W.kitOne (hd12.heap_39 w.params) (.ref 232) (.ref 599) = some false := by kit_is
theorem kt_Through_Agent (w : World) : PySem.W.kitOne (hd12.heap_39 w.params) (.ref 272) (.ref 232) = some true := by kit_is
theorem kt_Through_Signal (w : World) : PySem.W.kitOne (hd12.heap_39 w.params) (.ref 272) (.ref 337) = some false := by kit_is
theorem kt_Through_Variable (w : World) : PySem.W.kitOne (hd12.heap_39 w.params) (.ref 272) (.ref 411) = some false := by kit_is
theorem kt_Through_Net (w : World) : PySem.W.kitOne (hd12.heap_39 w.params) (.ref 272) (.ref 599) = some false := by kit_is
theorem kt_Back_Agent (w : World) : PySem.W.kitOne (hd12.heap_39 w.params) (.ref 310) (.ref 232) = some true := by kit_is
theorem kt_Back_Signal (w : World) : PySem.W.kitOne (hd12.heap_39 w.params) (.ref 310) (.ref 337) = some false := by kit_is
theorem kt_Back_Variable (w : World) : PySem.W.kitOne (hd12.heap_39 w.params) (.ref 310) (.ref 411) = some false := by kit_is
theorem kt_Back_Net (w : World) : PySem.W.kitOne (hd12.heap_39 w.params) (.ref 310) (.ref 599) = some false := by kit_is
theorem kt_Signal_Agent (w : World) : PySem.W.kitOne (hd12.heap_39 w.params) (.ref 337) (.ref 232) = some false := by kit_is
theorem kt_Signal_Signal (w : World) : PySem.W.kitOne (hd12.heap_39 w.params) (.ref 337) (.ref 337) = some true := by kit_is
theorem kt_Signal_Variable (w : World) : PySem.W.kitOne (hd12.heap_39 w.params) (.ref 337) (.ref 411) = some false := by kit_is
theorem kt_Signal_Net (w : World) : PySem.W.kitOne (hd12.heap_39 w.params) (.ref 337) (.ref 599) = some false := by kit_is
theorem kt_Variable_Agent (w : World) : PySem.W.kitOne (hd12.heap_39 w.params) (.ref 411) (.ref 232) = some false := by kit_is
theorem kt_Variable_Signal (w : World) : PySem.W.kitOne (hd12.heap_39 w.params) (.ref 411) (.ref 337) = some false := by kit_is
theorem kt_Variable_Variable (w : World) : PySem.W.kitOne (hd12.heap_39 w.params) (.ref 411) (.ref 411) = some true := by kit_is
theorem kt_Variable_Net (w : World) : PySem.W.kitOne (hd12.heap_39 w.params) (.ref 411) (.ref 599) = some false := by kit_is
theorem kt_Net_Agent (w : World) : PySem.W.kitOne (hd12.heap_39 w.params) (.ref 599) (.ref 232) = some false := by kit_is
theorem kt_Net_Signal (w : World) : PySem.W.kitOne (hd12.heap_39 w.params) (.ref 599) (.ref 337) = some false := by kit_is
theorem kt_Net_Variable (w : World) : PySem.W.kitOne (hd12.heap_39 w.params) (.ref 599) (.ref 411) = some false := by kit_is
theorem kt_Net_Net (w : World) : PySem.W.kitOne (hd12.heap_39 w.params) (.ref 599) (.ref 599) = some true := by kit_is
theorem supc_Through_may (w : World) (C : Addr) (h : C = 272 ∨ C = 310) : SupC (hd12.heap_39 w.params) C 272 "may" 222 := by
  rcases h with rfl | rfl
  · exact ⟨⟨_, by k_is⟩, by k_is, by ks_is, by k_is, by k_is⟩
  · exact ⟨⟨_, by k_is⟩, by k_is, by ks_is, by k_is, by k_is⟩
theorem supc_Back_may (w : World) : SupC (hd12.heap_39 w.params) 310 310 "may" 262 := ⟨⟨_, by k_is⟩, by k_is, by ks_is, by k_is, by k_is⟩
theorem con_Net_LINES (w : World) : Con (hd12.heap_39 w.params) 599 "LINES" (.ref 462) (.ref 462) := ⟨by k_is, rfl, by k_is, by decide +kernel⟩
theorem sq_LINES (w : World) (H : Hp) : SqT (hd12.heap_39 w.params) H 462 [.int 1, .int 2, .int 4, .int 8, .int 16] := sqT_k (by k_is) (.cons ⟨_, rfl⟩ (.cons ⟨_, rfl⟩ (.cons ⟨_, rfl⟩ (.cons ⟨_, rfl⟩ (.cons ⟨_, rfl⟩ .nil))))) (by decide)
end
end M12

namespace M12
open PySem PySem.Spec PyProof.Rows L2 StX Uk
section
variable {mg : PySem.Str → Option Value} {base : Heap} {w : World}
theorem ok__law_draw (M : Mod (hd12.heap_39 w.params) mg base) : CallG PP w (hd12.heap_39 w.params) mg base 1 (.ref 617) (pos spDraw) := by
  obtain ⟨fd, F⟩ := fn__law_draw w
  refine def_pos F sc__law_draw (fun vs H Q E h => ?_) (fun _ _ _ _ _ _ us hl => match us, hl with | [_, _], _ => rfl) (fun cdv A outer s H vs Q E hr hg h => ?_)
  · obtain ⟨p, c, b, l, many, ns, rfl, _⟩ := h
    rfl
  obtain ⟨p, c, b, l, many, ns, rfl, hp, hc, hns, hb0, hb1, hm1, hm2, q⟩ := h
  have nd := sc__law_draw.nd
  -- the mixing
  obtain ⟨tm, PM, mix⟩ : ∃ tm : TS, PSs (cxOf (L2.CX PP w) PP w (hd12.heap_39 w.params) mg base ["pen", "many", "digit", "begun", "cell", "great", "mixed"] "_law_draw" (defScope s__law_draw) 617 cdv A outer s H E) ((defBody s__law_draw).drop 6) tm ∧
      ∀ (cell : Int) (H2 : Hp), Chg p (penO c (b + 1) l) H H2 → tm { nx := fun _ H' => Q .non H', rt := Q } [some (.ref p), some (.int many), none, some (.int b), some (.int cell), none, none] H2 := by
    refine ⟨_, (pss_cons (ps_set (i := 6) nd rfl (.inl rfl) (pe_op op_modN (pe_callTy call_int1 (by rfl) (mn_int M) (by decide +kernel) (pa_cons (pe_op op_pow (pe_op op_add (pe_op op_add (pe_op op_modN (pe_callTy call_int1 (by rfl) (mn_int M) (by decide +kernel) (pa_cons (pv 4) pa_nil)) pe_int) (pe_op op_mul pe_int (pv 3))) pe_int) pe_int) pa_nil)) pe_int))
      (pss_cons (ps_set (i := 6) nd rfl (.inl rfl) (pe_op op_modN (pe_callTy call_int1 (by rfl) (mn_int M) (by decide +kernel) (pa_cons (pe_op op_pow (pe_op op_add (pe_op op_add (pe_op op_mul (pv 6) (pe_op op_add (pe_op op_mul pe_int (pv 3)) pe_int)) (pe_op op_mul (pe_op op_mul pe_int (pv 3)) (pv 3))) pe_int) pe_int) pa_nil)) pe_int))
      (pss_one (ps_ret (pe_op op_modN (pe_op op_fdivN (pe_callTy call_int1 (by rfl) (mn_int M) (by decide +kernel) (pa_cons (pv 6) pa_nil)) pe_int) (pv 1)))))), fun cell H2 c2 => ?_⟩
    have hr1 := @fmod_range cell 2147483579 (by decide)
    refine ⟨_, rfl, .inl ⟨cell, rfl, ?_⟩⟩
    refine ⟨_, _, rfl, rfl, by show ¬ _ = _; decide, ?_⟩
    refine ⟨_, rfl, _, _, rfl, rfl, .inl ⟨by decide, by decide⟩, ?_⟩
    refine ⟨_, _, rfl, rfl, ?_⟩
    refine ⟨_, _, rfl, rfl, ?_⟩
    refine ⟨_, _, rfl, rfl, ⟨by decide, by decide, by omega⟩, .inl ⟨_, rfl, ?_⟩⟩
    refine ⟨_, _, rfl, rfl, by show ¬ _ = _; decide, ?_⟩
    obtain ⟨m1, e1, m10, m11⟩ := fmod_ex (C := 2147483647) (by decide) ((Int.fmod cell 2147483579 + 91009 * b + 41) ^ Int.toNat 5)
    simp only [e1]
    clear e1
    refine ⟨_, rfl, _, rfl, _, _, rfl, rfl, .inl ⟨by decide, by decide⟩, ?_⟩
    refine ⟨_, _, rfl, rfl, ?_⟩
    refine ⟨_, _, rfl, rfl, .inl ⟨by show _ < m1; omega, by show m1 < _; omega⟩, ?_⟩
    refine ⟨_, rfl, _, _, rfl, rfl, .inl ⟨by decide, by decide⟩, ?_⟩
    refine ⟨_, rfl, _, _, rfl, rfl, .inr ⟨by show _ < b; omega, by show b < _; omega⟩, ?_⟩
    refine ⟨_, _, rfl, rfl, ?_⟩
    refine ⟨_, _, rfl, rfl, ?_⟩
    refine ⟨_, _, rfl, rfl, ⟨by decide, by decide, ?_⟩, .inl ⟨_, rfl, ?_⟩⟩
    · have i1 : m1 * (2 * b + 67) ≤ 2147483649 * (2 * b + 67) := Int.mul_le_mul_of_nonneg_right (by omega) (by omega)
      have i2 : 0 ≤ m1 * (2 * b + 67) := Int.mul_nonneg m10 (by omega)
      have i3 : 70039 * b * b ≤ 70039 * b * 100000 := Int.mul_le_mul_of_nonneg_left hb1 (by omega)
      have i4 : 0 ≤ 70039 * b * b := Int.mul_nonneg (by omega) hb0
      omega
    refine ⟨_, _, rfl, rfl, by show ¬ _ = _; decide, ?_⟩
    refine ⟨_, rfl, .inl ⟨_, rfl, ?_⟩⟩
    refine ⟨_, _, rfl, rfl, ⟨by decide, by decide⟩, ?_⟩
    refine ⟨_, rfl, _, many, rfl, rfl, by show ¬ many = 0; omega, ?_⟩
    exact q _ (b + 1) _ _ (fmod_range (by omega)).1 (fmod_range (by omega)).2 (by omega) (by omega) c2
  -- what stands behind the cell
  obtain ⟨tr, PR, key⟩ : ∃ tr : TS, PSs (cxOf (L2.CX PP w) PP w (hd12.heap_39 w.params) mg base ["pen", "many", "digit", "begun", "cell", "great", "mixed"] "_law_draw" (defScope s__law_draw) 617 cdv A outer s H E) ((defBody s__law_draw).drop 5) tr ∧
      ∀ (cell : Int) (H2 : Hp), Chg p (penO c (b + 1) l) H H2 → H2 c = some (.lst (ns.map .int)) → tr { nx := fun _ H' => Q .non H', rt := Q } [some (.ref p), some (.int many), none, some (.int b), some (.int cell), none, none] H2 := by
    refine ⟨_, (pss_cons (ps_if (PW.pt (pw_and (pt_cmpR op_lt (pv 3) (pe_callB call_len_seq (by rfl) (mn_len M) (by decide +kernel) (pa_cons (pe_ix ix_list (pv 0) pe_int (fun _ _ => rfl)) pa_nil)) (nomark _)) (pw_and1 (pt_cmpR op_ge (pe_callB call_abs (by rfl) (mn_abs M) (by decide +kernel) (pa_cons (pv 4) pa_nil)) (pe_op op_pow pe_int pe_int) (nomark _))))) (pss_cons (ps_set (i := 5) nd rfl (.inl rfl) (pe_op op_add (pe_op op_mul pe_int (pe_op op_sub (pe_callB call_abs (by rfl) (mn_abs M) (by decide +kernel) (pa_cons (pv 4) pa_nil)) (pe_op op_pow pe_int pe_int))) (pe_callTy call_int1 (by rfl) (mn_int M) (by decide +kernel) (pa_cons (pe_cmpR op_lt (pv 4) pe_int (nomark _)) pa_nil))))
      (pss_cons (ps_asg (pe_op op_fdivN (pe_callTy call_int1 (by rfl) (mn_int M) (by decide +kernel) (pa_cons (pv 5) pa_nil)) (pv 1)) (pg_sub (pv 0) pe_int set_list))
      (pss_one (ps_ret (pe_op op_modN (pe_callTy call_int1 (by rfl) (mn_int M) (by decide +kernel) (pa_cons (pv 5) pa_nil)) (pv 1)))))) pss_nil) PM), fun cell H2 c2 h4 => ?_⟩
    have h3 := c2.at_
    refine ⟨_, rfl, .ref p, rfl, p, _, _, _, rfl, rfl, SqL.of h3, rfl, c, _, rfl, .inl (SqL.of h4), b, _, rfl, rfl, _, rfl, ?_⟩
    refine ite_b (fun hlt => ?_) (fun hlt => ?_)
    · refine ⟨_, rfl, cell, rfl, ?_⟩
      refine ⟨10, 18, rfl, rfl, ⟨by decide, by decide, by decide⟩, _, _, rfl, rfl, _, rfl, ?_⟩
      refine ite_b (fun hbig => ?_) (fun hbig => ?_)
      · refine ⟨_, rfl, cell, rfl, ?_⟩
        refine ⟨10, 18, rfl, rfl, ⟨by decide, by decide, by decide⟩, ?_⟩
        refine ⟨_, _, rfl, rfl, ?_⟩
        refine ⟨2, _, rfl, rfl, .inl ⟨by decide, by decide⟩, ?_⟩
        refine ⟨_, rfl, cell, 0, rfl, rfl, .inr ⟨_, rfl, ?_⟩⟩
        refine ⟨_, _, rfl, rfl, ?_⟩
        refine ⟨_, rfl, .inl ⟨_, rfl, ?_⟩⟩
        refine ⟨_, rfl, _, many, rfl, rfl, ⟨by omega, by omega⟩, ?_⟩
        refine ⟨.ref p, rfl, p, _, _, _, rfl, rfl, h3, rfl, ?_⟩
        refine ⟨_, rfl, .inl ⟨_, rfl, ?_⟩⟩
        refine ⟨_, rfl, _, many, rfl, rfl, by omega, ?_⟩
        exact q _ (b + 1) _ _ (fmod_range (by omega)).1 (fmod_range (by omega)).2 (by omega) (by omega) (c2.trans Chg.upd)
      · exact mix cell _ c2
    · exact mix cell _ c2
  refine ⟨_, (pss_cons (ps_if (pt_cmpR op_gt (pe_ix ix_list (pv 0) pe_int (fun _ _ => rfl)) pe_int (nomark _)) (pss_cons (ps_set (i := 2) nd rfl (.inl rfl) (pe_op op_modN (pe_callTy call_int1 (by rfl) (mn_int M) (by decide +kernel) (pa_cons (pe_ix ix_list (pv 0) pe_int (fun _ _ => rfl)) pa_nil)) (pv 1)))
      (pss_cons (ps_asg (pe_op op_fdivN (pe_callTy call_int1 (by rfl) (mn_int M) (by decide +kernel) (pa_cons (pe_ix ix_list (pv 0) pe_int (fun _ _ => rfl)) pa_nil)) (pv 1)) (pg_sub (pv 0) pe_int set_list))
      (pss_one (ps_ret (pv 2))))) pss_nil)
      (pss_cons (ps_set (i := 3) nd rfl (.inl rfl) (pe_ix ix_list (pv 0) pe_int (fun _ _ => rfl)))
      (pss_cons (ps_asg (pe_op op_add (pv 3) pe_int) (pg_sub (pv 0) pe_int set_list))
      (pss_cons (ps_set (i := 4) nd rfl (.inl rfl) (pe_op op_add (pe_op op_mul pe_int (pv 3)) pe_int))
      (pss_cons (ps_if (pt_cmpR (op_neD (hu_big hr)) (pe_ix ix_list (pv 0) pe_int (fun _ _ => rfl)) (pe_lst pa_nil) (nomark _)) (pss_one (ps_set (i := 4) nd rfl (.inl rfl) (pe_ix ix_list (pe_ix ix_list (pv 0) pe_int (fun _ _ => rfl)) (pe_op op_modN (pe_callTy call_int1 (by rfl) (mn_int M) (by decide +kernel) (pa_cons (pv 3) pa_nil)) (pe_callB call_len_seq (by rfl) (mn_len M) (by decide +kernel) (pa_cons (pe_ix ix_list (pv 0) pe_int (fun _ _ => rfl)) pa_nil))) (fun _ _ => rfl)))) pss_nil)
      PR))))), ?_⟩
  refine ⟨.ref p, rfl, p, _, _, _, rfl, rfl, SqL.of hp, atI_lit (by decide) rfl, l, 0, rfl, rfl, _, rfl, ?_⟩
  refine ite_b (fun hl => ?_) (fun hl => ?_)
  · refine ⟨.ref p, rfl, p, _, _, _, rfl, rfl, SqL.of hp, atI_lit (by decide) rfl, .inl ⟨l, rfl, ?_⟩⟩
    refine ⟨_, rfl, l, many, rfl, rfl, by omega, ?_⟩
    refine ⟨.ref p, rfl, p, _, _, _, rfl, rfl, SqL.of hp, atI_lit (by decide) rfl, .inl ⟨l, rfl, ?_⟩⟩
    refine ⟨_, rfl, l, many, rfl, rfl, ⟨by omega, by omega⟩, ?_⟩
    refine ⟨.ref p, rfl, p, _, _, _, rfl, rfl, hp, rfl, ?_⟩
    refine ⟨_, rfl, ?_⟩
    exact q _ b _ _ (fmod_range (by omega)).1 (fmod_range (by omega)).2 (by omega) (by omega) Chg.upd
  · refine ⟨.ref p, rfl, p, _, _, _, rfl, rfl, SqL.of hp, rfl, ?_⟩
    refine ⟨_, rfl, b, 1, rfl, rfl, .ref p, rfl, p, _, _, _, rfl, rfl, hp, rfl, ?_⟩
    generalize eH1 : upd H p (.lst ([V.ref c, V.int b, V.int l].set _ _)) = H1
    have c1 : Chg p (penO c (b + 1) l) H H1 := by rw [← eH1]; exact Chg.upd
    clear eH1
    have pc : c ≠ p := fun e => by
      rw [e, hp] at hc
      match ns, hc with
      | [], hc => cases hc
      | n :: r, hc => cases hc
    have h1 : H1 p = some (penO c (b + 1) l) := c1.at_
    have h2 : H1 c = some (.lst (ns.map .int)) := c1.ne _ _ pc hc
    refine ⟨_, rfl, 41057, b, rfl, rfl, .inl ⟨by decide, by decide⟩, _, _, rfl, rfl, ?_⟩
    refine ⟨.ref p, rfl, p, _, _, _, rfl, rfl, SqL.of h1, rfl, Nat.zero_le _, fun z hz => ?_⟩
    have sz := same_new (o := .lst []) hz
    refine ⟨.list (ns.map PyData.int), .list [], .lst (SqL.of (sz _ _ h2)) (dpAll_ints ns), .lst (SqL.of upd_same) .nil, Uk.shaped_ints ns, rfl, ?_⟩
    refine ⟨_, rfl, ?_⟩
    have c2 := c1.then sz
    have h3 := sz _ _ h1
    have h4 := sz _ _ h2
    generalize upd H1 z (.lst []) = H2 at *
    refine ite_b (fun hne => ?_) (fun hne => ?_)
    · have hl : 0 < ns.length := by
        cases ns with
        | nil => cases hne
        | cons n r => exact Nat.succ_pos _
      obtain ⟨cell, hcell⟩ : ∃ cell : Int, atI (ns.map V.int) (b.fmod (ns.length : Int)) = some (.int cell) := by
        have hr := fmod_range (i := b) (j := (ns.length : Int)) (by omega)
        have hi : (b.fmod (ns.length : Int)).toNat < ns.length := by omega
        refine ⟨ns[(b.fmod (ns.length : Int)).toNat], atI_lit hr.1 ?_⟩
        rw [List.getElem?_map, List.getElem?_eq_getElem hi]
        rfl
      refine ⟨.ref p, rfl, p, _, _, _, rfl, rfl, SqL.of h3, rfl, _, rfl, .inl ⟨b, rfl, ?_⟩⟩
      refine ⟨.ref p, rfl, p, _, _, _, rfl, rfl, SqL.of h3, rfl, c, _, rfl, .inl (SqL.of h4), _, _, rfl, rfl, ?_, ?_⟩
      · rw [List.length_map]; omega
      refine ⟨c, _, _, _, rfl, rfl, SqL.of h4, by rw [List.length_map]; exact hcell, ?_⟩
      exact key cell _ c2 h4
    · exact key _ _ c2 h4
theorem ok_drawP (M : Mod (hd12.heap_39 w.params) mg base) : CallG PP w (hd12.heap_39 w.params) mg base 1 (.ref 617) (pos spDrawP) := (ok__law_draw M).imp fun _ _ _ _ _ h => ⟨h.1, draw_P h.2⟩
end
end M12

namespace M12
open PySem PySem.Spec PyProof.Rows L2 StX Uk

local macro_rules | `(tactic| wtm_at "off0") => `(tactic| first | with_reducible assumption | (with_reducible apply Off.mk; wtm_at "pen"; assumption))
local macro_rules | `(tactic| wtm_at "at0") => `(tactic| first | with_reducible assumption | with_reducible exact upd_same | (with_reducible apply Off.at; wtm_at "off0"))
local macro_rules | `(tactic| wtm_at "off1") => `(tactic| first | with_reducible assumption | (with_reducible apply Off.mk; wtm_at "pen"; assumption) | (with_reducible refine Off.new (by assumption) _ _ ?_; wtm_at "off0") | (with_reducible refine at_same (by with_reducible assumption) ?_; wtm_at "off0"))
local macro_rules | `(tactic| wtm_at "at1") => `(tactic| first | with_reducible assumption | with_reducible exact upd_same | (with_reducible refine at_new (by assumption) ?_; wtm_at "at0") | (with_reducible refine at_same (by with_reducible assumption) ?_; wtm_at "at0") | (with_reducible apply Off.at; wtm_at "off1"))
local macro_rules | `(tactic| wtm_at "off2") => `(tactic| first | with_reducible assumption | (with_reducible apply Off.mk; wtm_at "pen"; assumption) | (with_reducible refine Off.new (by assumption) _ _ ?_; wtm_at "off1") | (with_reducible refine at_same (by with_reducible assumption) ?_; wtm_at "off1"))
local macro_rules | `(tactic| wtm_at "at2") => `(tactic| first | with_reducible assumption | with_reducible exact upd_same | (with_reducible refine at_new (by assumption) ?_; wtm_at "at1") | (with_reducible refine at_same (by with_reducible assumption) ?_; wtm_at "at1") | (with_reducible apply Off.at; wtm_at "off2"))
local macro_rules | `(tactic| wtm_at "off3") => `(tactic| first | with_reducible assumption | (with_reducible apply Off.mk; wtm_at "pen"; assumption) | (with_reducible refine Off.new (by assumption) _ _ ?_; wtm_at "off2") | (with_reducible refine at_same (by with_reducible assumption) ?_; wtm_at "off2"))
local macro_rules | `(tactic| wtm_at "at3") => `(tactic| first | with_reducible assumption | with_reducible exact upd_same | (with_reducible refine at_new (by assumption) ?_; wtm_at "at2") | (with_reducible refine at_same (by with_reducible assumption) ?_; wtm_at "at2") | (with_reducible apply Off.at; wtm_at "off3"))
local macro_rules | `(tactic| wtm_at "off4") => `(tactic| first | with_reducible assumption | (with_reducible apply Off.mk; wtm_at "pen"; assumption) | (with_reducible refine Off.new (by assumption) _ _ ?_; wtm_at "off3") | (with_reducible refine at_same (by with_reducible assumption) ?_; wtm_at "off3"))
local macro_rules | `(tactic| wtm_at "at4") => `(tactic| first | with_reducible assumption | with_reducible exact upd_same | (with_reducible refine at_new (by assumption) ?_; wtm_at "at3") | (with_reducible refine at_same (by with_reducible assumption) ?_; wtm_at "at3") | (with_reducible apply Off.at; wtm_at "off4"))
local macro_rules | `(tactic| wtm_at "off5") => `(tactic| first | with_reducible assumption | (with_reducible apply Off.mk; wtm_at "pen"; assumption) | (with_reducible refine Off.new (by assumption) _ _ ?_; wtm_at "off4") | (with_reducible refine at_same (by with_reducible assumption) ?_; wtm_at "off4"))
local macro_rules | `(tactic| wtm_at "at5") => `(tactic| first | with_reducible assumption | with_reducible exact upd_same | (with_reducible refine at_new (by assumption) ?_; wtm_at "at4") | (with_reducible refine at_same (by with_reducible assumption) ?_; wtm_at "at4") | (with_reducible apply Off.at; wtm_at "off5"))
local macro_rules | `(tactic| wtm_at "off6") => `(tactic| first | with_reducible assumption | (with_reducible apply Off.mk; wtm_at "pen"; assumption) | (with_reducible refine Off.new (by assumption) _ _ ?_; wtm_at "off5") | (with_reducible refine at_same (by with_reducible assumption) ?_; wtm_at "off5"))
local macro_rules | `(tactic| wtm_at "at6") => `(tactic| first | with_reducible assumption | with_reducible exact upd_same | (with_reducible refine at_new (by assumption) ?_; wtm_at "at5") | (with_reducible refine at_same (by with_reducible assumption) ?_; wtm_at "at5") | (with_reducible apply Off.at; wtm_at "off6"))
local macro_rules | `(tactic| wtm_at "off7") => `(tactic| first | with_reducible assumption | (with_reducible apply Off.mk; wtm_at "pen"; assumption) | (with_reducible refine Off.new (by assumption) _ _ ?_; wtm_at "off6") | (with_reducible refine at_same (by with_reducible assumption) ?_; wtm_at "off6"))
local macro_rules | `(tactic| wtm_at "at7") => `(tactic| first | with_reducible assumption | with_reducible exact upd_same | (with_reducible refine at_new (by assumption) ?_; wtm_at "at6") | (with_reducible refine at_same (by with_reducible assumption) ?_; wtm_at "at6") | (with_reducible apply Off.at; wtm_at "off7"))
local macro_rules | `(tactic| wtm_at "off8") => `(tactic| first | with_reducible assumption | (with_reducible apply Off.mk; wtm_at "pen"; assumption) | (with_reducible refine Off.new (by assumption) _ _ ?_; wtm_at "off7") | (with_reducible refine at_same (by with_reducible assumption) ?_; wtm_at "off7"))
local macro_rules | `(tactic| wtm_at "at8") => `(tactic| first | with_reducible assumption | with_reducible exact upd_same | (with_reducible refine at_new (by assumption) ?_; wtm_at "at7") | (with_reducible refine at_same (by with_reducible assumption) ?_; wtm_at "at7") | (with_reducible apply Off.at; wtm_at "off8"))
local macro_rules | `(tactic| wtm_at "off9") => `(tactic| first | with_reducible assumption | (with_reducible apply Off.mk; wtm_at "pen"; assumption) | (with_reducible refine Off.new (by assumption) _ _ ?_; wtm_at "off8") | (with_reducible refine at_same (by with_reducible assumption) ?_; wtm_at "off8"))
local macro_rules | `(tactic| wtm_at "at9") => `(tactic| first | with_reducible assumption | with_reducible exact upd_same | (with_reducible refine at_new (by assumption) ?_; wtm_at "at8") | (with_reducible refine at_same (by with_reducible assumption) ?_; wtm_at "at8") | (with_reducible apply Off.at; wtm_at "off9"))
local macro_rules | `(tactic| wtm_at "off10") => `(tactic| first | with_reducible assumption | (with_reducible apply Off.mk; wtm_at "pen"; assumption) | (with_reducible refine Off.new (by assumption) _ _ ?_; wtm_at "off9") | (with_reducible refine at_same (by with_reducible assumption) ?_; wtm_at "off9"))
local macro_rules | `(tactic| wtm_at "at10") => `(tactic| first | with_reducible assumption | with_reducible exact upd_same | (with_reducible refine at_new (by assumption) ?_; wtm_at "at9") | (with_reducible refine at_same (by with_reducible assumption) ?_; wtm_at "at9") | (with_reducible apply Off.at; wtm_at "off10"))
local macro_rules | `(tactic| wtm_at "off11") => `(tactic| first | with_reducible assumption | (with_reducible apply Off.mk; wtm_at "pen"; assumption) | (with_reducible refine Off.new (by assumption) _ _ ?_; wtm_at "off10") | (with_reducible refine at_same (by with_reducible assumption) ?_; wtm_at "off10"))
local macro_rules | `(tactic| wtm_at "at11") => `(tactic| first | with_reducible assumption | with_reducible exact upd_same | (with_reducible refine at_new (by assumption) ?_; wtm_at "at10") | (with_reducible refine at_same (by with_reducible assumption) ?_; wtm_at "at10") | (with_reducible apply Off.at; wtm_at "off11"))
local macro_rules | `(tactic| wtm_at "off12") => `(tactic| first | with_reducible assumption | (with_reducible apply Off.mk; wtm_at "pen"; assumption) | (with_reducible refine Off.new (by assumption) _ _ ?_; wtm_at "off11") | (with_reducible refine at_same (by with_reducible assumption) ?_; wtm_at "off11"))
local macro_rules | `(tactic| wtm_at "at12") => `(tactic| first | with_reducible assumption | with_reducible exact upd_same | (with_reducible refine at_new (by assumption) ?_; wtm_at "at11") | (with_reducible refine at_same (by with_reducible assumption) ?_; wtm_at "at11") | (with_reducible apply Off.at; wtm_at "off12"))
local macro_rules | `(tactic| wtm_at "off13") => `(tactic| first | with_reducible assumption | (with_reducible apply Off.mk; wtm_at "pen"; assumption) | (with_reducible refine Off.new (by assumption) _ _ ?_; wtm_at "off12") | (with_reducible refine at_same (by with_reducible assumption) ?_; wtm_at "off12"))
local macro_rules | `(tactic| wtm_at "at13") => `(tactic| first | with_reducible assumption | with_reducible exact upd_same | (with_reducible refine at_new (by assumption) ?_; wtm_at "at12") | (with_reducible refine at_same (by with_reducible assumption) ?_; wtm_at "at12") | (with_reducible apply Off.at; wtm_at "off13"))
local macro_rules | `(tactic| wtm_at "off14") => `(tactic| first | with_reducible assumption | (with_reducible apply Off.mk; wtm_at "pen"; assumption) | (with_reducible refine Off.new (by assumption) _ _ ?_; wtm_at "off13") | (with_reducible refine at_same (by with_reducible assumption) ?_; wtm_at "off13"))
local macro_rules | `(tactic| wtm_at "at14") => `(tactic| first | with_reducible assumption | with_reducible exact upd_same | (with_reducible refine at_new (by assumption) ?_; wtm_at "at13") | (with_reducible refine at_same (by with_reducible assumption) ?_; wtm_at "at13") | (with_reducible apply Off.at; wtm_at "off14"))
local macro_rules | `(tactic| wtm_at "off15") => `(tactic| first | with_reducible assumption | (with_reducible apply Off.mk; wtm_at "pen"; assumption) | (with_reducible refine Off.new (by assumption) _ _ ?_; wtm_at "off14") | (with_reducible refine at_same (by with_reducible assumption) ?_; wtm_at "off14"))
local macro_rules | `(tactic| wtm_at "at15") => `(tactic| first | with_reducible assumption | with_reducible exact upd_same | (with_reducible refine at_new (by assumption) ?_; wtm_at "at14") | (with_reducible refine at_same (by with_reducible assumption) ?_; wtm_at "at14") | (with_reducible apply Off.at; wtm_at "off15"))
local macro_rules | `(tactic| wtm_at "off16") => `(tactic| first | with_reducible assumption | (with_reducible apply Off.mk; wtm_at "pen"; assumption) | (with_reducible refine Off.new (by assumption) _ _ ?_; wtm_at "off15") | (with_reducible refine at_same (by with_reducible assumption) ?_; wtm_at "off15"))
local macro_rules | `(tactic| wtm_at "at16") => `(tactic| first | with_reducible assumption | with_reducible exact upd_same | (with_reducible refine at_new (by assumption) ?_; wtm_at "at15") | (with_reducible refine at_same (by with_reducible assumption) ?_; wtm_at "at15") | (with_reducible apply Off.at; wtm_at "off16"))
local macro_rules | `(tactic| wtm_at "off17") => `(tactic| first | with_reducible assumption | (with_reducible apply Off.mk; wtm_at "pen"; assumption) | (with_reducible refine Off.new (by assumption) _ _ ?_; wtm_at "off16") | (with_reducible refine at_same (by with_reducible assumption) ?_; wtm_at "off16"))
local macro_rules | `(tactic| wtm_at "at17") => `(tactic| first | with_reducible assumption | with_reducible exact upd_same | (with_reducible refine at_new (by assumption) ?_; wtm_at "at16") | (with_reducible refine at_same (by with_reducible assumption) ?_; wtm_at "at16") | (with_reducible apply Off.at; wtm_at "off17"))
local macro_rules | `(tactic| wtm_at "off18") => `(tactic| first | with_reducible assumption | (with_reducible apply Off.mk; wtm_at "pen"; assumption) | (with_reducible refine Off.new (by assumption) _ _ ?_; wtm_at "off17") | (with_reducible refine at_same (by with_reducible assumption) ?_; wtm_at "off17"))
local macro_rules | `(tactic| wtm_at "at18") => `(tactic| first | with_reducible assumption | with_reducible exact upd_same | (with_reducible refine at_new (by assumption) ?_; wtm_at "at17") | (with_reducible refine at_same (by with_reducible assumption) ?_; wtm_at "at17") | (with_reducible apply Off.at; wtm_at "off18"))
local macro_rules | `(tactic| wtm_at "off19") => `(tactic| first | with_reducible assumption | (with_reducible apply Off.mk; wtm_at "pen"; assumption) | (with_reducible refine Off.new (by assumption) _ _ ?_; wtm_at "off18") | (with_reducible refine at_same (by with_reducible assumption) ?_; wtm_at "off18"))
local macro_rules | `(tactic| wtm_at "at19") => `(tactic| first | with_reducible assumption | with_reducible exact upd_same | (with_reducible refine at_new (by assumption) ?_; wtm_at "at18") | (with_reducible refine at_same (by with_reducible assumption) ?_; wtm_at "at18") | (with_reducible apply Off.at; wtm_at "off19"))
local macro_rules | `(tactic| wtm_at "off20") => `(tactic| first | with_reducible assumption | (with_reducible apply Off.mk; wtm_at "pen"; assumption) | (with_reducible refine Off.new (by assumption) _ _ ?_; wtm_at "off19") | (with_reducible refine at_same (by with_reducible assumption) ?_; wtm_at "off19"))
local macro_rules | `(tactic| wtm_at "at20") => `(tactic| first | with_reducible assumption | with_reducible exact upd_same | (with_reducible refine at_new (by assumption) ?_; wtm_at "at19") | (with_reducible refine at_same (by with_reducible assumption) ?_; wtm_at "at19") | (with_reducible apply Off.at; wtm_at "off20"))
local macro_rules | `(tactic| wtm_at "off21") => `(tactic| first | with_reducible assumption | (with_reducible apply Off.mk; wtm_at "pen"; assumption) | (with_reducible refine Off.new (by assumption) _ _ ?_; wtm_at "off20") | (with_reducible refine at_same (by with_reducible assumption) ?_; wtm_at "off20"))
local macro_rules | `(tactic| wtm_at "at21") => `(tactic| first | with_reducible assumption | with_reducible exact upd_same | (with_reducible refine at_new (by assumption) ?_; wtm_at "at20") | (with_reducible refine at_same (by with_reducible assumption) ?_; wtm_at "at20") | (with_reducible apply Off.at; wtm_at "off21"))
local macro_rules | `(tactic| wtm_at "off22") => `(tactic| first | with_reducible assumption | (with_reducible apply Off.mk; wtm_at "pen"; assumption) | (with_reducible refine Off.new (by assumption) _ _ ?_; wtm_at "off21") | (with_reducible refine at_same (by with_reducible assumption) ?_; wtm_at "off21"))
local macro_rules | `(tactic| wtm_at "at22") => `(tactic| first | with_reducible assumption | with_reducible exact upd_same | (with_reducible refine at_new (by assumption) ?_; wtm_at "at21") | (with_reducible refine at_same (by with_reducible assumption) ?_; wtm_at "at21") | (with_reducible apply Off.at; wtm_at "off22"))
local macro_rules | `(tactic| wtm_at "off23") => `(tactic| first | with_reducible assumption | (with_reducible apply Off.mk; wtm_at "pen"; assumption) | (with_reducible refine Off.new (by assumption) _ _ ?_; wtm_at "off22") | (with_reducible refine at_same (by with_reducible assumption) ?_; wtm_at "off22"))
local macro_rules | `(tactic| wtm_at "at23") => `(tactic| first | with_reducible assumption | with_reducible exact upd_same | (with_reducible refine at_new (by assumption) ?_; wtm_at "at22") | (with_reducible refine at_same (by with_reducible assumption) ?_; wtm_at "at22") | (with_reducible apply Off.at; wtm_at "off23"))
local macro_rules | `(tactic| wtm_at "off24") => `(tactic| first | with_reducible assumption | (with_reducible apply Off.mk; wtm_at "pen"; assumption) | (with_reducible refine Off.new (by assumption) _ _ ?_; wtm_at "off23") | (with_reducible refine at_same (by with_reducible assumption) ?_; wtm_at "off23"))
local macro_rules | `(tactic| wtm_at "at24") => `(tactic| first | with_reducible assumption | with_reducible exact upd_same | (with_reducible refine at_new (by assumption) ?_; wtm_at "at23") | (with_reducible refine at_same (by with_reducible assumption) ?_; wtm_at "at23") | (with_reducible apply Off.at; wtm_at "off24"))
local macro_rules | `(tactic| wtm_at "off25") => `(tactic| first | with_reducible assumption | (with_reducible apply Off.mk; wtm_at "pen"; assumption) | (with_reducible refine Off.new (by assumption) _ _ ?_; wtm_at "off24") | (with_reducible refine at_same (by with_reducible assumption) ?_; wtm_at "off24"))
local macro_rules | `(tactic| wtm_at "at25") => `(tactic| first | with_reducible assumption | with_reducible exact upd_same | (with_reducible refine at_new (by assumption) ?_; wtm_at "at24") | (with_reducible refine at_same (by with_reducible assumption) ?_; wtm_at "at24") | (with_reducible apply Off.at; wtm_at "off25"))
local macro_rules | `(tactic| wtm_at "off26") => `(tactic| first | with_reducible assumption | (with_reducible apply Off.mk; wtm_at "pen"; assumption) | (with_reducible refine Off.new (by assumption) _ _ ?_; wtm_at "off25") | (with_reducible refine at_same (by with_reducible assumption) ?_; wtm_at "off25"))
local macro_rules | `(tactic| wtm_at "at26") => `(tactic| first | with_reducible assumption | with_reducible exact upd_same | (with_reducible refine at_new (by assumption) ?_; wtm_at "at25") | (with_reducible refine at_same (by with_reducible assumption) ?_; wtm_at "at25") | (with_reducible apply Off.at; wtm_at "off26"))
local macro_rules | `(tactic| wtm_at "off27") => `(tactic| first | with_reducible assumption | (with_reducible apply Off.mk; wtm_at "pen"; assumption) | (with_reducible refine Off.new (by assumption) _ _ ?_; wtm_at "off26") | (with_reducible refine at_same (by with_reducible assumption) ?_; wtm_at "off26"))
local macro_rules | `(tactic| wtm_at "at27") => `(tactic| first | with_reducible assumption | with_reducible exact upd_same | (with_reducible refine at_new (by assumption) ?_; wtm_at "at26") | (with_reducible refine at_same (by with_reducible assumption) ?_; wtm_at "at26") | (with_reducible apply Off.at; wtm_at "off27"))
local macro_rules | `(tactic| wtm_at "off28") => `(tactic| first | with_reducible assumption | (with_reducible apply Off.mk; wtm_at "pen"; assumption) | (with_reducible refine Off.new (by assumption) _ _ ?_; wtm_at "off27") | (with_reducible refine at_same (by with_reducible assumption) ?_; wtm_at "off27"))
local macro_rules | `(tactic| wtm_at "at28") => `(tactic| first | with_reducible assumption | with_reducible exact upd_same | (with_reducible refine at_new (by assumption) ?_; wtm_at "at27") | (with_reducible refine at_same (by with_reducible assumption) ?_; wtm_at "at27") | (with_reducible apply Off.at; wtm_at "off28"))
local macro_rules | `(tactic| wtm_at "off29") => `(tactic| first | with_reducible assumption | (with_reducible apply Off.mk; wtm_at "pen"; assumption) | (with_reducible refine Off.new (by assumption) _ _ ?_; wtm_at "off28") | (with_reducible refine at_same (by with_reducible assumption) ?_; wtm_at "off28"))
local macro_rules | `(tactic| wtm_at "at29") => `(tactic| first | with_reducible assumption | with_reducible exact upd_same | (with_reducible refine at_new (by assumption) ?_; wtm_at "at28") | (with_reducible refine at_same (by with_reducible assumption) ?_; wtm_at "at28") | (with_reducible apply Off.at; wtm_at "off29"))
local macro_rules | `(tactic| wtm_at "off30") => `(tactic| first | with_reducible assumption | (with_reducible apply Off.mk; wtm_at "pen"; assumption) | (with_reducible refine Off.new (by assumption) _ _ ?_; wtm_at "off29") | (with_reducible refine at_same (by with_reducible assumption) ?_; wtm_at "off29"))
local macro_rules | `(tactic| wtm_at "at30") => `(tactic| first | with_reducible assumption | with_reducible exact upd_same | (with_reducible refine at_new (by assumption) ?_; wtm_at "at29") | (with_reducible refine at_same (by with_reducible assumption) ?_; wtm_at "at29") | (with_reducible apply Off.at; wtm_at "off30"))
local macro_rules | `(tactic| wtm_at "off31") => `(tactic| first | with_reducible assumption | (with_reducible apply Off.mk; wtm_at "pen"; assumption) | (with_reducible refine Off.new (by assumption) _ _ ?_; wtm_at "off30") | (with_reducible refine at_same (by with_reducible assumption) ?_; wtm_at "off30"))
local macro_rules | `(tactic| wtm_at "at31") => `(tactic| first | with_reducible assumption | with_reducible exact upd_same | (with_reducible refine at_new (by assumption) ?_; wtm_at "at30") | (with_reducible refine at_same (by with_reducible assumption) ?_; wtm_at "at30") | (with_reducible apply Off.at; wtm_at "off31"))
local macro_rules | `(tactic| wtm_at "off32") => `(tactic| first | with_reducible assumption | (with_reducible apply Off.mk; wtm_at "pen"; assumption) | (with_reducible refine Off.new (by assumption) _ _ ?_; wtm_at "off31") | (with_reducible refine at_same (by with_reducible assumption) ?_; wtm_at "off31"))
local macro_rules | `(tactic| wtm_at "at32") => `(tactic| first | with_reducible assumption | with_reducible exact upd_same | (with_reducible refine at_new (by assumption) ?_; wtm_at "at31") | (with_reducible refine at_same (by with_reducible assumption) ?_; wtm_at "at31") | (with_reducible apply Off.at; wtm_at "off32"))
local macro_rules | `(tactic| wtm_at "off33") => `(tactic| first | with_reducible assumption | (with_reducible apply Off.mk; wtm_at "pen"; assumption) | (with_reducible refine Off.new (by assumption) _ _ ?_; wtm_at "off32") | (with_reducible refine at_same (by with_reducible assumption) ?_; wtm_at "off32"))
local macro_rules | `(tactic| wtm_at "at33") => `(tactic| first | with_reducible assumption | with_reducible exact upd_same | (with_reducible refine at_new (by assumption) ?_; wtm_at "at32") | (with_reducible refine at_same (by with_reducible assumption) ?_; wtm_at "at32") | (with_reducible apply Off.at; wtm_at "off33"))
local macro_rules | `(tactic| wtm_at "off34") => `(tactic| first | with_reducible assumption | (with_reducible apply Off.mk; wtm_at "pen"; assumption) | (with_reducible refine Off.new (by assumption) _ _ ?_; wtm_at "off33") | (with_reducible refine at_same (by with_reducible assumption) ?_; wtm_at "off33"))
local macro_rules | `(tactic| wtm_at "at34") => `(tactic| first | with_reducible assumption | with_reducible exact upd_same | (with_reducible refine at_new (by assumption) ?_; wtm_at "at33") | (with_reducible refine at_same (by with_reducible assumption) ?_; wtm_at "at33") | (with_reducible apply Off.at; wtm_at "off34"))
local macro_rules | `(tactic| wtm_at "off35") => `(tactic| first | with_reducible assumption | (with_reducible apply Off.mk; wtm_at "pen"; assumption) | (with_reducible refine Off.new (by assumption) _ _ ?_; wtm_at "off34") | (with_reducible refine at_same (by with_reducible assumption) ?_; wtm_at "off34"))
local macro_rules | `(tactic| wtm_at "at35") => `(tactic| first | with_reducible assumption | with_reducible exact upd_same | (with_reducible refine at_new (by assumption) ?_; wtm_at "at34") | (with_reducible refine at_same (by with_reducible assumption) ?_; wtm_at "at34") | (with_reducible apply Off.at; wtm_at "off35"))
local macro_rules | `(tactic| wtm_at "off36") => `(tactic| first | with_reducible assumption | (with_reducible apply Off.mk; wtm_at "pen"; assumption) | (with_reducible refine Off.new (by assumption) _ _ ?_; wtm_at "off35") | (with_reducible refine at_same (by with_reducible assumption) ?_; wtm_at "off35"))
local macro_rules | `(tactic| wtm_at "at36") => `(tactic| first | with_reducible assumption | with_reducible exact upd_same | (with_reducible refine at_new (by assumption) ?_; wtm_at "at35") | (with_reducible refine at_same (by with_reducible assumption) ?_; wtm_at "at35") | (with_reducible apply Off.at; wtm_at "off36"))
local macro_rules | `(tactic| wtm_at "off37") => `(tactic| first | with_reducible assumption | (with_reducible apply Off.mk; wtm_at "pen"; assumption) | (with_reducible refine Off.new (by assumption) _ _ ?_; wtm_at "off36") | (with_reducible refine at_same (by with_reducible assumption) ?_; wtm_at "off36"))
local macro_rules | `(tactic| wtm_at "at37") => `(tactic| first | with_reducible assumption | with_reducible exact upd_same | (with_reducible refine at_new (by assumption) ?_; wtm_at "at36") | (with_reducible refine at_same (by with_reducible assumption) ?_; wtm_at "at36") | (with_reducible apply Off.at; wtm_at "off37"))
local macro_rules | `(tactic| wtm_at "off38") => `(tactic| first | with_reducible assumption | (with_reducible apply Off.mk; wtm_at "pen"; assumption) | (with_reducible refine Off.new (by assumption) _ _ ?_; wtm_at "off37") | (with_reducible refine at_same (by with_reducible assumption) ?_; wtm_at "off37"))
local macro_rules | `(tactic| wtm_at "at38") => `(tactic| first | with_reducible assumption | with_reducible exact upd_same | (with_reducible refine at_new (by assumption) ?_; wtm_at "at37") | (with_reducible refine at_same (by with_reducible assumption) ?_; wtm_at "at37") | (with_reducible apply Off.at; wtm_at "off38"))
local macro_rules | `(tactic| wtm_at "off39") => `(tactic| first | with_reducible assumption | (with_reducible apply Off.mk; wtm_at "pen"; assumption) | (with_reducible refine Off.new (by assumption) _ _ ?_; wtm_at "off38") | (with_reducible refine at_same (by with_reducible assumption) ?_; wtm_at "off38"))
local macro_rules | `(tactic| wtm_at "at39") => `(tactic| first | with_reducible assumption | with_reducible exact upd_same | (with_reducible refine at_new (by assumption) ?_; wtm_at "at38") | (with_reducible refine at_same (by with_reducible assumption) ?_; wtm_at "at38") | (with_reducible apply Off.at; wtm_at "off39"))
local macro_rules | `(tactic| wtm_at "at") => `(tactic| wtm_at "at39")
local macro_rules | `(tactic| wtm_at "off") => `(tactic| wtm_at "off39")
local macro_rules | `(tactic| wtm_at "pen") => `(tactic| first
  | assumption | (refine Pen.new (by assumption) ?_; wtm_at "pen") | (refine Pen.same (by assumption) ?_; wtm_at "pen"))
local macro_rules | `(tactic| wtm_at "same") => `(tactic| first
  | exact fun _ _ h => h | assumption | exact same_new (by assumption) | (refine same_trans ?_ (same_new (by assumption)); wtm_at "same") | (refine same_trans ?_ (by assumption); wtm_at "same")
  | (refine same_trans ?_ (Off.new (by assumption)); wtm_at "same") | (refine same_trans ?_ (Off.same (by assumption)); wtm_at "same"))
local macro_rules | `(tactic| wtm_at "dps") => `(tactic| first
  | exact .nil | (apply DpAll.cons; wtm_at "dp"; wtm_at "dps") | exact dpAll_ints _)
local macro_rules | `(tactic| wtm_at "dp") => `(tactic| first
  | exact .non | exact .bl _ | exact .int _ | exact .str _ | (fail) | (apply Dp.lst; (apply SqL.of; wtm_at "at"); wtm_at "dps") | (apply Dp.tup; (apply SqT.of; wtm_at "at"); wtm_at "dps"))
local macro_rules | `(tactic| wtm_at "side") => `(tactic| first
  | exact ⟨by decide, by decide⟩ | exact ⟨by decide, by decide, by decide⟩ | exact .inl ⟨by decide, by decide⟩ | exact .inr ⟨by decide, by decide⟩ | (show ¬ _ = _; decide))
local macro_rules | `(tactic| wtm_at "sml") => `(tactic| first
  | exact sml_none (by decide) | exact sml_bool (by decide) | exact sml_int (by decide) (by omega) | (fail) | exact sml_list (n := 19) (k := 0) (by wtm_at "smls") (by decide) (by decide))
local macro_rules | `(tactic| wtm_at "smls") => `(tactic| first | exact smlAll_nil (m := 0) | (apply smlAll_cons; wtm_at "sml"; wtm_at "smls"))
local macro_rules | `(tactic| wtm_at "shw") => `(tactic| exact Sml.shw (n := 10000) (k := 50) (by wtm_at "sml") (by decide) (by decide))
local macro_rules | `(tactic| wtm_at "rd") => `(tactic| first
  | refine ⟨_, rfl, ?_⟩ | refine ⟨_, _, rfl, rfl, ?_⟩ | refine ifT rfl ?_ | refine ifF rfl ?_ | refine ⟨rfl, ?_⟩
  | refine ⟨_, _, by rfl, by wtm_at "dp", by wtm_at "shw", ?_⟩
  | refine ⟨_, _, _, _, _, rfl, by wtm_at "at", by wtm_at "cls", by wtm_at "na", by rfl, ?_⟩
  | refine ⟨_, _, rfl, .inr (SqT.of (by wtm_at "at")), ?_⟩ | refine ⟨_, _, rfl, .inl (SqL.of (by wtm_at "at")), ?_⟩
  | refine ⟨_, _, rfl, .inr (SqT.of (by wtm_at "at")), by rfl, by rfl, ?_⟩ | refine ⟨_, _, rfl, .inl (SqL.of (by wtm_at "at")), by rfl, by rfl, ?_⟩
  | refine ⟨_, _, _, _, rfl, rfl, SqT.of (by wtm_at "at"), by rfl, ?_⟩ | refine ⟨_, _, _, _, rfl, rfl, SqL.of (by wtm_at "at"), by rfl, ?_⟩
  | refine ⟨_, _, rfl, rfl, by wtm_at "side", ?_⟩
  | refine ⟨_, _, by wtm_at "dp", by wtm_at "dp", by first | rfl | decide +kernel, by first | rfl | decide +kernel, ?_⟩
  | refine ⟨_, _, [_, _], [_, _], rfl, rfl, sqI2 (by wtm_at "at"), sqI2 (by wtm_at "at"), ?_⟩
  | refine ⟨_, _, rfl, ?_⟩
  | refine ⟨Nat.le_of_ble_eq_true rfl, fun _ _ => ?_⟩
  | refine ifF (by decide +kernel) ?_ | refine ifF (nd_refl _) ?_ | refine ifT (de_refl _) ?_)

theorem dqAll_mem {K : PySem.W.Frag} {H : Hp} : ∀ {vs : List V} {ds : List PyData} {v : V}, DqAll K H vs ds → v ∈ vs → ∃ d ∈ ds, Dq K H v d
  | [], _, _, _, m => nomatch m
  | x :: vs, d :: ds, v, .cons h r, m => by
    rcases List.mem_cons.mp m with e | e
    · rw [e]
      exact ⟨d, List.mem_cons_self, h⟩
    · obtain ⟨d', m', q⟩ := dqAll_mem r e
      exact ⟨d', List.mem_cons_of_mem _ m', q⟩
section
variable {mg : PySem.Str → Option Value} {base : Heap} {w : World}
theorem ok_NoPart___init__ (M : Mod (hd12.heap_39 w.params) mg base) : CallG PP w (hd12.heap_39 w.params) mg base 3 (.ref 50) (pos (spInit 53 ["reason", "place"])) := by
  refine def_S (fn_NoPart___init__ w) sc_NoPart___init__ (fun vs H Q E h => ?_) (fun _ _ _ _ _ us hl => match us, hl with | [_, _, _], _ => rfl) (fun A outer s H vs Q E hr hg h => ?_)
  · obtain ⟨a, ws, rfl, hl, _⟩ := h; exact congrArg Nat.succ hl
  obtain ⟨a, ws, rfl, hl, ha, q⟩ := h
  match ws, hl, q with
  | [x0, x1], _, q =>
    refine ⟨_, psst_expr (pet_superE (fn_NoPart___init__ w) sc_NoPart___init__ (sup_NoPart___init__ w) rfl rfl rfl rfl rfl (pa_cons pe_str pa_nil)) (psst_of (pss_cons (ps_ost (pv 0) (pv 1)) (pss_cons (ps_ost (pv 0) (pv 2)) pss_nil))), ?_⟩
    refine ⟨a, 53, rfl, ha, supe_NoPart w, by decide, ha, ?_⟩
    refine ⟨_, rfl, _, rfl, a, 53, rfl, oex_NoPart w, nf_NoPart_reason w, .inl ⟨ha, fun dx hdx hne => ?_⟩⟩
    have q := q dx hdx hne
    refine ⟨_, rfl, _, rfl, a, 53, rfl, oex_NoPart w, nf_NoPart_place w, .inr ⟨dx, [("reason", x0)], upd_same, exmk_d (H := H) (C := 53) hne, Nat.le_of_ble_eq_true rfl, ?_⟩⟩
    show Q .non (upd (exmk H a 53 dx [("reason", x0)]) dx (exd dx [("place", x1), ("reason", x0)]))
    rw [exmk_put hne]
    exact q
theorem ok_NoNet___init__ (M : Mod (hd12.heap_39 w.params) mg base) : CallG PP w (hd12.heap_39 w.params) mg base 3 (.ref 71) (pos (spInit 74 ["reason", "place"])) := by
  refine def_S (fn_NoNet___init__ w) sc_NoNet___init__ (fun vs H Q E h => ?_) (fun _ _ _ _ _ us hl => match us, hl with | [_, _, _], _ => rfl) (fun A outer s H vs Q E hr hg h => ?_)
  · obtain ⟨a, ws, rfl, hl, _⟩ := h; exact congrArg Nat.succ hl
  obtain ⟨a, ws, rfl, hl, ha, q⟩ := h
  match ws, hl, q with
  | [x0, x1], _, q =>
    refine ⟨_, psst_expr (pet_superE (fn_NoNet___init__ w) sc_NoNet___init__ (sup_NoNet___init__ w) rfl rfl rfl rfl rfl (pa_cons pe_str pa_nil)) (psst_of (pss_cons (ps_ost (pv 0) (pv 1)) (pss_cons (ps_ost (pv 0) (pv 2)) pss_nil))), ?_⟩
    refine ⟨a, 74, rfl, ha, supe_NoNet w, by decide, ha, ?_⟩
    refine ⟨_, rfl, _, rfl, a, 74, rfl, oex_NoNet w, nf_NoNet_reason w, .inl ⟨ha, fun dx hdx hne => ?_⟩⟩
    have q := q dx hdx hne
    refine ⟨_, rfl, _, rfl, a, 74, rfl, oex_NoNet w, nf_NoNet_place w, .inr ⟨dx, [("reason", x0)], upd_same, exmk_d (H := H) (C := 74) hne, Nat.le_of_ble_eq_true rfl, ?_⟩⟩
    show Q .non (upd (exmk H a 74 dx [("reason", x0)]) dx (exd dx [("place", x1), ("reason", x0)]))
    rw [exmk_put hne]
    exact q
theorem ok_NoName___init__ (M : Mod (hd12.heap_39 w.params) mg base) : CallG PP w (hd12.heap_39 w.params) mg base 3 (.ref 92) (pos (spInit 95 ["name"])) := by
  refine def_S (fn_NoName___init__ w) sc_NoName___init__ (fun vs H Q E h => ?_) (fun _ _ _ _ _ us hl => match us, hl with | [_, _], _ => rfl) (fun A outer s H vs Q E hr hg h => ?_)
  · obtain ⟨a, ws, rfl, hl, _⟩ := h; exact congrArg Nat.succ hl
  obtain ⟨a, ws, rfl, hl, ha, q⟩ := h
  match ws, hl, q with
  | [x0], _, q =>
    refine ⟨_, psst_expr (pet_superE (fn_NoName___init__ w) sc_NoName___init__ (sup_NoName___init__ w) rfl rfl rfl rfl rfl (pa_cons pe_str pa_nil)) (psst_of (pss_cons (ps_ost (pv 0) (pv 1)) pss_nil)), ?_⟩
    refine ⟨a, 95, rfl, ha, supe_NoName w, by decide, ha, ?_⟩
    refine ⟨_, rfl, _, rfl, a, 95, rfl, oex_NoName w, nf_NoName_name w, .inl ⟨ha, fun dx hdx hne => ?_⟩⟩
    have q := q dx hdx hne
    exact q
theorem ok_NoStep___init__ (M : Mod (hd12.heap_39 w.params) mg base) : CallG PP w (hd12.heap_39 w.params) mg base 3 (.ref 113) (pos (spInit 116 ["place"])) := by
  refine def_S (fn_NoStep___init__ w) sc_NoStep___init__ (fun vs H Q E h => ?_) (fun _ _ _ _ _ us hl => match us, hl with | [_, _], _ => rfl) (fun A outer s H vs Q E hr hg h => ?_)
  · obtain ⟨a, ws, rfl, hl, _⟩ := h; exact congrArg Nat.succ hl
  obtain ⟨a, ws, rfl, hl, ha, q⟩ := h
  match ws, hl, q with
  | [x0], _, q =>
    refine ⟨_, psst_expr (pet_superE (fn_NoStep___init__ w) sc_NoStep___init__ (sup_NoStep___init__ w) rfl rfl rfl rfl rfl (pa_cons pe_str pa_nil)) (psst_of (pss_cons (ps_ost (pv 0) (pv 1)) pss_nil)), ?_⟩
    refine ⟨a, 116, rfl, ha, supe_NoStep w, by decide, ha, ?_⟩
    refine ⟨_, rfl, _, rfl, a, 116, rfl, oex_NoStep w, nf_NoStep_place w, .inl ⟨ha, fun dx hdx hne => ?_⟩⟩
    have q := q dx hdx hne
    exact q
end
end M12

namespace M12
open PySem PySem.Spec PyProof.Rows L2 StX Uk

local macro_rules | `(tactic| wtm_at "off0") => `(tactic| first | with_reducible assumption | (with_reducible apply Off.mk; wtm_at "pen"; assumption))
local macro_rules | `(tactic| wtm_at "at0") => `(tactic| first | with_reducible assumption | with_reducible exact upd_same | (with_reducible apply Off.at; wtm_at "off0"))
local macro_rules | `(tactic| wtm_at "off1") => `(tactic| first | with_reducible assumption | (with_reducible apply Off.mk; wtm_at "pen"; assumption) | (with_reducible refine Off.new (by assumption) _ _ ?_; wtm_at "off0") | (with_reducible refine at_same (by with_reducible assumption) ?_; wtm_at "off0"))
local macro_rules | `(tactic| wtm_at "at1") => `(tactic| first | with_reducible assumption | with_reducible exact upd_same | (with_reducible refine at_new (by assumption) ?_; wtm_at "at0") | (with_reducible refine at_same (by with_reducible assumption) ?_; wtm_at "at0") | (with_reducible apply Off.at; wtm_at "off1"))
local macro_rules | `(tactic| wtm_at "off2") => `(tactic| first | with_reducible assumption | (with_reducible apply Off.mk; wtm_at "pen"; assumption) | (with_reducible refine Off.new (by assumption) _ _ ?_; wtm_at "off1") | (with_reducible refine at_same (by with_reducible assumption) ?_; wtm_at "off1"))
local macro_rules | `(tactic| wtm_at "at2") => `(tactic| first | with_reducible assumption | with_reducible exact upd_same | (with_reducible refine at_new (by assumption) ?_; wtm_at "at1") | (with_reducible refine at_same (by with_reducible assumption) ?_; wtm_at "at1") | (with_reducible apply Off.at; wtm_at "off2"))
local macro_rules | `(tactic| wtm_at "off3") => `(tactic| first | with_reducible assumption | (with_reducible apply Off.mk; wtm_at "pen"; assumption) | (with_reducible refine Off.new (by assumption) _ _ ?_; wtm_at "off2") | (with_reducible refine at_same (by with_reducible assumption) ?_; wtm_at "off2"))
local macro_rules | `(tactic| wtm_at "at3") => `(tactic| first | with_reducible assumption | with_reducible exact upd_same | (with_reducible refine at_new (by assumption) ?_; wtm_at "at2") | (with_reducible refine at_same (by with_reducible assumption) ?_; wtm_at "at2") | (with_reducible apply Off.at; wtm_at "off3"))
local macro_rules | `(tactic| wtm_at "off4") => `(tactic| first | with_reducible assumption | (with_reducible apply Off.mk; wtm_at "pen"; assumption) | (with_reducible refine Off.new (by assumption) _ _ ?_; wtm_at "off3") | (with_reducible refine at_same (by with_reducible assumption) ?_; wtm_at "off3"))
local macro_rules | `(tactic| wtm_at "at4") => `(tactic| first | with_reducible assumption | with_reducible exact upd_same | (with_reducible refine at_new (by assumption) ?_; wtm_at "at3") | (with_reducible refine at_same (by with_reducible assumption) ?_; wtm_at "at3") | (with_reducible apply Off.at; wtm_at "off4"))
local macro_rules | `(tactic| wtm_at "off5") => `(tactic| first | with_reducible assumption | (with_reducible apply Off.mk; wtm_at "pen"; assumption) | (with_reducible refine Off.new (by assumption) _ _ ?_; wtm_at "off4") | (with_reducible refine at_same (by with_reducible assumption) ?_; wtm_at "off4"))
local macro_rules | `(tactic| wtm_at "at5") => `(tactic| first | with_reducible assumption | with_reducible exact upd_same | (with_reducible refine at_new (by assumption) ?_; wtm_at "at4") | (with_reducible refine at_same (by with_reducible assumption) ?_; wtm_at "at4") | (with_reducible apply Off.at; wtm_at "off5"))
local macro_rules | `(tactic| wtm_at "off6") => `(tactic| first | with_reducible assumption | (with_reducible apply Off.mk; wtm_at "pen"; assumption) | (with_reducible refine Off.new (by assumption) _ _ ?_; wtm_at "off5") | (with_reducible refine at_same (by with_reducible assumption) ?_; wtm_at "off5"))
local macro_rules | `(tactic| wtm_at "at6") => `(tactic| first | with_reducible assumption | with_reducible exact upd_same | (with_reducible refine at_new (by assumption) ?_; wtm_at "at5") | (with_reducible refine at_same (by with_reducible assumption) ?_; wtm_at "at5") | (with_reducible apply Off.at; wtm_at "off6"))
local macro_rules | `(tactic| wtm_at "off7") => `(tactic| first | with_reducible assumption | (with_reducible apply Off.mk; wtm_at "pen"; assumption) | (with_reducible refine Off.new (by assumption) _ _ ?_; wtm_at "off6") | (with_reducible refine at_same (by with_reducible assumption) ?_; wtm_at "off6"))
local macro_rules | `(tactic| wtm_at "at7") => `(tactic| first | with_reducible assumption | with_reducible exact upd_same | (with_reducible refine at_new (by assumption) ?_; wtm_at "at6") | (with_reducible refine at_same (by with_reducible assumption) ?_; wtm_at "at6") | (with_reducible apply Off.at; wtm_at "off7"))
local macro_rules | `(tactic| wtm_at "off8") => `(tactic| first | with_reducible assumption | (with_reducible apply Off.mk; wtm_at "pen"; assumption) | (with_reducible refine Off.new (by assumption) _ _ ?_; wtm_at "off7") | (with_reducible refine at_same (by with_reducible assumption) ?_; wtm_at "off7"))
local macro_rules | `(tactic| wtm_at "at8") => `(tactic| first | with_reducible assumption | with_reducible exact upd_same | (with_reducible refine at_new (by assumption) ?_; wtm_at "at7") | (with_reducible refine at_same (by with_reducible assumption) ?_; wtm_at "at7") | (with_reducible apply Off.at; wtm_at "off8"))
local macro_rules | `(tactic| wtm_at "off9") => `(tactic| first | with_reducible assumption | (with_reducible apply Off.mk; wtm_at "pen"; assumption) | (with_reducible refine Off.new (by assumption) _ _ ?_; wtm_at "off8") | (with_reducible refine at_same (by with_reducible assumption) ?_; wtm_at "off8"))
local macro_rules | `(tactic| wtm_at "at9") => `(tactic| first | with_reducible assumption | with_reducible exact upd_same | (with_reducible refine at_new (by assumption) ?_; wtm_at "at8") | (with_reducible refine at_same (by with_reducible assumption) ?_; wtm_at "at8") | (with_reducible apply Off.at; wtm_at "off9"))
local macro_rules | `(tactic| wtm_at "off10") => `(tactic| first | with_reducible assumption | (with_reducible apply Off.mk; wtm_at "pen"; assumption) | (with_reducible refine Off.new (by assumption) _ _ ?_; wtm_at "off9") | (with_reducible refine at_same (by with_reducible assumption) ?_; wtm_at "off9"))
local macro_rules | `(tactic| wtm_at "at10") => `(tactic| first | with_reducible assumption | with_reducible exact upd_same | (with_reducible refine at_new (by assumption) ?_; wtm_at "at9") | (with_reducible refine at_same (by with_reducible assumption) ?_; wtm_at "at9") | (with_reducible apply Off.at; wtm_at "off10"))
local macro_rules | `(tactic| wtm_at "off11") => `(tactic| first | with_reducible assumption | (with_reducible apply Off.mk; wtm_at "pen"; assumption) | (with_reducible refine Off.new (by assumption) _ _ ?_; wtm_at "off10") | (with_reducible refine at_same (by with_reducible assumption) ?_; wtm_at "off10"))
local macro_rules | `(tactic| wtm_at "at11") => `(tactic| first | with_reducible assumption | with_reducible exact upd_same | (with_reducible refine at_new (by assumption) ?_; wtm_at "at10") | (with_reducible refine at_same (by with_reducible assumption) ?_; wtm_at "at10") | (with_reducible apply Off.at; wtm_at "off11"))
local macro_rules | `(tactic| wtm_at "off12") => `(tactic| first | with_reducible assumption | (with_reducible apply Off.mk; wtm_at "pen"; assumption) | (with_reducible refine Off.new (by assumption) _ _ ?_; wtm_at "off11") | (with_reducible refine at_same (by with_reducible assumption) ?_; wtm_at "off11"))
local macro_rules | `(tactic| wtm_at "at12") => `(tactic| first | with_reducible assumption | with_reducible exact upd_same | (with_reducible refine at_new (by assumption) ?_; wtm_at "at11") | (with_reducible refine at_same (by with_reducible assumption) ?_; wtm_at "at11") | (with_reducible apply Off.at; wtm_at "off12"))
local macro_rules | `(tactic| wtm_at "off13") => `(tactic| first | with_reducible assumption | (with_reducible apply Off.mk; wtm_at "pen"; assumption) | (with_reducible refine Off.new (by assumption) _ _ ?_; wtm_at "off12") | (with_reducible refine at_same (by with_reducible assumption) ?_; wtm_at "off12"))
local macro_rules | `(tactic| wtm_at "at13") => `(tactic| first | with_reducible assumption | with_reducible exact upd_same | (with_reducible refine at_new (by assumption) ?_; wtm_at "at12") | (with_reducible refine at_same (by with_reducible assumption) ?_; wtm_at "at12") | (with_reducible apply Off.at; wtm_at "off13"))
local macro_rules | `(tactic| wtm_at "off14") => `(tactic| first | with_reducible assumption | (with_reducible apply Off.mk; wtm_at "pen"; assumption) | (with_reducible refine Off.new (by assumption) _ _ ?_; wtm_at "off13") | (with_reducible refine at_same (by with_reducible assumption) ?_; wtm_at "off13"))
local macro_rules | `(tactic| wtm_at "at14") => `(tactic| first | with_reducible assumption | with_reducible exact upd_same | (with_reducible refine at_new (by assumption) ?_; wtm_at "at13") | (with_reducible refine at_same (by with_reducible assumption) ?_; wtm_at "at13") | (with_reducible apply Off.at; wtm_at "off14"))
local macro_rules | `(tactic| wtm_at "off15") => `(tactic| first | with_reducible assumption | (with_reducible apply Off.mk; wtm_at "pen"; assumption) | (with_reducible refine Off.new (by assumption) _ _ ?_; wtm_at "off14") | (with_reducible refine at_same (by with_reducible assumption) ?_; wtm_at "off14"))
local macro_rules | `(tactic| wtm_at "at15") => `(tactic| first | with_reducible assumption | with_reducible exact upd_same | (with_reducible refine at_new (by assumption) ?_; wtm_at "at14") | (with_reducible refine at_same (by with_reducible assumption) ?_; wtm_at "at14") | (with_reducible apply Off.at; wtm_at "off15"))
local macro_rules | `(tactic| wtm_at "off16") => `(tactic| first | with_reducible assumption | (with_reducible apply Off.mk; wtm_at "pen"; assumption) | (with_reducible refine Off.new (by assumption) _ _ ?_; wtm_at "off15") | (with_reducible refine at_same (by with_reducible assumption) ?_; wtm_at "off15"))
local macro_rules | `(tactic| wtm_at "at16") => `(tactic| first | with_reducible assumption | with_reducible exact upd_same | (with_reducible refine at_new (by assumption) ?_; wtm_at "at15") | (with_reducible refine at_same (by with_reducible assumption) ?_; wtm_at "at15") | (with_reducible apply Off.at; wtm_at "off16"))
local macro_rules | `(tactic| wtm_at "off17") => `(tactic| first | with_reducible assumption | (with_reducible apply Off.mk; wtm_at "pen"; assumption) | (with_reducible refine Off.new (by assumption) _ _ ?_; wtm_at "off16") | (with_reducible refine at_same (by with_reducible assumption) ?_; wtm_at "off16"))
local macro_rules | `(tactic| wtm_at "at17") => `(tactic| first | with_reducible assumption | with_reducible exact upd_same | (with_reducible refine at_new (by assumption) ?_; wtm_at "at16") | (with_reducible refine at_same (by with_reducible assumption) ?_; wtm_at "at16") | (with_reducible apply Off.at; wtm_at "off17"))
local macro_rules | `(tactic| wtm_at "off18") => `(tactic| first | with_reducible assumption | (with_reducible apply Off.mk; wtm_at "pen"; assumption) | (with_reducible refine Off.new (by assumption) _ _ ?_; wtm_at "off17") | (with_reducible refine at_same (by with_reducible assumption) ?_; wtm_at "off17"))
local macro_rules | `(tactic| wtm_at "at18") => `(tactic| first | with_reducible assumption | with_reducible exact upd_same | (with_reducible refine at_new (by assumption) ?_; wtm_at "at17") | (with_reducible refine at_same (by with_reducible assumption) ?_; wtm_at "at17") | (with_reducible apply Off.at; wtm_at "off18"))
local macro_rules | `(tactic| wtm_at "off19") => `(tactic| first | with_reducible assumption | (with_reducible apply Off.mk; wtm_at "pen"; assumption) | (with_reducible refine Off.new (by assumption) _ _ ?_; wtm_at "off18") | (with_reducible refine at_same (by with_reducible assumption) ?_; wtm_at "off18"))
local macro_rules | `(tactic| wtm_at "at19") => `(tactic| first | with_reducible assumption | with_reducible exact upd_same | (with_reducible refine at_new (by assumption) ?_; wtm_at "at18") | (with_reducible refine at_same (by with_reducible assumption) ?_; wtm_at "at18") | (with_reducible apply Off.at; wtm_at "off19"))
local macro_rules | `(tactic| wtm_at "off20") => `(tactic| first | with_reducible assumption | (with_reducible apply Off.mk; wtm_at "pen"; assumption) | (with_reducible refine Off.new (by assumption) _ _ ?_; wtm_at "off19") | (with_reducible refine at_same (by with_reducible assumption) ?_; wtm_at "off19"))
local macro_rules | `(tactic| wtm_at "at20") => `(tactic| first | with_reducible assumption | with_reducible exact upd_same | (with_reducible refine at_new (by assumption) ?_; wtm_at "at19") | (with_reducible refine at_same (by with_reducible assumption) ?_; wtm_at "at19") | (with_reducible apply Off.at; wtm_at "off20"))
local macro_rules | `(tactic| wtm_at "off21") => `(tactic| first | with_reducible assumption | (with_reducible apply Off.mk; wtm_at "pen"; assumption) | (with_reducible refine Off.new (by assumption) _ _ ?_; wtm_at "off20") | (with_reducible refine at_same (by with_reducible assumption) ?_; wtm_at "off20"))
local macro_rules | `(tactic| wtm_at "at21") => `(tactic| first | with_reducible assumption | with_reducible exact upd_same | (with_reducible refine at_new (by assumption) ?_; wtm_at "at20") | (with_reducible refine at_same (by with_reducible assumption) ?_; wtm_at "at20") | (with_reducible apply Off.at; wtm_at "off21"))
local macro_rules | `(tactic| wtm_at "off22") => `(tactic| first | with_reducible assumption | (with_reducible apply Off.mk; wtm_at "pen"; assumption) | (with_reducible refine Off.new (by assumption) _ _ ?_; wtm_at "off21") | (with_reducible refine at_same (by with_reducible assumption) ?_; wtm_at "off21"))
local macro_rules | `(tactic| wtm_at "at22") => `(tactic| first | with_reducible assumption | with_reducible exact upd_same | (with_reducible refine at_new (by assumption) ?_; wtm_at "at21") | (with_reducible refine at_same (by with_reducible assumption) ?_; wtm_at "at21") | (with_reducible apply Off.at; wtm_at "off22"))
local macro_rules | `(tactic| wtm_at "off23") => `(tactic| first | with_reducible assumption | (with_reducible apply Off.mk; wtm_at "pen"; assumption) | (with_reducible refine Off.new (by assumption) _ _ ?_; wtm_at "off22") | (with_reducible refine at_same (by with_reducible assumption) ?_; wtm_at "off22"))
local macro_rules | `(tactic| wtm_at "at23") => `(tactic| first | with_reducible assumption | with_reducible exact upd_same | (with_reducible refine at_new (by assumption) ?_; wtm_at "at22") | (with_reducible refine at_same (by with_reducible assumption) ?_; wtm_at "at22") | (with_reducible apply Off.at; wtm_at "off23"))
local macro_rules | `(tactic| wtm_at "off24") => `(tactic| first | with_reducible assumption | (with_reducible apply Off.mk; wtm_at "pen"; assumption) | (with_reducible refine Off.new (by assumption) _ _ ?_; wtm_at "off23") | (with_reducible refine at_same (by with_reducible assumption) ?_; wtm_at "off23"))
local macro_rules | `(tactic| wtm_at "at24") => `(tactic| first | with_reducible assumption | with_reducible exact upd_same | (with_reducible refine at_new (by assumption) ?_; wtm_at "at23") | (with_reducible refine at_same (by with_reducible assumption) ?_; wtm_at "at23") | (with_reducible apply Off.at; wtm_at "off24"))
local macro_rules | `(tactic| wtm_at "off25") => `(tactic| first | with_reducible assumption | (with_reducible apply Off.mk; wtm_at "pen"; assumption) | (with_reducible refine Off.new (by assumption) _ _ ?_; wtm_at "off24") | (with_reducible refine at_same (by with_reducible assumption) ?_; wtm_at "off24"))
local macro_rules | `(tactic| wtm_at "at25") => `(tactic| first | with_reducible assumption | with_reducible exact upd_same | (with_reducible refine at_new (by assumption) ?_; wtm_at "at24") | (with_reducible refine at_same (by with_reducible assumption) ?_; wtm_at "at24") | (with_reducible apply Off.at; wtm_at "off25"))
local macro_rules | `(tactic| wtm_at "off26") => `(tactic| first | with_reducible assumption | (with_reducible apply Off.mk; wtm_at "pen"; assumption) | (with_reducible refine Off.new (by assumption) _ _ ?_; wtm_at "off25") | (with_reducible refine at_same (by with_reducible assumption) ?_; wtm_at "off25"))
local macro_rules | `(tactic| wtm_at "at26") => `(tactic| first | with_reducible assumption | with_reducible exact upd_same | (with_reducible refine at_new (by assumption) ?_; wtm_at "at25") | (with_reducible refine at_same (by with_reducible assumption) ?_; wtm_at "at25") | (with_reducible apply Off.at; wtm_at "off26"))
local macro_rules | `(tactic| wtm_at "off27") => `(tactic| first | with_reducible assumption | (with_reducible apply Off.mk; wtm_at "pen"; assumption) | (with_reducible refine Off.new (by assumption) _ _ ?_; wtm_at "off26") | (with_reducible refine at_same (by with_reducible assumption) ?_; wtm_at "off26"))
local macro_rules | `(tactic| wtm_at "at27") => `(tactic| first | with_reducible assumption | with_reducible exact upd_same | (with_reducible refine at_new (by assumption) ?_; wtm_at "at26") | (with_reducible refine at_same (by with_reducible assumption) ?_; wtm_at "at26") | (with_reducible apply Off.at; wtm_at "off27"))
local macro_rules | `(tactic| wtm_at "off28") => `(tactic| first | with_reducible assumption | (with_reducible apply Off.mk; wtm_at "pen"; assumption) | (with_reducible refine Off.new (by assumption) _ _ ?_; wtm_at "off27") | (with_reducible refine at_same (by with_reducible assumption) ?_; wtm_at "off27"))
local macro_rules | `(tactic| wtm_at "at28") => `(tactic| first | with_reducible assumption | with_reducible exact upd_same | (with_reducible refine at_new (by assumption) ?_; wtm_at "at27") | (with_reducible refine at_same (by with_reducible assumption) ?_; wtm_at "at27") | (with_reducible apply Off.at; wtm_at "off28"))
local macro_rules | `(tactic| wtm_at "off29") => `(tactic| first | with_reducible assumption | (with_reducible apply Off.mk; wtm_at "pen"; assumption) | (with_reducible refine Off.new (by assumption) _ _ ?_; wtm_at "off28") | (with_reducible refine at_same (by with_reducible assumption) ?_; wtm_at "off28"))
local macro_rules | `(tactic| wtm_at "at29") => `(tactic| first | with_reducible assumption | with_reducible exact upd_same | (with_reducible refine at_new (by assumption) ?_; wtm_at "at28") | (with_reducible refine at_same (by with_reducible assumption) ?_; wtm_at "at28") | (with_reducible apply Off.at; wtm_at "off29"))
local macro_rules | `(tactic| wtm_at "off30") => `(tactic| first | with_reducible assumption | (with_reducible apply Off.mk; wtm_at "pen"; assumption) | (with_reducible refine Off.new (by assumption) _ _ ?_; wtm_at "off29") | (with_reducible refine at_same (by with_reducible assumption) ?_; wtm_at "off29"))
local macro_rules | `(tactic| wtm_at "at30") => `(tactic| first | with_reducible assumption | with_reducible exact upd_same | (with_reducible refine at_new (by assumption) ?_; wtm_at "at29") | (with_reducible refine at_same (by with_reducible assumption) ?_; wtm_at "at29") | (with_reducible apply Off.at; wtm_at "off30"))
local macro_rules | `(tactic| wtm_at "off31") => `(tactic| first | with_reducible assumption | (with_reducible apply Off.mk; wtm_at "pen"; assumption) | (with_reducible refine Off.new (by assumption) _ _ ?_; wtm_at "off30") | (with_reducible refine at_same (by with_reducible assumption) ?_; wtm_at "off30"))
local macro_rules | `(tactic| wtm_at "at31") => `(tactic| first | with_reducible assumption | with_reducible exact upd_same | (with_reducible refine at_new (by assumption) ?_; wtm_at "at30") | (with_reducible refine at_same (by with_reducible assumption) ?_; wtm_at "at30") | (with_reducible apply Off.at; wtm_at "off31"))
local macro_rules | `(tactic| wtm_at "off32") => `(tactic| first | with_reducible assumption | (with_reducible apply Off.mk; wtm_at "pen"; assumption) | (with_reducible refine Off.new (by assumption) _ _ ?_; wtm_at "off31") | (with_reducible refine at_same (by with_reducible assumption) ?_; wtm_at "off31"))
local macro_rules | `(tactic| wtm_at "at32") => `(tactic| first | with_reducible assumption | with_reducible exact upd_same | (with_reducible refine at_new (by assumption) ?_; wtm_at "at31") | (with_reducible refine at_same (by with_reducible assumption) ?_; wtm_at "at31") | (with_reducible apply Off.at; wtm_at "off32"))
local macro_rules | `(tactic| wtm_at "off33") => `(tactic| first | with_reducible assumption | (with_reducible apply Off.mk; wtm_at "pen"; assumption) | (with_reducible refine Off.new (by assumption) _ _ ?_; wtm_at "off32") | (with_reducible refine at_same (by with_reducible assumption) ?_; wtm_at "off32"))
local macro_rules | `(tactic| wtm_at "at33") => `(tactic| first | with_reducible assumption | with_reducible exact upd_same | (with_reducible refine at_new (by assumption) ?_; wtm_at "at32") | (with_reducible refine at_same (by with_reducible assumption) ?_; wtm_at "at32") | (with_reducible apply Off.at; wtm_at "off33"))
local macro_rules | `(tactic| wtm_at "off34") => `(tactic| first | with_reducible assumption | (with_reducible apply Off.mk; wtm_at "pen"; assumption) | (with_reducible refine Off.new (by assumption) _ _ ?_; wtm_at "off33") | (with_reducible refine at_same (by with_reducible assumption) ?_; wtm_at "off33"))
local macro_rules | `(tactic| wtm_at "at34") => `(tactic| first | with_reducible assumption | with_reducible exact upd_same | (with_reducible refine at_new (by assumption) ?_; wtm_at "at33") | (with_reducible refine at_same (by with_reducible assumption) ?_; wtm_at "at33") | (with_reducible apply Off.at; wtm_at "off34"))
local macro_rules | `(tactic| wtm_at "off35") => `(tactic| first | with_reducible assumption | (with_reducible apply Off.mk; wtm_at "pen"; assumption) | (with_reducible refine Off.new (by assumption) _ _ ?_; wtm_at "off34") | (with_reducible refine at_same (by with_reducible assumption) ?_; wtm_at "off34"))
local macro_rules | `(tactic| wtm_at "at35") => `(tactic| first | with_reducible assumption | with_reducible exact upd_same | (with_reducible refine at_new (by assumption) ?_; wtm_at "at34") | (with_reducible refine at_same (by with_reducible assumption) ?_; wtm_at "at34") | (with_reducible apply Off.at; wtm_at "off35"))
local macro_rules | `(tactic| wtm_at "off36") => `(tactic| first | with_reducible assumption | (with_reducible apply Off.mk; wtm_at "pen"; assumption) | (with_reducible refine Off.new (by assumption) _ _ ?_; wtm_at "off35") | (with_reducible refine at_same (by with_reducible assumption) ?_; wtm_at "off35"))
local macro_rules | `(tactic| wtm_at "at36") => `(tactic| first | with_reducible assumption | with_reducible exact upd_same | (with_reducible refine at_new (by assumption) ?_; wtm_at "at35") | (with_reducible refine at_same (by with_reducible assumption) ?_; wtm_at "at35") | (with_reducible apply Off.at; wtm_at "off36"))
local macro_rules | `(tactic| wtm_at "off37") => `(tactic| first | with_reducible assumption | (with_reducible apply Off.mk; wtm_at "pen"; assumption) | (with_reducible refine Off.new (by assumption) _ _ ?_; wtm_at "off36") | (with_reducible refine at_same (by with_reducible assumption) ?_; wtm_at "off36"))
local macro_rules | `(tactic| wtm_at "at37") => `(tactic| first | with_reducible assumption | with_reducible exact upd_same | (with_reducible refine at_new (by assumption) ?_; wtm_at "at36") | (with_reducible refine at_same (by with_reducible assumption) ?_; wtm_at "at36") | (with_reducible apply Off.at; wtm_at "off37"))
local macro_rules | `(tactic| wtm_at "off38") => `(tactic| first | with_reducible assumption | (with_reducible apply Off.mk; wtm_at "pen"; assumption) | (with_reducible refine Off.new (by assumption) _ _ ?_; wtm_at "off37") | (with_reducible refine at_same (by with_reducible assumption) ?_; wtm_at "off37"))
local macro_rules | `(tactic| wtm_at "at38") => `(tactic| first | with_reducible assumption | with_reducible exact upd_same | (with_reducible refine at_new (by assumption) ?_; wtm_at "at37") | (with_reducible refine at_same (by with_reducible assumption) ?_; wtm_at "at37") | (with_reducible apply Off.at; wtm_at "off38"))
local macro_rules | `(tactic| wtm_at "off39") => `(tactic| first | with_reducible assumption | (with_reducible apply Off.mk; wtm_at "pen"; assumption) | (with_reducible refine Off.new (by assumption) _ _ ?_; wtm_at "off38") | (with_reducible refine at_same (by with_reducible assumption) ?_; wtm_at "off38"))
local macro_rules | `(tactic| wtm_at "at39") => `(tactic| first | with_reducible assumption | with_reducible exact upd_same | (with_reducible refine at_new (by assumption) ?_; wtm_at "at38") | (with_reducible refine at_same (by with_reducible assumption) ?_; wtm_at "at38") | (with_reducible apply Off.at; wtm_at "off39"))
local macro_rules | `(tactic| wtm_at "at") => `(tactic| wtm_at "at39")
local macro_rules | `(tactic| wtm_at "off") => `(tactic| wtm_at "off39")
local macro_rules | `(tactic| wtm_at "pen") => `(tactic| first
  | assumption | (refine Pen.new (by assumption) ?_; wtm_at "pen") | (refine Pen.same (by assumption) ?_; wtm_at "pen"))
local macro_rules | `(tactic| wtm_at "same") => `(tactic| first
  | exact fun _ _ h => h | assumption | exact same_new (by assumption) | (refine same_trans ?_ (same_new (by assumption)); wtm_at "same") | (refine same_trans ?_ (by assumption); wtm_at "same")
  | (refine same_trans ?_ (Off.new (by assumption)); wtm_at "same") | (refine same_trans ?_ (Off.same (by assumption)); wtm_at "same"))
local macro_rules | `(tactic| wtm_at "dps") => `(tactic| first
  | exact .nil | (apply DpAll.cons; wtm_at "dp"; wtm_at "dps") | exact dpAll_ints _)
local macro_rules | `(tactic| wtm_at "dp") => `(tactic| first
  | exact .non | exact .bl _ | exact .int _ | exact .str _ | (fail) | (apply Dp.lst; (apply SqL.of; wtm_at "at"); wtm_at "dps") | (apply Dp.tup; (apply SqT.of; wtm_at "at"); wtm_at "dps"))
local macro_rules | `(tactic| wtm_at "side") => `(tactic| first
  | exact ⟨by decide, by decide⟩ | exact ⟨by decide, by decide, by decide⟩ | exact .inl ⟨by decide, by decide⟩ | exact .inr ⟨by decide, by decide⟩ | (show ¬ _ = _; decide))
local macro_rules | `(tactic| wtm_at "sml") => `(tactic| first
  | exact sml_none (by decide) | exact sml_bool (by decide) | exact sml_int (by decide) (by omega) | (fail) | exact sml_list (n := 19) (k := 0) (by wtm_at "smls") (by decide) (by decide))
local macro_rules | `(tactic| wtm_at "smls") => `(tactic| first | exact smlAll_nil (m := 0) | (apply smlAll_cons; wtm_at "sml"; wtm_at "smls"))
local macro_rules | `(tactic| wtm_at "shw") => `(tactic| exact Sml.shw (n := 10000) (k := 50) (by wtm_at "sml") (by decide) (by decide))
local macro_rules | `(tactic| wtm_at "rd") => `(tactic| first
  | refine ⟨_, rfl, ?_⟩ | refine ⟨_, _, rfl, rfl, ?_⟩ | refine ifT rfl ?_ | refine ifF rfl ?_ | refine ⟨rfl, ?_⟩
  | refine ⟨_, _, by rfl, by wtm_at "dp", by wtm_at "shw", ?_⟩
  | refine ⟨_, _, _, _, _, rfl, by wtm_at "at", by wtm_at "cls", by wtm_at "na", by rfl, ?_⟩
  | refine ⟨_, _, rfl, .inr (SqT.of (by wtm_at "at")), ?_⟩ | refine ⟨_, _, rfl, .inl (SqL.of (by wtm_at "at")), ?_⟩
  | refine ⟨_, _, rfl, .inr (SqT.of (by wtm_at "at")), by rfl, by rfl, ?_⟩ | refine ⟨_, _, rfl, .inl (SqL.of (by wtm_at "at")), by rfl, by rfl, ?_⟩
  | refine ⟨_, _, _, _, rfl, rfl, SqT.of (by wtm_at "at"), by rfl, ?_⟩ | refine ⟨_, _, _, _, rfl, rfl, SqL.of (by wtm_at "at"), by rfl, ?_⟩
  | refine ⟨_, _, rfl, rfl, by wtm_at "side", ?_⟩
  | refine ⟨_, _, by wtm_at "dp", by wtm_at "dp", by first | rfl | decide +kernel, by first | rfl | decide +kernel, ?_⟩
  | refine ⟨_, _, [_, _], [_, _], rfl, rfl, sqI2 (by wtm_at "at"), sqI2 (by wtm_at "at"), ?_⟩
  | refine ⟨_, _, rfl, ?_⟩
  | refine ⟨Nat.le_of_ble_eq_true rfl, fun _ _ => ?_⟩
  | refine ifF (by decide +kernel) ?_ | refine ifF (nd_refl _) ?_ | refine ifT (de_refl _) ?_)
section
variable {mg : PySem.Str → Option Value} {base : Heap} {w : World}
theorem ok_is_integer (M : Mod (hd12.heap_39 w.params) mg base) : CallG PP w (hd12.heap_39 w.params) mg base 1 (.ref 125) (pos (spIsInt (hd12.heap_39 w.params))) := by
  obtain ⟨fd, F⟩ := fn_is_integer w
  refine def_pos F sc_is_integer (fun vs H Q E h => ?_) (fun _ _ _ _ _ _ us hl => match us, hl with | [_], _ => rfl) (fun cdv A outer s H vs Q E hr hg h => ?_)
  · obtain ⟨v, d, rfl, _⟩ := h; rfl
  have nd := sc_is_integer.nd
  obtain ⟨v, d, rfl, hd, q⟩ := h
  refine ⟨_, (pss_one (ps_ret (pe_and (pe_callB call_isi (by rfl) (mn_isinstance M) (by decide +kernel) (pa_cons (pv 0) (pa_cons (pe_bltn (v := .ty "int") (by rfl) (mn_int M) (by decide +kernel) rfl) pa_nil))) (pe_one (pe_not (pe_callB call_isi (by rfl) (mn_isinstance M) (by decide +kernel) (pa_cons (pv 0) (pa_cons (pe_bltn (v := .ty "bool") (by rfl) (mn_bool M) (by decide +kernel) rfl) pa_nil)))))))), ?_⟩
  have z := intD_of d
  refine ⟨_, rfl, _, _, _, _, _, rfl, .ty "int", dq_ty hd, kit_dInt d, _, rfl, ite_b (fun e => ?_) (fun e => ?_)⟩
  · refine ⟨_, rfl, _, _, _, _, _, rfl, .ty "bool", dq_ty hd, kit_dBool d, ?_⟩
    rw [e, Bool.true_and] at z
    rw [← z] at q
    first | exact q | exact ⟨_, rfl, q⟩
  · rw [e, Bool.false_and] at z
    rw [← z] at q
    first | exact q | exact ⟨_, rfl, q⟩
theorem ok_is_within (M : Mod (hd12.heap_39 w.params) mg base) : CallG PP w (hd12.heap_39 w.params) mg base 2 (.ref 132) (pos (spWithin (hd12.heap_39 w.params))) := by
  obtain ⟨fd, F⟩ := fn_is_within w
  refine def_pos F sc_is_within (fun vs H Q E h => ?_) (fun _ _ _ _ _ _ us hl => match us, hl with | [_, _, _], _ => rfl) (fun cdv A outer s H vs Q E hr hg h => ?_)
  · obtain ⟨v, d, lo, hi, rfl, _⟩ := h; rfl
  have nd := sc_is_within.nd
  obtain ⟨v, d, lo, hi, rfl, hd, q⟩ := h
  refine ⟨_, (pss_one (ps_ret (pe_and (pe_cl (takes_of rfl rfl rfl rfl) (ok_is_integer M) (hr.mono (by decide)) hg rfl (mg_is_integer M) (kp_is_integer w) (pa_cons (pv 0) pa_nil)) (pe_one (pe_chain op_le op_le (pv 1) (pv 0) (pv 2)))))), ?_⟩
  refine ⟨_, rfl, rfl, v, d, rfl, hd, _, rfl, ite_b (fun e => ?_) (fun e => ?_)⟩
  · obtain ⟨i, rfl, rfl⟩ := dq_int hd e
    refine ⟨_, rfl, _, rfl, _, _, rfl, rfl, _, rfl, ite_b (fun h1 => ?_) (fun h1 => ?_)⟩
    · refine ⟨_, rfl, _, _, rfl, rfl, ?_⟩
      have z : within (.int i) lo hi = decide (i ≤ hi) := by
        show (decide (lo ≤ i) && decide (i ≤ hi)) = _
        rw [h1, Bool.true_and]
      rw [z] at q
      exact q
    · have z : within (.int i) lo hi = false := by
        show (decide (lo ≤ i) && decide (i ≤ hi)) = _
        rw [h1, Bool.false_and]
      rw [z] at q
      exact q
  · rw [within_of e] at q
    exact q
theorem ok_is_name (M : Mod (hd12.heap_39 w.params) mg base) : CallG PP w (hd12.heap_39 w.params) mg base 1 (.ref 137) (pos (spNameD (hd12.heap_39 w.params))) := by
  obtain ⟨fd, F⟩ := fn_is_name w
  refine def_pos F sc_is_name (fun vs H Q E h => ?_) (fun _ _ _ _ _ _ us hl => match us, hl with | [_], _ => rfl) (fun cdv A outer s H vs Q E hr hg h => ?_)
  · obtain ⟨v, d, rfl, _⟩ := h; rfl
  have nd := sc_is_name.nd
  obtain ⟨v, d, rfl, hd, hs, q⟩ := h
  refine ⟨_, (pss_cons (ps_if (PW.pt (pw_or (pt_not (pt_val (pe_callB call_isi (by rfl) (mn_isinstance M) (by decide +kernel) (pa_cons (pv 0) (pa_cons (pe_bltn (v := .ty "str") (by rfl) (mn_str M) (by decide +kernel) rfl) pa_nil))))) (pw_or1 (pt_not (pt_chain op_le op_le pe_int (pe_callB call_len_str (by rfl) (mn_len M) (by decide +kernel) (pa_cons (pv 0) pa_nil)) (pe_glob (v := .int 8) rfl (mg_LONGEST M) ⟨_, rfl⟩)))))) (pss_one (ps_ret pe_bl)) pss_nil)
      (pss_one (ps_ret (pe_callB (cr_all rfl) (by rfl) (mn_all M) (by decide +kernel) (pa_cons (pe_lc (own := [("letter", 1)]) (g := gName 1) (by rfl) nd (pi_str (pv 0)) (blkOk_by (own := [("letter", 1)]) (N := ["value", "letter"]) (sc := defScope s_is_name) (by decide +kernel)) (fun _ _ _ _ _ => (pg_name (i := 1) nd rfl (Or.inl rfl))) (fun _ _ _ _ _ => pts_nil) (fun _ _ _ _ _ => (pe_cmpR op_in_sign (pv 1) (pe_glob (v := .str _) rfl (mg_LETTERS M) ⟨_, rfl⟩) (by rfl)))) pa_nil))))), ?_⟩
  refine ⟨_, rfl, _, _, _, _, _, rfl, .ty "str", dq_ty hd, kit_dStr d, _, rfl, ite_b (fun e => ?_) (fun e => ?_)⟩
  · refine ifT (b := true) rfl ?_
    have z := q H Same.rfl
    rw [nameD_of (by rw [← Bool.not_not (isD "str" d), e] <;> rfl)] at z
    exact z
  · obtain ⟨x, rfl, rfl⟩ := dq_str hd (by rw [← Bool.not_not (isD "str" d), e] <;> rfl)
    have hx : x.length ≤ 1000 := hs
    repeat wtm_at "rd"
    refine ⟨Nat.le_trans hx (by decide), 1, _, rfl, rfl, _, rfl, ?_⟩
    have bad : ¬ (1 ≤ x.length ∧ x.length ≤ 8) → nameD (.str x) = false := fun h => by show nameOk x = _; unfold nameOk; rw [decide_eq_false h, Bool.false_and]
    refine ite_b (fun h1 => ?_) (fun h1 => ?_)
    · have h1 := of_decide_eq_true h1
      refine ⟨_, _, rfl, rfl, _, rfl, ?_⟩
      by_cases h8 : (x.length : Int) ≤ 8
      · rw [decide_eq_true h8]
        wtm_at "rd"
        refine ⟨_, rfl, fun D hD => ?_⟩
        have sD := same_new (o := .lst []) hD
        refine lc_it walk_str (fun i H' => Same H H' ∧ H' D = some (.lst ((x.cps.toList.take i).map fun c => .bl (decide (97 ≤ c ∧ c ≤ 122))))) ⟨sD, upd_same⟩ (fun _ _ _ _ => trivial) (fun i v H1 H2 hi p y => ?_) (fun H' p => ?_)
        · obtain ⟨rfl, c, hc, rfl⟩ := y
          obtain ⟨sm, e⟩ := p
          refine ⟨rfl, ?_⟩
          wtm_at "rd"
          refine ⟨c, _, rfl, rfl, _, e, ?_, ?_, ?_⟩
          · rw [List.length_map, List.length_take]
            exact Nat.lt_of_le_of_lt (Nat.le_trans (Nat.min_le_right _ _) (Nat.le_trans (Nat.le_of_eq rfl) hx)) (by decide)
          · exact fun a u h => by
              by_cases ea : a = D
              · rw [ea, hD] at h; cases h
              · rw [upd_ne ea]; exact sm a u h
          · rw [upd_same, letter_in]
            have hc' : x.cps.toList[i]? = some c := by rw [Array.getElem?_toList]; exact hc
            rw [List.take_add_one, hc', List.map_append]
            rfl
        · obtain ⟨sm, e⟩ := p
          refine ⟨D, x.cps.toList.map fun c => decide (97 ≤ c ∧ c ≤ 122), rfl, ?_, ?_⟩
          · rw [List.map_map]
            refine SqL.of (e.trans ?_)
            rw [List.take_of_length_le (by rw [Array.length_toList]; exact Nat.le_refl _)]
            rfl
          · have : nameD (.str x) = ((x.cps.toList.map fun c => decide (97 ≤ c ∧ c ≤ 122)).all id) := by
              show nameOk x = _
              unfold nameOk lettersOk
              rw [decide_eq_true (by omega), Bool.true_and, List.all_map]
              rfl
            rw [← this]
            exact q _ sm

      · rw [decide_eq_false h8]
        repeat wtm_at "rd"
        have := q H Same.rfl
        rw [bad (by omega)] at this
        exact this
    · have h1 := of_decide_eq_false h1
      repeat wtm_at "rd"
      have := q H Same.rfl
      rw [bad (by omega)] at this
      exact this
theorem ok_is_word (M : Mod (hd12.heap_39 w.params) mg base) : CallG PP w (hd12.heap_39 w.params) mg base 1 (.ref 149) (pos (spWord (hd12.heap_39 w.params))) := by
  obtain ⟨fd, F⟩ := fn_is_word w
  refine def_pos F sc_is_word (fun vs H Q E h => ?_) (fun _ _ _ _ _ _ us hl => match us, hl with | [_, _], _ => rfl) (fun cdv A outer s H vs Q E hr hg h => ?_)
  · obtain ⟨v, d, p, ws, rfl, _⟩ := h; rfl
  have nd := sc_is_word.nd
  obtain ⟨v, d, p, ws, rfl, hp, hd, q⟩ := h
  refine ⟨_, (pss_one (ps_ret (pe_and (pe_callB call_isi (by rfl) (mn_isinstance M) (by decide +kernel) (pa_cons (pv 0) (pa_cons (pe_bltn (v := .ty "str") (by rfl) (mn_str M) (by decide +kernel) rfl) pa_nil))) (pe_one (pe_cmpR op_in_seq (pv 0) (pv 1) (by rfl)))))), ?_⟩
  refine ⟨_, rfl, _, _, _, _, _, rfl, .ty "str", dq_ty hd, kit_dStr d, _, rfl, ite_b (fun e => ?_) (fun e => ?_)⟩
  · obtain ⟨x, rfl, rfl⟩ := dq_str hd e
    refine ⟨_, rfl, _, rfl, p, _, rfl, .inr hp, rfl, flatStrs ws, ?_⟩
    rw [show wordD ws (.str x) = inV (.str x) (ws.map V.str) from (inV_strs x ws).symm] at q
    exact q
  · rw [wordD_of e] at q
    exact q
theorem ok_is_range (M : Mod (hd12.heap_39 w.params) mg base) : CallG PP w (hd12.heap_39 w.params) mg base 3 (.ref 156) (pos (spRange (hd12.heap_39 w.params))) := by
  obtain ⟨fd, F⟩ := fn_is_range w
  refine def_pos F sc_is_range (fun vs H Q E h => ?_) (fun _ _ _ _ _ _ us hl => match us, hl with | [_, _], _ => rfl) (fun cdv A outer s H vs Q E hr hg h => ?_)
  · obtain ⟨v1, v2, d1, d2, rfl, _⟩ := h; rfl
  have nd := sc_is_range.nd
  obtain ⟨v1, v2, d1, d2, rfl, h1, h2, q⟩ := h
  refine ⟨_, (pss_one (ps_ret (pe_and (pe_cl (takes_of rfl rfl rfl rfl) (ok_is_within M) (hr.mono (by decide)) hg rfl (mg_is_within M) (kp_is_within w) (pa_cons (pv 0) (pa_cons pe_int (pa_cons (pe_glob (v := .int 7) rfl (mg_LAST_BYTE M) ⟨_, rfl⟩) pa_nil)))) (pe_one (pe_cl (takes_of rfl rfl rfl rfl) (ok_is_within M) (hr.mono (by decide)) hg rfl (mg_is_within M) (kp_is_within w) (pa_cons (pv 1) (pa_cons (pv 0) (pa_cons (pe_glob (v := .int 7) rfl (mg_LAST_BYTE M) ⟨_, rfl⟩) pa_nil)))))))), ?_⟩
  refine ⟨_, rfl, rfl, v1, d1, 0, 7, rfl, h1, _, rfl, ite_b (fun e => ?_) (fun e => ?_)⟩
  · have hint : isIntD d1 = true := by
      cases d1 <;> first | rfl | exact absurd e (by simp [within])
    obtain ⟨b, rfl, rfl⟩ := dq_int h1 hint
    rw [e, Bool.true_and] at q
    exact ⟨_, rfl, _, rfl, rfl, v2, d2, b, 7, rfl, h2, q⟩
  · rw [e, Bool.false_and] at q
    exact q
theorem ok_is_step (M : Mod (hd12.heap_39 w.params) mg base) : CallG PP w (hd12.heap_39 w.params) mg base 4 (.ref 163) (pos (spStep (hd12.heap_39 w.params))) := by
  obtain ⟨fd, F⟩ := fn_is_step w
  refine def_pos F sc_is_step (fun vs H Q E h => ?_) (fun _ _ _ _ _ _ us hl => match us, hl with | [_], _ => rfl) (fun cdv A outer s H vs Q E hr hg h => ?_)
  · obtain ⟨v, d, rfl, _⟩ := h; rfl
  have nd := sc_is_step.nd
  obtain ⟨v, d, rfl, hd, hs, q⟩ := h
  refine ⟨_, (pss_cons (ps_if (PW.pt (pw_or (pt_not (pt_val (pe_callB call_isi (by rfl) (mn_isinstance M) (by decide +kernel) (pa_cons (pv 0) (pa_cons (pe_bltn (v := .ty "tuple") (by rfl) (mn_tuple M) (by decide +kernel) rfl) pa_nil))))) (pw_or1 (pt_cmpR op_notIn_seq (pe_callB call_len_seq (by rfl) (mn_len M) (by decide +kernel) (pa_cons (pv 0) pa_nil)) (pe_tup (pa_cons pe_int (pa_cons pe_int pa_nil))) (by rfl))))) (pss_one (ps_ret pe_bl)) pss_nil)
      (pss_cons (ps_if (pt_not (pt_val (pe_cl (takes_of rfl rfl rfl rfl) (ok_is_name M) (hr.mono (by decide)) hg rfl (mg_is_name M) (kp_is_name w) (pa_cons (pe_ix ix_tup (pv 0) pe_int (fun _ _ => rfl)) pa_nil)))) (pss_one (ps_ret pe_bl)) pss_nil)
      (pss_cons (ps_if (pt_cmpR op_eq (pe_callB call_len_seq (by rfl) (mn_len M) (by decide +kernel) (pa_cons (pv 0) pa_nil)) pe_int (nomark _)) (pss_one (ps_ret (pe_cl (takes_of rfl rfl rfl rfl) (ok_is_word M) (hr.mono (by decide)) hg rfl (mg_is_word M) (kp_is_word w) (pa_cons (pe_ix ix_tup (pv 0) pe_int (fun _ _ => rfl)) (pa_cons (pe_glob (v := .ref 142) rfl (mg_SIGNALLING M) rfl) pa_nil))))) pss_nil)
      (pss_one (ps_ret (pe_and (pe_cl (takes_of rfl rfl rfl rfl) (ok_is_word M) (hr.mono (by decide)) hg rfl (mg_is_word M) (kp_is_word w) (pa_cons (pe_ix ix_tup (pv 0) pe_int (fun _ _ => rfl)) (pa_cons (pe_op op_catT (pe_glob (v := .ref 138) rfl (mg_ACCESSES M) rfl) (pe_glob (v := .ref 141) rfl (mg_UPKEEP M) rfl)) pa_nil))) (pe_and (pe_cl (takes_of rfl rfl rfl rfl) (ok_is_within M) (hr.mono (by decide)) hg rfl (mg_is_within M) (kp_is_within w) (pa_cons (pe_ix ix_tup (pv 0) pe_int (fun _ _ => rfl)) (pa_cons pe_int (pa_cons (pe_glob (v := .int 3) rfl (mg_MOST_SHIFT M) ⟨_, rfl⟩) pa_nil)))) (pe_one (pe_cl (takes_of rfl rfl rfl rfl) (ok_is_range M) (hr.mono (by decide)) hg rfl (mg_is_range M) (kp_is_range w) (pa_cons (pe_ix ix_tup (pv 0) pe_int (fun _ _ => rfl)) (pa_cons (pe_ix ix_tup (pv 0) pe_int (fun _ _ => rfl)) pa_nil))))))))))), ?_⟩
  refine ⟨_, rfl, _, _, _, _, _, rfl, .ty "tuple", dq_ty hd, kit_dTup d, _, rfl, ite_b (fun e => ?_) (fun e => ?_)⟩
  · refine ifT (b := true) rfl ?_
    have z := q H Same.rfl
    rw [stepD_of (by rw [← Bool.not_not (isD "tuple" d), e] <;> rfl)] at z
    exact z
  obtain ⟨a, xs, ds, rfl, rfl, hsq, hall⟩ := dq_tup hd (by rw [← Bool.not_not (isD "tuple" d), e] <;> rfl)
  have hlen := dqAll_len hall
  refine ⟨_, rfl, a, xs, rfl, .inr hsq, Nat.le_of_ble_eq_true rfl, fun z hz => ⟨z, _, rfl, .inr (SqT.of upd_same), rfl, rfl, _, rfl, ite_b (fun e2 => ?_) (fun e2 => ?_)⟩⟩
  · have e2 : (!inV (.int xs.length) [.int 2, .int 5]) = true := e2
    rw [in25] at e2
    have y := q _ (same_new (o := .tup [.int 2, .int 5]) hz)
    rw [stepD_len (fun h => by rw [hlen, h] at e2; cases e2) (fun h => by rw [hlen, h] at e2; cases e2)] at y
    exact y
  have e2 : (!inV (.int xs.length) [.int 2, .int 5]) = false := e2
  rw [in25] at e2
  have s0 := same_new (o := .tup [.int 2, .int 5]) hz
  have hsq0 := st_mono s0 hsq
  have hall0 := dqAll_mono s0 hall
  have h25 : ds.length = 2 ∨ ds.length = 5 := by
    by_cases h : ds.length = 2
    · exact .inl h
    · by_cases h' : ds.length = 5
      · exact .inr h'
      · rw [hlen, decide_eq_false h, decide_eq_false h'] at e2
        cases e2
  clear hd e2 hsq hall
  rcases h25 with h | h
  · obtain ⟨dw, dn, rfl⟩ := len2 h
    obtain ⟨vw, vn, rfl, hw, hn⟩ := all2 hall0
    · refine ⟨_, rfl, a, _, 1, vn, rfl, rfl, hsq0, rfl, rfl, vn, dn, rfl, hn, hs.2 dn (by simp), fun H1 s1 => ⟨_, rfl, ite_b (fun e1 => ?_) (fun e1 => ?_)⟩⟩
      · have e1 : nameD dn = false := by rw [← Bool.not_not (nameD dn), e1] <;> rfl
        have y := q H1 (same_trans s0 s1)
        rw [show stepD (.tuple [dw, dn]) = false from by show (nameD dn && _) = _; rw [e1, Bool.false_and]] at y
        exact y
      · have e1 : nameD dn = true := by rw [← Bool.not_not (nameD dn), e1] <;> rfl
        have sq1 := st_mono s1 hsq0
        refine ⟨_, rfl, a, _, rfl, .inr sq1, rfl, _, rfl, ifT rfl ?_⟩
        refine ⟨_, rfl, a, _, 0, vw, rfl, rfl, sq1, rfl, rfl, vw, dw, 142, ["post", "wait"], rfl, sq_SIGNALLING w _, dq_mono s1 hw, ?_⟩
        have y := q H1 (same_trans s0 s1)
        rw [show stepD (.tuple [dw, dn]) = wordD ["post", "wait"] dw from by show (nameD dn && _) = _; rw [e1, Bool.true_and]] at y
        exact y
  · obtain ⟨dw, dn, dsh, df, dl, rfl⟩ := len5 h
    obtain ⟨vw, vn, vs, vf, vl, rfl, hw, hn, hsh, hf, hl⟩ := all5 hall0
    · refine ⟨_, rfl, a, _, 1, vn, rfl, rfl, hsq0, rfl, rfl, vn, dn, rfl, hn, hs.2 dn (by simp), fun H1 s1 => ⟨_, rfl, ite_b (fun e1 => ?_) (fun e1 => ?_)⟩⟩
      · have e1 : nameD dn = false := by rw [← Bool.not_not (nameD dn), e1] <;> rfl
        have y := q H1 (same_trans s0 s1)
        rw [show stepD (.tuple [dw, dn, dsh, df, dl]) = false from by show (nameD dn && _) = _; rw [e1, Bool.false_and]] at y
        exact y
      · have e1 : nameD dn = true := by rw [← Bool.not_not (nameD dn), e1] <;> rfl
        have sq1 := st_mono s1 hsq0
        refine ⟨_, rfl, a, _, rfl, .inr sq1, rfl, _, rfl, ifF rfl ?_⟩
        refine ⟨_, rfl, a, _, 0, vw, rfl, rfl, sq1, rfl, 138, 141, _, _, rfl, rfl, sq_ACCESSES w _, sq_UPKEEP w _, by simp, by decide, (fun e => nomatch e), fun _ p hp => ?_⟩
        have s2 := same_trans s1 (same_new (o := .tup ((wAcc ++ wUp).map V.str)) hp)
        have sq2 := st_mono s2 hsq0
        have es : stepD (.tuple [dw, dn, dsh, df, dl]) = (wordD (wAcc ++ wUp) dw && (within dsh 0 3 && (within df 0 7 && within dl (intV df) 7))) := by
          show (nameD dn && _) = _
          rw [e1, Bool.true_and]
        have y := q _ (same_trans s0 s2)
        rw [es] at y
        refine ⟨rfl, vw, dw, p, wAcc ++ wUp, rfl, SqT.of upd_same, dq_mono s2 hw, _, rfl, ite_b (fun f1 => ?_) (fun f1 => ?_)⟩
        · rw [f1, Bool.true_and] at y
          refine ⟨_, rfl, a, _, 2, vs, rfl, rfl, sq2, rfl, rfl, vs, dsh, 0, 3, rfl, dq_mono s2 hsh, _, rfl, ite_b (fun f2 => ?_) (fun f2 => ?_)⟩
          · rw [f2, Bool.true_and] at y
            exact ⟨_, rfl, a, _, 3, vf, rfl, rfl, sq2, rfl, _, rfl, a, _, 4, vl, rfl, rfl, sq2, rfl, rfl, vf, vl, df, dl, rfl, dq_mono s2 hf, dq_mono s2 hl, y⟩
          · rw [f2, Bool.false_and] at y
            exact y
        · rw [f1, Bool.false_and] at y
          exact y
end
end M12

namespace M12
open PySem PySem.Spec PyProof.Rows L2 StX Uk

local macro_rules | `(tactic| wtm_at "off0") => `(tactic| first | with_reducible assumption | (with_reducible apply Off.mk; wtm_at "pen"; assumption))
local macro_rules | `(tactic| wtm_at "at0") => `(tactic| first | with_reducible assumption | with_reducible exact upd_same | (with_reducible apply Off.at; wtm_at "off0"))
local macro_rules | `(tactic| wtm_at "off1") => `(tactic| first | with_reducible assumption | (with_reducible apply Off.mk; wtm_at "pen"; assumption) | (with_reducible refine Off.new (by assumption) _ _ ?_; wtm_at "off0") | (with_reducible refine at_same (by with_reducible assumption) ?_; wtm_at "off0"))
local macro_rules | `(tactic| wtm_at "at1") => `(tactic| first | with_reducible assumption | with_reducible exact upd_same | (with_reducible refine at_new (by assumption) ?_; wtm_at "at0") | (with_reducible refine at_same (by with_reducible assumption) ?_; wtm_at "at0") | (with_reducible apply Off.at; wtm_at "off1"))
local macro_rules | `(tactic| wtm_at "off2") => `(tactic| first | with_reducible assumption | (with_reducible apply Off.mk; wtm_at "pen"; assumption) | (with_reducible refine Off.new (by assumption) _ _ ?_; wtm_at "off1") | (with_reducible refine at_same (by with_reducible assumption) ?_; wtm_at "off1"))
local macro_rules | `(tactic| wtm_at "at2") => `(tactic| first | with_reducible assumption | with_reducible exact upd_same | (with_reducible refine at_new (by assumption) ?_; wtm_at "at1") | (with_reducible refine at_same (by with_reducible assumption) ?_; wtm_at "at1") | (with_reducible apply Off.at; wtm_at "off2"))
local macro_rules | `(tactic| wtm_at "off3") => `(tactic| first | with_reducible assumption | (with_reducible apply Off.mk; wtm_at "pen"; assumption) | (with_reducible refine Off.new (by assumption) _ _ ?_; wtm_at "off2") | (with_reducible refine at_same (by with_reducible assumption) ?_; wtm_at "off2"))
local macro_rules | `(tactic| wtm_at "at3") => `(tactic| first | with_reducible assumption | with_reducible exact upd_same | (with_reducible refine at_new (by assumption) ?_; wtm_at "at2") | (with_reducible refine at_same (by with_reducible assumption) ?_; wtm_at "at2") | (with_reducible apply Off.at; wtm_at "off3"))
local macro_rules | `(tactic| wtm_at "off4") => `(tactic| first | with_reducible assumption | (with_reducible apply Off.mk; wtm_at "pen"; assumption) | (with_reducible refine Off.new (by assumption) _ _ ?_; wtm_at "off3") | (with_reducible refine at_same (by with_reducible assumption) ?_; wtm_at "off3"))
local macro_rules | `(tactic| wtm_at "at4") => `(tactic| first | with_reducible assumption | with_reducible exact upd_same | (with_reducible refine at_new (by assumption) ?_; wtm_at "at3") | (with_reducible refine at_same (by with_reducible assumption) ?_; wtm_at "at3") | (with_reducible apply Off.at; wtm_at "off4"))
local macro_rules | `(tactic| wtm_at "off5") => `(tactic| first | with_reducible assumption | (with_reducible apply Off.mk; wtm_at "pen"; assumption) | (with_reducible refine Off.new (by assumption) _ _ ?_; wtm_at "off4") | (with_reducible refine at_same (by with_reducible assumption) ?_; wtm_at "off4"))
local macro_rules | `(tactic| wtm_at "at5") => `(tactic| first | with_reducible assumption | with_reducible exact upd_same | (with_reducible refine at_new (by assumption) ?_; wtm_at "at4") | (with_reducible refine at_same (by with_reducible assumption) ?_; wtm_at "at4") | (with_reducible apply Off.at; wtm_at "off5"))
local macro_rules | `(tactic| wtm_at "off6") => `(tactic| first | with_reducible assumption | (with_reducible apply Off.mk; wtm_at "pen"; assumption) | (with_reducible refine Off.new (by assumption) _ _ ?_; wtm_at "off5") | (with_reducible refine at_same (by with_reducible assumption) ?_; wtm_at "off5"))
local macro_rules | `(tactic| wtm_at "at6") => `(tactic| first | with_reducible assumption | with_reducible exact upd_same | (with_reducible refine at_new (by assumption) ?_; wtm_at "at5") | (with_reducible refine at_same (by with_reducible assumption) ?_; wtm_at "at5") | (with_reducible apply Off.at; wtm_at "off6"))
local macro_rules | `(tactic| wtm_at "off7") => `(tactic| first | with_reducible assumption | (with_reducible apply Off.mk; wtm_at "pen"; assumption) | (with_reducible refine Off.new (by assumption) _ _ ?_; wtm_at "off6") | (with_reducible refine at_same (by with_reducible assumption) ?_; wtm_at "off6"))
local macro_rules | `(tactic| wtm_at "at7") => `(tactic| first | with_reducible assumption | with_reducible exact upd_same | (with_reducible refine at_new (by assumption) ?_; wtm_at "at6") | (with_reducible refine at_same (by with_reducible assumption) ?_; wtm_at "at6") | (with_reducible apply Off.at; wtm_at "off7"))
local macro_rules | `(tactic| wtm_at "off8") => `(tactic| first | with_reducible assumption | (with_reducible apply Off.mk; wtm_at "pen"; assumption) | (with_reducible refine Off.new (by assumption) _ _ ?_; wtm_at "off7") | (with_reducible refine at_same (by with_reducible assumption) ?_; wtm_at "off7"))
local macro_rules | `(tactic| wtm_at "at8") => `(tactic| first | with_reducible assumption | with_reducible exact upd_same | (with_reducible refine at_new (by assumption) ?_; wtm_at "at7") | (with_reducible refine at_same (by with_reducible assumption) ?_; wtm_at "at7") | (with_reducible apply Off.at; wtm_at "off8"))
local macro_rules | `(tactic| wtm_at "off9") => `(tactic| first | with_reducible assumption | (with_reducible apply Off.mk; wtm_at "pen"; assumption) | (with_reducible refine Off.new (by assumption) _ _ ?_; wtm_at "off8") | (with_reducible refine at_same (by with_reducible assumption) ?_; wtm_at "off8"))
local macro_rules | `(tactic| wtm_at "at9") => `(tactic| first | with_reducible assumption | with_reducible exact upd_same | (with_reducible refine at_new (by assumption) ?_; wtm_at "at8") | (with_reducible refine at_same (by with_reducible assumption) ?_; wtm_at "at8") | (with_reducible apply Off.at; wtm_at "off9"))
local macro_rules | `(tactic| wtm_at "off10") => `(tactic| first | with_reducible assumption | (with_reducible apply Off.mk; wtm_at "pen"; assumption) | (with_reducible refine Off.new (by assumption) _ _ ?_; wtm_at "off9") | (with_reducible refine at_same (by with_reducible assumption) ?_; wtm_at "off9"))
local macro_rules | `(tactic| wtm_at "at10") => `(tactic| first | with_reducible assumption | with_reducible exact upd_same | (with_reducible refine at_new (by assumption) ?_; wtm_at "at9") | (with_reducible refine at_same (by with_reducible assumption) ?_; wtm_at "at9") | (with_reducible apply Off.at; wtm_at "off10"))
local macro_rules | `(tactic| wtm_at "off11") => `(tactic| first | with_reducible assumption | (with_reducible apply Off.mk; wtm_at "pen"; assumption) | (with_reducible refine Off.new (by assumption) _ _ ?_; wtm_at "off10") | (with_reducible refine at_same (by with_reducible assumption) ?_; wtm_at "off10"))
local macro_rules | `(tactic| wtm_at "at11") => `(tactic| first | with_reducible assumption | with_reducible exact upd_same | (with_reducible refine at_new (by assumption) ?_; wtm_at "at10") | (with_reducible refine at_same (by with_reducible assumption) ?_; wtm_at "at10") | (with_reducible apply Off.at; wtm_at "off11"))
local macro_rules | `(tactic| wtm_at "off12") => `(tactic| first | with_reducible assumption | (with_reducible apply Off.mk; wtm_at "pen"; assumption) | (with_reducible refine Off.new (by assumption) _ _ ?_; wtm_at "off11") | (with_reducible refine at_same (by with_reducible assumption) ?_; wtm_at "off11"))
local macro_rules | `(tactic| wtm_at "at12") => `(tactic| first | with_reducible assumption | with_reducible exact upd_same | (with_reducible refine at_new (by assumption) ?_; wtm_at "at11") | (with_reducible refine at_same (by with_reducible assumption) ?_; wtm_at "at11") | (with_reducible apply Off.at; wtm_at "off12"))
local macro_rules | `(tactic| wtm_at "off13") => `(tactic| first | with_reducible assumption | (with_reducible apply Off.mk; wtm_at "pen"; assumption) | (with_reducible refine Off.new (by assumption) _ _ ?_; wtm_at "off12") | (with_reducible refine at_same (by with_reducible assumption) ?_; wtm_at "off12"))
local macro_rules | `(tactic| wtm_at "at13") => `(tactic| first | with_reducible assumption | with_reducible exact upd_same | (with_reducible refine at_new (by assumption) ?_; wtm_at "at12") | (with_reducible refine at_same (by with_reducible assumption) ?_; wtm_at "at12") | (with_reducible apply Off.at; wtm_at "off13"))
local macro_rules | `(tactic| wtm_at "off14") => `(tactic| first | with_reducible assumption | (with_reducible apply Off.mk; wtm_at "pen"; assumption) | (with_reducible refine Off.new (by assumption) _ _ ?_; wtm_at "off13") | (with_reducible refine at_same (by with_reducible assumption) ?_; wtm_at "off13"))
local macro_rules | `(tactic| wtm_at "at14") => `(tactic| first | with_reducible assumption | with_reducible exact upd_same | (with_reducible refine at_new (by assumption) ?_; wtm_at "at13") | (with_reducible refine at_same (by with_reducible assumption) ?_; wtm_at "at13") | (with_reducible apply Off.at; wtm_at "off14"))
local macro_rules | `(tactic| wtm_at "off15") => `(tactic| first | with_reducible assumption | (with_reducible apply Off.mk; wtm_at "pen"; assumption) | (with_reducible refine Off.new (by assumption) _ _ ?_; wtm_at "off14") | (with_reducible refine at_same (by with_reducible assumption) ?_; wtm_at "off14"))
local macro_rules | `(tactic| wtm_at "at15") => `(tactic| first | with_reducible assumption | with_reducible exact upd_same | (with_reducible refine at_new (by assumption) ?_; wtm_at "at14") | (with_reducible refine at_same (by with_reducible assumption) ?_; wtm_at "at14") | (with_reducible apply Off.at; wtm_at "off15"))
local macro_rules | `(tactic| wtm_at "off16") => `(tactic| first | with_reducible assumption | (with_reducible apply Off.mk; wtm_at "pen"; assumption) | (with_reducible refine Off.new (by assumption) _ _ ?_; wtm_at "off15") | (with_reducible refine at_same (by with_reducible assumption) ?_; wtm_at "off15"))
local macro_rules | `(tactic| wtm_at "at16") => `(tactic| first | with_reducible assumption | with_reducible exact upd_same | (with_reducible refine at_new (by assumption) ?_; wtm_at "at15") | (with_reducible refine at_same (by with_reducible assumption) ?_; wtm_at "at15") | (with_reducible apply Off.at; wtm_at "off16"))
local macro_rules | `(tactic| wtm_at "off17") => `(tactic| first | with_reducible assumption | (with_reducible apply Off.mk; wtm_at "pen"; assumption) | (with_reducible refine Off.new (by assumption) _ _ ?_; wtm_at "off16") | (with_reducible refine at_same (by with_reducible assumption) ?_; wtm_at "off16"))
local macro_rules | `(tactic| wtm_at "at17") => `(tactic| first | with_reducible assumption | with_reducible exact upd_same | (with_reducible refine at_new (by assumption) ?_; wtm_at "at16") | (with_reducible refine at_same (by with_reducible assumption) ?_; wtm_at "at16") | (with_reducible apply Off.at; wtm_at "off17"))
local macro_rules | `(tactic| wtm_at "off18") => `(tactic| first | with_reducible assumption | (with_reducible apply Off.mk; wtm_at "pen"; assumption) | (with_reducible refine Off.new (by assumption) _ _ ?_; wtm_at "off17") | (with_reducible refine at_same (by with_reducible assumption) ?_; wtm_at "off17"))
local macro_rules | `(tactic| wtm_at "at18") => `(tactic| first | with_reducible assumption | with_reducible exact upd_same | (with_reducible refine at_new (by assumption) ?_; wtm_at "at17") | (with_reducible refine at_same (by with_reducible assumption) ?_; wtm_at "at17") | (with_reducible apply Off.at; wtm_at "off18"))
local macro_rules | `(tactic| wtm_at "off19") => `(tactic| first | with_reducible assumption | (with_reducible apply Off.mk; wtm_at "pen"; assumption) | (with_reducible refine Off.new (by assumption) _ _ ?_; wtm_at "off18") | (with_reducible refine at_same (by with_reducible assumption) ?_; wtm_at "off18"))
local macro_rules | `(tactic| wtm_at "at19") => `(tactic| first | with_reducible assumption | with_reducible exact upd_same | (with_reducible refine at_new (by assumption) ?_; wtm_at "at18") | (with_reducible refine at_same (by with_reducible assumption) ?_; wtm_at "at18") | (with_reducible apply Off.at; wtm_at "off19"))
local macro_rules | `(tactic| wtm_at "off20") => `(tactic| first | with_reducible assumption | (with_reducible apply Off.mk; wtm_at "pen"; assumption) | (with_reducible refine Off.new (by assumption) _ _ ?_; wtm_at "off19") | (with_reducible refine at_same (by with_reducible assumption) ?_; wtm_at "off19"))
local macro_rules | `(tactic| wtm_at "at20") => `(tactic| first | with_reducible assumption | with_reducible exact upd_same | (with_reducible refine at_new (by assumption) ?_; wtm_at "at19") | (with_reducible refine at_same (by with_reducible assumption) ?_; wtm_at "at19") | (with_reducible apply Off.at; wtm_at "off20"))
local macro_rules | `(tactic| wtm_at "off21") => `(tactic| first | with_reducible assumption | (with_reducible apply Off.mk; wtm_at "pen"; assumption) | (with_reducible refine Off.new (by assumption) _ _ ?_; wtm_at "off20") | (with_reducible refine at_same (by with_reducible assumption) ?_; wtm_at "off20"))
local macro_rules | `(tactic| wtm_at "at21") => `(tactic| first | with_reducible assumption | with_reducible exact upd_same | (with_reducible refine at_new (by assumption) ?_; wtm_at "at20") | (with_reducible refine at_same (by with_reducible assumption) ?_; wtm_at "at20") | (with_reducible apply Off.at; wtm_at "off21"))
local macro_rules | `(tactic| wtm_at "off22") => `(tactic| first | with_reducible assumption | (with_reducible apply Off.mk; wtm_at "pen"; assumption) | (with_reducible refine Off.new (by assumption) _ _ ?_; wtm_at "off21") | (with_reducible refine at_same (by with_reducible assumption) ?_; wtm_at "off21"))
local macro_rules | `(tactic| wtm_at "at22") => `(tactic| first | with_reducible assumption | with_reducible exact upd_same | (with_reducible refine at_new (by assumption) ?_; wtm_at "at21") | (with_reducible refine at_same (by with_reducible assumption) ?_; wtm_at "at21") | (with_reducible apply Off.at; wtm_at "off22"))
local macro_rules | `(tactic| wtm_at "off23") => `(tactic| first | with_reducible assumption | (with_reducible apply Off.mk; wtm_at "pen"; assumption) | (with_reducible refine Off.new (by assumption) _ _ ?_; wtm_at "off22") | (with_reducible refine at_same (by with_reducible assumption) ?_; wtm_at "off22"))
local macro_rules | `(tactic| wtm_at "at23") => `(tactic| first | with_reducible assumption | with_reducible exact upd_same | (with_reducible refine at_new (by assumption) ?_; wtm_at "at22") | (with_reducible refine at_same (by with_reducible assumption) ?_; wtm_at "at22") | (with_reducible apply Off.at; wtm_at "off23"))
local macro_rules | `(tactic| wtm_at "off24") => `(tactic| first | with_reducible assumption | (with_reducible apply Off.mk; wtm_at "pen"; assumption) | (with_reducible refine Off.new (by assumption) _ _ ?_; wtm_at "off23") | (with_reducible refine at_same (by with_reducible assumption) ?_; wtm_at "off23"))
local macro_rules | `(tactic| wtm_at "at24") => `(tactic| first | with_reducible assumption | with_reducible exact upd_same | (with_reducible refine at_new (by assumption) ?_; wtm_at "at23") | (with_reducible refine at_same (by with_reducible assumption) ?_; wtm_at "at23") | (with_reducible apply Off.at; wtm_at "off24"))
local macro_rules | `(tactic| wtm_at "off25") => `(tactic| first | with_reducible assumption | (with_reducible apply Off.mk; wtm_at "pen"; assumption) | (with_reducible refine Off.new (by assumption) _ _ ?_; wtm_at "off24") | (with_reducible refine at_same (by with_reducible assumption) ?_; wtm_at "off24"))
local macro_rules | `(tactic| wtm_at "at25") => `(tactic| first | with_reducible assumption | with_reducible exact upd_same | (with_reducible refine at_new (by assumption) ?_; wtm_at "at24") | (with_reducible refine at_same (by with_reducible assumption) ?_; wtm_at "at24") | (with_reducible apply Off.at; wtm_at "off25"))
local macro_rules | `(tactic| wtm_at "off26") => `(tactic| first | with_reducible assumption | (with_reducible apply Off.mk; wtm_at "pen"; assumption) | (with_reducible refine Off.new (by assumption) _ _ ?_; wtm_at "off25") | (with_reducible refine at_same (by with_reducible assumption) ?_; wtm_at "off25"))
local macro_rules | `(tactic| wtm_at "at26") => `(tactic| first | with_reducible assumption | with_reducible exact upd_same | (with_reducible refine at_new (by assumption) ?_; wtm_at "at25") | (with_reducible refine at_same (by with_reducible assumption) ?_; wtm_at "at25") | (with_reducible apply Off.at; wtm_at "off26"))
local macro_rules | `(tactic| wtm_at "off27") => `(tactic| first | with_reducible assumption | (with_reducible apply Off.mk; wtm_at "pen"; assumption) | (with_reducible refine Off.new (by assumption) _ _ ?_; wtm_at "off26") | (with_reducible refine at_same (by with_reducible assumption) ?_; wtm_at "off26"))
local macro_rules | `(tactic| wtm_at "at27") => `(tactic| first | with_reducible assumption | with_reducible exact upd_same | (with_reducible refine at_new (by assumption) ?_; wtm_at "at26") | (with_reducible refine at_same (by with_reducible assumption) ?_; wtm_at "at26") | (with_reducible apply Off.at; wtm_at "off27"))
local macro_rules | `(tactic| wtm_at "off28") => `(tactic| first | with_reducible assumption | (with_reducible apply Off.mk; wtm_at "pen"; assumption) | (with_reducible refine Off.new (by assumption) _ _ ?_; wtm_at "off27") | (with_reducible refine at_same (by with_reducible assumption) ?_; wtm_at "off27"))
local macro_rules | `(tactic| wtm_at "at28") => `(tactic| first | with_reducible assumption | with_reducible exact upd_same | (with_reducible refine at_new (by assumption) ?_; wtm_at "at27") | (with_reducible refine at_same (by with_reducible assumption) ?_; wtm_at "at27") | (with_reducible apply Off.at; wtm_at "off28"))
local macro_rules | `(tactic| wtm_at "off29") => `(tactic| first | with_reducible assumption | (with_reducible apply Off.mk; wtm_at "pen"; assumption) | (with_reducible refine Off.new (by assumption) _ _ ?_; wtm_at "off28") | (with_reducible refine at_same (by with_reducible assumption) ?_; wtm_at "off28"))
local macro_rules | `(tactic| wtm_at "at29") => `(tactic| first | with_reducible assumption | with_reducible exact upd_same | (with_reducible refine at_new (by assumption) ?_; wtm_at "at28") | (with_reducible refine at_same (by with_reducible assumption) ?_; wtm_at "at28") | (with_reducible apply Off.at; wtm_at "off29"))
local macro_rules | `(tactic| wtm_at "off30") => `(tactic| first | with_reducible assumption | (with_reducible apply Off.mk; wtm_at "pen"; assumption) | (with_reducible refine Off.new (by assumption) _ _ ?_; wtm_at "off29") | (with_reducible refine at_same (by with_reducible assumption) ?_; wtm_at "off29"))
local macro_rules | `(tactic| wtm_at "at30") => `(tactic| first | with_reducible assumption | with_reducible exact upd_same | (with_reducible refine at_new (by assumption) ?_; wtm_at "at29") | (with_reducible refine at_same (by with_reducible assumption) ?_; wtm_at "at29") | (with_reducible apply Off.at; wtm_at "off30"))
local macro_rules | `(tactic| wtm_at "off31") => `(tactic| first | with_reducible assumption | (with_reducible apply Off.mk; wtm_at "pen"; assumption) | (with_reducible refine Off.new (by assumption) _ _ ?_; wtm_at "off30") | (with_reducible refine at_same (by with_reducible assumption) ?_; wtm_at "off30"))
local macro_rules | `(tactic| wtm_at "at31") => `(tactic| first | with_reducible assumption | with_reducible exact upd_same | (with_reducible refine at_new (by assumption) ?_; wtm_at "at30") | (with_reducible refine at_same (by with_reducible assumption) ?_; wtm_at "at30") | (with_reducible apply Off.at; wtm_at "off31"))
local macro_rules | `(tactic| wtm_at "off32") => `(tactic| first | with_reducible assumption | (with_reducible apply Off.mk; wtm_at "pen"; assumption) | (with_reducible refine Off.new (by assumption) _ _ ?_; wtm_at "off31") | (with_reducible refine at_same (by with_reducible assumption) ?_; wtm_at "off31"))
local macro_rules | `(tactic| wtm_at "at32") => `(tactic| first | with_reducible assumption | with_reducible exact upd_same | (with_reducible refine at_new (by assumption) ?_; wtm_at "at31") | (with_reducible refine at_same (by with_reducible assumption) ?_; wtm_at "at31") | (with_reducible apply Off.at; wtm_at "off32"))
local macro_rules | `(tactic| wtm_at "off33") => `(tactic| first | with_reducible assumption | (with_reducible apply Off.mk; wtm_at "pen"; assumption) | (with_reducible refine Off.new (by assumption) _ _ ?_; wtm_at "off32") | (with_reducible refine at_same (by with_reducible assumption) ?_; wtm_at "off32"))
local macro_rules | `(tactic| wtm_at "at33") => `(tactic| first | with_reducible assumption | with_reducible exact upd_same | (with_reducible refine at_new (by assumption) ?_; wtm_at "at32") | (with_reducible refine at_same (by with_reducible assumption) ?_; wtm_at "at32") | (with_reducible apply Off.at; wtm_at "off33"))
local macro_rules | `(tactic| wtm_at "off34") => `(tactic| first | with_reducible assumption | (with_reducible apply Off.mk; wtm_at "pen"; assumption) | (with_reducible refine Off.new (by assumption) _ _ ?_; wtm_at "off33") | (with_reducible refine at_same (by with_reducible assumption) ?_; wtm_at "off33"))
local macro_rules | `(tactic| wtm_at "at34") => `(tactic| first | with_reducible assumption | with_reducible exact upd_same | (with_reducible refine at_new (by assumption) ?_; wtm_at "at33") | (with_reducible refine at_same (by with_reducible assumption) ?_; wtm_at "at33") | (with_reducible apply Off.at; wtm_at "off34"))
local macro_rules | `(tactic| wtm_at "off35") => `(tactic| first | with_reducible assumption | (with_reducible apply Off.mk; wtm_at "pen"; assumption) | (with_reducible refine Off.new (by assumption) _ _ ?_; wtm_at "off34") | (with_reducible refine at_same (by with_reducible assumption) ?_; wtm_at "off34"))
local macro_rules | `(tactic| wtm_at "at35") => `(tactic| first | with_reducible assumption | with_reducible exact upd_same | (with_reducible refine at_new (by assumption) ?_; wtm_at "at34") | (with_reducible refine at_same (by with_reducible assumption) ?_; wtm_at "at34") | (with_reducible apply Off.at; wtm_at "off35"))
local macro_rules | `(tactic| wtm_at "off36") => `(tactic| first | with_reducible assumption | (with_reducible apply Off.mk; wtm_at "pen"; assumption) | (with_reducible refine Off.new (by assumption) _ _ ?_; wtm_at "off35") | (with_reducible refine at_same (by with_reducible assumption) ?_; wtm_at "off35"))
local macro_rules | `(tactic| wtm_at "at36") => `(tactic| first | with_reducible assumption | with_reducible exact upd_same | (with_reducible refine at_new (by assumption) ?_; wtm_at "at35") | (with_reducible refine at_same (by with_reducible assumption) ?_; wtm_at "at35") | (with_reducible apply Off.at; wtm_at "off36"))
local macro_rules | `(tactic| wtm_at "off37") => `(tactic| first | with_reducible assumption | (with_reducible apply Off.mk; wtm_at "pen"; assumption) | (with_reducible refine Off.new (by assumption) _ _ ?_; wtm_at "off36") | (with_reducible refine at_same (by with_reducible assumption) ?_; wtm_at "off36"))
local macro_rules | `(tactic| wtm_at "at37") => `(tactic| first | with_reducible assumption | with_reducible exact upd_same | (with_reducible refine at_new (by assumption) ?_; wtm_at "at36") | (with_reducible refine at_same (by with_reducible assumption) ?_; wtm_at "at36") | (with_reducible apply Off.at; wtm_at "off37"))
local macro_rules | `(tactic| wtm_at "off38") => `(tactic| first | with_reducible assumption | (with_reducible apply Off.mk; wtm_at "pen"; assumption) | (with_reducible refine Off.new (by assumption) _ _ ?_; wtm_at "off37") | (with_reducible refine at_same (by with_reducible assumption) ?_; wtm_at "off37"))
local macro_rules | `(tactic| wtm_at "at38") => `(tactic| first | with_reducible assumption | with_reducible exact upd_same | (with_reducible refine at_new (by assumption) ?_; wtm_at "at37") | (with_reducible refine at_same (by with_reducible assumption) ?_; wtm_at "at37") | (with_reducible apply Off.at; wtm_at "off38"))
local macro_rules | `(tactic| wtm_at "off39") => `(tactic| first | with_reducible assumption | (with_reducible apply Off.mk; wtm_at "pen"; assumption) | (with_reducible refine Off.new (by assumption) _ _ ?_; wtm_at "off38") | (with_reducible refine at_same (by with_reducible assumption) ?_; wtm_at "off38"))
local macro_rules | `(tactic| wtm_at "at39") => `(tactic| first | with_reducible assumption | with_reducible exact upd_same | (with_reducible refine at_new (by assumption) ?_; wtm_at "at38") | (with_reducible refine at_same (by with_reducible assumption) ?_; wtm_at "at38") | (with_reducible apply Off.at; wtm_at "off39"))
local macro_rules | `(tactic| wtm_at "at") => `(tactic| wtm_at "at39")
local macro_rules | `(tactic| wtm_at "off") => `(tactic| wtm_at "off39")
local macro_rules | `(tactic| wtm_at "pen") => `(tactic| first
  | assumption | (refine Pen.new (by assumption) ?_; wtm_at "pen") | (refine Pen.same (by assumption) ?_; wtm_at "pen"))
local macro_rules | `(tactic| wtm_at "same") => `(tactic| first
  | exact fun _ _ h => h | assumption | exact same_new (by assumption) | (refine same_trans ?_ (same_new (by assumption)); wtm_at "same") | (refine same_trans ?_ (by assumption); wtm_at "same")
  | (refine same_trans ?_ (Off.new (by assumption)); wtm_at "same") | (refine same_trans ?_ (Off.same (by assumption)); wtm_at "same"))
local macro_rules | `(tactic| wtm_at "dps") => `(tactic| first
  | exact .nil | (apply DpAll.cons; wtm_at "dp"; wtm_at "dps") | exact dpAll_ints _)
local macro_rules | `(tactic| wtm_at "dp") => `(tactic| first
  | exact .non | exact .bl _ | exact .int _ | exact .str _ | (fail) | (apply Dp.lst; (apply SqL.of; wtm_at "at"); wtm_at "dps") | (apply Dp.tup; (apply SqT.of; wtm_at "at"); wtm_at "dps"))
local macro_rules | `(tactic| wtm_at "side") => `(tactic| first
  | exact ⟨by decide, by decide⟩ | exact ⟨by decide, by decide, by decide⟩ | exact .inl ⟨by decide, by decide⟩ | exact .inr ⟨by decide, by decide⟩ | (show ¬ _ = _; decide))
local macro_rules | `(tactic| wtm_at "sml") => `(tactic| first
  | exact sml_none (by decide) | exact sml_bool (by decide) | exact sml_int (by decide) (by omega) | (fail) | exact sml_list (n := 19) (k := 0) (by wtm_at "smls") (by decide) (by decide))
local macro_rules | `(tactic| wtm_at "smls") => `(tactic| first | exact smlAll_nil (m := 0) | (apply smlAll_cons; wtm_at "sml"; wtm_at "smls"))
local macro_rules | `(tactic| wtm_at "shw") => `(tactic| exact Sml.shw (n := 10000) (k := 50) (by wtm_at "sml") (by decide) (by decide))
local macro_rules | `(tactic| wtm_at "rd") => `(tactic| first
  | refine ⟨_, rfl, ?_⟩ | refine ⟨_, _, rfl, rfl, ?_⟩ | refine ifT rfl ?_ | refine ifF rfl ?_ | refine ⟨rfl, ?_⟩
  | refine ⟨_, _, by rfl, by wtm_at "dp", by wtm_at "shw", ?_⟩
  | refine ⟨_, _, _, _, _, rfl, by wtm_at "at", by wtm_at "cls", by wtm_at "na", by rfl, ?_⟩
  | refine ⟨_, _, rfl, .inr (SqT.of (by wtm_at "at")), ?_⟩ | refine ⟨_, _, rfl, .inl (SqL.of (by wtm_at "at")), ?_⟩
  | refine ⟨_, _, rfl, .inr (SqT.of (by wtm_at "at")), by rfl, by rfl, ?_⟩ | refine ⟨_, _, rfl, .inl (SqL.of (by wtm_at "at")), by rfl, by rfl, ?_⟩
  | refine ⟨_, _, _, _, rfl, rfl, SqT.of (by wtm_at "at"), by rfl, ?_⟩ | refine ⟨_, _, _, _, rfl, rfl, SqL.of (by wtm_at "at"), by rfl, ?_⟩
  | refine ⟨_, _, rfl, rfl, by wtm_at "side", ?_⟩
  | refine ⟨_, _, by wtm_at "dp", by wtm_at "dp", by first | rfl | decide +kernel, by first | rfl | decide +kernel, ?_⟩
  | refine ⟨_, _, [_, _], [_, _], rfl, rfl, sqI2 (by wtm_at "at"), sqI2 (by wtm_at "at"), ?_⟩
  | refine ⟨_, _, rfl, ?_⟩
  | refine ⟨Nat.le_of_ble_eq_true rfl, fun _ _ => ?_⟩
  | refine ifF (by decide +kernel) ?_ | refine ifF (nd_refl _) ?_ | refine ifT (de_refl _) ?_)
local macro_rules | `(tactic| wtm_at "cls") => `(tactic| first | exact cls_Agent _ | exact cls_Signal _ | exact cls_Variable _ | exact cls_Net _)
local macro_rules | `(tactic| wtm_at "na") => `(tactic| first | exact na_Agent_name _ | exact na_Agent_steps _ | exact na_Agent_shape _ | exact na_Signal_name _ | exact na_Signal_tokens _ | exact na_Variable_name _ | exact na_Variable_size _ | exact na_Variable_at _ | exact na_Variable_shape _ | exact na_Net_line _ | exact na_Net_ring _ | exact na_Net_variables _ | exact na_Net_signals _ | exact na_Net_agents _ | exact na_Net_shape _ | exact na_Net_by_name _ | exact na_Net_bytes_at _ | exact na_Net_lines_at _)

def clsN (k : Nat) : Addr := if k = 0 then 232 else if k = 1 then 272 else 310
def mayN (k : Nat) : Addr := if k = 0 then 222 else if k = 1 then 262 else 300
theorem lt3 {k : Nat} (h : k < 3) : k = 0 ∨ k = 1 ∨ k = 2 := by omega
def cs : PCs := ⟨411, 337, clsN⟩
def spMay (K : PySem.W.Frag) (D : Addr → Prop) (ws : List Str) : Sp := fun vs H Q _ => ∃ (a C dx : Addr) (fs : List (Str × V)) (v : V) (d : PyData), vs = [.ref a, v] ∧ H a = some (.ins C dx fs) ∧ D C ∧ Dq K H v d ∧ ∀ H', Same H H' → Q (.bl (wordD ws d)) H'
/-- a class of agents is known by its number -/
def isK (k C : Nat) : Prop := k < 3 ∧ C = clsN k
def spAInit (K : PySem.W.Frag) : Sp := fun vs H Q E => ∃ (k a dx p : Nat) (v1 : V) (d1 : PyData) (xs : List V) (ds : List PyData), vs = [.ref a, v1, .ref p] ∧ k < 3 ∧ H a = some (.ins (clsN k) dx []) ∧ H p = some (.tup xs) ∧ Dq K H v1 d1 ∧ smallD d1 ∧ DqAll K H xs ds ∧ (∀ d ∈ ds, partsSmall d) ∧
  match wantK k d1 ds with
  | none => ∀ H' q, Chg a (.ins (clsN k) dx [("name", v1), ("steps", .ref p), ("shape", .ref q)]) H H' → H' q = some (.tup [.str (kindW k), v1, .ref p]) → Q .non H'
  | some r => ∀ H' d, Same H H' → H' d = some (.xd (refFs r)) → E (.ref 53) (some d) H'
def spAStar (K : PySem.W.Frag) : Sp := fun vs H Q E => ∃ ws rest, vs = ws ++ rest ∧ ws.length = 2 ∧ rest.length ≤ sizeLine ∧ ∀ p, H p = none → spAInit K (ws ++ [.ref p]) (upd H p (.tup rest)) Q E
def spMkAg (K : PySem.W.Frag) (k : Nat) : Sp := fun vs H Q E => ∃ (v1 : V) (d1 : PyData) (xs : List V) (ds : List PyData), vs = v1 :: xs ∧ k < 3 ∧ Dq K H v1 d1 ∧ smallD d1 ∧ DqAll K H xs ds ∧ (∀ d ∈ ds, partsSmall d) ∧ ds.length ≤ 1000 ∧
  match wantK k d1 ds with
  | none => ∀ x n ss H', d1 = .str n → ds = ss.map Stp.d → Same H H' → PrtA cs K H' x (.ag k n ss) → Q (.ref x) H'
  | some r => ∀ H' d, Same H H' → H' d = some (.xd (refFs r)) → E (.ref 53) (some d) H'
theorem mkAg {K : PySem.W.Frag} {k : Nat} {vs : List V} {H : Hp} {Q : VK} {E : XK} (h : spMkAg K k vs H Q E) : spMk (clsN k) (spAStar K) vs H Q E := by
  obtain ⟨v1, d1, xs, ds, rfl, hk, h1, hs, hd, hps, hl, q⟩ := h
  intro x dx hx hdx hne
  have sA : Same H (upd (upd H dx (.own x)) x (.ins (clsN k) dx [])) := same_trans (same_new hdx) (same_new (by rw [upd_ne (Ne.symm hne)]; exact hx))
  refine ⟨[.ref x, v1], xs, rfl, rfl, ?_, fun p hp => ?_⟩
  · rw [dqAll_len hd, sizeLine_eq]
    omega
  · have sB := same_trans sA (same_new (o := .tup xs) hp)
    have hpx : p ≠ x := fun e => by rw [e, upd_same] at hp; cases hp
    refine ⟨k, x, dx, p, v1, d1, xs, ds, rfl, hk, at_new hp upd_same, upd_same, dq_mono sB h1, hs, dqAll_mono sB hd, hps, ?_⟩
    split
    · rename_i e
      rw [e] at q
      intro H' z c hz
      obtain ⟨n, ss, rfl, hn, rfl, _, _, _⟩ := wantK_ok e
      cases h1
      have sC : Same H H' := fun b u hb => c.ne b u (fun e2 => by rw [e2, hx] at hb; cases hb) (sB b u hb)
      exact ⟨rfl, q x n ss H' rfl rfl sC ⟨dx, p, z, xs, c.at_, c.ne p _ hpx upd_same, dqAll_stpsV (dqAll_mono sC hd), hz, hk⟩⟩
    · rename_i r e
      rw [e] at q
      exact fun H' d s hd => q H' d (same_trans sB s) hd
def spAMade (K : PySem.W.Frag) (k : Nat) : Sp := fun vs H Q E => ∃ (v1 : V) (l : Addr) (xs : List V), vs = [.ref (clsN k), v1, .ref l] ∧ (SqT K H l xs ∨ SqL K H l xs) ∧ spMkAg K k (v1 :: xs) H Q E
section
variable {mg : PySem.Str → Option Value} {base : Heap} {w : World}
theorem ok_Agent_may (M : Mod (hd12.heap_39 w.params) mg base) : CallG PP w (hd12.heap_39 w.params) mg base 2 (.ref 222) (pos (spMay (hd12.heap_39 w.params) (fun _ => True) wordsA)) := by
  obtain ⟨fd, F⟩ := fn_Agent_may w
  refine def_pos F sc_Agent_may (fun vs H Q E h => ?_) (fun _ _ _ _ _ _ us hl => match us, hl with | [_, _], _ => rfl) (fun cdv A outer s H vs Q E hr hg h => ?_)
  · obtain ⟨a, C, dx, fs, v, d, rfl, _⟩ := h; rfl
  have nd := sc_Agent_may.nd
  obtain ⟨a, C, dx, fs, v, d, rfl, ha, _, hd, q⟩ := h
  refine ⟨_, (pss_one (ps_ret (pe_cl (takes_of rfl rfl rfl rfl) (ok_is_word M) (hr.mono (by decide)) hg rfl (mg_is_word M) (kp_is_word w) (pa_cons (pv 1) (pa_cons (pe_op op_catT (pe_glob (v := .ref 139) rfl (mg_CACHED_ACCESSES M) rfl) (pe_glob (v := .ref 142) rfl (mg_SIGNALLING M) rfl)) pa_nil))))), ?_⟩
  wtm_at "rd"
  refine ⟨139, 142, _, _, rfl, rfl, sq_CACHED_ACCESSES w _, sq_SIGNALLING w _, by simp, by decide, (fun e => nomatch e), fun _ p hp => ?_⟩
  have hs := same_new (o := .tup (wordsA.map V.str)) hp
  exact ⟨rfl, v, d, p, wordsA, rfl, SqT.of upd_same, dq_mono hs hd, q _ hs⟩
theorem ok_Through_may (M : Mod (hd12.heap_39 w.params) mg base) : CallG PP w (hd12.heap_39 w.params) mg base 4 (.ref 262) (pos (spMay (hd12.heap_39 w.params) (fun C => C = 272 ∨ C = 310) (wordsA ++ wordsB))) := by
  refine def_S (fn_Through_may w) sc_Through_may (fun vs H Q E h => ?_) (fun _ _ _ _ _ us hl => match us, hl with | [_, _], _ => rfl) (fun A outer s H vs Q E hr hg h => ?_)
  · obtain ⟨a, C, dx, fs, v, d, rfl, _⟩ := h; rfl
  have nd := sc_Through_may.nd
  obtain ⟨a, C, dx, fs, v, d, rfl, ha, hC, hd, q⟩ := h
  refine ⟨_, psst_ret (pet_or (pet_super (takes_of rfl rfl rfl rfl) (fn_Through_may w) sc_Through_may (sup_Through_may w) (ok_Agent_may M) (hr.mono (by decide)) hg rfl rfl rfl rfl rfl (by decide) (pa_cons (pv 1) pa_nil)) (pe_one (pe_cl (takes_of rfl rfl rfl rfl) (ok_is_word M) (hr.mono (by decide)) hg rfl (mg_is_word M) (kp_is_word w) (pa_cons (pv 1) (pa_cons (pe_op op_catT (pe_glob (v := .ref 140) rfl (mg_DIRECT M) rfl) (pe_glob (v := .ref 141) rfl (mg_UPKEEP M) rfl)) pa_nil))))), ?_⟩
  refine ⟨a, C, dx, fs, rfl, ha, supc_Through_may w C hC, ?_⟩
  wtm_at "rd"
  refine ⟨rfl, a, C, dx, fs, v, d, rfl, ha, trivial, hd, fun H1 s1 => ⟨_, rfl, ite_b (fun e => ?_) (fun e => ?_)⟩⟩
  · have := q H1 s1
    rw [wordD_app, e, Bool.true_or] at this
    exact this
  · wtm_at "rd"
    refine ⟨140, 141, _, _, rfl, rfl, sq_DIRECT w _, sq_UPKEEP w _, by simp, by decide, (fun e => nomatch e), fun _ p hp => ?_⟩
    have hs := same_new (o := .tup (wordsB.map V.str)) hp
    have := q _ (same_trans s1 hs)
    rw [wordD_app, e, Bool.false_or] at this
    exact ⟨rfl, v, d, p, wordsB, rfl, SqT.of upd_same, dq_mono (same_trans s1 hs) hd, this⟩
theorem ok_Back_may (M : Mod (hd12.heap_39 w.params) mg base) : CallG PP w (hd12.heap_39 w.params) mg base 6 (.ref 300) (pos (spMay (hd12.heap_39 w.params) (fun C => C = 310) (wordsA ++ wordsB))) := by
  refine def_S (fn_Back_may w) sc_Back_may (fun vs H Q E h => ?_) (fun _ _ _ _ _ us hl => match us, hl with | [_, _], _ => rfl) (fun A outer s H vs Q E hr hg h => ?_)
  · obtain ⟨a, C, dx, fs, v, d, rfl, _⟩ := h; rfl
  have nd := sc_Back_may.nd
  obtain ⟨a, C, dx, fs, v, d, rfl, ha, rfl, hd, q⟩ := h
  refine ⟨_, psst_ret (pet_super (takes_of rfl rfl rfl rfl) (fn_Back_may w) sc_Back_may (sup_Back_may w) (ok_Through_may M) (hr.mono (by decide)) hg rfl rfl rfl rfl rfl (by decide) (pa_cons (pv 1) pa_nil)), ?_⟩
  refine ⟨a, 310, dx, fs, rfl, ha, supc_Back_may w, ?_⟩
  wtm_at "rd"
  exact ⟨rfl, a, 310, dx, fs, v, d, rfl, ha, .inr rfl, hd, q⟩
def isC (C : Addr) : Prop := C = 232 ∨ C = 272 ∨ C = 310
def mayC (C : Addr) : Addr := if C = 232 then 222 else if C = 272 then 262 else 300
def mayWs (C : Addr) : List Str := if C = 232 then wordsA else wordsA ++ wordsB
theorem isC_of {k : Nat} (h : k < 3) : isC (clsN k) := by
  rcases lt3 h with rfl | rfl | rfl
  · exact .inl rfl
  · exact .inr (.inl rfl)
  · exact .inr (.inr rfl)
theorem mayWs_of {k : Nat} (h : k < 3) : mayWs (clsN k) = mayK k := by
  rcases lt3 h with rfl | rfl | rfl <;> rfl
theorem may_cls (w : World) (C : Addr) (h : isC C) : Cls (hd12.heap_39 w.params) C ∧ Meth (hd12.heap_39 w.params) C "may" (mayC C) := by
  rcases h with rfl | rfl | rfl
  · exact ⟨cls_Agent w, me_Agent_may w⟩
  · exact ⟨cls_Through w, me_Through_may w⟩
  · exact ⟨cls_Back w, me_Back_may w⟩
theorem may_ok (M : Mod (hd12.heap_39 w.params) mg base) (C : Addr) (h : isC C) : CallG PP w (hd12.heap_39 w.params) mg base 6 (.ref (mayC C)) (pos (spMay (hd12.heap_39 w.params) (fun D => D = C) (mayWs C))) := by
  rcases h with rfl | rfl | rfl
  · exact ((ok_Agent_may M).mono (by decide)).imp fun vs zs H Q E h => ⟨h.1, let ⟨a, C, dx, fs, v, d, e, ha, _, r⟩ := h.2; ⟨a, C, dx, fs, v, d, e, ha, trivial, r⟩⟩
  · exact ((ok_Through_may M).mono (by decide)).imp fun vs zs H Q E h => ⟨h.1, let ⟨a, C, dx, fs, v, d, e, ha, hC, r⟩ := h.2; ⟨a, C, dx, fs, v, d, e, ha, .inl hC, r⟩⟩
  · exact (ok_Back_may M).imp fun vs zs H Q E h => ⟨h.1, let ⟨a, C, dx, fs, v, d, e, ha, hC, r⟩ := h.2; ⟨a, C, dx, fs, v, d, e, ha, hC, r⟩⟩
theorem ok_Agent___init__ (M : Mod (hd12.heap_39 w.params) mg base) : CallG PP w (hd12.heap_39 w.params) mg base 8 (.ref 177) (pos fun vs H Q E => ∃ ws rest, vs = ws ++ rest ∧ ws.length = 2 ∧ rest.length ≤ sizeLine ∧ ∀ p, H p = none → spAInit (hd12.heap_39 w.params) (ws ++ [.ref p]) (upd H p (.tup rest)) Q E) := by
  obtain ⟨fd, F⟩ := fn_Agent___init__ w
  refine def_star (ps := ["self", "name"]) (pv := "steps") F sc_Agent___init__ (fun _ _ _ _ _ _ => bind_star2 (B := fun l => bindArgs _ ⟨l, []⟩) (fun _ _ => rfl) (fun _ _ _ _ => rfl)) (fun cdv A outer s H vs Q E hr hg h => ?_)
  have nd := sc_Agent___init__.nd
  obtain ⟨k, a, dx, p, v1, d1, xs, ds, rfl, hk, ha, hp, h1, hs, hd, hps, q⟩ := h
  have hlx := dqAll_len hd
  refine ⟨_, (pss_cons (ps_if (pt_not (pt_val (pe_cl (takes_of rfl rfl rfl rfl) (ok_is_name M) (hr.mono (by decide)) hg rfl (mg_is_name M) (kp_is_name w) (pa_cons (pv 1) pa_nil)))) (pss_one (ps_raise rfl (takes_of rfl rfl rfl rfl) (pmk_E (mke_NoPart w) (takes_of rfl rfl rfl rfl) (ok_NoPart___init__ M) (hr.mono (by decide)) hg (kp_NoPart w) rfl (mg_NoPart M) (pa_cons pe_str (pa_cons pe_non pa_nil)) (by decide)))) pss_nil)
      (pss_cons (ps_if (pt_not (pt_chain op_le op_le pe_int (pe_callB call_len_seq (by rfl) (mn_len M) (by decide +kernel) (pa_cons (pv 2) pa_nil)) (pe_glob (v := .int 24) rfl (mg_MOST_STEPS M) ⟨_, rfl⟩))) (pss_one (ps_raise rfl (takes_of rfl rfl rfl rfl) (pmk_E (mke_NoPart w) (takes_of rfl rfl rfl rfl) (ok_NoPart___init__ M) (hr.mono (by decide)) hg (kp_NoPart w) rfl (mg_NoPart M) (pa_cons pe_str (pa_cons pe_non pa_nil)) (by decide)))) pss_nil)
      (pss_cons (ps_for (passes_of rfl) rfl (pi_enumT (by rfl) (mn_enumerate M) (pa_cons (pv 2) pa_nil)) (pg_tup (by rfl) (pgs_cons (pg_name (i := 3) nd rfl (.inl rfl)) (pgs_cons (pg_name (i := 4) nd rfl (.inl rfl)) pgs_nil))) (pss_one (ps_if (PW.pt (pw_or (pt_not (pt_val (pe_cl (takes_of rfl rfl rfl rfl) (ok_is_step M) (hr.mono (by decide)) hg rfl (mg_is_step M) (kp_is_step w) (pa_cons (pv 4) pa_nil)))) (pw_or1 (pt_not (pt_val (pe_meV (takes_of rfl rfl rfl rfl) (pv 0) (hm := fun k h => may_cls w k h) (may_ok M) (hr.mono (by decide)) hg (pa_cons (pe_ix ix_tup (pv 4) pe_int (fun _ _ => rfl)) pa_nil))))))) (pss_one (ps_raise rfl (takes_of rfl rfl rfl rfl) (pmk_E (mke_NoPart w) (takes_of rfl rfl rfl rfl) (ok_NoPart___init__ M) (hr.mono (by decide)) hg (kp_NoPart w) rfl (mg_NoPart M) (pa_cons pe_str (pa_cons (pv 3) pa_nil)) (by decide)))) pss_nil)))
      (pss_cons (ps_fld (pv 0) (pv 1) rfl)
      (pss_cons (ps_fld (pv 0) (pv 2) rfl)
      (pss_one (ps_fld (pv 0) (pe_tup (pa_cons (pe_con (pv 0) rfl) (pa_cons (pv 1) (pa_cons (pv 2) pa_nil)))) rfl))))))), ?_⟩
  refine ⟨_, rfl, rfl, v1, d1, rfl, h1, hs, fun H1 s1 => ⟨_, rfl, ite_b (fun e1 => ?_) (fun e1 => ?_)⟩⟩
  · have e1 : nameD d1 = false := by rw [← Bool.not_not (nameD d1), e1] <;> rfl
    refine ⟨rfl, fun d hd => ?_⟩
    have e : wantK k d1 ds = some (("name" : Str), none) := by unfold wantK; rw [if_pos e1]
    rw [e] at q
    exact q _ d (same_trans s1 (same_new hd)) upd_same
  have e1 : nameD d1 = true := by rw [← Bool.not_not (nameD d1), e1] <;> rfl
  have hp1 := s1 _ _ hp
  have fin : ¬ (1 ≤ ds.length ∧ ds.length ≤ 24) → ∀ d, H1 d = none → E (.ref 53) (some d) (upd H1 d (.xd [("place", .non), ("reason", .str "steps")])) := fun hn d hd => by
    have e : wantK k d1 ds = some (("steps" : Str), none) := by unfold wantK; rw [if_neg (by rw [e1]; exact Bool.noConfusion), if_pos hn]
    rw [e] at q
    exact q _ d (same_trans s1 (same_new hd)) upd_same
  refine ⟨_, rfl, p, xs, rfl, .inr (SqT.of hp1), _, _, rfl, rfl, _, rfl, ite_b (fun h3 => ?_) (fun h3 => ?_)⟩
  · have h3 := of_decide_eq_true h3
    refine ⟨_, _, rfl, rfl, _, rfl, ite_b (fun h4 => ?_) (fun h4 => ?_)⟩
    · exact ⟨rfl, fin (by have h4 : decide ((xs.length : Int) ≤ 24) = false := by rw [← Bool.not_not (decide ((xs.length : Int) ≤ 24)), h4] <;> rfl
                          have h4 := of_decide_eq_false h4
                          omega)⟩
    have h4 : decide ((xs.length : Int) ≤ 24) = true := by rw [← Bool.not_not (decide ((xs.length : Int) ≤ 24)), h4] <;> rfl
    have h4 := of_decide_eq_true h4
    have ew : wantK k d1 ds = match firstK (fun i => !goodK k (ds.getD i .none)) 0 ds.length with
        | some i => some (("step" : Str), some i)
        | none => none := by
      unfold wantK
      rw [if_neg (by rw [e1]; exact Bool.noConfusion), if_neg (by omega)]
      try (cases firstK (fun i => !goodK k (ds.getD i .none)) 0 ds.length <;> rfl)
    refine ⟨_, rfl, p, xs, rfl, SqT.of hp1, ?_⟩
    refine for_it walk_enumT (fun i σ H' => (∃ o3 o4, σ = [some (.ref a), some v1, some (.ref p), o3, o4]) ∧ Same H H' ∧ ∀ j, j < i → goodK k (ds.getD j .none) = true) ⟨⟨_, _, rfl⟩, s1, fun j hj => absurd hj (Nat.not_lt_zero j)⟩ (fun i σ H' _ h => SqT.of (h.2.1 _ _ hp)) (fun i x σ H2 H3 hi h y => ?_) (fun σ H2 h => ?_)
    · obtain ⟨⟨o3, o4, rfl⟩, sm, hno⟩ := h
      obtain ⟨T, kk, v, rfl, hT, rfl, hkk, hv⟩ := y
      cases hkk
      obtain ⟨d, hdi, hdv⟩ := dqAll_get hd hv
      have s2 := same_trans sm (same_new (o := .tup [.int i, v]) hT)
      have hdv := dq_mono s2 hdv
      have eb : goodK k (ds.getD i .none) = goodK k d := by
        rw [List.getD_eq_getElem?_getD, hdi] <;> rfl
      have fin : goodK k d = false → ∀ H4 d2, Same H H4 → H4 d2 = none → E (.ref 53) (some d2) (upd H4 d2 (.xd [("place", .int i), ("reason", .str "step")])) := fun hb H4 d2 s4 h2 => by
        have e : wantK k d1 ds = some (("step" : Str), some i) := by
          rw [ew, firstK_some (p := fun i => !goodK k (ds.getD i .none)) (k := 0) (i := i) (fun j hj => by rw [Nat.zero_add, hno j hj] <;> rfl) (by rw [Nat.zero_add, eb, hb] <;> rfl) (by omega), Nat.zero_add]
        rw [e] at q
        exact q _ d2 (same_trans s4 (same_new h2)) upd_same
      refine ⟨T, _, rfl, SqT.of upd_same, rfl, _, _, rfl, _, _, rfl, rfl, ?_⟩
      refine ⟨_, rfl, rfl, v, d, rfl, hdv, hps d (List.mem_of_getElem? hdi), fun H4 s4 => ⟨_, rfl, ite_b (fun e => ?_) (fun e => ?_)⟩⟩
      · refine ifT (b := true) rfl ?_
        have e : stepD d = false := by rw [← Bool.not_not (stepD d), e] <;> rfl
        exact ⟨_, rfl, rfl, fun d2 h2 => fin (by unfold goodK; rw [e] <;> rfl) _ d2 (same_trans s2 s4) h2⟩
      have e : stepD d = true := by rw [← Bool.not_not (stepD d), e] <;> rfl
      obtain ⟨wd, rs, rfl⟩ := stepD_head e
      obtain ⟨r, ys, ds2, rfl, e5, hsq, hall⟩ := dq_tup hdv rfl
      cases e5
      obtain ⟨x, zs, rfl, hx⟩ := all_cons hall
      have s5 := same_trans s2 s4
      have ha5 := s5 _ _ ha
      refine ⟨_, rfl, a, _, dx, _, rfl, isC_of hk, ha5, rfl, ?_⟩
      refine ⟨_, rfl, r, _, 0, x, rfl, rfl, st_mono s4 hsq, atI_nat (j := 0) rfl, rfl, a, _, dx, _, x, wd, rfl, ha5, rfl, dq_mono s4 hx, fun H6 s6 => ⟨_, rfl, ite_b (fun e2 => ?_) (fun e2 => ?_)⟩⟩
      · have e2 : wordD (mayWs (clsN k)) wd = false := by rw [← Bool.not_not (wordD (mayWs (clsN k)) wd), e2] <;> rfl
        rw [mayWs_of hk] at e2
        exact ⟨_, rfl, rfl, fun d2 h2 => fin (by unfold goodK; rw [show headD (.tuple (wd :: rs)) = wd from rfl, e2, Bool.and_false]) _ d2 (same_trans s5 s6) h2⟩
      · have e2 : wordD (mayWs (clsN k)) wd = true := by rw [← Bool.not_not (wordD (mayWs (clsN k)) wd), e2] <;> rfl
        rw [mayWs_of hk] at e2
        refine ⟨⟨_, _, rfl⟩, same_trans s5 s6, fun j hj => ?_⟩
        rcases Nat.lt_or_eq_of_le (Nat.le_of_lt_succ hj) with h | rfl
        · exact hno j h
        · rw [eb]
          unfold goodK
          rw [show headD (.tuple (wd :: rs)) = wd from rfl, e, e2] <;> rfl
    obtain ⟨⟨o3, o4, rfl⟩, sm, hno⟩ := h
    have e : wantK k d1 ds = none := by
      rw [ew, firstK_none (p := fun i => !goodK k (ds.getD i .none)) fun j hj => by rw [Nat.zero_add, hno j (by omega)] <;> rfl]
    rw [e] at q
    have ha2 := sm _ _ ha
    rcases lt3 hk with rfl | rfl | rfl
    · refine ⟨_, rfl, _, rfl, a, 232, dx, _, rfl, ha2, cls_Agent w, na_Agent_name w, Nat.le_of_ble_eq_true rfl, ?_⟩
      refine ⟨_, rfl, _, rfl, a, 232, dx, _, rfl, upd_same, cls_Agent w, na_Agent_steps w, Nat.le_of_ble_eq_true rfl, ?_⟩
      refine ⟨_, rfl, a, 232, dx, _, _, _, rfl, upd_same, cls_Agent w, con_Agent_KIND w, rfl, ?_⟩
      refine ⟨_, rfl, _, rfl, Nat.le_of_ble_eq_true rfl, fun z hz => ?_⟩
      refine ⟨_, rfl, a, 232, dx, _, rfl, at_new hz upd_same, cls_Agent w, na_Agent_shape w, Nat.le_of_ble_eq_true rfl, ?_⟩
      exact q _ z (Chg.same sm (((Chg.upd.trans Chg.upd).then (same_new hz)).trans Chg.upd)) ((upd_ne (fun e => by rw [e, upd_same] at hz; cases hz)).trans upd_same)
    · refine ⟨_, rfl, _, rfl, a, 272, dx, _, rfl, ha2, cls_Through w, na_Through_name w, Nat.le_of_ble_eq_true rfl, ?_⟩
      refine ⟨_, rfl, _, rfl, a, 272, dx, _, rfl, upd_same, cls_Through w, na_Through_steps w, Nat.le_of_ble_eq_true rfl, ?_⟩
      refine ⟨_, rfl, a, 272, dx, _, _, _, rfl, upd_same, cls_Through w, con_Through_KIND w, rfl, ?_⟩
      refine ⟨_, rfl, _, rfl, Nat.le_of_ble_eq_true rfl, fun z hz => ?_⟩
      refine ⟨_, rfl, a, 272, dx, _, rfl, at_new hz upd_same, cls_Through w, na_Through_shape w, Nat.le_of_ble_eq_true rfl, ?_⟩
      exact q _ z (Chg.same sm (((Chg.upd.trans Chg.upd).then (same_new hz)).trans Chg.upd)) ((upd_ne (fun e => by rw [e, upd_same] at hz; cases hz)).trans upd_same)
    · refine ⟨_, rfl, _, rfl, a, 310, dx, _, rfl, ha2, cls_Back w, na_Back_name w, Nat.le_of_ble_eq_true rfl, ?_⟩
      refine ⟨_, rfl, _, rfl, a, 310, dx, _, rfl, upd_same, cls_Back w, na_Back_steps w, Nat.le_of_ble_eq_true rfl, ?_⟩
      refine ⟨_, rfl, a, 310, dx, _, _, _, rfl, upd_same, cls_Back w, con_Back_KIND w, rfl, ?_⟩
      refine ⟨_, rfl, _, rfl, Nat.le_of_ble_eq_true rfl, fun z hz => ?_⟩
      refine ⟨_, rfl, a, 310, dx, _, rfl, at_new hz upd_same, cls_Back w, na_Back_shape w, Nat.le_of_ble_eq_true rfl, ?_⟩
      exact q _ z (Chg.same sm (((Chg.upd.trans Chg.upd).then (same_new hz)).trans Chg.upd)) ((upd_ne (fun e => by rw [e, upd_same] at hz; cases hz)).trans upd_same)
  · have h3 := of_decide_eq_false h3
    exact ⟨_, rfl, ifT (b := true) rfl ⟨rfl, fin (by omega)⟩⟩
theorem ok_Agent_made (M : Mod (hd12.heap_39 w.params) mg base) : CallG PP w (hd12.heap_39 w.params) mg base 10 (.ref 184) (pos (spAMade (hd12.heap_39 w.params) 0)) := by
  obtain ⟨fd, F⟩ := fn_Agent_made w
  refine def_pos F sc_Agent_made (fun vs H Q E h => ?_) (fun _ _ _ _ _ _ us hl => match us, hl with | [_, _, _], _ => rfl) (fun cdv A outer s H vs Q E hr hg h => ?_)
  · obtain ⟨v1, l, xs, rfl, _⟩ := h; rfl
  have nd := sc_Agent_made.nd
  obtain ⟨v1, l, xs, rfl, hx, q⟩ := h
  refine ⟨_, (pss_one (ps_ret (pe_mkLS (takes_of rfl rfl rfl rfl) (i := 0) (dom := fun C => C = 232) (fun C h => by subst h; exact mk_Agent w) (ok_Agent___init__ M) (hr.mono (by decide)) hg rfl (.inl rfl) (pa_cons (pv 1) (pa_star (pv 2) pa_nil))))), ?_⟩
  refine ⟨232, rfl, rfl, _, rfl, _, rfl, l, xs, rfl, hx, ?_⟩
  show spMk (clsN 0) (spAStar (hd12.heap_39 w.params)) (v1 :: (xs ++ [])) H Q E
  rw [List.append_nil]
  exact mkAg q
theorem ok_Through_made (M : Mod (hd12.heap_39 w.params) mg base) : CallG PP w (hd12.heap_39 w.params) mg base 10 (.ref 251) (pos (spAMade (hd12.heap_39 w.params) 1)) := by
  obtain ⟨fd, F⟩ := fn_Through_made w
  refine def_pos F sc_Through_made (fun vs H Q E h => ?_) (fun _ _ _ _ _ _ us hl => match us, hl with | [_, _, _], _ => rfl) (fun cdv A outer s H vs Q E hr hg h => ?_)
  · obtain ⟨v1, l, xs, rfl, _⟩ := h; rfl
  have nd := sc_Through_made.nd
  obtain ⟨v1, l, xs, rfl, hx, q⟩ := h
  refine ⟨_, (pss_one (ps_ret (pe_mkLS (takes_of rfl rfl rfl rfl) (i := 0) (dom := fun C => C = 272) (fun C h => by subst h; exact mk_Through w) (ok_Agent___init__ M) (hr.mono (by decide)) hg rfl (.inl rfl) (pa_cons (pv 1) (pa_star (pv 2) pa_nil))))), ?_⟩
  refine ⟨272, rfl, rfl, _, rfl, _, rfl, l, xs, rfl, hx, ?_⟩
  show spMk (clsN 1) (spAStar (hd12.heap_39 w.params)) (v1 :: (xs ++ [])) H Q E
  rw [List.append_nil]
  exact mkAg q
theorem ok_Back_made (M : Mod (hd12.heap_39 w.params) mg base) : CallG PP w (hd12.heap_39 w.params) mg base 10 (.ref 289) (pos (spAMade (hd12.heap_39 w.params) 2)) := by
  obtain ⟨fd, F⟩ := fn_Back_made w
  refine def_pos F sc_Back_made (fun vs H Q E h => ?_) (fun _ _ _ _ _ _ us hl => match us, hl with | [_, _, _], _ => rfl) (fun cdv A outer s H vs Q E hr hg h => ?_)
  · obtain ⟨v1, l, xs, rfl, _⟩ := h; rfl
  have nd := sc_Back_made.nd
  obtain ⟨v1, l, xs, rfl, hx, q⟩ := h
  refine ⟨_, (pss_one (ps_ret (pe_mkLS (takes_of rfl rfl rfl rfl) (i := 0) (dom := fun C => C = 310) (fun C h => by subst h; exact mk_Back w) (ok_Agent___init__ M) (hr.mono (by decide)) hg rfl (.inl rfl) (pa_cons (pv 1) (pa_star (pv 2) pa_nil))))), ?_⟩
  refine ⟨310, rfl, rfl, _, rfl, _, rfl, l, xs, rfl, hx, ?_⟩
  show spMk (clsN 2) (spAStar (hd12.heap_39 w.params)) (v1 :: (xs ++ [])) H Q E
  rw [List.append_nil]
  exact mkAg q
end
end M12

namespace M12
open PySem PySem.Spec PyProof.Rows L2 StX Uk

local macro_rules | `(tactic| wtm_at "off0") => `(tactic| first | with_reducible assumption | (with_reducible apply Off.mk; wtm_at "pen"; assumption))
local macro_rules | `(tactic| wtm_at "at0") => `(tactic| first | with_reducible assumption | with_reducible exact upd_same | (with_reducible apply Off.at; wtm_at "off0"))
local macro_rules | `(tactic| wtm_at "off1") => `(tactic| first | with_reducible assumption | (with_reducible apply Off.mk; wtm_at "pen"; assumption) | (with_reducible refine Off.new (by assumption) _ _ ?_; wtm_at "off0") | (with_reducible refine at_same (by with_reducible assumption) ?_; wtm_at "off0"))
local macro_rules | `(tactic| wtm_at "at1") => `(tactic| first | with_reducible assumption | with_reducible exact upd_same | (with_reducible refine at_new (by assumption) ?_; wtm_at "at0") | (with_reducible refine at_same (by with_reducible assumption) ?_; wtm_at "at0") | (with_reducible apply Off.at; wtm_at "off1"))
local macro_rules | `(tactic| wtm_at "off2") => `(tactic| first | with_reducible assumption | (with_reducible apply Off.mk; wtm_at "pen"; assumption) | (with_reducible refine Off.new (by assumption) _ _ ?_; wtm_at "off1") | (with_reducible refine at_same (by with_reducible assumption) ?_; wtm_at "off1"))
local macro_rules | `(tactic| wtm_at "at2") => `(tactic| first | with_reducible assumption | with_reducible exact upd_same | (with_reducible refine at_new (by assumption) ?_; wtm_at "at1") | (with_reducible refine at_same (by with_reducible assumption) ?_; wtm_at "at1") | (with_reducible apply Off.at; wtm_at "off2"))
local macro_rules | `(tactic| wtm_at "off3") => `(tactic| first | with_reducible assumption | (with_reducible apply Off.mk; wtm_at "pen"; assumption) | (with_reducible refine Off.new (by assumption) _ _ ?_; wtm_at "off2") | (with_reducible refine at_same (by with_reducible assumption) ?_; wtm_at "off2"))
local macro_rules | `(tactic| wtm_at "at3") => `(tactic| first | with_reducible assumption | with_reducible exact upd_same | (with_reducible refine at_new (by assumption) ?_; wtm_at "at2") | (with_reducible refine at_same (by with_reducible assumption) ?_; wtm_at "at2") | (with_reducible apply Off.at; wtm_at "off3"))
local macro_rules | `(tactic| wtm_at "off4") => `(tactic| first | with_reducible assumption | (with_reducible apply Off.mk; wtm_at "pen"; assumption) | (with_reducible refine Off.new (by assumption) _ _ ?_; wtm_at "off3") | (with_reducible refine at_same (by with_reducible assumption) ?_; wtm_at "off3"))
local macro_rules | `(tactic| wtm_at "at4") => `(tactic| first | with_reducible assumption | with_reducible exact upd_same | (with_reducible refine at_new (by assumption) ?_; wtm_at "at3") | (with_reducible refine at_same (by with_reducible assumption) ?_; wtm_at "at3") | (with_reducible apply Off.at; wtm_at "off4"))
local macro_rules | `(tactic| wtm_at "off5") => `(tactic| first | with_reducible assumption | (with_reducible apply Off.mk; wtm_at "pen"; assumption) | (with_reducible refine Off.new (by assumption) _ _ ?_; wtm_at "off4") | (with_reducible refine at_same (by with_reducible assumption) ?_; wtm_at "off4"))
local macro_rules | `(tactic| wtm_at "at5") => `(tactic| first | with_reducible assumption | with_reducible exact upd_same | (with_reducible refine at_new (by assumption) ?_; wtm_at "at4") | (with_reducible refine at_same (by with_reducible assumption) ?_; wtm_at "at4") | (with_reducible apply Off.at; wtm_at "off5"))
local macro_rules | `(tactic| wtm_at "off6") => `(tactic| first | with_reducible assumption | (with_reducible apply Off.mk; wtm_at "pen"; assumption) | (with_reducible refine Off.new (by assumption) _ _ ?_; wtm_at "off5") | (with_reducible refine at_same (by with_reducible assumption) ?_; wtm_at "off5"))
local macro_rules | `(tactic| wtm_at "at6") => `(tactic| first | with_reducible assumption | with_reducible exact upd_same | (with_reducible refine at_new (by assumption) ?_; wtm_at "at5") | (with_reducible refine at_same (by with_reducible assumption) ?_; wtm_at "at5") | (with_reducible apply Off.at; wtm_at "off6"))
local macro_rules | `(tactic| wtm_at "off7") => `(tactic| first | with_reducible assumption | (with_reducible apply Off.mk; wtm_at "pen"; assumption) | (with_reducible refine Off.new (by assumption) _ _ ?_; wtm_at "off6") | (with_reducible refine at_same (by with_reducible assumption) ?_; wtm_at "off6"))
local macro_rules | `(tactic| wtm_at "at7") => `(tactic| first | with_reducible assumption | with_reducible exact upd_same | (with_reducible refine at_new (by assumption) ?_; wtm_at "at6") | (with_reducible refine at_same (by with_reducible assumption) ?_; wtm_at "at6") | (with_reducible apply Off.at; wtm_at "off7"))
local macro_rules | `(tactic| wtm_at "off8") => `(tactic| first | with_reducible assumption | (with_reducible apply Off.mk; wtm_at "pen"; assumption) | (with_reducible refine Off.new (by assumption) _ _ ?_; wtm_at "off7") | (with_reducible refine at_same (by with_reducible assumption) ?_; wtm_at "off7"))
local macro_rules | `(tactic| wtm_at "at8") => `(tactic| first | with_reducible assumption | with_reducible exact upd_same | (with_reducible refine at_new (by assumption) ?_; wtm_at "at7") | (with_reducible refine at_same (by with_reducible assumption) ?_; wtm_at "at7") | (with_reducible apply Off.at; wtm_at "off8"))
local macro_rules | `(tactic| wtm_at "off9") => `(tactic| first | with_reducible assumption | (with_reducible apply Off.mk; wtm_at "pen"; assumption) | (with_reducible refine Off.new (by assumption) _ _ ?_; wtm_at "off8") | (with_reducible refine at_same (by with_reducible assumption) ?_; wtm_at "off8"))
local macro_rules | `(tactic| wtm_at "at9") => `(tactic| first | with_reducible assumption | with_reducible exact upd_same | (with_reducible refine at_new (by assumption) ?_; wtm_at "at8") | (with_reducible refine at_same (by with_reducible assumption) ?_; wtm_at "at8") | (with_reducible apply Off.at; wtm_at "off9"))
local macro_rules | `(tactic| wtm_at "off10") => `(tactic| first | with_reducible assumption | (with_reducible apply Off.mk; wtm_at "pen"; assumption) | (with_reducible refine Off.new (by assumption) _ _ ?_; wtm_at "off9") | (with_reducible refine at_same (by with_reducible assumption) ?_; wtm_at "off9"))
local macro_rules | `(tactic| wtm_at "at10") => `(tactic| first | with_reducible assumption | with_reducible exact upd_same | (with_reducible refine at_new (by assumption) ?_; wtm_at "at9") | (with_reducible refine at_same (by with_reducible assumption) ?_; wtm_at "at9") | (with_reducible apply Off.at; wtm_at "off10"))
local macro_rules | `(tactic| wtm_at "off11") => `(tactic| first | with_reducible assumption | (with_reducible apply Off.mk; wtm_at "pen"; assumption) | (with_reducible refine Off.new (by assumption) _ _ ?_; wtm_at "off10") | (with_reducible refine at_same (by with_reducible assumption) ?_; wtm_at "off10"))
local macro_rules | `(tactic| wtm_at "at11") => `(tactic| first | with_reducible assumption | with_reducible exact upd_same | (with_reducible refine at_new (by assumption) ?_; wtm_at "at10") | (with_reducible refine at_same (by with_reducible assumption) ?_; wtm_at "at10") | (with_reducible apply Off.at; wtm_at "off11"))
local macro_rules | `(tactic| wtm_at "off12") => `(tactic| first | with_reducible assumption | (with_reducible apply Off.mk; wtm_at "pen"; assumption) | (with_reducible refine Off.new (by assumption) _ _ ?_; wtm_at "off11") | (with_reducible refine at_same (by with_reducible assumption) ?_; wtm_at "off11"))
local macro_rules | `(tactic| wtm_at "at12") => `(tactic| first | with_reducible assumption | with_reducible exact upd_same | (with_reducible refine at_new (by assumption) ?_; wtm_at "at11") | (with_reducible refine at_same (by with_reducible assumption) ?_; wtm_at "at11") | (with_reducible apply Off.at; wtm_at "off12"))
local macro_rules | `(tactic| wtm_at "off13") => `(tactic| first | with_reducible assumption | (with_reducible apply Off.mk; wtm_at "pen"; assumption) | (with_reducible refine Off.new (by assumption) _ _ ?_; wtm_at "off12") | (with_reducible refine at_same (by with_reducible assumption) ?_; wtm_at "off12"))
local macro_rules | `(tactic| wtm_at "at13") => `(tactic| first | with_reducible assumption | with_reducible exact upd_same | (with_reducible refine at_new (by assumption) ?_; wtm_at "at12") | (with_reducible refine at_same (by with_reducible assumption) ?_; wtm_at "at12") | (with_reducible apply Off.at; wtm_at "off13"))
local macro_rules | `(tactic| wtm_at "off14") => `(tactic| first | with_reducible assumption | (with_reducible apply Off.mk; wtm_at "pen"; assumption) | (with_reducible refine Off.new (by assumption) _ _ ?_; wtm_at "off13") | (with_reducible refine at_same (by with_reducible assumption) ?_; wtm_at "off13"))
local macro_rules | `(tactic| wtm_at "at14") => `(tactic| first | with_reducible assumption | with_reducible exact upd_same | (with_reducible refine at_new (by assumption) ?_; wtm_at "at13") | (with_reducible refine at_same (by with_reducible assumption) ?_; wtm_at "at13") | (with_reducible apply Off.at; wtm_at "off14"))
local macro_rules | `(tactic| wtm_at "off15") => `(tactic| first | with_reducible assumption | (with_reducible apply Off.mk; wtm_at "pen"; assumption) | (with_reducible refine Off.new (by assumption) _ _ ?_; wtm_at "off14") | (with_reducible refine at_same (by with_reducible assumption) ?_; wtm_at "off14"))
local macro_rules | `(tactic| wtm_at "at15") => `(tactic| first | with_reducible assumption | with_reducible exact upd_same | (with_reducible refine at_new (by assumption) ?_; wtm_at "at14") | (with_reducible refine at_same (by with_reducible assumption) ?_; wtm_at "at14") | (with_reducible apply Off.at; wtm_at "off15"))
local macro_rules | `(tactic| wtm_at "off16") => `(tactic| first | with_reducible assumption | (with_reducible apply Off.mk; wtm_at "pen"; assumption) | (with_reducible refine Off.new (by assumption) _ _ ?_; wtm_at "off15") | (with_reducible refine at_same (by with_reducible assumption) ?_; wtm_at "off15"))
local macro_rules | `(tactic| wtm_at "at16") => `(tactic| first | with_reducible assumption | with_reducible exact upd_same | (with_reducible refine at_new (by assumption) ?_; wtm_at "at15") | (with_reducible refine at_same (by with_reducible assumption) ?_; wtm_at "at15") | (with_reducible apply Off.at; wtm_at "off16"))
local macro_rules | `(tactic| wtm_at "off17") => `(tactic| first | with_reducible assumption | (with_reducible apply Off.mk; wtm_at "pen"; assumption) | (with_reducible refine Off.new (by assumption) _ _ ?_; wtm_at "off16") | (with_reducible refine at_same (by with_reducible assumption) ?_; wtm_at "off16"))
local macro_rules | `(tactic| wtm_at "at17") => `(tactic| first | with_reducible assumption | with_reducible exact upd_same | (with_reducible refine at_new (by assumption) ?_; wtm_at "at16") | (with_reducible refine at_same (by with_reducible assumption) ?_; wtm_at "at16") | (with_reducible apply Off.at; wtm_at "off17"))
local macro_rules | `(tactic| wtm_at "off18") => `(tactic| first | with_reducible assumption | (with_reducible apply Off.mk; wtm_at "pen"; assumption) | (with_reducible refine Off.new (by assumption) _ _ ?_; wtm_at "off17") | (with_reducible refine at_same (by with_reducible assumption) ?_; wtm_at "off17"))
local macro_rules | `(tactic| wtm_at "at18") => `(tactic| first | with_reducible assumption | with_reducible exact upd_same | (with_reducible refine at_new (by assumption) ?_; wtm_at "at17") | (with_reducible refine at_same (by with_reducible assumption) ?_; wtm_at "at17") | (with_reducible apply Off.at; wtm_at "off18"))
local macro_rules | `(tactic| wtm_at "off19") => `(tactic| first | with_reducible assumption | (with_reducible apply Off.mk; wtm_at "pen"; assumption) | (with_reducible refine Off.new (by assumption) _ _ ?_; wtm_at "off18") | (with_reducible refine at_same (by with_reducible assumption) ?_; wtm_at "off18"))
local macro_rules | `(tactic| wtm_at "at19") => `(tactic| first | with_reducible assumption | with_reducible exact upd_same | (with_reducible refine at_new (by assumption) ?_; wtm_at "at18") | (with_reducible refine at_same (by with_reducible assumption) ?_; wtm_at "at18") | (with_reducible apply Off.at; wtm_at "off19"))
local macro_rules | `(tactic| wtm_at "off20") => `(tactic| first | with_reducible assumption | (with_reducible apply Off.mk; wtm_at "pen"; assumption) | (with_reducible refine Off.new (by assumption) _ _ ?_; wtm_at "off19") | (with_reducible refine at_same (by with_reducible assumption) ?_; wtm_at "off19"))
local macro_rules | `(tactic| wtm_at "at20") => `(tactic| first | with_reducible assumption | with_reducible exact upd_same | (with_reducible refine at_new (by assumption) ?_; wtm_at "at19") | (with_reducible refine at_same (by with_reducible assumption) ?_; wtm_at "at19") | (with_reducible apply Off.at; wtm_at "off20"))
local macro_rules | `(tactic| wtm_at "off21") => `(tactic| first | with_reducible assumption | (with_reducible apply Off.mk; wtm_at "pen"; assumption) | (with_reducible refine Off.new (by assumption) _ _ ?_; wtm_at "off20") | (with_reducible refine at_same (by with_reducible assumption) ?_; wtm_at "off20"))
local macro_rules | `(tactic| wtm_at "at21") => `(tactic| first | with_reducible assumption | with_reducible exact upd_same | (with_reducible refine at_new (by assumption) ?_; wtm_at "at20") | (with_reducible refine at_same (by with_reducible assumption) ?_; wtm_at "at20") | (with_reducible apply Off.at; wtm_at "off21"))
local macro_rules | `(tactic| wtm_at "off22") => `(tactic| first | with_reducible assumption | (with_reducible apply Off.mk; wtm_at "pen"; assumption) | (with_reducible refine Off.new (by assumption) _ _ ?_; wtm_at "off21") | (with_reducible refine at_same (by with_reducible assumption) ?_; wtm_at "off21"))
local macro_rules | `(tactic| wtm_at "at22") => `(tactic| first | with_reducible assumption | with_reducible exact upd_same | (with_reducible refine at_new (by assumption) ?_; wtm_at "at21") | (with_reducible refine at_same (by with_reducible assumption) ?_; wtm_at "at21") | (with_reducible apply Off.at; wtm_at "off22"))
local macro_rules | `(tactic| wtm_at "off23") => `(tactic| first | with_reducible assumption | (with_reducible apply Off.mk; wtm_at "pen"; assumption) | (with_reducible refine Off.new (by assumption) _ _ ?_; wtm_at "off22") | (with_reducible refine at_same (by with_reducible assumption) ?_; wtm_at "off22"))
local macro_rules | `(tactic| wtm_at "at23") => `(tactic| first | with_reducible assumption | with_reducible exact upd_same | (with_reducible refine at_new (by assumption) ?_; wtm_at "at22") | (with_reducible refine at_same (by with_reducible assumption) ?_; wtm_at "at22") | (with_reducible apply Off.at; wtm_at "off23"))
local macro_rules | `(tactic| wtm_at "off24") => `(tactic| first | with_reducible assumption | (with_reducible apply Off.mk; wtm_at "pen"; assumption) | (with_reducible refine Off.new (by assumption) _ _ ?_; wtm_at "off23") | (with_reducible refine at_same (by with_reducible assumption) ?_; wtm_at "off23"))
local macro_rules | `(tactic| wtm_at "at24") => `(tactic| first | with_reducible assumption | with_reducible exact upd_same | (with_reducible refine at_new (by assumption) ?_; wtm_at "at23") | (with_reducible refine at_same (by with_reducible assumption) ?_; wtm_at "at23") | (with_reducible apply Off.at; wtm_at "off24"))
local macro_rules | `(tactic| wtm_at "off25") => `(tactic| first | with_reducible assumption | (with_reducible apply Off.mk; wtm_at "pen"; assumption) | (with_reducible refine Off.new (by assumption) _ _ ?_; wtm_at "off24") | (with_reducible refine at_same (by with_reducible assumption) ?_; wtm_at "off24"))
local macro_rules | `(tactic| wtm_at "at25") => `(tactic| first | with_reducible assumption | with_reducible exact upd_same | (with_reducible refine at_new (by assumption) ?_; wtm_at "at24") | (with_reducible refine at_same (by with_reducible assumption) ?_; wtm_at "at24") | (with_reducible apply Off.at; wtm_at "off25"))
local macro_rules | `(tactic| wtm_at "off26") => `(tactic| first | with_reducible assumption | (with_reducible apply Off.mk; wtm_at "pen"; assumption) | (with_reducible refine Off.new (by assumption) _ _ ?_; wtm_at "off25") | (with_reducible refine at_same (by with_reducible assumption) ?_; wtm_at "off25"))
local macro_rules | `(tactic| wtm_at "at26") => `(tactic| first | with_reducible assumption | with_reducible exact upd_same | (with_reducible refine at_new (by assumption) ?_; wtm_at "at25") | (with_reducible refine at_same (by with_reducible assumption) ?_; wtm_at "at25") | (with_reducible apply Off.at; wtm_at "off26"))
local macro_rules | `(tactic| wtm_at "off27") => `(tactic| first | with_reducible assumption | (with_reducible apply Off.mk; wtm_at "pen"; assumption) | (with_reducible refine Off.new (by assumption) _ _ ?_; wtm_at "off26") | (with_reducible refine at_same (by with_reducible assumption) ?_; wtm_at "off26"))
local macro_rules | `(tactic| wtm_at "at27") => `(tactic| first | with_reducible assumption | with_reducible exact upd_same | (with_reducible refine at_new (by assumption) ?_; wtm_at "at26") | (with_reducible refine at_same (by with_reducible assumption) ?_; wtm_at "at26") | (with_reducible apply Off.at; wtm_at "off27"))
local macro_rules | `(tactic| wtm_at "off28") => `(tactic| first | with_reducible assumption | (with_reducible apply Off.mk; wtm_at "pen"; assumption) | (with_reducible refine Off.new (by assumption) _ _ ?_; wtm_at "off27") | (with_reducible refine at_same (by with_reducible assumption) ?_; wtm_at "off27"))
local macro_rules | `(tactic| wtm_at "at28") => `(tactic| first | with_reducible assumption | with_reducible exact upd_same | (with_reducible refine at_new (by assumption) ?_; wtm_at "at27") | (with_reducible refine at_same (by with_reducible assumption) ?_; wtm_at "at27") | (with_reducible apply Off.at; wtm_at "off28"))
local macro_rules | `(tactic| wtm_at "off29") => `(tactic| first | with_reducible assumption | (with_reducible apply Off.mk; wtm_at "pen"; assumption) | (with_reducible refine Off.new (by assumption) _ _ ?_; wtm_at "off28") | (with_reducible refine at_same (by with_reducible assumption) ?_; wtm_at "off28"))
local macro_rules | `(tactic| wtm_at "at29") => `(tactic| first | with_reducible assumption | with_reducible exact upd_same | (with_reducible refine at_new (by assumption) ?_; wtm_at "at28") | (with_reducible refine at_same (by with_reducible assumption) ?_; wtm_at "at28") | (with_reducible apply Off.at; wtm_at "off29"))
local macro_rules | `(tactic| wtm_at "off30") => `(tactic| first | with_reducible assumption | (with_reducible apply Off.mk; wtm_at "pen"; assumption) | (with_reducible refine Off.new (by assumption) _ _ ?_; wtm_at "off29") | (with_reducible refine at_same (by with_reducible assumption) ?_; wtm_at "off29"))
local macro_rules | `(tactic| wtm_at "at30") => `(tactic| first | with_reducible assumption | with_reducible exact upd_same | (with_reducible refine at_new (by assumption) ?_; wtm_at "at29") | (with_reducible refine at_same (by with_reducible assumption) ?_; wtm_at "at29") | (with_reducible apply Off.at; wtm_at "off30"))
local macro_rules | `(tactic| wtm_at "off31") => `(tactic| first | with_reducible assumption | (with_reducible apply Off.mk; wtm_at "pen"; assumption) | (with_reducible refine Off.new (by assumption) _ _ ?_; wtm_at "off30") | (with_reducible refine at_same (by with_reducible assumption) ?_; wtm_at "off30"))
local macro_rules | `(tactic| wtm_at "at31") => `(tactic| first | with_reducible assumption | with_reducible exact upd_same | (with_reducible refine at_new (by assumption) ?_; wtm_at "at30") | (with_reducible refine at_same (by with_reducible assumption) ?_; wtm_at "at30") | (with_reducible apply Off.at; wtm_at "off31"))
local macro_rules | `(tactic| wtm_at "off32") => `(tactic| first | with_reducible assumption | (with_reducible apply Off.mk; wtm_at "pen"; assumption) | (with_reducible refine Off.new (by assumption) _ _ ?_; wtm_at "off31") | (with_reducible refine at_same (by with_reducible assumption) ?_; wtm_at "off31"))
local macro_rules | `(tactic| wtm_at "at32") => `(tactic| first | with_reducible assumption | with_reducible exact upd_same | (with_reducible refine at_new (by assumption) ?_; wtm_at "at31") | (with_reducible refine at_same (by with_reducible assumption) ?_; wtm_at "at31") | (with_reducible apply Off.at; wtm_at "off32"))
local macro_rules | `(tactic| wtm_at "off33") => `(tactic| first | with_reducible assumption | (with_reducible apply Off.mk; wtm_at "pen"; assumption) | (with_reducible refine Off.new (by assumption) _ _ ?_; wtm_at "off32") | (with_reducible refine at_same (by with_reducible assumption) ?_; wtm_at "off32"))
local macro_rules | `(tactic| wtm_at "at33") => `(tactic| first | with_reducible assumption | with_reducible exact upd_same | (with_reducible refine at_new (by assumption) ?_; wtm_at "at32") | (with_reducible refine at_same (by with_reducible assumption) ?_; wtm_at "at32") | (with_reducible apply Off.at; wtm_at "off33"))
local macro_rules | `(tactic| wtm_at "off34") => `(tactic| first | with_reducible assumption | (with_reducible apply Off.mk; wtm_at "pen"; assumption) | (with_reducible refine Off.new (by assumption) _ _ ?_; wtm_at "off33") | (with_reducible refine at_same (by with_reducible assumption) ?_; wtm_at "off33"))
local macro_rules | `(tactic| wtm_at "at34") => `(tactic| first | with_reducible assumption | with_reducible exact upd_same | (with_reducible refine at_new (by assumption) ?_; wtm_at "at33") | (with_reducible refine at_same (by with_reducible assumption) ?_; wtm_at "at33") | (with_reducible apply Off.at; wtm_at "off34"))
local macro_rules | `(tactic| wtm_at "off35") => `(tactic| first | with_reducible assumption | (with_reducible apply Off.mk; wtm_at "pen"; assumption) | (with_reducible refine Off.new (by assumption) _ _ ?_; wtm_at "off34") | (with_reducible refine at_same (by with_reducible assumption) ?_; wtm_at "off34"))
local macro_rules | `(tactic| wtm_at "at35") => `(tactic| first | with_reducible assumption | with_reducible exact upd_same | (with_reducible refine at_new (by assumption) ?_; wtm_at "at34") | (with_reducible refine at_same (by with_reducible assumption) ?_; wtm_at "at34") | (with_reducible apply Off.at; wtm_at "off35"))
local macro_rules | `(tactic| wtm_at "off36") => `(tactic| first | with_reducible assumption | (with_reducible apply Off.mk; wtm_at "pen"; assumption) | (with_reducible refine Off.new (by assumption) _ _ ?_; wtm_at "off35") | (with_reducible refine at_same (by with_reducible assumption) ?_; wtm_at "off35"))
local macro_rules | `(tactic| wtm_at "at36") => `(tactic| first | with_reducible assumption | with_reducible exact upd_same | (with_reducible refine at_new (by assumption) ?_; wtm_at "at35") | (with_reducible refine at_same (by with_reducible assumption) ?_; wtm_at "at35") | (with_reducible apply Off.at; wtm_at "off36"))
local macro_rules | `(tactic| wtm_at "off37") => `(tactic| first | with_reducible assumption | (with_reducible apply Off.mk; wtm_at "pen"; assumption) | (with_reducible refine Off.new (by assumption) _ _ ?_; wtm_at "off36") | (with_reducible refine at_same (by with_reducible assumption) ?_; wtm_at "off36"))
local macro_rules | `(tactic| wtm_at "at37") => `(tactic| first | with_reducible assumption | with_reducible exact upd_same | (with_reducible refine at_new (by assumption) ?_; wtm_at "at36") | (with_reducible refine at_same (by with_reducible assumption) ?_; wtm_at "at36") | (with_reducible apply Off.at; wtm_at "off37"))
local macro_rules | `(tactic| wtm_at "off38") => `(tactic| first | with_reducible assumption | (with_reducible apply Off.mk; wtm_at "pen"; assumption) | (with_reducible refine Off.new (by assumption) _ _ ?_; wtm_at "off37") | (with_reducible refine at_same (by with_reducible assumption) ?_; wtm_at "off37"))
local macro_rules | `(tactic| wtm_at "at38") => `(tactic| first | with_reducible assumption | with_reducible exact upd_same | (with_reducible refine at_new (by assumption) ?_; wtm_at "at37") | (with_reducible refine at_same (by with_reducible assumption) ?_; wtm_at "at37") | (with_reducible apply Off.at; wtm_at "off38"))
local macro_rules | `(tactic| wtm_at "off39") => `(tactic| first | with_reducible assumption | (with_reducible apply Off.mk; wtm_at "pen"; assumption) | (with_reducible refine Off.new (by assumption) _ _ ?_; wtm_at "off38") | (with_reducible refine at_same (by with_reducible assumption) ?_; wtm_at "off38"))
local macro_rules | `(tactic| wtm_at "at39") => `(tactic| first | with_reducible assumption | with_reducible exact upd_same | (with_reducible refine at_new (by assumption) ?_; wtm_at "at38") | (with_reducible refine at_same (by with_reducible assumption) ?_; wtm_at "at38") | (with_reducible apply Off.at; wtm_at "off39"))
local macro_rules | `(tactic| wtm_at "at") => `(tactic| wtm_at "at39")
local macro_rules | `(tactic| wtm_at "off") => `(tactic| wtm_at "off39")
local macro_rules | `(tactic| wtm_at "pen") => `(tactic| first
  | assumption | (refine Pen.new (by assumption) ?_; wtm_at "pen") | (refine Pen.same (by assumption) ?_; wtm_at "pen"))
local macro_rules | `(tactic| wtm_at "same") => `(tactic| first
  | exact fun _ _ h => h | assumption | exact same_new (by assumption) | (refine same_trans ?_ (same_new (by assumption)); wtm_at "same") | (refine same_trans ?_ (by assumption); wtm_at "same")
  | (refine same_trans ?_ (Off.new (by assumption)); wtm_at "same") | (refine same_trans ?_ (Off.same (by assumption)); wtm_at "same"))
local macro_rules | `(tactic| wtm_at "dps") => `(tactic| first
  | exact .nil | (apply DpAll.cons; wtm_at "dp"; wtm_at "dps") | exact dpAll_ints _)
local macro_rules | `(tactic| wtm_at "dp") => `(tactic| first
  | exact .non | exact .bl _ | exact .int _ | exact .str _ | (fail) | (apply Dp.lst; (apply SqL.of; wtm_at "at"); wtm_at "dps") | (apply Dp.tup; (apply SqT.of; wtm_at "at"); wtm_at "dps"))
local macro_rules | `(tactic| wtm_at "side") => `(tactic| first
  | exact ⟨by decide, by decide⟩ | exact ⟨by decide, by decide, by decide⟩ | exact .inl ⟨by decide, by decide⟩ | exact .inr ⟨by decide, by decide⟩ | (show ¬ _ = _; decide))
local macro_rules | `(tactic| wtm_at "sml") => `(tactic| first
  | exact sml_none (by decide) | exact sml_bool (by decide) | exact sml_int (by decide) (by omega) | (fail) | exact sml_list (n := 19) (k := 0) (by wtm_at "smls") (by decide) (by decide))
local macro_rules | `(tactic| wtm_at "smls") => `(tactic| first | exact smlAll_nil (m := 0) | (apply smlAll_cons; wtm_at "sml"; wtm_at "smls"))
local macro_rules | `(tactic| wtm_at "shw") => `(tactic| exact Sml.shw (n := 10000) (k := 50) (by wtm_at "sml") (by decide) (by decide))
local macro_rules | `(tactic| wtm_at "rd") => `(tactic| first
  | refine ⟨_, rfl, ?_⟩ | refine ⟨_, _, rfl, rfl, ?_⟩ | refine ifT rfl ?_ | refine ifF rfl ?_ | refine ⟨rfl, ?_⟩
  | refine ⟨_, _, by rfl, by wtm_at "dp", by wtm_at "shw", ?_⟩
  | refine ⟨_, _, _, _, _, rfl, by wtm_at "at", by wtm_at "cls", by wtm_at "na", by rfl, ?_⟩
  | refine ⟨_, _, rfl, .inr (SqT.of (by wtm_at "at")), ?_⟩ | refine ⟨_, _, rfl, .inl (SqL.of (by wtm_at "at")), ?_⟩
  | refine ⟨_, _, rfl, .inr (SqT.of (by wtm_at "at")), by rfl, by rfl, ?_⟩ | refine ⟨_, _, rfl, .inl (SqL.of (by wtm_at "at")), by rfl, by rfl, ?_⟩
  | refine ⟨_, _, _, _, rfl, rfl, SqT.of (by wtm_at "at"), by rfl, ?_⟩ | refine ⟨_, _, _, _, rfl, rfl, SqL.of (by wtm_at "at"), by rfl, ?_⟩
  | refine ⟨_, _, rfl, rfl, by wtm_at "side", ?_⟩
  | refine ⟨_, _, by wtm_at "dp", by wtm_at "dp", by first | rfl | decide +kernel, by first | rfl | decide +kernel, ?_⟩
  | refine ⟨_, _, [_, _], [_, _], rfl, rfl, sqI2 (by wtm_at "at"), sqI2 (by wtm_at "at"), ?_⟩
  | refine ⟨_, _, rfl, ?_⟩
  | refine ⟨Nat.le_of_ble_eq_true rfl, fun _ _ => ?_⟩
  | refine ifF (by decide +kernel) ?_ | refine ifF (nd_refl _) ?_ | refine ifT (de_refl _) ?_)
local macro_rules | `(tactic| wtm_at "cls") => `(tactic| first | exact cls_Agent _ | exact cls_Signal _ | exact cls_Variable _ | exact cls_Net _)
local macro_rules | `(tactic| wtm_at "na") => `(tactic| first | exact na_Agent_name _ | exact na_Agent_steps _ | exact na_Agent_shape _ | exact na_Signal_name _ | exact na_Signal_tokens _ | exact na_Variable_name _ | exact na_Variable_size _ | exact na_Variable_at _ | exact na_Variable_shape _ | exact na_Net_line _ | exact na_Net_ring _ | exact na_Net_variables _ | exact na_Net_signals _ | exact na_Net_agents _ | exact na_Net_shape _ | exact na_Net_by_name _ | exact na_Net_bytes_at _ | exact na_Net_lines_at _)

def spSlots (K : PySem.W.Frag) : Sp := fun vs H Q E => ∃ (b : Int) (p : Addr) (xs : List V) (ds : List PyData), vs = [.int b, .ref p] ∧ H p = some (.tup xs) ∧ DqAll K H xs ds ∧ ds.length ≤ 4 ∧ okOr 53 (slotsW b ds) H (fun H' => Q .non H') E
abbrev varO (dx p q : Addr) (v1 v2 : V) : HO := .ins 411 dx [("name", v1), ("size", v2), ("at", .ref p), ("shape", .ref q)]
def spVInit (K : PySem.W.Frag) : Sp := fun vs H Q E => ∃ (a dx p : Addr) (v1 v2 : V) (d1 d2 : PyData) (xs : List V) (ds : List PyData), vs = [.ref a, v1, v2, .ref p] ∧ H a = some (.ins 411 dx []) ∧ H p = some (.tup xs) ∧ Dq K H v1 d1 ∧ smallD d1 ∧ Dq K H v2 d2 ∧ DqAll K H xs ds ∧
  match wantV d1 d2 ds with
  | none => ∀ H' q, Chg a (varO dx p q v1 v2) H H' → H' q = some (.tup [v1, v2, .ref p]) → Q .non H'
  | some r => ∀ H' d, Same H H' → H' d = some (.xd (refFs r)) → E (.ref 53) (some d) H'
def spVStar (K : PySem.W.Frag) : Sp := fun vs H Q E => ∃ ws rest, vs = ws ++ rest ∧ ws.length = 3 ∧ rest.length ≤ sizeLine ∧ ∀ p, H p = none → spVInit K (ws ++ [.ref p]) (upd H p (.tup rest)) Q E
def spMkVar (K : PySem.W.Frag) : Sp := fun vs H Q E => ∃ (v1 v2 : V) (d1 d2 : PyData) (xs : List V) (ds : List PyData), vs = v1 :: v2 :: xs ∧ Dq K H v1 d1 ∧ smallD d1 ∧ Dq K H v2 d2 ∧ DqAll K H xs ds ∧ ds.length ≤ 1000 ∧
  match wantV d1 d2 ds with
  | none => ∀ x n b ps H', d1 = .str n → d2 = .int b → ds = ps.map PyData.int → Same H H' → PrtA cs K H' x (.var n b ps) → Q (.ref x) H'
  | some r => ∀ H' d, Same H H' → H' d = some (.xd (refFs r)) → E (.ref 53) (some d) H'
theorem mkVar {K : PySem.W.Frag} {vs : List V} {H : Hp} {Q : VK} {E : XK} (h : spMkVar K vs H Q E) : spMk 411 (spVStar K) vs H Q E := by
  obtain ⟨v1, v2, d1, d2, xs, ds, rfl, h1, hs, h2, hd, hl, q⟩ := h
  intro x dx hx hdx hne
  have sA : Same H (upd (upd H dx (.own x)) x (.ins 411 dx [])) := same_trans (same_new hdx) (same_new (by rw [upd_ne (Ne.symm hne)]; exact hx))
  refine ⟨[.ref x, v1, v2], xs, rfl, rfl, ?_, fun p hp => ?_⟩
  · rw [dqAll_len hd, sizeLine_eq]
    omega
  · have sB := same_trans sA (same_new (o := .tup xs) hp)
    have hpx : p ≠ x := fun e => by rw [e, upd_same] at hp; cases hp
    refine ⟨x, dx, p, v1, v2, d1, d2, xs, ds, rfl, at_new hp upd_same, upd_same, dq_mono sB h1, hs, dq_mono sB h2, dqAll_mono sB hd, ?_⟩
    split
    · rename_i e
      rw [e] at q
      intro H' z c hz
      obtain ⟨n, b, ps, rfl, _, rfl, rfl, _⟩ := wantV_ok e
      cases h1
      cases h2
      have ex := dqAll_ints' hd
      subst ex
      have sC : Same H H' := fun b u hb => c.ne b u (fun e2 => by rw [e2, hx] at hb; cases hb) (sB b u hb)
      exact ⟨rfl, q x n b ps H' rfl rfl rfl sC ⟨dx, p, z, c.at_, c.ne p _ hpx upd_same, hz⟩⟩
    · rename_i r e
      rw [e] at q
      exact fun H' d s hd => q H' d (same_trans sB s) hd
def spVMade (K : PySem.W.Frag) : Sp := fun vs H Q E => ∃ (v1 v2 : V) (l : Addr) (xs : List V), vs = [.ref 411, v1, v2, .ref l] ∧ (SqT K H l xs ∨ SqL K H l xs) ∧ spMkVar K (v1 :: v2 :: xs) H Q E
def spVLen (K : PySem.W.Frag) : Sp := fun vs H Q _ => ∃ (x : Addr) (n : Str) (b : Int) (ps : List Int), vs = [.ref x] ∧ PrtA cs K H x (.var n b ps) ∧ Q (.int ps.length) H

/-- why a signal of these is refused, if it is -/
def spSInit (K : PySem.W.Frag) : Sp := fun vs H Q E => ∃ (a dx : Addr) (v1 v2 : V) (d1 d2 : PyData), vs = [.ref a, v1, v2] ∧ H a = some (.ins 337 dx []) ∧ Dq K H v1 d1 ∧ smallD d1 ∧ Dq K H v2 d2 ∧
  match wantS d1 d2 with
  | none => ∀ H', Chg a (.ins 337 dx [("name", v1), ("tokens", v2)]) H H' → Q .non H'
  | some r => ∀ H' d, Same H H' → H' d = some (.xd (refFs r)) → E (.ref 53) (some d) H'
def spMkSig (K : PySem.W.Frag) : Sp := fun vs H Q E => ∃ (v1 v2 : V) (d1 d2 : PyData), vs = [v1, v2] ∧ Dq K H v1 d1 ∧ smallD d1 ∧ Dq K H v2 d2 ∧
  match wantS d1 d2 with
  | none => ∀ x n t H', d1 = .str n → d2 = .int t → Same H H' → PrtA cs K H' x (.sig n t) → Q (.ref x) H'
  | some r => ∀ H' d, Same H H' → H' d = some (.xd (refFs r)) → E (.ref 53) (some d) H'
theorem mkSig {K : PySem.W.Frag} {vs : List V} {H : Hp} {Q : VK} {E : XK} (h : spMkSig K vs H Q E) : spMkK 337 (spDfl 2 [.int 0] (spSInit K)) vs [] H Q E := by
  obtain ⟨v1, v2, d1, d2, rfl, h1, hs, h2, q⟩ := h
  intro x dx hx hdx hne
  have sA : Same H (upd (upd H dx (.own x)) x (.ins 337 dx [])) := same_trans (same_new hdx) (same_new (by rw [upd_ne (Ne.symm hne)]; exact hx))
  refine ⟨rfl, .inl ⟨rfl, x, dx, v1, v2, d1, d2, rfl, upd_same, dq_mono sA h1, hs, dq_mono sA h2, ?_⟩⟩
  split
  · rename_i e
    rw [e] at q
    intro H' c
    obtain ⟨n, t, rfl, _, rfl, _⟩ := wantS_ok e
    cases h1
    cases h2
    have sC : Same H H' := fun b u hb => c.ne b u (fun e2 => by rw [e2, hx] at hb; cases hb) (sA b u hb)
    exact ⟨rfl, q x n t H' rfl rfl sC ⟨dx, c.at_⟩⟩
  · rename_i r e
    rw [e] at q
    exact fun H' d s hd => q H' d (same_trans sA s) hd
section
variable {mg : PySem.Str → Option Value} {base : Heap} {w : World}
theorem ok_check_slots (M : Mod (hd12.heap_39 w.params) mg base) : CallG PP w (hd12.heap_39 w.params) mg base 5 (.ref 351) (pos (spSlots (hd12.heap_39 w.params))) := by
  obtain ⟨fd, F⟩ := fn_check_slots w
  refine def_pos F sc_check_slots (fun vs H Q E h => ?_) (fun _ _ _ _ _ _ us hl => match us, hl with | [_, _], _ => rfl) (fun cdv A outer s H vs Q E hr hg h => ?_)
  · obtain ⟨b, p, xs, ds, rfl, _⟩ := h; rfl
  have nd := sc_check_slots.nd
  obtain ⟨b, p, xs, ds, rfl, hp, hd, hl, q⟩ := h
  have hlx := dqAll_len hd
  refine ⟨_, (pss_cons (ps_for (passes_of rfl) rfl (pi_enumT (by rfl) (mn_enumerate M) (pa_cons (pv 1) pa_nil)) (pg_tup (by rfl) (pgs_cons (pg_name (i := 2) nd rfl (.inl rfl)) (pgs_cons (pg_name (i := 3) nd rfl (.inr rfl)) pgs_nil))) (pss_one (ps_if (PW.pt (pw_or (pt_not (pt_val (pe_cl (takes_of rfl rfl rfl rfl) (ok_is_integer M) (hr.mono (by decide)) hg rfl (mg_is_integer M) (kp_is_integer w) (pa_cons (pv 3) pa_nil)))) (pw_or (pt_cmpR op_lt (pv 3) pe_int (nomark _)) (pw_or1 (pt_cmpR op_gt (pe_op op_add (pv 3) (pv 0)) (pe_glob (v := .int 1024) rfl (mg_MEMORY M) ⟨_, rfl⟩) (nomark _)))))) (pss_one (ps_raise rfl (takes_of rfl rfl rfl rfl) (pmk_E (mke_NoPart w) (takes_of rfl rfl rfl rfl) (ok_NoPart___init__ M) (hr.mono (by decide)) hg (kp_NoPart w) rfl (mg_NoPart M) (pa_cons pe_str (pa_cons (pv 2) pa_nil)) (by decide)))) pss_nil)))
      (pss_one (ps_for (passes_of rfl) rfl (pi_enumT (by rfl) (mn_enumerate M) (pa_cons (pv 1) pa_nil)) (pg_tup (by rfl) (pgs_cons (pg_name (i := 2) nd rfl (.inl rfl)) (pgs_cons (pg_name (i := 3) nd rfl (.inr rfl)) pgs_nil))) (pss_one (ps_if (pt_val (pe_callB (cr_any rfl) (by rfl) (mn_any M) (by decide +kernel) (pa_cons (pe_lc (own := [("earlier", 4)]) (g := gName 4) (by rfl) nd (pi_tup (pe_slice sl_tup (pv 1) po_none (po_some (pv 2)))) (blkOk_by (own := [("earlier", 4)]) (N := ["size", "at", "k", "address", "earlier"]) (sc := defScope s_check_slots) (by decide +kernel)) (fun _ _ _ _ _ => (pg_name (i := 4) nd rfl (Or.inl rfl))) (fun _ _ _ _ _ => pts_nil) (fun _ _ _ _ _ => (pe_cmpR op_lt (pe_callB call_abs (by rfl) (mn_abs M) (by decide +kernel) (pa_cons (pe_op op_sub (pv 3) (pv 4)) pa_nil)) (pv 0) (nomark _)))) pa_nil))) (pss_one (ps_raise rfl (takes_of rfl rfl rfl rfl) (pmk_E (mke_NoPart w) (takes_of rfl rfl rfl rfl) (ok_NoPart___init__ M) (hr.mono (by decide)) hg (kp_NoPart w) rfl (mg_NoPart M) (pa_cons pe_str (pa_cons (pv 2) pa_nil)) (by decide)))) pss_nil))))), ?_⟩
  refine ⟨_, rfl, p, xs, rfl, SqT.of hp, ?_⟩
  refine for_it walk_enumT (fun i σ H' => (∃ o2 o3 o4, σ = [some (.int b), some (.ref p), o2, o3, o4]) ∧ Same H H' ∧ ∀ j, j < i → badAt b ds j = false) ⟨⟨_, _, _, rfl⟩, Same.rfl, fun j hj => absurd hj (Nat.not_lt_zero j)⟩ (fun i σ H' _ h => SqT.of (h.2.1 _ _ hp)) (fun i x σ H2 H3 hi h y => ?_) (fun σ H2 h => ?_)
  · obtain ⟨⟨o2, o3, o4, rfl⟩, sm, hno⟩ := h
    obtain ⟨T, k, v, rfl, hT, rfl, hk, hv⟩ := y
    cases hk
    obtain ⟨d, hdi, hdv⟩ := dqAll_get hd hv
    have hdv := dq_mono (same_trans sm (same_new (o := .tup [.int i, v]) hT)) hdv
    have eb : badAt b ds i = !within d 0 (1024 - b) := by
      unfold badAt
      rw [List.getD_eq_getElem?_getD, hdi] <;> rfl
    have fin : badAt b ds i = true → ∀ d2, upd H2 T (.tup [.int i, v]) d2 = none → E (.ref 53) (some d2) (upd (upd H2 T (.tup [.int i, v])) d2 (.xd [("place", .int i), ("reason", .str "address")])) := fun hb d2 h2 => by
      have e : slotsW b ds = some (("address" : Str), some i) := by
        unfold slotsW
        rw [firstK_some (k := 0) (i := i) (fun j hj => by rw [Nat.zero_add]; exact hno j hj) (by rw [Nat.zero_add]; exact hb) (by omega), Nat.zero_add]
      rw [e] at q
      exact q _ d2 (same_trans sm (same_trans (same_new hT) (same_new h2))) upd_same
    refine ⟨T, _, rfl, SqT.of upd_same, rfl, _, _, rfl, _, _, rfl, rfl, ?_⟩
    refine ⟨_, rfl, rfl, v, d, rfl, hdv, _, rfl, ite_b (fun e => ?_) (fun e => ?_)⟩
    · refine ifT (b := true) rfl ?_
      have e : isIntD d = false := by rw [← Bool.not_not (isIntD d), e] <;> rfl
      exact ⟨_, rfl, rfl, fin (by rw [eb, within_of e] <;> rfl)⟩
    · obtain ⟨a, rfl, rfl⟩ := dq_int hdv (by rw [← Bool.not_not (isIntD d), e] <;> rfl)
      have ew : badAt b ds i = !(decide (0 ≤ a) && decide (a ≤ 1024 - b)) := eb
      refine ⟨_, rfl, _, _, rfl, rfl, _, rfl, ite_b (fun h1 => ?_) (fun h1 => ?_)⟩
      · refine ifT (b := true) rfl ?_
        have h1 := of_decide_eq_true h1
        exact ⟨_, rfl, rfl, fin (by rw [ew, decide_eq_false (by omega), Bool.false_and] <;> rfl)⟩
      · have h1 := of_decide_eq_false h1
        refine ⟨_, rfl, _, rfl, _, _, rfl, rfl, _, _, rfl, rfl, _, rfl, ite_b (fun h2 => ?_) (fun h2 => ?_)⟩
        · have h2 := of_decide_eq_true h2
          exact ⟨_, rfl, rfl, fin (by rw [ew, decide_eq_false (p := a ≤ 1024 - b) (by omega), Bool.and_false] <;> rfl)⟩
        · have h2 := of_decide_eq_false h2
          refine ⟨⟨_, _, _, rfl⟩, same_trans sm (same_new hT), fun j hj => ?_⟩
          rcases Nat.lt_or_eq_of_le (Nat.le_of_lt_succ hj) with h | rfl
          · exact hno j h
          · rw [ew, decide_eq_true (by omega), decide_eq_true (by omega)] <;> rfl
  · obtain ⟨⟨o2, o3, o4, rfl⟩, sm, hall⟩ := h
    rw [hlx] at hall
    have hints : ∀ (j : Nat) (d : PyData), ds[j]? = some d → ∃ a : Int, d = PyData.int a := fun j d e => by
      have hj : j < ds.length := (List.getElem?_eq_some_iff.mp e).1
      have z := hall j hj
      unfold badAt at z
      rw [List.getD_eq_getElem?_getD, e] at z
      cases d <;> first | exact ⟨_, rfl⟩ | exact absurd z (by simp [within])
    have e1 : firstK (badAt b ds) 0 ds.length = none := firstK_none fun j hj => by rw [Nat.zero_add]; exact hall j hj
    refine ⟨_, rfl, p, xs, rfl, SqT.of (sm _ _ hp), ?_⟩
    refine for_it walk_enumT (fun i σ H' => (∃ o2 o3 o4, σ = [some (.int b), some (.ref p), o2, o3, o4]) ∧ Same H H' ∧ ∀ j, j < i → nearAt b ds j = false) ⟨⟨_, _, _, rfl⟩, sm, fun j hj => absurd hj (Nat.not_lt_zero j)⟩ (fun i σ H' _ h => SqT.of (h.2.1 _ _ hp)) (fun i x σ H2 H3 hi h y => ?_) (fun σ H2 h => ?_)
    · obtain ⟨⟨o2, o3, o4, rfl⟩, sm, hno⟩ := h
      obtain ⟨T, k, v, rfl, hT, rfl, hk, hv⟩ := y
      cases hk
      obtain ⟨d, hdi, hdv⟩ := dqAll_get hd hv
      obtain ⟨a, rfl⟩ := hints i d hdi
      cases hdv
      refine ⟨T, _, rfl, SqT.of upd_same, rfl, _, _, rfl, _, _, rfl, rfl, ?_⟩
      have hil : i < xs.length := by omega
      have ecut : cutV xs none (some (i : Int)) = xs.take i := by
        unfold cutV
        rw [HT.sIx_none, HT.sIx_nat, List.drop_zero, Nat.sub_zero, Nat.min_eq_left (Nat.le_of_lt hil)]
      have enr : nearAt b ds i = (((ds.take i).map fun e => near b a (intV e)).any id) := by
        unfold nearAt
        rw [List.getD_eq_getElem?_getD, hdi, List.any_map]
        rfl
      refine ⟨_, rfl, _, rfl, i, rfl, p, xs, rfl, SqT.of (by wtm_at "at"), (fun z => by have y := z.2; rw [HT.sIx_nat] at y; omega), fun p2 hp2 => ⟨p2, rfl, ⟨_, SqT.of upd_same⟩, fun D hD => ?_⟩⟩
      rw [ecut] at hD ⊢
      refine lc_it (walk_tup (xs := xs.take i)) (fun j H' => Same (upd (upd H2 T (.tup [.int i, .int a])) p2 (.tup (xs.take i))) H' ∧ H' D = some (.lst (((ds.take i).take j).map fun e => .bl (near b a (intV e))))) ⟨same_new hD, upd_same⟩ (fun j H' _ h => SqT.of (h.1 _ _ upd_same)) (fun j v H4 H5 hj h y => ?_) (fun H' h => ?_)
      · obtain ⟨sd, eD⟩ := h
        obtain ⟨rfl, hvj⟩ := y
        have hji : j < i := by rw [List.length_take] at hj; omega
        rw [List.getElem?_take_of_lt hji] at hvj
        obtain ⟨d2, hdj, hdv2⟩ := dqAll_get hd hvj
        obtain ⟨a2, rfl⟩ := hints j d2 hdj
        cases hdv2
        refine ⟨rfl, ?_⟩
        wtm_at "rd"
        refine ⟨_, rfl, _, _, rfl, rfl, _, rfl, _, rfl, _, _, rfl, rfl, _, eD, ?_, ?_, ?_⟩
        · rw [List.length_map, List.length_take, List.length_take]
          exact Nat.lt_of_le_of_lt (Nat.le_trans (Nat.min_le_right _ _) (Nat.le_trans (Nat.min_le_right _ _) hl)) (by decide)
        · exact fun c u h => by rw [upd_ne (ne_of_none h hD)]; exact sd _ _ h
        · rw [upd_same]
          dsimp only
          rw [near_eq, List.take_add_one, List.getElem?_take_of_lt hji, hdj, List.map_append]
          rfl
      · obtain ⟨sd, eD⟩ := h
        rw [List.length_take, Nat.min_eq_left (Nat.le_of_lt hil), List.take_take, Nat.min_self] at eD
        refine ⟨D, (ds.take i).map fun e => near b a (intV e), rfl, ?_, ?_⟩
        · rw [List.map_map]
          exact SqL.of eD
        · rw [← enr]
          have s2 : Same H H' := same_trans sm (same_trans (same_new hT) (same_trans (same_new hp2) sd))
          refine ⟨_, rfl, ite_b (fun e => ?_) (fun e => ?_)⟩
          · refine ⟨_, rfl, rfl, fun d2 hd2 => ?_⟩
            have e3 : slotsW b ds = some (("bytes" : Str), some i) := by
              unfold slotsW
              rw [e1, firstK_some (k := 0) (i := i) (fun j hj => by rw [Nat.zero_add]; exact hno j hj) (by rw [Nat.zero_add]; exact e) (by omega), Nat.zero_add]
            rw [e3] at q
            exact q _ d2 (same_trans s2 (same_new hd2)) upd_same
          · refine ⟨⟨_, _, _, rfl⟩, s2, fun j hj => ?_⟩
            rcases Nat.lt_or_eq_of_le (Nat.le_of_lt_succ hj) with h | rfl
            · exact hno j h
            · exact e
    · obtain ⟨⟨o2, o3, o4, rfl⟩, sm, hno⟩ := h
      rw [hlx] at hno
      have e2 : firstK (nearAt b ds) 0 ds.length = none := firstK_none fun j hj => by rw [Nat.zero_add]; exact hno j hj
      have e : slotsW b ds = none := by unfold slotsW; rw [e1, e2]
      rw [e] at q
      exact q H2 sm
theorem ok_Variable___init__ (M : Mod (hd12.heap_39 w.params) mg base) : CallG PP w (hd12.heap_39 w.params) mg base 8 (.ref 365) (pos fun vs H Q E => ∃ ws rest, vs = ws ++ rest ∧ ws.length = 3 ∧ rest.length ≤ sizeLine ∧ ∀ p, H p = none → spVInit (hd12.heap_39 w.params) (ws ++ [.ref p]) (upd H p (.tup rest)) Q E) := by
  obtain ⟨fd, F⟩ := fn_Variable___init__ w
  refine def_star (ps := ["self", "name", "size"]) (pv := "at") F sc_Variable___init__ (fun _ _ _ _ _ _ => bind_star3 (B := fun l => bindArgs _ ⟨l, []⟩) (fun _ _ _ => rfl) (fun _ _ _ _ _ => rfl)) (fun cdv A outer s H vs Q E hr hg h => ?_)
  have nd := sc_Variable___init__.nd
  obtain ⟨a, dx, p, v1, v2, d1, d2, xs, ds, rfl, ha, hp, h1, hs, h2, hd, q⟩ := h
  have hlx := dqAll_len hd
  refine ⟨_, (pss_cons (ps_if (pt_not (pt_val (pe_cl (takes_of rfl rfl rfl rfl) (ok_is_name M) (hr.mono (by decide)) hg rfl (mg_is_name M) (kp_is_name w) (pa_cons (pv 1) pa_nil)))) (pss_one (ps_raise rfl (takes_of rfl rfl rfl rfl) (pmk_E (mke_NoPart w) (takes_of rfl rfl rfl rfl) (ok_NoPart___init__ M) (hr.mono (by decide)) hg (kp_NoPart w) rfl (mg_NoPart M) (pa_cons pe_str (pa_cons pe_non pa_nil)) (by decide)))) pss_nil)
      (pss_cons (ps_if (pt_not (pt_val (pe_cl (takes_of rfl rfl rfl rfl) (ok_is_within M) (hr.mono (by decide)) hg rfl (mg_is_within M) (kp_is_within w) (pa_cons (pv 2) (pa_cons pe_int (pa_cons (pe_glob (v := .int 8) rfl (mg_MOST_BYTES M) ⟨_, rfl⟩) pa_nil)))))) (pss_one (ps_raise rfl (takes_of rfl rfl rfl rfl) (pmk_E (mke_NoPart w) (takes_of rfl rfl rfl rfl) (ok_NoPart___init__ M) (hr.mono (by decide)) hg (kp_NoPart w) rfl (mg_NoPart M) (pa_cons pe_str (pa_cons pe_non pa_nil)) (by decide)))) pss_nil)
      (pss_cons (ps_if (pt_not (pt_chain op_le op_le pe_int (pe_callB call_len_seq (by rfl) (mn_len M) (by decide +kernel) (pa_cons (pv 3) pa_nil)) (pe_glob (v := .int 4) rfl (mg_MOST_SLOTS M) ⟨_, rfl⟩))) (pss_one (ps_raise rfl (takes_of rfl rfl rfl rfl) (pmk_E (mke_NoPart w) (takes_of rfl rfl rfl rfl) (ok_NoPart___init__ M) (hr.mono (by decide)) hg (kp_NoPart w) rfl (mg_NoPart M) (pa_cons pe_str (pa_cons pe_non pa_nil)) (by decide)))) pss_nil)
      (pss_cons (ps_expr (pe_cl (takes_of rfl rfl rfl rfl) (ok_check_slots M) (hr.mono (by decide)) hg rfl (mg_check_slots M) (kp_check_slots w) (pa_cons (pv 2) (pa_cons (pv 3) pa_nil))))
      (pss_cons (ps_fld (pv 0) (pv 1) rfl)
      (pss_cons (ps_fld (pv 0) (pv 2) rfl)
      (pss_cons (ps_fld (pv 0) (pv 3) rfl)
      (pss_one (ps_fld (pv 0) (pe_tup (pa_cons (pv 1) (pa_cons (pv 2) (pa_cons (pv 3) pa_nil)))) rfl))))))))), ?_⟩
  refine ⟨_, rfl, rfl, v1, d1, rfl, h1, hs, fun H1 s1 => ⟨_, rfl, ite_b (fun e1 => ?_) (fun e1 => ?_)⟩⟩
  · have e1 : nameD d1 = false := by rw [← Bool.not_not (nameD d1), e1] <;> rfl
    refine ⟨rfl, fun d hd => ?_⟩
    have e : wantV d1 d2 ds = some (("name" : Str), none) := by unfold wantV; rw [if_pos e1]
    rw [e] at q
    exact q _ d (same_trans s1 (same_new hd)) upd_same
  have e1 : nameD d1 = true := by rw [← Bool.not_not (nameD d1), e1] <;> rfl
  refine ⟨_, rfl, rfl, v2, d2, 1, 8, rfl, dq_mono s1 h2, _, rfl, ite_b (fun e2 => ?_) (fun e2 => ?_)⟩
  · have e2 : within d2 1 8 = false := by rw [← Bool.not_not (within d2 1 8), e2] <;> rfl
    refine ⟨rfl, fun d hd => ?_⟩
    have e : wantV d1 d2 ds = some (("size" : Str), none) := by unfold wantV; rw [if_neg (by rw [e1]; exact Bool.noConfusion), if_pos e2]
    rw [e] at q
    exact q _ d (same_trans s1 (same_new hd)) upd_same
  have e2 : within d2 1 8 = true := by rw [← Bool.not_not (within d2 1 8), e2] <;> rfl
  have hp1 := s1 _ _ hp
  have enone : wantV d1 d2 ds = if ¬ (1 ≤ ds.length ∧ ds.length ≤ 4) then some (("slots" : Str), none) else slotsW (intV d2) ds := by
    unfold wantV
    rw [if_neg (by rw [e1]; exact Bool.noConfusion), if_neg (by rw [e2]; exact Bool.noConfusion)]
  have hint : isIntD d2 = true := by
    cases d2 <;> first | rfl | exact absurd e2 (by simp [within])
  obtain ⟨b, rfl, rfl⟩ := dq_int h2 hint
  have fin : ¬ (1 ≤ ds.length ∧ ds.length ≤ 4) → ∀ d, H1 d = none → E (.ref 53) (some d) (upd H1 d (.xd [("place", .non), ("reason", .str "slots")])) := fun hn d hd => by
    rw [enone, if_pos hn] at q
    exact q _ d (same_trans s1 (same_new hd)) upd_same
  refine ⟨_, rfl, p, xs, rfl, .inr (SqT.of hp1), _, _, rfl, rfl, _, rfl, ite_b (fun h3 => ?_) (fun h3 => ?_)⟩
  · have h3 := of_decide_eq_true h3
    refine ⟨_, _, rfl, rfl, _, rfl, ite_b (fun h4 => ?_) (fun h4 => ?_)⟩
    · exact ⟨rfl, fin (by have h4 : decide ((xs.length : Int) ≤ 4) = false := by rw [← Bool.not_not (decide ((xs.length : Int) ≤ 4)), h4] <;> rfl
                          have h4 := of_decide_eq_false h4
                          omega)⟩
    have h4 : decide ((xs.length : Int) ≤ 4) = true := by rw [← Bool.not_not (decide ((xs.length : Int) ≤ 4)), h4] <;> rfl
    have h4 := of_decide_eq_true h4
    rw [enone, if_neg (by omega)] at q
    refine ⟨_, rfl, _, rfl, rfl, b, p, xs, ds, rfl, hp1, dqAll_mono s1 hd, by omega, ?_⟩
    unfold okOr
    split
    · rename_i e
      rw [show slotsW (intV (.int b)) ds = none from e] at q
      intro H2 s2
      have sm := same_trans s1 s2
      refine ⟨_, rfl, _, rfl, a, 411, dx, _, rfl, by wtm_at "at", cls_Variable w, na_Variable_name w, Nat.le_of_ble_eq_true rfl, ?_⟩
      refine ⟨_, rfl, _, rfl, a, 411, dx, _, rfl, upd_same, cls_Variable w, na_Variable_size w, Nat.le_of_ble_eq_true rfl, ?_⟩
      refine ⟨_, rfl, _, rfl, a, 411, dx, _, rfl, upd_same, cls_Variable w, na_Variable_at w, Nat.le_of_ble_eq_true rfl, ?_⟩
      refine ⟨_, rfl, _, rfl, _, rfl, Nat.le_of_ble_eq_true rfl, fun z hz => ?_⟩
      refine ⟨_, rfl, a, 411, dx, _, rfl, at_new hz upd_same, cls_Variable w, na_Variable_shape w, Nat.le_of_ble_eq_true rfl, ?_⟩
      exact q _ z (Chg.same sm ((((Chg.upd.trans Chg.upd).trans Chg.upd).then (same_new hz)).trans Chg.upd)) ((upd_ne (fun e => by rw [e, upd_same] at hz; cases hz)).trans upd_same)
    · rename_i r e
      rw [show slotsW (intV (.int b)) ds = some r from e] at q
      exact fun H' d s hd => q H' d (same_trans s1 s) hd
  · have h3 := of_decide_eq_false h3
    refine ⟨_, rfl, ifT (b := true) rfl ⟨rfl, fin (by omega)⟩⟩
theorem ok_Variable_made (M : Mod (hd12.heap_39 w.params) mg base) : CallG PP w (hd12.heap_39 w.params) mg base 10 (.ref 372) (pos (spVMade (hd12.heap_39 w.params))) := by
  obtain ⟨fd, F⟩ := fn_Variable_made w
  refine def_pos F sc_Variable_made (fun vs H Q E h => ?_) (fun _ _ _ _ _ _ us hl => match us, hl with | [_, _, _, _], _ => rfl) (fun cdv A outer s H vs Q E hr hg h => ?_)
  · obtain ⟨v1, v2, l, xs, rfl, _⟩ := h; rfl
  have nd := sc_Variable_made.nd
  obtain ⟨v1, v2, l, xs, rfl, hx, q⟩ := h
  refine ⟨_, (pss_one (ps_ret (pe_mkLS (takes_of rfl rfl rfl rfl) (i := 0) (dom := fun C => C = 411) (fun C h => by subst h; exact mk_Variable w) (ok_Variable___init__ M) (hr.mono (by decide)) hg rfl (.inl rfl) (pa_cons (pv 1) (pa_cons (pv 2) (pa_star (pv 3) pa_nil)))))), ?_⟩
  refine ⟨411, rfl, rfl, _, rfl, _, rfl, _, rfl, l, xs, rfl, hx, ?_⟩
  show spMk 411 (spVStar (hd12.heap_39 w.params)) (v1 :: v2 :: (xs ++ [])) H Q E
  rw [List.append_nil]
  exact mkVar q
theorem ok_Variable___len__ (M : Mod (hd12.heap_39 w.params) mg base) : CallG PP w (hd12.heap_39 w.params) mg base 2 (.ref 382) (pos (spVLen (hd12.heap_39 w.params))) := by
  obtain ⟨fd, F⟩ := fn_Variable___len__ w
  refine def_pos F sc_Variable___len__ (fun vs H Q E h => ?_) (fun _ _ _ _ _ _ us hl => match us, hl with | [_], _ => rfl) (fun cdv A outer s H vs Q E hr hg h => ?_)
  · obtain ⟨x, n, b, ps, rfl, _⟩ := h; rfl
  have nd := sc_Variable___len__.nd
  obtain ⟨x, n, b, ps, rfl, ⟨dx, pa, q, hx, hpa, hq⟩, h⟩ := h
  refine ⟨_, (pss_one (ps_ret (pe_callB call_len_seq (by rfl) (mn_len M) (by decide +kernel) (pa_cons (pe_fld (pv 0) rfl) pa_nil)))), ?_⟩
  refine ⟨_, rfl, x, 411, dx, _, _, rfl, hx, cls_Variable w, na_Variable_at w, rfl, ?_⟩
  refine ⟨pa, _, rfl, .inr (SqT.of hpa), ?_⟩
  rw [List.length_map]
  exact h
theorem ok_Signal___init__ (M : Mod (hd12.heap_39 w.params) mg base) : CallG PP w (hd12.heap_39 w.params) mg base 8 (.ref 327) (spDfl 2 [.int 0] (spSInit (hd12.heap_39 w.params))) := by
  obtain ⟨fd, F⟩ := fnd_Signal___init__ w
  refine def_dfl F sc_Signal___init__ (by simp) rfl (fun _ _ _ _ _ _ _ us its h1 h2 => ?_) (fun _ _ _ _ _ _ _ us its h1 h2 => ?_) (fun cdv A outer s H vs Q E hr hg h => ?_)
  · match us, its, h1, h2 with
    | [_, _, _], [_], _, _ => exact ⟨_, rfl, rfl⟩
  · match us, its, h1, h2 with
    | [_, _], [_], _, _ => exact ⟨_, rfl, rfl⟩
  have nd := sc_Signal___init__.nd
  obtain ⟨a, dx, v1, v2, d1, d2, rfl, ha, h1, hs, h2, q⟩ := h
  refine ⟨_, (pss_cons (ps_if (pt_not (pt_val (pe_cl (takes_of rfl rfl rfl rfl) (ok_is_name M) (hr.mono (by decide)) hg rfl (mg_is_name M) (kp_is_name w) (pa_cons (pv 1) pa_nil)))) (pss_one (ps_raise rfl (takes_of rfl rfl rfl rfl) (pmk_E (mke_NoPart w) (takes_of rfl rfl rfl rfl) (ok_NoPart___init__ M) (hr.mono (by decide)) hg (kp_NoPart w) rfl (mg_NoPart M) (pa_cons pe_str (pa_cons pe_non pa_nil)) (by decide)))) pss_nil)
      (pss_cons (ps_if (pt_not (pt_val (pe_cl (takes_of rfl rfl rfl rfl) (ok_is_within M) (hr.mono (by decide)) hg rfl (mg_is_within M) (kp_is_within w) (pa_cons (pv 2) (pa_cons pe_int (pa_cons (pe_glob (v := .int 3) rfl (mg_MOST_TOKENS M) ⟨_, rfl⟩) pa_nil)))))) (pss_one (ps_raise rfl (takes_of rfl rfl rfl rfl) (pmk_E (mke_NoPart w) (takes_of rfl rfl rfl rfl) (ok_NoPart___init__ M) (hr.mono (by decide)) hg (kp_NoPart w) rfl (mg_NoPart M) (pa_cons pe_str (pa_cons pe_non pa_nil)) (by decide)))) pss_nil)
      (pss_cons (ps_fld (pv 0) (pv 1) rfl)
      (pss_one (ps_fld (pv 0) (pv 2) rfl))))), ?_⟩
  refine ⟨_, rfl, rfl, v1, d1, rfl, h1, hs, fun H1 s1 => ⟨_, rfl, ite_b (fun e1 => ?_) (fun e1 => ?_)⟩⟩
  · have e1 : nameD d1 = false := by rw [← Bool.not_not (nameD d1), e1] <;> rfl
    refine ⟨rfl, fun d hd => ?_⟩
    have e : wantS d1 d2 = some (("name" : Str), none) := by unfold wantS; rw [if_pos e1]
    rw [e] at q
    exact q _ d (same_trans s1 (same_new hd)) upd_same
  have e1 : nameD d1 = true := by rw [← Bool.not_not (nameD d1), e1] <;> rfl
  refine ⟨_, rfl, rfl, v2, d2, 0, 3, rfl, dq_mono s1 h2, _, rfl, ite_b (fun e2 => ?_) (fun e2 => ?_)⟩
  · have e2 : within d2 0 3 = false := by rw [← Bool.not_not (within d2 0 3), e2] <;> rfl
    refine ⟨rfl, fun d hd => ?_⟩
    have e : wantS d1 d2 = some (("tokens" : Str), none) := by unfold wantS; rw [if_neg (by rw [e1]; exact Bool.noConfusion), if_pos e2]
    rw [e] at q
    exact q _ d (same_trans s1 (same_new hd)) upd_same
  have e2 : within d2 0 3 = true := by rw [← Bool.not_not (within d2 0 3), e2] <;> rfl
  have e : wantS d1 d2 = none := by unfold wantS; rw [if_neg (by rw [e1]; exact Bool.noConfusion), if_neg (by rw [e2]; exact Bool.noConfusion)]
  rw [e] at q
  refine ⟨_, rfl, _, rfl, a, 337, dx, _, rfl, s1 _ _ ha, cls_Signal w, na_Signal_name w, Nat.le_of_ble_eq_true rfl, ?_⟩
  refine ⟨_, rfl, _, rfl, a, 337, dx, _, rfl, upd_same, cls_Signal w, na_Signal_tokens w, Nat.le_of_ble_eq_true rfl, ?_⟩
  exact q _ (Chg.same s1 (Chg.upd.trans Chg.upd))
end
end M12

namespace M12
open PySem PySem.Spec PyProof.Rows L2 StX Uk
local macro_rules | `(tactic| wtm_at "cls") => `(tactic| first | exact cls_Agent _ | exact cls_Signal _ | exact cls_Variable _ | exact cls_Net _)
local macro_rules | `(tactic| wtm_at "na") => `(tactic| first | exact na_Agent_name _ | exact na_Agent_steps _ | exact na_Agent_shape _ | exact na_Signal_name _ | exact na_Signal_tokens _ | exact na_Variable_name _ | exact na_Variable_size _ | exact na_Variable_at _ | exact na_Variable_shape _ | exact na_Net_line _ | exact na_Net_ring _ | exact na_Net_variables _ | exact na_Net_signals _ | exact na_Net_agents _ | exact na_Net_shape _ | exact na_Net_by_name _ | exact na_Net_bytes_at _ | exact na_Net_lines_at _)

def clsP : Prt → Addr
  | .var _ _ _ => 411
  | .sig _ _ => 337
  | .ag k _ _ => clsN k
def clsT (k : Nat) : Addr := if k = 0 then 232 else if k = 1 then 337 else 411

theorem prt_ty {w : World} {H : Hp} {x : Addr} : ∀ {p : Prt}, PrtA cs (hd12.heap_39 w.params) H x p → TyX (hd12.heap_39 w.params) H (.ref x) (.ref (clsP p))
  | .var _ _ _, ⟨dx, pa, q, h, _⟩ => (tyc_Variable w).ty h
  | .sig _ _, ⟨dx, h⟩ => (tyc_Signal w).ty h
  | .ag k _ _, ⟨dx, pa, q, vs, h, _, _, _, hk⟩ => by
    rcases lt3 hk with rfl | rfl | rfl
    · exact (tyc_Agent w).ty h
    · exact (tyc_Through w).ty h
    · exact (tyc_Back w).ty h
theorem prt_kt {w : World} {H : Hp} {x : Addr} (k : Nat) (hk : k < 3) : ∀ {p : Prt}, PrtA cs (hd12.heap_39 w.params) H x p → PySem.W.kitOne (hd12.heap_39 w.params) (.ref (clsP p)) (.ref (clsT k)) = some (p.cl == k)
  | .var _ _ _, _ => by
    rcases lt3 hk with rfl | rfl | rfl
    · exact kt_Variable_Agent w
    · exact kt_Variable_Signal w
    · exact kt_Variable_Variable w
  | .sig _ _, _ => by
    rcases lt3 hk with rfl | rfl | rfl
    · exact kt_Signal_Agent w
    · exact kt_Signal_Signal w
    · exact kt_Signal_Variable w
  | .ag i _ _, ⟨_, _, _, _, _, _, _, _, hi⟩ => by
    rcases lt3 hi with rfl | rfl | rfl <;> rcases lt3 hk with rfl | rfl | rfl
    · exact kt_Agent_Agent w
    · exact kt_Agent_Signal w
    · exact kt_Agent_Variable w
    · exact kt_Through_Agent w
    · exact kt_Through_Signal w
    · exact kt_Through_Variable w
    · exact kt_Back_Agent w
    · exact kt_Back_Signal w
    · exact kt_Back_Variable w
theorem prt_kta {w : World} {H : Hp} {x : Addr} : ∀ {p : Prt}, PrtA cs (hd12.heap_39 w.params) H x p → PySem.W.kitAny (hd12.heap_39 w.params) (.ref (clsP p)) [.ref 232, .ref 337, .ref 411] = some true
  | .var _ _ _, _ => by show PySem.W.kitAny (hd12.heap_39 w.params) (.ref 411) _ = _; kernel_rfl
  | .sig _ _, _ => by show PySem.W.kitAny (hd12.heap_39 w.params) (.ref 337) _ = _; kernel_rfl
  | .ag i _ _, ⟨_, _, _, _, _, _, _, _, hi⟩ => by
    rcases lt3 hi with rfl | rfl | rfl
    · show PySem.W.kitAny (hd12.heap_39 w.params) (.ref 232) _ = _; kernel_rfl
    · show PySem.W.kitAny (hd12.heap_39 w.params) (.ref 272) _ = _; kernel_rfl
    · show PySem.W.kitAny (hd12.heap_39 w.params) (.ref 310) _ = _; kernel_rfl
theorem dat_kta (w : World) (d : PyData) : PySem.W.kitAny (hd12.heap_39 w.params) (.type (tyD d)) [.ref 232, .ref 337, .ref 411] = some false := by
  have h : (tyNames.all fun t => decide (PySem.W.kitAny (hd12.heap_39 w.params) (.type t) [.ref 232, .ref 337, .ref 411] = some false)) = true := by kernel_rfl
  have m : tyD d ∈ tyNames := by cases d <;> simp [tyD, tyNames]
  exact of_decide_eq_true (List.all_eq_true.mp h _ m)
/-- a part's name is to be read -/
theorem prt_name {w : World} {H : Hp} {x : Addr} : ∀ {p : Prt}, PrtA cs (hd12.heap_39 w.params) H x p → ∃ C dx fs, H x = some (.ins C dx fs) ∧ Cls (hd12.heap_39 w.params) C ∧ NoAttr (hd12.heap_39 w.params) C "name" ∧ fs.lookup ("name" : Str) = some (V.str p.n)
  | .var _ _ _, ⟨dx, pa, q, h, _⟩ => ⟨_, dx, _, h, cls_Variable w, na_Variable_name w, rfl⟩
  | .sig _ _, ⟨dx, h⟩ => ⟨_, dx, _, h, cls_Signal w, na_Signal_name w, rfl⟩
  | .ag k _ _, ⟨dx, pa, q, vs, h, _, _, _, hk⟩ => by
    rcases lt3 hk with rfl | rfl | rfl
    · exact ⟨_, dx, _, h, cls_Agent w, na_Agent_name w, rfl⟩
    · exact ⟨_, dx, _, h, cls_Through w, na_Through_name w, rfl⟩
    · exact ⟨_, dx, _, h, cls_Back w, na_Back_name w, rfl⟩
def kwd (k : Nat) : Str := if k = 0 then "agent" else if k = 1 then "signal" else "variable"
def spOf (K : PySem.W.Frag) : Sp := fun vs H Q _ => ∃ (k p : Nat) (xs : List Addr) (ps : List Prt), vs = [.ref p, .str (kwd k)] ∧ k < 3 ∧ SqT K H p (xs.map V.ref) ∧ PrtsA cs K H xs ps ∧ xs.length ≤ 1000 ∧ ∀ t H', Same H H' → H' t = some (.tup ((ofA k xs ps).map V.ref)) → Q (.ref t) H'
def spMany (K : PySem.W.Frag) : Sp := fun vs H Q _ => ∃ (p : Addr) (xs : List Addr) (ps : List Prt), vs = [.ref p] ∧ SqT K H p (xs.map V.ref) ∧ PrtsA cs K H xs ps ∧ xs.length ≤ 1000 ∧ ∀ H', Same H H' → Q (.bl (tooMany ps)) H'
def spCkP (K : PySem.W.Frag) : Sp := fun vs H Q E => ∃ (p : Addr) (xs : List V) (as : List NArg), vs = [.ref p] ∧ SqT K H p xs ∧ ArgsV cs K H xs as ∧ xs.length ≤ 1000 ∧ okOrN 74 (ckA as) H (fun H' => Q .non H') E
section
variable {mg : PySem.Str → Option Value} {base : Heap} {w : World}
theorem ok_of_class (M : Mod (hd12.heap_39 w.params) mg base) : CallG PP w (hd12.heap_39 w.params) mg base 1 (.ref 420) (pos (spOf (hd12.heap_39 w.params))) := by
  obtain ⟨fd, F⟩ := fn_of_class w
  refine def_pos F sc_of_class (fun vs H Q E h => ?_) (fun _ _ _ _ _ _ us hl => match us, hl with | [_, _], _ => rfl) (fun cdv A outer s H vs Q E hr hg h => ?_)
  · obtain ⟨k, p, xs, ps, rfl, _⟩ := h; rfl
  have nd := sc_of_class.nd
  obtain ⟨k, p, xs, ps, rfl, hk, hp, hps, hl, q⟩ := h
  refine ⟨_, (pss_cons (ps_if (pt_cmpR op_eq (pv 1) pe_str (nomark _)) (pss_one (ps_ret (pe_callTy call_tuple_of (by rfl) (mn_tuple M) (by decide +kernel) (pa_cons (pe_lc (own := [("part", 2)]) (g := gName 2) (by rfl) nd (pi_tup (pv 0)) (blkOk_by (own := [("part", 2)]) (N := ["parts", "kind", "part"]) (sc := defScope s_of_class) (by decide +kernel)) (fun _ _ _ _ _ => (pg_name (i := 2) nd rfl (Or.inl rfl))) (fun _ _ _ _ _ => pts_one (pt_val (pe_callB (xcall_isi (hd12.heap_39 w.params)) (by rfl) (mn_isinstance M) (by decide +kernel) (pa_cons (pv 2) (pa_cons (pe_glob (v := .ref 232) rfl (mg_Agent M) rfl) pa_nil))))) (fun _ _ _ _ _ => (pv 2))) pa_nil)))) pss_nil)
      (pss_cons (ps_if (pt_cmpR op_eq (pv 1) pe_str (nomark _)) (pss_one (ps_ret (pe_callTy call_tuple_of (by rfl) (mn_tuple M) (by decide +kernel) (pa_cons (pe_lc (own := [("part", 2)]) (g := gName 2) (by rfl) nd (pi_tup (pv 0)) (blkOk_by (own := [("part", 2)]) (N := ["parts", "kind", "part"]) (sc := defScope s_of_class) (by decide +kernel)) (fun _ _ _ _ _ => (pg_name (i := 2) nd rfl (Or.inl rfl))) (fun _ _ _ _ _ => pts_one (pt_val (pe_callB (xcall_isi (hd12.heap_39 w.params)) (by rfl) (mn_isinstance M) (by decide +kernel) (pa_cons (pv 2) (pa_cons (pe_glob (v := .ref 337) rfl (mg_Signal M) rfl) pa_nil))))) (fun _ _ _ _ _ => (pv 2))) pa_nil)))) pss_nil)
      (pss_one (ps_ret (pe_callTy call_tuple_of (by rfl) (mn_tuple M) (by decide +kernel) (pa_cons (pe_lc (own := [("part", 2)]) (g := gName 2) (by rfl) nd (pi_tup (pv 0)) (blkOk_by (own := [("part", 2)]) (N := ["parts", "kind", "part"]) (sc := defScope s_of_class) (by decide +kernel)) (fun _ _ _ _ _ => (pg_name (i := 2) nd rfl (Or.inl rfl))) (fun _ _ _ _ _ => pts_one (pt_val (pe_callB (xcall_isi (hd12.heap_39 w.params)) (by rfl) (mn_isinstance M) (by decide +kernel) (pa_cons (pv 2) (pa_cons (pe_glob (v := .ref 411) rfl (mg_Variable M) rfl) pa_nil))))) (fun _ _ _ _ _ => (pv 2))) pa_nil)))))), ?_⟩
  rcases lt3 hk with rfl | rfl | rfl
  · refine ⟨_, rfl, rfl, _, rfl, ifT rfl ?_⟩
    refine ⟨_, rfl, p, rfl, ⟨_, hp⟩, fun D hD => ?_⟩
    refine lc_it (walk_tup (xs := xs.map V.ref)) (fun j H' => Same H H' ∧ H' D = some (.lst ((ofA 0 (xs.take j) (ps.take j)).map V.ref))) ⟨same_new hD, upd_same⟩ (fun j H' _ h => st_mono h.1 hp) (fun j v H4 H5 hj h y => ?_) (fun H' h => ?_)
    · obtain ⟨sd, eD⟩ := h
      obtain ⟨rfl, hv⟩ := y
      rw [List.length_map] at hj
      obtain ⟨x, hx, rfl⟩ := map_ref_get hv
      obtain ⟨r, hr2, hA⟩ := prtsA_get hps hx
      have hA := prtA_mono sd hA
      have e := ofA_succ (k := 0) hx hr2
      refine ⟨rfl, ?_⟩
      refine ⟨_, rfl, _, _, _, _, _, rfl, .own _, prt_ty hA, prt_kt 0 (by decide) hA, _, rfl, ite_b (fun h1 => ?_) (fun h1 => ?_)⟩
      · refine ⟨_, rfl, _, eD, ?_, same_upd sd hD, ?_⟩
        · rw [List.length_map]
          exact small (Nat.le_trans ofA_le (Nat.le_trans (List.length_take_le ..) (by omega)))
        · rw [upd_same, e, if_pos h1, List.map_append] <;> rfl
      · exact ⟨sd, by rw [e, if_neg (by rw [h1]; exact Bool.noConfusion), List.append_nil]; exact eD⟩
    · obtain ⟨sd, eD⟩ := h
      rw [List.length_map, take_all (Nat.le_refl _), take_all (Nat.le_of_eq (prtsA_len hps).symm)] at eD
      exact ⟨D, _, rfl, .inl ⟨SqL.of eD, fun l hl => q l _ (same_trans sd (same_new hl)) upd_same⟩⟩
  · refine ⟨_, rfl, rfl, _, rfl, ifF rfl ?_⟩
    refine ⟨_, rfl, rfl, _, rfl, ifT rfl ?_⟩
    refine ⟨_, rfl, p, rfl, ⟨_, hp⟩, fun D hD => ?_⟩
    refine lc_it (walk_tup (xs := xs.map V.ref)) (fun j H' => Same H H' ∧ H' D = some (.lst ((ofA 1 (xs.take j) (ps.take j)).map V.ref))) ⟨same_new hD, upd_same⟩ (fun j H' _ h => st_mono h.1 hp) (fun j v H4 H5 hj h y => ?_) (fun H' h => ?_)
    · obtain ⟨sd, eD⟩ := h
      obtain ⟨rfl, hv⟩ := y
      rw [List.length_map] at hj
      obtain ⟨x, hx, rfl⟩ := map_ref_get hv
      obtain ⟨r, hr2, hA⟩ := prtsA_get hps hx
      have hA := prtA_mono sd hA
      have e := ofA_succ (k := 1) hx hr2
      refine ⟨rfl, ?_⟩
      refine ⟨_, rfl, _, _, _, _, _, rfl, .own _, prt_ty hA, prt_kt 1 (by decide) hA, _, rfl, ite_b (fun h1 => ?_) (fun h1 => ?_)⟩
      · refine ⟨_, rfl, _, eD, ?_, same_upd sd hD, ?_⟩
        · rw [List.length_map]
          exact small (Nat.le_trans ofA_le (Nat.le_trans (List.length_take_le ..) (by omega)))
        · rw [upd_same, e, if_pos h1, List.map_append] <;> rfl
      · exact ⟨sd, by rw [e, if_neg (by rw [h1]; exact Bool.noConfusion), List.append_nil]; exact eD⟩
    · obtain ⟨sd, eD⟩ := h
      rw [List.length_map, take_all (Nat.le_refl _), take_all (Nat.le_of_eq (prtsA_len hps).symm)] at eD
      exact ⟨D, _, rfl, .inl ⟨SqL.of eD, fun l hl => q l _ (same_trans sd (same_new hl)) upd_same⟩⟩
  · refine ⟨_, rfl, rfl, _, rfl, ifF rfl ?_⟩
    refine ⟨_, rfl, rfl, _, rfl, ifF rfl ?_⟩
    refine ⟨_, rfl, p, rfl, ⟨_, hp⟩, fun D hD => ?_⟩
    refine lc_it (walk_tup (xs := xs.map V.ref)) (fun j H' => Same H H' ∧ H' D = some (.lst ((ofA 2 (xs.take j) (ps.take j)).map V.ref))) ⟨same_new hD, upd_same⟩ (fun j H' _ h => st_mono h.1 hp) (fun j v H4 H5 hj h y => ?_) (fun H' h => ?_)
    · obtain ⟨sd, eD⟩ := h
      obtain ⟨rfl, hv⟩ := y
      rw [List.length_map] at hj
      obtain ⟨x, hx, rfl⟩ := map_ref_get hv
      obtain ⟨r, hr2, hA⟩ := prtsA_get hps hx
      have hA := prtA_mono sd hA
      have e := ofA_succ (k := 2) hx hr2
      refine ⟨rfl, ?_⟩
      refine ⟨_, rfl, _, _, _, _, _, rfl, .own _, prt_ty hA, prt_kt 2 (by decide) hA, _, rfl, ite_b (fun h1 => ?_) (fun h1 => ?_)⟩
      · refine ⟨_, rfl, _, eD, ?_, same_upd sd hD, ?_⟩
        · rw [List.length_map]
          exact small (Nat.le_trans ofA_le (Nat.le_trans (List.length_take_le ..) (by omega)))
        · rw [upd_same, e, if_pos h1, List.map_append] <;> rfl
      · exact ⟨sd, by rw [e, if_neg (by rw [h1]; exact Bool.noConfusion), List.append_nil]; exact eD⟩
    · obtain ⟨sd, eD⟩ := h
      rw [List.length_map, take_all (Nat.le_refl _), take_all (Nat.le_of_eq (prtsA_len hps).symm)] at eD
      exact ⟨D, _, rfl, .inl ⟨SqL.of eD, fun l hl => q l _ (same_trans sd (same_new hl)) upd_same⟩⟩
theorem ok_is_too_many (M : Mod (hd12.heap_39 w.params) mg base) : CallG PP w (hd12.heap_39 w.params) mg base 2 (.ref 427) (pos (spMany (hd12.heap_39 w.params))) := by
  obtain ⟨fd, F⟩ := fn_is_too_many w
  refine def_pos F sc_is_too_many (fun vs H Q E h => ?_) (fun _ _ _ _ _ _ us hl => match us, hl with | [_], _ => rfl) (fun cdv A outer s H vs Q E hr hg h => ?_)
  · obtain ⟨p, xs, ps, rfl, _⟩ := h; rfl
  have nd := sc_is_too_many.nd
  obtain ⟨p, xs, ps, rfl, hp, hps, hl, q⟩ := h
  have len : ∀ k, (((ofA k xs ps).map V.ref).length : Nat) = (ofC k ps).length := fun k => by rw [List.length_map, ofA_len (prtsA_len hps)]
  refine ⟨_, (pss_cons (ps_if (PW.pt (pw_or (pt_cmpR op_gt (pe_callB call_len_seq (by rfl) (mn_len M) (by decide +kernel) (pa_cons (pe_cl (takes_of rfl rfl rfl rfl) (ok_of_class M) (hr.mono (by decide)) hg rfl (mg_of_class M) (kp_of_class w) (pa_cons (pv 0) (pa_cons pe_str pa_nil))) pa_nil)) (pe_glob (v := .int 4) rfl (mg_MOST_AGENTS M) ⟨_, rfl⟩) (nomark _)) (pw_or1 (pt_cmpR op_gt (pe_callB call_len_seq (by rfl) (mn_len M) (by decide +kernel) (pa_cons (pe_cl (takes_of rfl rfl rfl rfl) (ok_of_class M) (hr.mono (by decide)) hg rfl (mg_of_class M) (kp_of_class w) (pa_cons (pv 0) (pa_cons pe_str pa_nil))) pa_nil)) (pe_glob (v := .int 6) rfl (mg_MOST_SIGNALS M) ⟨_, rfl⟩) (nomark _))))) (pss_one (ps_ret pe_bl)) pss_nil)
      (pss_one (ps_ret (pe_cmpR op_gt (pe_callB call_len_seq (by rfl) (mn_len M) (by decide +kernel) (pa_cons (pe_cl (takes_of rfl rfl rfl rfl) (ok_of_class M) (hr.mono (by decide)) hg rfl (mg_of_class M) (kp_of_class w) (pa_cons (pv 0) (pa_cons pe_str pa_nil))) pa_nil)) (pe_glob (v := .int 6) rfl (mg_MOST_VARIABLES M) ⟨_, rfl⟩) (nomark _))))), ?_⟩
  refine ⟨_, rfl, rfl, 0, p, xs, ps, rfl, by decide, hp, hps, hl, fun t0 H0 s0 e0 => ⟨t0, _, rfl, .inr (SqT.of e0), _, _, rfl, rfl, _, rfl, ?_⟩⟩
  rw [len 0]
  refine ite_b (fun h0 => ?_) (fun h0 => ?_)
  · have h0 := of_decide_eq_true h0
    have e : tooMany ps = true := by unfold tooMany; rw [decide_eq_true (p := 4 < (ofC 0 ps).length) (by omega)] <;> rfl
    rw [e] at q
    exact ifT rfl (q H0 s0)
  have h0 := of_decide_eq_false h0
  refine ⟨_, rfl, rfl, 1, p, xs, ps, rfl, by decide, st_mono s0 hp, prtsA_mono s0 hps, hl, fun t1 H1 s1 e1 => ⟨t1, _, rfl, .inr (SqT.of e1), _, _, rfl, rfl, _, rfl, ?_⟩⟩
  rw [len 1]
  have s01 := same_trans s0 s1
  refine ite_b (fun h1 => ?_) (fun h1 => ?_)
  · have h1 := of_decide_eq_true h1
    have e : tooMany ps = true := by unfold tooMany; rw [decide_eq_true (p := 6 < (ofC 1 ps).length) (by omega), Bool.true_or, Bool.or_true]
    rw [e] at q
    exact q H1 s01
  have h1 := of_decide_eq_false h1
  refine ⟨_, rfl, rfl, 2, p, xs, ps, rfl, by decide, st_mono s01 hp, prtsA_mono s01 hps, hl, fun t2 H2 s2 e2 => ⟨t2, _, rfl, .inr (SqT.of e2), _, _, rfl, rfl, ?_⟩⟩
  rw [len 2]
  have e : tooMany ps = decide ((6 : Int) < ((ofC 2 ps).length : Nat)) := by
    unfold tooMany
    rw [decide_eq_false (p := 4 < (ofC 0 ps).length) (by omega), decide_eq_false (p := 6 < (ofC 1 ps).length) (by omega), Bool.false_or, Bool.false_or]
    exact decide_eq_decide.mpr (by omega)
  rw [e] at q
  exact q H2 (same_trans s01 s2)
end
end M12

namespace M12
open PySem PySem.Spec PyProof.Rows L2 StX Uk
local macro_rules | `(tactic| wtm_at "cls") => `(tactic| first | exact cls_Agent _ | exact cls_Signal _ | exact cls_Variable _ | exact cls_Net _)
local macro_rules | `(tactic| wtm_at "na") => `(tactic| first | exact na_Agent_name _ | exact na_Agent_steps _ | exact na_Agent_shape _ | exact na_Signal_name _ | exact na_Signal_tokens _ | exact na_Variable_name _ | exact na_Variable_size _ | exact na_Variable_at _ | exact na_Variable_shape _ | exact na_Net_line _ | exact na_Net_ring _ | exact na_Net_variables _ | exact na_Net_signals _ | exact na_Net_agents _ | exact na_Net_shape _ | exact na_Net_by_name _ | exact na_Net_bytes_at _ | exact na_Net_lines_at _)

def spAllB (K : PySem.W.Frag) : Sp := fun vs H Q _ => ∃ (x : Addr) (n : Str) (b : Int) (ps : List Int), vs = [.ref x] ∧ PrtA cs K H x (.var n b ps) ∧ 0 ≤ b ∧ b ≤ 8 ∧ ps.length ≤ 4 ∧ ∀ t H', Same H H' → H' t = some (.lst ((allBy b ps).map V.int)) → Q (.ref t) H'
def spCkV (K : PySem.W.Frag) : Sp := fun vs H Q E => ∃ (p : Addr) (ring : Int) (xs : List Addr) (ps : List Prt), vs = [.ref p, .int ring] ∧ SqT K H p (xs.map V.ref) ∧ PrtsA cs K H xs ps ∧ (∀ p ∈ ps, p.ok) ∧ xs.length ≤ 1000 ∧ okOrN 74 (ckV ring ps) H (fun H' => Q .non H') E
def spFits (K : PySem.W.Frag) : Sp := fun vs H Q _ => ∃ (v : V) (p : Addr) (st : Stp) (xs : List Addr) (ps : List Prt), vs = [v, .ref p] ∧ StpV K H v st ∧ st.ok = true ∧ SqT K H p (xs.map V.ref) ∧ PrtsA cs K H xs ps ∧ (ps.map Prt.n).Nodup ∧ xs.length ≤ 1000 ∧ ∀ H', Same H H' → Q (.bl (fitsB ps st)) H'
def spCkS (K : PySem.W.Frag) (r : List Prt → Rf) : Sp := fun vs H Q E => ∃ (p : Addr) (xs : List Addr) (ps : List Prt), vs = [.ref p] ∧ SqT K H p (xs.map V.ref) ∧ PrtsA cs K H xs ps ∧ (∀ p ∈ ps, p.ok) ∧ (ps.map Prt.n).Nodup ∧ xs.length ≤ 1000 ∧ okOrN 74 (r ps) H (fun H' => Q .non H') E
section
variable {mg : PySem.Str → Option Value} {base : Heap} {w : World}
theorem ok_Variable_all_bytes (M : Mod (hd12.heap_39 w.params) mg base) : CallG PP w (hd12.heap_39 w.params) mg base 1 (.ref 408) (pos (spAllB (hd12.heap_39 w.params))) := by
  obtain ⟨fd, F⟩ := fn_Variable_all_bytes w
  refine def_pos F sc_Variable_all_bytes (fun vs H Q E h => ?_) (fun _ _ _ _ _ _ us hl => match us, hl with | [_], _ => rfl) (fun cdv A outer s H vs Q E hr hg h => ?_)
  · obtain ⟨x, n, b, ps, rfl, _⟩ := h; rfl
  have nd := sc_Variable_all_bytes.nd
  obtain ⟨x, n, b, ps, rfl, ⟨dx, pa, q, hx, hpa, hq⟩, hb0, hb, hl, qq⟩ := h
  refine ⟨_, (pss_one (ps_ret (pe_lc2 (own := [("address", 1), ("k", 2)]) (g := gName 1) (g1 := gName 2) (vs1 := [2]) (by rfl) nd (pi_tup (pe_fld (pv 0) rfl)) (blkOk_by (own := [("address", 1), ("k", 2)]) (N := ["self", "address", "k"]) (sc := defScope s_Variable_all_bytes) (by decide +kernel)) (by decide) (fun _ _ _ _ _ => (pg_name (i := 1) nd rfl (Or.inl rfl))) (fun _ _ _ _ _ => pts_nil) (fun _ _ _ _ _ => (pi_range1 (by rfl) (mn_range M) (pa_cons (xpe_fld (hd12.heap_39 w.params) (pv 0) rfl) pa_nil))) (fun _ _ _ _ _ => (pg_name (i := 2) nd rfl (Or.inl rfl))) (fun _ _ _ _ _ => pts_nil) (fun _ _ _ _ _ => (pe_op op_add (pv 1) (pv 2)))))), ?_⟩
  refine ⟨_, rfl, x, 411, dx, _, _, rfl, hx, cls_Variable w, na_Variable_at w, rfl, pa, rfl, ⟨_, SqT.of hpa⟩, fun D hD => ?_⟩
  have len : ∀ l : List Int, l.length ≤ 4 → (allBy b l).length ≤ 32 := fun l hl => allBy_len hb0 hb hl
  refine lc2_it (walk_tup (xs := ps.map V.int)) (fun j H' => Same H H' ∧ H' D = some (.lst ((allBy b (ps.take j)).map V.int))) ⟨same_new hD, upd_same⟩ (fun j H' _ h => SqT.of (h.1 _ _ hpa)) (fun j v H4 H5 hj h y => ?_) (fun H' h => ?_)
  · obtain ⟨sd, eD⟩ := h
    obtain ⟨rfl, hv⟩ := y
    rw [List.length_map] at hj
    rw [List.getElem?_map, List.getElem?_eq_getElem hj] at hv
    cases hv
    refine ⟨rfl, ?_⟩
    refine ⟨_, rfl, x, 411, dx, _, _, rfl, sd _ _ hx, cls_Variable w, na_Variable_size w, rfl, b.toNat, by rw [Int.toNat_of_nonneg hb0], by omega, by omega, ?_⟩
    refine in_it walk_range (fun i H' => Same H H' ∧ H' D = some (.lst ((allBy b (ps.take j) ++ (List.range i).map fun (k : Nat) => ps[j] + (k : Int)).map V.int))) ⟨sd, by rw [eD]; simp⟩ (fun _ _ _ _ => trivial) (fun i v H6 H7 hi h y => ?_) (fun H' h => ?_)
    · obtain ⟨s7, e7⟩ := h
      obtain ⟨rfl, rfl⟩ := y
      refine ⟨rfl, ?_⟩
      refine ⟨_, rfl, _, rfl, _, _, rfl, rfl, _, e7, ?_, same_upd s7 hD, ?_⟩
      · rw [List.length_map, List.length_append, List.length_map, List.length_range]
        have := len (ps.take j) (Nat.le_trans (List.length_take_le ..) (by omega))
        exact small (by omega)
      · rw [upd_same, List.range_succ, List.map_append, List.map_append, List.map_append, List.map_append, List.append_assoc, Int.zero_add] <;> rfl
    · obtain ⟨s7, e7⟩ := h
      refine ⟨s7, ?_⟩
      rw [e7, List.take_add_one, List.getElem?_eq_getElem hj, Int.toNat_natCast]
      unfold allBy
      rw [List.flatMap_append]
      simp
  · obtain ⟨sd, eD⟩ := h
    rw [List.length_map, take_all (Nat.le_refl _)] at eD
    exact qq D H' sd eD
end
end M12

namespace M12
open PySem PySem.Spec PyProof.Rows L2 StX Uk
local macro_rules | `(tactic| wtm_at "cls") => `(tactic| first | exact cls_Agent _ | exact cls_Signal _ | exact cls_Variable _ | exact cls_Net _)
local macro_rules | `(tactic| wtm_at "na") => `(tactic| first | exact na_Agent_name _ | exact na_Agent_steps _ | exact na_Agent_shape _ | exact na_Signal_name _ | exact na_Signal_tokens _ | exact na_Variable_name _ | exact na_Variable_size _ | exact na_Variable_at _ | exact na_Variable_shape _ | exact na_Net_line _ | exact na_Net_ring _ | exact na_Net_variables _ | exact na_Net_signals _ | exact na_Net_agents _ | exact na_Net_shape _ | exact na_Net_by_name _ | exact na_Net_bytes_at _ | exact na_Net_lines_at _)
section
variable {mg : PySem.Str → Option Value} {base : Heap} {w : World}
theorem ok_check_parts (M : Mod (hd12.heap_39 w.params) mg base) : CallG PP w (hd12.heap_39 w.params) mg base 6 (.ref 432) (pos (spCkP (hd12.heap_39 w.params))) := by
  obtain ⟨fd, F⟩ := fn_check_parts w
  refine def_pos F sc_check_parts (fun vs H Q E h => ?_) (fun _ _ _ _ _ _ us hl => match us, hl with | [_], _ => rfl) (fun cdv A outer s H vs Q E hr hg h => ?_)
  · obtain ⟨p, xs, as, rfl, _⟩ := h; rfl
  have nd := sc_check_parts.nd
  obtain ⟨p, vs, as, rfl, hp, has, hl, q⟩ := h
  have hla := argsV_len has
  refine ⟨_, (pss_cons (ps_for (passes_of rfl) rfl (pi_enumT (by rfl) (mn_enumerate M) (pa_cons (pv 0) pa_nil)) (pg_tup (by rfl) (pgs_cons (pg_name (i := 1) nd rfl (.inl rfl)) (pgs_cons (pg_name (i := 2) nd rfl (.inl rfl)) pgs_nil))) (pss_one (ps_if (pt_not (pt_val (pe_callB call_isiT (by rfl) (mn_isinstance M) (by decide +kernel) (pa_cons (pv 2) (pa_cons (pe_tup (pa_cons (pe_glob (v := .ref 232) rfl (mg_Agent M) rfl) (pa_cons (pe_glob (v := .ref 337) rfl (mg_Signal M) rfl) (pa_cons (pe_glob (v := .ref 411) rfl (mg_Variable M) rfl) pa_nil)))) pa_nil))))) (pss_one (ps_raise rfl (takes_of rfl rfl rfl rfl) (pmk_E (mke_NoNet w) (takes_of rfl rfl rfl rfl) (ok_NoNet___init__ M) (hr.mono (by decide)) hg (kp_NoNet w) rfl (mg_NoNet M) (pa_cons pe_str (pa_cons (pv 1) pa_nil)) (by decide)))) pss_nil)))
      (pss_cons (ps_for (passes_of rfl) rfl (pi_range1 (by rfl) (mn_range M) (pa_cons (pe_callB call_len_seq (by rfl) (mn_len M) (by decide +kernel) (pa_cons (pv 0) pa_nil)) pa_nil)) (pg_name (i := 1) nd rfl (.inl rfl)) (pss_one (ps_if (pt_val (pe_cl (takes_of rfl rfl rfl rfl) (ok_is_too_many M) (hr.mono (by decide)) hg rfl (mg_is_too_many M) (kp_is_too_many w) (pa_cons (pe_slice sl_tupF (pv 0) po_none (po_some (pe_op op_add (pv 1) pe_int))) pa_nil))) (pss_one (ps_raise rfl (takes_of rfl rfl rfl rfl) (pmk_E (mke_NoNet w) (takes_of rfl rfl rfl rfl) (ok_NoNet___init__ M) (hr.mono (by decide)) hg (kp_NoNet w) rfl (mg_NoNet M) (pa_cons pe_str (pa_cons (pv 1) pa_nil)) (by decide)))) pss_nil)))
      (pss_one (ps_for (passes_of rfl) rfl (pi_enumT (by rfl) (mn_enumerate M) (pa_cons (pv 0) pa_nil)) (pg_tup (by rfl) (pgs_cons (pg_name (i := 1) nd rfl (.inl rfl)) (pgs_cons (pg_name (i := 2) nd rfl (.inl rfl)) pgs_nil))) (pss_one (ps_if (pt_cmpR op_in_seq (pe_fld (pv 2) rfl) (pe_lc (own := [("earlier", 3)]) (g := gName 3) (by rfl) nd (pi_tup (pe_slice sl_tupF (pv 0) po_none (po_some (pv 1)))) (blkOk_by (own := [("earlier", 3)]) (N := ["parts", "k", "part", "earlier"]) (sc := defScope s_check_parts) (by decide +kernel)) (fun _ _ _ _ _ => (pg_name (i := 3) nd rfl (Or.inl rfl))) (fun _ _ _ _ _ => pts_nil) (fun _ _ _ _ _ => (xpe_fld (hd12.heap_39 w.params) (pv 3) rfl))) (by rfl)) (pss_one (ps_raise rfl (takes_of rfl rfl rfl rfl) (pmk_E (mke_NoNet w) (takes_of rfl rfl rfl rfl) (ok_NoNet___init__ M) (hr.mono (by decide)) hg (kp_NoNet w) rfl (mg_NoNet M) (pa_cons pe_str (pa_cons (pv 1) pa_nil)) (by decide)))) pss_nil)))))), ?_⟩
  refine ⟨_, rfl, p, vs, rfl, hp, ?_⟩
  refine for_it walk_enumT (fun i σ H' => (∃ o1 o2 o3, σ = [some (.ref p), o1, o2, o3]) ∧ Same H H' ∧ ∀ j, j < i → argAt as j = false) ⟨⟨_, _, _, rfl⟩, Same.rfl, fun j hj => absurd hj (Nat.not_lt_zero j)⟩ (fun i σ H' _ h => st_mono h.2.1 hp) (fun i x σ H2 H3 hi h y => ?_) (fun σ H2 h => ?_)
  · obtain ⟨⟨o1, o2, o3, rfl⟩, sm, hno⟩ := h
    obtain ⟨T, kk, v, rfl, hT, rfl, hkk, hv⟩ := y
    cases hkk
    obtain ⟨a, hai, hav⟩ := argsV_get has hv
    have s2 := same_trans sm (same_new (o := .tup [.int i, v]) hT)
    have hav := argV_mono s2 hav
    have eb : argAt as i = a.isData := by
      unfold argAt
      rw [List.getD_eq_getElem?_getD, hai] <;> rfl
    refine ⟨T, _, rfl, SqT.of upd_same, rfl, _, _, rfl, _, _, rfl, rfl, ?_⟩
    refine ⟨_, rfl, Nat.le_of_ble_eq_true rfl, fun z hz => ?_⟩
    have s3 := same_trans s2 (same_new (o := .tup [.ref 232, .ref 337, .ref 411]) hz)
    have hav := argV_mono (same_new (o := .tup [.ref 232, .ref 337, .ref 411]) hz) hav
    cases a with
    | data d =>
      refine ⟨v, z, _, _, _, _, rfl, upd_same, .cons (.own _) (.cons (.own _) (.cons (.own _) .nil)), dq_ty hav, dat_kta w d, _, rfl, ifT rfl ?_⟩
      refine ⟨_, rfl, rfl, fun d2 hd2 => ?_⟩
      have e : ckA as = some (("part" : Str), .at_ i) := orR_some (firstR_some hno (eb.trans rfl) (by omega))
      rw [e] at q
      exact q _ d2 _ (same_trans s3 (same_new hd2)) rfl upd_same
    | part r =>
      obtain ⟨x, rfl, hx, hok⟩ := hav
      refine ⟨_, z, _, _, _, _, rfl, upd_same, .cons (.own _) (.cons (.own _) (.cons (.own _) .nil)), prt_ty hx, prt_kta hx, _, rfl, ifF rfl ?_⟩
      refine ⟨⟨_, _, _, rfl⟩, s3, fun j hj => ?_⟩
      rcases lt_succ_cases hj with h | rfl
      · exact hno j h
      · exact eb
  obtain ⟨⟨o1, o2, o3, rfl⟩, sm, hno⟩ := h
  rw [hla] at hno
  obtain ⟨xs, rfl, hps, hok⟩ := args_parts has hno
  rw [show ckA as = ckP (as.map argP) from orR_none (firstR_none hno)] at q
  generalize as.map argP = ps at *
  have q := okOrN.same q sm
  have hp := st_mono sm hp
  have hps := prtsA_mono sm hps
  have hlp := prtsA_len hps
  rw [List.length_map] at hl
  clear hno has hla sm
  refine ⟨_, rfl, p, _, rfl, .inr hp, xs.length, by rw [List.length_map], by omega, by omega, ?_⟩
  refine for_range (lo := 0) (n := xs.length) (fun i σ H' => (∃ o1 o2 o3, σ = [some (.ref p), o1, o2, o3]) ∧ Same H2 H' ∧ ∀ j, j < i → manyAt ps j = false) ⟨⟨_, _, _, rfl⟩, Same.rfl, fun j hj => absurd hj (Nat.not_lt_zero j)⟩ (fun i σ H' hi h => ?_) (fun σ H3 h => ?_)
  · obtain ⟨⟨o1, o2, o3, rfl⟩, sm, hno⟩ := h
    have hp := st_mono sm hp
    have hps := prtsA_mono sm hps
    refine ⟨_, rfl, _, rfl, _, _, rfl, rfl, _, rfl, p, _, rfl, hp, fun t H4 s4 ht => ?_⟩
    rw [show (0 + (i : Int)) + 1 = ((i + 1 : Nat) : Int) by omega, cut_front (by rw [List.length_map]; omega), ← List.map_take] at ht
    refine ⟨rfl, t, _, _, rfl, ht, prtsA_mono s4 (prtsA_take (i + 1) hps), Nat.le_trans (List.length_take_le ..) (by omega), fun H5 s5 => ⟨_, rfl, ite_b (fun h1 => ?_) (fun h1 => ?_)⟩⟩
    · refine ⟨_, rfl, rfl, fun d2 hd2 => ?_⟩
      have e : ckP ps = some (("many" : Str), .at_ i) := orR_some (firstR_some hno h1 (by omega))
      rw [e] at q
      exact q _ d2 _ (same_trans (same_trans sm (same_trans s4 s5)) (same_new hd2)) (by rw [Int.zero_add] <;> rfl) upd_same
    · refine ⟨⟨_, _, _, rfl⟩, same_trans sm (same_trans s4 s5), fun j hj => ?_⟩
      rcases lt_succ_cases hj with h | rfl
      · exact hno j h
      · exact h1
  obtain ⟨⟨o1, o2, o3, rfl⟩, sm, hno⟩ := h
  rw [hlp] at hno
  rw [show ckP ps = _ from orR_none (firstR_none hno)] at q
  have q := okOrN.same q sm
  have hp := st_mono sm hp
  have hps := prtsA_mono sm hps
  clear hno sm
  refine ⟨_, rfl, p, _, rfl, hp, ?_⟩
  refine for_it walk_enumT (fun i σ H' => (∃ o1 o2 o3, σ = [some (.ref p), o1, o2, o3]) ∧ Same H3 H' ∧ ∀ j, j < i → dupAt ps j = false) ⟨⟨_, _, _, rfl⟩, Same.rfl, fun j hj => absurd hj (Nat.not_lt_zero j)⟩ (fun i σ H' _ h => st_mono h.2.1 hp) (fun i x σ H4 H5 hi h y => ?_) (fun σ H4 h => ?_)
  · obtain ⟨⟨o1, o2, o3, rfl⟩, sm, hno⟩ := h
    obtain ⟨T, kk, v, rfl, hT, rfl, hkk, hv⟩ := y
    cases hkk
    rw [List.length_map] at hi
    obtain ⟨x, hx, rfl⟩ := map_ref_get hv
    obtain ⟨r, hr2, hA⟩ := prtsA_get hps hx
    have s2 := same_trans sm (same_new (o := .tup [.int i, .ref x]) hT)
    have hA := prtA_mono s2 hA
    obtain ⟨C, dx, fs, hC, cC, nC, lC⟩ := prt_name hA
    refine ⟨T, _, rfl, SqT.of upd_same, rfl, _, _, rfl, _, _, rfl, rfl, ?_⟩
    refine ⟨_, rfl, x, C, dx, fs, _, rfl, hC, cC, nC, lC, ?_⟩
    refine ⟨_, rfl, _, rfl, _, rfl, p, _, rfl, st_mono s2 hp, fun t H6 s6 ht => ?_⟩
    rw [cut_front (by rw [List.length_map]; omega), ← List.map_take] at ht
    refine ⟨t, rfl, ⟨_, ht⟩, fun D hD => ?_⟩
    have hps6 := prtsA_mono (same_trans s2 s6) (prtsA_take i hps)
    refine lc_it (walk_tup (xs := (xs.take i).map V.ref)) (fun j H' => Same H6 H' ∧ H' D = some (.lst ((((ps.take i).take j).map Prt.n).map V.str))) ⟨same_new hD, upd_same⟩ (fun j H' _ h => st_mono h.1 ht) (fun j v H7 H8 hj h y => ?_) (fun H' h => ?_)
    · obtain ⟨sd, eD⟩ := h
      obtain ⟨rfl, hv⟩ := y
      obtain ⟨x2, hx2, rfl⟩ := map_ref_get hv
      obtain ⟨r2, hr3, hA2⟩ := prtsA_get hps6 hx2
      obtain ⟨C2, dx2, fs2, hC2, cC2, nC2, lC2⟩ := prt_name (prtA_mono sd hA2)
      refine ⟨rfl, ?_⟩
      refine ⟨_, rfl, x2, C2, dx2, fs2, _, rfl, hC2, cC2, nC2, lC2, _, eD, ?_, same_upd sd hD, ?_⟩
      · rw [List.length_map, List.length_map]
        exact small (Nat.le_trans (List.length_take_le ..) (by rw [List.length_map, List.length_take] at hj; omega))
      · rw [upd_same, List.take_add_one, hr3, List.map_append, List.map_append] <;> rfl
    · obtain ⟨sd, eD⟩ := h
      rw [take_all (by rw [List.length_map, List.length_take, List.length_take, hlp]; exact Nat.le_refl _)] at eD
      have s3 := same_trans s2 (same_trans s6 sd)
      refine ⟨D, _, rfl, .inl (SqL.of eD), rfl, L2.flat_strs _, ?_⟩
      have eb : inV (.str r.n) (((ps.take i).map Prt.n).map V.str) = dupAt ps i := by
        rw [inV_strs]
        unfold dupAt
        rw [prtAt_of hr2]
      rw [show (if false = true then !inV (.str r.n) (((ps.take i).map Prt.n).map V.str) else inV (.str r.n) (((ps.take i).map Prt.n).map V.str)) = dupAt ps i from eb]
      refine ⟨_, rfl, ite_b (fun h1 => ?_) (fun h1 => ?_)⟩
      · refine ⟨_, rfl, rfl, fun d2 hd2 => ?_⟩
        have e : firstR (dupAt ps) ps.length "name" = some (("name" : Str), .at_ i) := firstR_some hno h1 (by omega)
        rw [e] at q
        exact q _ d2 _ (same_trans s3 (same_new hd2)) rfl upd_same
      · refine ⟨⟨_, _, _, rfl⟩, s3, fun j hj => ?_⟩
        rcases lt_succ_cases hj with h | rfl
        · exact hno j h
        · exact h1
  obtain ⟨⟨o1, o2, o3, rfl⟩, sm, hno⟩ := h
  rw [List.length_map, hlp] at hno
  rw [show firstR (dupAt ps) ps.length "name" = none from firstR_none hno] at q
  exact q H4 sm
end
end M12

namespace M12
open PySem PySem.Spec PyProof.Rows L2 StX Uk
local macro_rules | `(tactic| wtm_at "cls") => `(tactic| first | exact cls_Agent _ | exact cls_Signal _ | exact cls_Variable _ | exact cls_Net _)
local macro_rules | `(tactic| wtm_at "na") => `(tactic| first | exact na_Agent_name _ | exact na_Agent_steps _ | exact na_Agent_shape _ | exact na_Signal_name _ | exact na_Signal_tokens _ | exact na_Variable_name _ | exact na_Variable_size _ | exact na_Variable_at _ | exact na_Variable_shape _ | exact na_Net_line _ | exact na_Net_ring _ | exact na_Net_variables _ | exact na_Net_signals _ | exact na_Net_agents _ | exact na_Net_shape _ | exact na_Net_by_name _ | exact na_Net_bytes_at _ | exact na_Net_lines_at _)
section
variable {mg : PySem.Str → Option Value} {base : Heap} {w : World}
theorem ok_check_variables (M : Mod (hd12.heap_39 w.params) mg base) : CallG PP w (hd12.heap_39 w.params) mg base 6 (.ref 437) (pos (spCkV (hd12.heap_39 w.params))) := by
  obtain ⟨fd, F⟩ := fn_check_variables w
  refine def_pos F sc_check_variables (fun vs H Q E h => ?_) (fun _ _ _ _ _ _ us hl => match us, hl with | [_, _], _ => rfl) (fun cdv A outer s H vs Q E hr hg h => ?_)
  · obtain ⟨p, ring, xs, ps, rfl, _⟩ := h; rfl
  have nd := sc_check_variables.nd
  obtain ⟨p, ring, xs, ps, rfl, hp, hps, hok, hl, q⟩ := h
  have hlp := prtsA_len hps
  refine ⟨_, (pss_cons (ps_for (passes_of rfl) rfl (pi_enumT (by rfl) (mn_enumerate M) (pa_cons (pv 0) pa_nil)) (pg_tup (by rfl) (pgs_cons (pg_name (i := 2) nd rfl (.inl rfl)) (pgs_cons (pg_name (i := 3) nd rfl (.inl rfl)) pgs_nil))) (pss_one (ps_if (PW.pt (pw_and (pt_val (pe_callB call_isi (by rfl) (mn_isinstance M) (by decide +kernel) (pa_cons (pv 3) (pa_cons (pe_glob (v := .ref 411) rfl (mg_Variable M) rfl) pa_nil)))) (pw_and1 (pt_cmpR op_notIn_seq (pe_callB (call_lenO (D := fun C => C = 411) (ok_Variable___len__ M) (hr.mono (by decide)) hg (fun C h => by subst h; exact own_Variable_len w)) (by rfl) (mn_len M) (by decide +kernel) (pa_cons (pv 3) pa_nil)) (pe_tup (pa_cons pe_int (pa_cons (pv 1) pa_nil))) (by rfl))))) (pss_one (ps_raise rfl (takes_of rfl rfl rfl rfl) (pmk_E (mke_NoNet w) (takes_of rfl rfl rfl rfl) (ok_NoNet___init__ M) (hr.mono (by decide)) hg (kp_NoNet w) rfl (mg_NoNet M) (pa_cons pe_str (pa_cons (pv 2) pa_nil)) (by decide)))) pss_nil)))
      (pss_cons (ps_set (i := 4) nd rfl (.inr rfl) pe_dnewK)
      (pss_one (ps_for (passes_of rfl) rfl (pi_enumT (by rfl) (mn_enumerate M) (pa_cons (pv 0) pa_nil)) (pg_tup (by rfl) (pgs_cons (pg_name (i := 2) nd rfl (.inl rfl)) (pgs_cons (pg_name (i := 3) nd rfl (.inl rfl)) pgs_nil))) (pss_one (ps_if (pt_val (pe_callB call_isi (by rfl) (mn_isinstance M) (by decide +kernel) (pa_cons (pv 3) (pa_cons (pe_glob (v := .ref 411) rfl (mg_Variable M) rfl) pa_nil)))) (pss_cons (ps_if (pt_val (pe_callB (cr_any rfl) (by rfl) (mn_any M) (by decide +kernel) (pa_cons (pe_lc (own := [("address", 5)]) (g := gName 5) (by rfl) nd (pi_list (pe_meG0 (takes_of rfl rfl rfl rfl) (pv 3) (cls_Variable w) (me_Variable_all_bytes w) (ok_Variable_all_bytes M) (hr.mono (by decide)) hg)) (blkOk_by (own := [("address", 5)]) (N := ["parts", "ring", "k", "part", "taken", "address"]) (sc := defScope s_check_variables) (by decide +kernel)) (fun _ _ _ _ _ => (pg_name (i := 5) nd rfl (Or.inl rfl))) (fun _ _ _ _ _ => pts_nil) (fun _ _ _ _ _ => (pe_cmp (pc_din (hu_of hr) (pv 5) (pv 4)) rfl))) pa_nil))) (pss_one (ps_raise rfl (takes_of rfl rfl rfl rfl) (pmk_E (mke_NoNet w) (takes_of rfl rfl rfl rfl) (ok_NoNet___init__ M) (hr.mono (by decide)) hg (kp_NoNet w) rfl (mg_NoNet M) (pa_cons pe_str (pa_cons (pv 2) pa_nil)) (by decide)))) pss_nil)
      (pss_one (ps_for (passes_of rfl) rfl (pi_list (pe_meG0 (takes_of rfl rfl rfl rfl) (pv 3) (cls_Variable w) (me_Variable_all_bytes w) (ok_Variable_all_bytes M) (hr.mono (by decide)) hg)) (pg_name (i := 5) nd rfl (.inl rfl)) (pss_one (ps_dput (hu_of hr) (pv 4) (pv 5) pe_bl rfl))))) pss_nil)))))), ?_⟩
  refine ⟨_, rfl, p, _, rfl, hp, ?_⟩
  refine for_it walk_enumT (fun i σ H' => (∃ o2 o3 o4 o5, σ = [some (.ref p), some (.int ring), o2, o3, o4, o5]) ∧ Same H H' ∧ ∀ j, j < i → slotsAt ring ps j = false) ⟨⟨_, _, _, _, rfl⟩, Same.rfl, fun j hj => absurd hj (Nat.not_lt_zero j)⟩ (fun i σ H' _ h => st_mono h.2.1 hp) (fun i x σ H2 H3 hi h y => ?_) (fun σ H2 h => ?_)
  · obtain ⟨⟨o2, o3, o4, o5, rfl⟩, sm, hno⟩ := h
    obtain ⟨T, kk, v, rfl, hT, rfl, hkk, hv⟩ := y
    cases hkk
    rw [List.length_map] at hi
    obtain ⟨x, hx, rfl⟩ := map_ref_get hv
    obtain ⟨r, hr2, hA⟩ := prtsA_get hps hx
    have s2 := same_trans sm (same_new (o := .tup [.int i, .ref x]) hT)
    have hA := prtA_mono s2 hA
    refine ⟨T, _, rfl, SqT.of upd_same, rfl, _, _, rfl, _, _, rfl, rfl, ?_⟩
    have other : (r.cl == 2) = false → slotsAt ring ps i = false := fun e => by
      unfold slotsAt
      rw [prtAt_of hr2]
      cases r <;> first | rfl | cases e
    have goes : ∀ H', Same H H' → slotsAt ring ps i = false → (∃ a b c d, [some (V.ref p), some (.int ring), some (.int (i : Int)), some (.ref x), o4, o5] = [some (.ref p), some (.int ring), a, b, c, d]) ∧ Same H H' ∧ ∀ j, j < i + 1 → slotsAt ring ps j = false := fun H' s e => ⟨⟨_, _, _, _, rfl⟩, s, fun j hj => by
      rcases lt_succ_cases hj with h | rfl
      · exact hno j h
      · exact e⟩
    refine ⟨_, rfl, _, _, _, _, _, rfl, .own _, prt_ty hA, prt_kt 2 (by decide) hA, _, rfl, ite_b (fun hc => ?_) (fun hc => ?_)⟩
    · obtain ⟨n, b, as, rfl⟩ := cl2 (beq_iff_eq.mp hc)
      obtain ⟨dx, pa, sq, hx2, hpa, hsq⟩ := hA
      have ho := hok _ (List.mem_of_getElem? hr2)
      refine ⟨_, rfl, x, 411, dx, _, rfl, rfl, hx2, ⟨rfl, x, n, b, as, rfl, ⟨dx, pa, sq, hx2, hpa, hsq⟩, as.length, rfl, ?_, ?_⟩⟩
      · exact Nat.lt_of_le_of_lt ho.2.2.2.2.1 (by decide)
      refine ⟨_, rfl, Nat.le_of_ble_eq_true rfl, fun z hz => ⟨z, _, rfl, .inr (SqT.of upd_same), rfl, rfl, ?_⟩⟩
      have e : slotsAt ring ps i = !inV (.int as.length) [.int 1, .int ring] := by
        unfold slotsAt
        rw [prtAt_of hr2, in1r]
      rw [show (if true = true then !inV (.int as.length) [.int 1, .int ring] else inV (.int as.length) [.int 1, .int ring]) = slotsAt ring ps i from e.symm]
      have s3 := same_trans s2 (same_new (o := .tup [.int 1, .int ring]) hz)
      refine ⟨_, rfl, ite_b (fun h1 => ?_) (fun h1 => ?_)⟩
      · refine ⟨_, rfl, rfl, fun d2 hd2 => ?_⟩
        have e : ckV ring ps = some (("slots" : Str), .at_ i) := orR_some (firstR_some hno h1 (by omega))
        rw [e] at q
        exact q _ d2 _ (same_trans s3 (same_new hd2)) rfl upd_same
      · exact goes _ s3 h1
    · exact ifF rfl (goes _ s2 (other hc))
  obtain ⟨⟨o2, o3, o4, o5, rfl⟩, sm, hno⟩ := h
  rw [List.length_map, hlp] at hno
  rw [show ckV ring ps = firstR (bytesAt ps) ps.length "bytes" from orR_none (firstR_none hno)] at q
  have q := okOrN.same q sm
  have hp := st_mono sm hp
  have hps := prtsA_mono sm hps
  clear hno sm
  intro D hD
  refine ⟨_, rfl, p, _, rfl, st_mono (same_new hD) hp, ?_⟩
  refine for_it walk_enumT (fun i σ H' => (∃ o2 o3 o5, σ = [some (.ref p), some (.int ring), o2, o3, some (.ref D), o5]) ∧ Same H2 H' ∧ (∃ kvs, H' D = some (.dK kvs) ∧ kvs.length ≤ 32 * i ∧ ∀ a : Int, (valV kvs (Sum.inl a)).isSome = decide (a ∈ (ps.take i).flatMap Prt.bytes)) ∧ ∀ j, j < i → bytesAt ps j = false)
    ⟨⟨_, _, _, rfl⟩, same_new hD, ⟨[], upd_same, Nat.zero_le _, fun a => by simp [valV_nil]⟩, fun j hj => absurd hj (Nat.not_lt_zero j)⟩ (fun i σ H' _ h => st_mono h.2.1 hp) (fun i x σ H3 H4 hi h y => ?_) (fun σ H3 h => ?_)
  · obtain ⟨⟨o2, o3, o5, rfl⟩, sm, ⟨kvs, eD, hkl, hkv⟩, hno⟩ := h
    obtain ⟨T, kk, v, rfl, hT, rfl, hkk, hv⟩ := y
    cases hkk
    rw [List.length_map] at hi
    obtain ⟨x, hx, rfl⟩ := map_ref_get hv
    obtain ⟨r, hr2, hA⟩ := prtsA_get hps hx
    have sT := same_new (o := .tup [.int i, .ref x]) hT
    have s2 := same_trans sm sT
    have eD2 := sT _ _ eD
    have hA := prtA_mono s2 hA
    have htk : ps.take (i + 1) = ps.take i ++ [r] := by rw [List.take_add_one, hr2] <;> rfl
    refine ⟨T, _, rfl, SqT.of upd_same, rfl, _, _, rfl, _, _, rfl, rfl, ?_⟩
    refine ⟨_, rfl, _, _, _, _, _, rfl, .own _, prt_ty hA, prt_kt 2 (by decide) hA, _, rfl, ite_b (fun hc => ?_) (fun hc => ?_)⟩
    · obtain ⟨n, b, as, rfl⟩ := cl2 (beq_iff_eq.mp hc)
      have hv2 := hA
      obtain ⟨dx, pa, sq, hx2, hpa, hsq⟩ := hA
      have ho := hok _ (List.mem_of_getElem? hr2)
      have hb0 : 0 ≤ b := by have := ho.2.1; omega
      have blen : (allBy b as).length ≤ 32 := allBy_len hb0 ho.2.2.1 ho.2.2.2.2.1
      have eb : bytesAt ps i = (allBy b as).any fun a => decide (a ∈ (ps.take i).flatMap Prt.bytes) := by
        unfold bytesAt
        rw [prtAt_of hr2] <;> rfl
      refine ⟨_, rfl, x, dx, _, rfl, hx2, rfl, rfl, x, n, b, as, rfl, hv2, hb0, ho.2.2.1, ho.2.2.2.2.1, fun t5 H5 s5 e5 => ⟨t5, rfl, ⟨_, SqL.of e5⟩, fun L hL => ?_⟩⟩
      refine lc_it (walk_list (xs := (allBy b as).map V.int)) (fun j H' => Same H5 H' ∧ H' L = some (.lst (((allBy b as).take j).map fun a => .bl (valV kvs (Sum.inl a)).isSome))) ⟨same_new hL, upd_same⟩ (fun j H' _ h => SqL.of (h.1 _ _ e5)) (fun j v H6 H7 hj h y => ?_) (fun H6 h => ?_)
      · obtain ⟨sd, eL⟩ := h
        obtain ⟨rfl, hv⟩ := y
        rw [List.length_map] at hj
        rw [List.getElem?_map, List.getElem?_eq_getElem hj] at hv
        cases hv
        refine ⟨rfl, ?_⟩
        refine ⟨_, rfl, _, rfl, D, _, rfl, DGet.k (k := Sum.inl (allBy b as)[j]) (sd _ _ (s5 _ _ eD2)), _, eL, ?_, same_upd sd hL, ?_⟩
        · rw [List.length_map]
          exact small (Nat.le_trans (List.length_take_le ..) (by omega))
        · rw [upd_same, List.take_add_one, List.getElem?_eq_getElem hj, List.map_append] <;> rfl
      · obtain ⟨sd, eL⟩ := h
        rw [List.length_map, take_all (Nat.le_refl _)] at eL
        have s6 := same_trans s5 sd
        have s26 := same_trans s2 s6
        refine ⟨L, (allBy b as).map fun a => (valV kvs (Sum.inl a)).isSome, rfl, SqL.of (by rw [List.map_map]; exact eL), ?_⟩
        have e : ((allBy b as).map fun a => (valV kvs (Sum.inl a)).isSome).any id = bytesAt ps i := by
          rw [eb, List.any_map]
          exact congrArg _ (funext fun a => hkv a)
        rw [e]
        refine ⟨_, rfl, ite_b (fun h1 => ?_) (fun h1 => ?_)⟩
        · refine ⟨_, rfl, rfl, fun d2 hd2 => ?_⟩
          have e : firstR (bytesAt ps) ps.length "bytes" = some (("bytes" : Str), .at_ i) := firstR_some hno h1 (by omega)
          rw [e] at q
          exact q _ d2 _ (same_trans s26 (same_new hd2)) rfl upd_same
        · have hv6 := prtA_mono s6 hv2
          have eD6 := s6 _ _ eD2
          refine ⟨_, rfl, x, dx, _, rfl, s6 _ _ hx2, rfl, rfl, x, n, b, as, rfl, hv6, hb0, ho.2.2.1, ho.2.2.2.2.1, fun t8 H8 s8 e8 => ⟨t8, rfl, ⟨_, SqL.of e8⟩, ?_⟩⟩
          have s28 := same_trans s26 s8
          have hne : t8 ≠ D := ne_of e8 (s8 _ _ eD6) (fun z => nomatch z)
          refine for_it (walk_list (xs := (allBy b as).map V.int)) (fun j σ H' => (∃ o5, σ = [some (.ref p), some (.int ring), some (.int (i : Int)), some (.ref x), some (.ref D), o5]) ∧ Same H2 H' ∧ H' t8 = some (.lst ((allBy b as).map V.int)) ∧ ∃ kw, H' D = some (.dK kw) ∧ kw.length ≤ 32 * i + j ∧ ∀ a : Int, (valV kw (Sum.inl a)).isSome = (decide (a ∈ (ps.take i).flatMap Prt.bytes) || decide (a ∈ (allBy b as).take j)))
            ⟨⟨_, rfl⟩, s28, e8, kvs, s8 _ _ eD6, hkl, fun a => by rw [hkv, List.take_zero]; simp⟩ (fun j σ H' _ h => SqL.of h.2.2.1) (fun j v σ H9 H10 hj h y => ?_) (fun σ H9 h => ?_)
          · obtain ⟨⟨o5, rfl⟩, s9, t9, kw, eD9, hkw, hin⟩ := h
            obtain ⟨rfl, hv⟩ := y
            rw [List.length_map] at hj
            rw [List.getElem?_map, List.getElem?_eq_getElem hj] at hv
            cases hv
            refine ⟨_, rfl, _, rfl, D, _, rfl, DPut.k (k := Sum.inl (allBy b as)[j]) eD9 (small (by omega)), ?_⟩
            refine ⟨⟨_, rfl⟩, same_upd s9 hD, (upd_ne hne).trans t9, _, upd_same, ?_, fun a => ?_⟩
            · have := length_putK kw (Sum.inl (allBy b as)[j]) (.bl true)
              omega
            · have et : (allBy b as).take (j + 1) = (allBy b as).take j ++ [(allBy b as)[j]] := by rw [List.take_add_one, List.getElem?_eq_getElem hj] <;> rfl
              rw [valV_put, et]
              by_cases ea : a = (allBy b as)[j]
              · rw [if_pos (by rw [ea]), decide_eq_true (p := a ∈ _ ++ _) (by rw [ea]; exact List.mem_append_right _ (List.mem_singleton.mpr rfl)), Bool.or_true] <;> rfl
              · rw [if_neg (fun z => ea (Sum.inl.inj z)), hin]
                congr 1
                exact decide_eq_decide.mpr (by rw [List.mem_append, List.mem_singleton]; exact ⟨.inl, fun h => h.resolve_right ea⟩)
          · obtain ⟨⟨o5, rfl⟩, s9, t9, kw, eD9, hkw, hin⟩ := h
            rw [List.length_map] at hkw hin
            refine ⟨⟨_, _, _, rfl⟩, s9, ⟨kw, eD9, by omega, fun a => ?_⟩, fun j hj => ?_⟩
            · rw [hin, htk, take_all (Nat.le_refl _), List.flatMap_append, ← Bool.decide_or]
              refine decide_eq_decide.mpr ?_
              rw [List.mem_append]
              simp [Prt.bytes]
            · rcases lt_succ_cases hj with h | rfl
              · exact hno j h
              · exact h1
    · have e1 : r.bytes = [] := by cases r <;> first | rfl | cases hc
      refine ⟨⟨_, _, _, rfl⟩, s2, ⟨kvs, eD2, by omega, fun a => ?_⟩, fun j hj => ?_⟩
      · rw [hkv, htk, List.flatMap_append]
        simp [e1]
      · rcases lt_succ_cases hj with h | rfl
        · exact hno j h
        · unfold bytesAt
          rw [prtAt_of hr2, e1] <;> rfl
  obtain ⟨_, sm, _, hno⟩ := h
  rw [List.length_map, hlp] at hno
  rw [show firstR (bytesAt ps) ps.length "bytes" = none from firstR_none hno] at q
  exact q H3 sm
end
end M12

namespace M12
open PySem PySem.Spec PyProof.Rows L2 StX Uk
local macro_rules | `(tactic| wtm_at "cls") => `(tactic| first | exact cls_Agent _ | exact cls_Signal _ | exact cls_Variable _ | exact cls_Net _)
local macro_rules | `(tactic| wtm_at "na") => `(tactic| first | exact na_Agent_name _ | exact na_Agent_steps _ | exact na_Agent_shape _ | exact na_Signal_name _ | exact na_Signal_tokens _ | exact na_Variable_name _ | exact na_Variable_size _ | exact na_Variable_at _ | exact na_Variable_shape _ | exact na_Net_line _ | exact na_Net_ring _ | exact na_Net_variables _ | exact na_Net_signals _ | exact na_Net_agents _ | exact na_Net_shape _ | exact na_Net_by_name _ | exact na_Net_bytes_at _ | exact na_Net_lines_at _)
section
variable {mg : PySem.Str → Option Value} {base : Heap} {w : World}
theorem ok_fits (M : Mod (hd12.heap_39 w.params) mg base) : CallG PP w (hd12.heap_39 w.params) mg base 3 (.ref 442) (pos (spFits (hd12.heap_39 w.params))) := by
  obtain ⟨fd, F⟩ := fn_fits w
  refine def_pos F sc_fits (fun vs H Q E h => ?_) (fun _ _ _ _ _ _ us hl => match us, hl with | [_, _], _ => rfl) (fun cdv A outer s H vs Q E hr hg h => ?_)
  · obtain ⟨v, p, st, xs, ps, rfl, _⟩ := h; rfl
  have nd := sc_fits.nd
  obtain ⟨v, p, st, xs, ps, rfl, ⟨t, rfl, ht⟩, hok, hp, hps, hnd, hl, q⟩ := h
  have hlp := prtsA_len hps
  refine ⟨_, (pss_cons (ps_if (pt_cmpR op_in_seq (pe_ix ix_tup (pv 0) pe_int (fun _ _ => rfl)) (pe_glob (v := .ref 142) rfl (mg_SIGNALLING M) rfl) (by rfl)) (pss_one (ps_ret (pe_cmpR op_in_seq (pe_ix ix_tup (pv 0) pe_int (fun _ _ => rfl)) (pe_lc (own := [("signal", 2)]) (g := gName 2) (by rfl) nd (pi_tup (pe_cl (takes_of rfl rfl rfl rfl) (ok_of_class M) (hr.mono (by decide)) hg rfl (mg_of_class M) (kp_of_class w) (pa_cons (pv 1) (pa_cons pe_str pa_nil)))) (blkOk_by (own := [("signal", 2)]) (N := ["step", "parts", "signal", "sizes", "variable"]) (sc := defScope s_fits) (by decide +kernel)) (fun _ _ _ _ _ => (pg_name (i := 2) nd rfl (Or.inl rfl))) (fun _ _ _ _ _ => pts_nil) (fun _ _ _ _ _ => (xpe_fld (hd12.heap_39 w.params) (pv 2) rfl))) (by rfl)))) pss_nil)
      (pss_cons (ps_setDcK (i := 3) (own := [("variable", 4)]) (g := gName 4) (by rfl) nd rfl rfl (sw_trueD rfl rfl rfl (by decide +kernel)) (pi_tup (pe_cl (takes_of rfl rfl rfl rfl) (ok_of_class M) (hr.mono (by decide)) hg rfl (mg_of_class M) (kp_of_class w) (pa_cons (pv 1) (pa_cons pe_str pa_nil)))) (blkOk_by (own := [("variable", 4)]) (N := ["step", "parts", "signal", "sizes", "variable"]) (sc := defScope s_fits) (by decide +kernel)) (fun _ _ _ _ _ => (pg_name (i := 4) nd rfl (Or.inl rfl))) (fun _ _ _ _ _ => pts_nil) (fun _ _ _ _ _ => (xpe_fld (hd12.heap_39 w.params) (pv 4) rfl)) (fun _ _ _ _ _ => (xpe_fld (hd12.heap_39 w.params) (pv 4) rfl)))
      (pss_one (ps_ret (pe_and (pe_cmp (pc_din (hu_of hr) (pe_ix ix_tup (pv 0) pe_int (fun _ _ => rfl)) (pv 3)) rfl) (pe_one (pe_cmpR op_lt (pe_ix ix_tup (pv 0) pe_int (fun _ _ => rfl)) (pe_dget (hu_of hr) (pv 3) (pe_ix ix_tup (pv 0) pe_int (fun _ _ => rfl)) (fun _ _ => rfl)) (nomark _)))))))), ?_⟩
  cases st with
  | two w0 n =>
    have ho := ok_two hok
    refine ⟨_, rfl, t, _, 0, .str w0, rfl, rfl, ht, atI_nat (j := 0) rfl, 142, _, rfl, .inr (sq_SIGNALLING w _), rfl, L2.flat_strs ["post", "wait"], ?_⟩
    refine ⟨_, rfl, ifT (sig_two w0 ho.2) ?_⟩
    refine ⟨_, rfl, t, _, 1, .str n, rfl, rfl, ht, atI_nat (j := 1) rfl, ?_⟩
    refine ⟨_, rfl, rfl, 1, p, xs, ps, rfl, by decide, hp, hps, hl, fun t1 H1 s1 e1 => ⟨t1, rfl, ⟨_, SqT.of e1⟩, fun D hD => ?_⟩⟩
    have hpc := ofA_parts 1 (prtsA_mono s1 hps)
    have hlc := prtsA_len hpc
    refine lc_it (walk_tup (xs := (ofA 1 xs ps).map V.ref)) (fun j H' => Same H1 H' ∧ H' D = some (.lst ((((ofC 1 ps).take j).map Prt.n).map V.str))) ⟨same_new hD, upd_same⟩ (fun j H' _ h => SqT.of (h.1 _ _ e1)) (fun j v H7 H8 hj h y => ?_) (fun H' h => ?_)
    · obtain ⟨sd, eD⟩ := h
      obtain ⟨rfl, hv⟩ := y
      obtain ⟨x2, hx2, rfl⟩ := map_ref_get hv
      obtain ⟨r2, hr3, hA2⟩ := prtsA_get hpc hx2
      obtain ⟨C2, dx2, fs2, hC2, cC2, nC2, lC2⟩ := prt_name (prtA_mono sd hA2)
      refine ⟨rfl, ?_⟩
      refine ⟨_, rfl, x2, C2, dx2, fs2, _, rfl, hC2, cC2, nC2, lC2, _, eD, ?_, same_upd sd hD, ?_⟩
      · rw [List.length_map, List.length_map]
        have := ofC_le 1 ps
        exact small (Nat.le_trans (List.length_take_le ..) (by rw [List.length_map] at hj; omega))
      · rw [upd_same, List.take_add_one, hr3, List.map_append, List.map_append] <;> rfl
    · obtain ⟨sd, eD⟩ := h
      rw [take_all (by rw [List.length_map, hlc]; exact Nat.le_refl _)] at eD
      refine ⟨D, _, rfl, .inl (SqL.of eD), rfl, L2.flat_strs _, ?_⟩
      have eb : inV (.str n) (((ofC 1 ps).map Prt.n).map V.str) = fitsB ps (.two w0 n) := inV_strs _ _
      rw [show (if false = true then !inV (.str n) (((ofC 1 ps).map Prt.n).map V.str) else inV (.str n) (((ofC 1 ps).map Prt.n).map V.str)) = fitsB ps (.two w0 n) from eb]
      exact q H' (same_trans s1 sd)
  | five w0 n sh fi la =>
    have ho := ok_five hok
    refine ⟨_, rfl, t, _, 0, .str w0, rfl, rfl, ht, atI_nat (j := 0) rfl, 142, _, rfl, .inr (sq_SIGNALLING w _), rfl, L2.flat_strs ["post", "wait"], ?_⟩
    refine ⟨_, rfl, ifF (not_sig ho.2.1) ?_⟩
    refine ⟨_, rfl, rfl, 2, p, xs, ps, rfl, by decide, hp, hps, hl, fun t1 H1 s1 e1 => ⟨t1, rfl, ⟨_, SqT.of e1⟩, fun D hD => ?_⟩⟩
    have hpc := ofA_parts 2 (prtsA_mono s1 hps)
    have hlc := prtsA_len hpc
    have hnc := ofC_names 2 hnd
    refine cc_it (o0 := fun _ => .dK []) (walk_tup (xs := (ofA 2 xs ps).map V.ref)) (fun j H' => Same H1 H' ∧ H' D = some (.dK (((ofC 2 ps).take j).map fun p => ((Sum.inr p.n : Key), V.int p.sz)))) ⟨same_new hD, upd_same⟩ (fun j H' _ h => SqT.of (h.1 _ _ e1)) (fun j v H7 H8 hj h y => ?_) (fun H' h => ?_)
    · obtain ⟨sd, eD⟩ := h
      obtain ⟨rfl, hv⟩ := y
      obtain ⟨x2, hx2, rfl⟩ := map_ref_get hv
      obtain ⟨r2, hr3, hA2⟩ := prtsA_get hpc hx2
      obtain ⟨n2, b2, as2, rfl⟩ := cl2 (ofC_mem (List.mem_of_getElem? hr3)).2
      obtain ⟨dx, pa, sq, hx3, hpa, hsq⟩ := prtA_mono sd hA2
      refine ⟨rfl, ?_⟩
      refine ⟨_, rfl, x2, 411, dx, _, _, rfl, hx3, cls_Variable w, na_Variable_name w, rfl, ?_⟩
      refine ⟨_, rfl, x2, 411, dx, _, _, rfl, hx3, cls_Variable w, na_Variable_size w, rfl, _, Sum.inr n2, rfl, eD, ?_, same_upd sd hD, ?_⟩
      · rw [List.length_map]
        have := ofC_le 2 ps
        rw [List.length_take]
        exact small (by omega)
      · rw [upd_same, putK_new _ (by
          rw [valV_names]
          rw [show (((ofC 2 ps).take j).find? fun p => p.n == n2) = none from List.find?_eq_none.mpr fun p hp e => ?_] <;> try rfl
          have e := beq_iff_eq.mp e
          obtain ⟨i, hi⟩ := List.getElem?_of_mem hp
          have hij : i < j := by
            have := (List.getElem?_eq_some_iff.mp hi).1
            rw [List.length_take] at this
            omega
          rw [List.getElem?_take_of_lt hij] at hi
          exact nodup_at hnc hij hi hr3 e), List.take_add_one, hr3, List.map_append] <;> rfl
    · obtain ⟨sd, eD⟩ := h
      rw [take_all (by rw [List.length_map, hlc]; exact Nat.le_refl _)] at eD
      have s2 := same_trans s1 sd
      have ht2 := st_mono s2 ht
      refine ⟨_, rfl, t, _, 1, .str n, rfl, rfl, ht2, atI_nat (j := 1) rfl, ?_⟩
      refine ⟨_, rfl, D, _, rfl, DGet.k (k := Sum.inr n) eD, _, rfl, ?_⟩
      have q := q H' s2
      have ev : valV ((ofC 2 ps).map fun p => ((Sum.inr p.n : Key), V.int p.sz)) (Sum.inr n) = (sizeOf? ps n).map V.int := valV_names n (ofC 2 ps)
      rw [ev]
      cases e : sizeOf? ps n with
      | none =>
        rw [show fitsB ps (.five w0 n sh fi la) = false by show (match sizeOf? ps n with | some b => decide (la < b) | none => false) = false; rw [e]] at q
        exact ifF rfl q
      | some b =>
        rw [show fitsB ps (.five w0 n sh fi la) = decide (la < b) by show (match sizeOf? ps n with | some b => decide (la < b) | none => false) = _; rw [e]] at q
        refine ifT rfl ?_
        refine ⟨_, rfl, t, _, 4, .int la, rfl, rfl, ht2, atI_nat (j := 4) rfl, _, rfl, ?_⟩
        refine ⟨_, rfl, t, _, 1, .str n, rfl, rfl, ht2, atI_nat (j := 1) rfl, D, .int b, rfl, ?_, _, _, rfl, rfl, q⟩
        have z := DGet.k (k := Sum.inr n) eD
        rw [ev, e] at z
        exact z
end
end M12

namespace M12
open PySem PySem.Spec PyProof.Rows L2 StX Uk
local macro_rules | `(tactic| wtm_at "cls") => `(tactic| first | exact cls_Agent _ | exact cls_Signal _ | exact cls_Variable _ | exact cls_Net _)
local macro_rules | `(tactic| wtm_at "na") => `(tactic| first | exact na_Agent_name _ | exact na_Agent_steps _ | exact na_Agent_shape _ | exact na_Signal_name _ | exact na_Signal_tokens _ | exact na_Variable_name _ | exact na_Variable_size _ | exact na_Variable_at _ | exact na_Variable_shape _ | exact na_Net_line _ | exact na_Net_ring _ | exact na_Net_variables _ | exact na_Net_signals _ | exact na_Net_agents _ | exact na_Net_shape _ | exact na_Net_by_name _ | exact na_Net_bytes_at _ | exact na_Net_lines_at _)
section
variable {mg : PySem.Str → Option Value} {base : Heap} {w : World}
theorem ag_steps {w : World} {H : Hp} {x k n ss} (h : PrtA cs (hd12.heap_39 w.params) H x (.ag k n ss)) : ∃ C dx fs pa vs, H x = some (.ins C dx fs) ∧ Cls (hd12.heap_39 w.params) C ∧ NoAttr (hd12.heap_39 w.params) C "steps" ∧ fs.lookup ("steps" : Str) = some (V.ref pa) ∧ H pa = some (.tup vs) ∧ StpsV (hd12.heap_39 w.params) H vs ss := by
  obtain ⟨dx, pa, q, vs, h, hpa, hs, _, hk⟩ := h
  rcases lt3 hk with rfl | rfl | rfl
  · exact ⟨_, dx, _, pa, vs, h, cls_Agent w, na_Agent_steps w, rfl, hpa, hs⟩
  · exact ⟨_, dx, _, pa, vs, h, cls_Through w, na_Through_steps w, rfl, hpa, hs⟩
  · exact ⟨_, dx, _, pa, vs, h, cls_Back w, na_Back_steps w, rfl, hpa, hs⟩
theorem ok_check_steps (M : Mod (hd12.heap_39 w.params) mg base) : CallG PP w (hd12.heap_39 w.params) mg base 6 (.ref 449) (pos (spCkS (hd12.heap_39 w.params) ckS)) := by
  obtain ⟨fd, F⟩ := fn_check_steps w
  refine def_pos F sc_check_steps (fun vs H Q E h => ?_) (fun _ _ _ _ _ _ us hl => match us, hl with | [_], _ => rfl) (fun cdv A outer s H vs Q E hr hg h => ?_)
  · obtain ⟨p, xs, ps, rfl, _⟩ := h; rfl
  have nd := sc_check_steps.nd
  obtain ⟨p, xs, ps, rfl, hp, hps, hok, hnd, hl, q⟩ := h
  refine ⟨_, (pss_one (ps_for (passes_of rfl) rfl (pi_enumT (by rfl) (mn_enumerate M) (pa_cons (pe_cl (takes_of rfl rfl rfl rfl) (ok_of_class M) (hr.mono (by decide)) hg rfl (mg_of_class M) (kp_of_class w) (pa_cons (pv 0) (pa_cons pe_str pa_nil))) pa_nil)) (pg_tup (by rfl) (pgs_cons (pg_name (i := 1) nd rfl (.inl rfl)) (pgs_cons (pg_name (i := 2) nd rfl (.inl rfl)) pgs_nil))) (pss_one (ps_for (passes_of rfl) rfl (pi_enumT (by rfl) (mn_enumerate M) (pa_cons (pe_fld (pv 2) rfl) pa_nil)) (pg_tup (by rfl) (pgs_cons (pg_name (i := 3) nd rfl (.inl rfl)) (pgs_cons (pg_name (i := 4) nd rfl (.inl rfl)) pgs_nil))) (pss_one (ps_if (pt_not (pt_val (pe_cl (takes_of rfl rfl rfl rfl) (ok_fits M) (hr.mono (by decide)) hg rfl (mg_fits M) (kp_fits w) (pa_cons (pv 4) (pa_cons (pv 0) pa_nil))))) (pss_one (ps_raise rfl (takes_of rfl rfl rfl rfl) (pmk_E (mke_NoNet w) (takes_of rfl rfl rfl rfl) (ok_NoNet___init__ M) (hr.mono (by decide)) hg (kp_NoNet w) rfl (mg_NoNet M) (pa_cons pe_str (pa_cons (pe_tup (pa_cons (pv 1) (pa_cons (pv 3) pa_nil))) pa_nil)) (by decide)))) pss_nil)))))), ?_⟩
  refine ⟨_, rfl, rfl, 0, p, xs, ps, rfl, by decide, hp, hps, hl, fun t1 H1 s1 e1 => ⟨t1, _, rfl, SqT.of e1, ?_⟩⟩
  have hp := st_mono s1 hp
  have hps := prtsA_mono s1 hps
  have hpc := ofA_parts 0 hps
  have hlc := prtsA_len hpc
  have q := okOrN.same q s1
  refine for_it walk_enumT (fun i σ H' => (∃ o1 o2 o3 o4, σ = [some (.ref p), o1, o2, o3, o4]) ∧ Same H1 H' ∧ ∀ j, j < i → (stepAt ps j).isSome = false) ⟨⟨_, _, _, _, rfl⟩, Same.rfl, fun j hj => absurd hj (Nat.not_lt_zero j)⟩ (fun i σ H' _ h => SqT.of (h.2.1 _ _ e1)) (fun i x σ H2 H3 hi h y => ?_) (fun σ H2 h => ?_)
  · obtain ⟨⟨o1, o2, o3, o4, rfl⟩, sm, hno⟩ := h
    obtain ⟨T, kk, v, rfl, hT, rfl, hkk, hv⟩ := y
    cases hkk
    rw [List.length_map] at hi
    obtain ⟨x, hx, rfl⟩ := map_ref_get hv
    obtain ⟨r, hr2, hA⟩ := prtsA_get hpc hx
    obtain ⟨hm, hcl⟩ := ofC_mem (List.mem_of_getElem? hr2)
    obtain ⟨k, n, ss, rfl⟩ := cl0 hcl
    have hoks := (hok _ hm).2.2.2.2
    have s2 := same_trans sm (same_new (o := .tup [.int i, .ref x]) hT)
    have hA := prtA_mono s2 hA
    obtain ⟨C, dx, fs, pa, vs, hC, cC, nC, lC, hpa, hss⟩ := ag_steps hA
    have hls := stpsV_len hss
    have est : stepAt ps i = firstK (misAt ps ss) 0 ss.length := by
      unfold stepAt
      rw [prtAt_of hr2] <;> rfl
    refine ⟨T, _, rfl, SqT.of upd_same, rfl, _, _, rfl, _, _, rfl, rfl, ?_⟩
    refine ⟨_, rfl, x, C, dx, fs, _, rfl, hC, cC, nC, lC, pa, vs, rfl, SqT.of hpa, ?_⟩
    refine for_it walk_enumT (fun m σ H' => (∃ o3 o4, σ = [some (.ref p), some (.int (i : Int)), some (.ref x), o3, o4]) ∧ Same (upd H2 T (.tup [.int i, .ref x])) H' ∧ ∀ j, j < m → misAt ps ss j = false) ⟨⟨_, _, rfl⟩, Same.rfl, fun j hj => absurd hj (Nat.not_lt_zero j)⟩ (fun m σ H' _ h => SqT.of (h.2.1 _ _ hpa)) (fun m x2 σ H4 H5 hm2 h y => ?_) (fun σ H4 h => ?_)
    · obtain ⟨⟨o3, o4, rfl⟩, s4, hno2⟩ := h
      obtain ⟨T2, kk, v2, rfl, hT2, rfl, hkk, hv2⟩ := y
      cases hkk
      obtain ⟨st, hst, hsv⟩ := stpsV_get hss hv2
      have s5 := same_trans s4 (same_new (o := .tup [.int m, v2]) hT2)
      have s25 := same_trans s2 s5
      have hsv := stpV_mono s5 hsv
      have emis : misAt ps ss m = !fitsB ps st := by
        unfold misAt
        rw [List.getD_eq_getElem?_getD, hst] <;> rfl
      refine ⟨T2, _, rfl, SqT.of upd_same, rfl, _, _, rfl, _, _, rfl, rfl, ?_⟩
      refine ⟨_, rfl, _, rfl, rfl, v2, p, st, xs, ps, rfl, hsv, (hoks st (List.mem_of_getElem? hst)).1, st_mono s25 hp, prtsA_mono s25 hps, hnd, hl, fun H6 s6 => ⟨_, rfl, ite_b (fun h1 => ?_) (fun h1 => ?_)⟩⟩
      · have h1 : misAt ps ss m = true := emis.trans h1
        refine ⟨_, rfl, _, rfl, Nat.le_of_ble_eq_true rfl, fun z hz => ⟨rfl, fun d2 hd2 => ?_⟩⟩
        have e2 : stepAt ps i = some m := by rw [est, firstK_some (k := 0) (i := m) (fun j hj => by rw [Nat.zero_add]; exact hno2 j hj) (by rw [Nat.zero_add]; exact h1) (by omega), Nat.zero_add]
        have e : ckS ps = some (("step" : Str), .two i m) := by
          unfold ckS
          rw [firstK_some (p := fun a => (stepAt ps a).isSome) (k := 0) (i := i) (fun j hj => by rw [Nat.zero_add]; exact hno j hj) (by rw [Nat.zero_add, e2] <;> rfl) (by omega), Nat.zero_add]
          show some (("step" : Str), Pl.two i ((stepAt ps i).getD 0)) = _
          rw [e2] <;> rfl
        rw [e] at q
        exact q _ d2 _ (same_trans (same_trans s25 s6) (same_trans (same_new hz) (same_new hd2))) ⟨z, rfl, at_new hd2 upd_same⟩ upd_same
      · have h1 : misAt ps ss m = false := emis.trans h1
        refine ⟨⟨_, _, rfl⟩, same_trans s5 s6, fun j hj => ?_⟩
        rcases lt_succ_cases hj with h | rfl
        · exact hno2 j h
        · exact h1
    · obtain ⟨⟨o3, o4, rfl⟩, s4, hno2⟩ := h
      refine ⟨⟨_, _, _, _, rfl⟩, same_trans s2 s4, fun j hj => ?_⟩
      rcases lt_succ_cases hj with h | rfl
      · exact hno j h
      · rw [est, firstK_none fun j hj => by rw [Nat.zero_add]; exact hno2 j (by omega)] <;> rfl
  · obtain ⟨_, sm, hno⟩ := h
    rw [List.length_map] at hno
    have e : ckS ps = none := by
      unfold ckS
      rw [firstK_none fun j hj => by rw [Nat.zero_add]; exact hno j (by omega)] <;> rfl
    rw [e] at q
    exact q H2 sm
end
end M12

namespace M12
open PySem PySem.Spec PyProof.Rows L2 StX Uk
local macro_rules | `(tactic| wtm_at "cls") => `(tactic| first | exact cls_Agent _ | exact cls_Signal _ | exact cls_Variable _ | exact cls_Net _)
local macro_rules | `(tactic| wtm_at "na") => `(tactic| first | exact na_Agent_name _ | exact na_Agent_steps _ | exact na_Agent_shape _ | exact na_Signal_name _ | exact na_Signal_tokens _ | exact na_Variable_name _ | exact na_Variable_size _ | exact na_Variable_at _ | exact na_Variable_shape _ | exact na_Net_line _ | exact na_Net_ring _ | exact na_Net_variables _ | exact na_Net_signals _ | exact na_Net_agents _ | exact na_Net_shape _ | exact na_Net_by_name _ | exact na_Net_bytes_at _ | exact na_Net_lines_at _)
section
variable {mg : PySem.Str → Option Value} {base : Heap} {w : World}
theorem ok_check_signals (M : Mod (hd12.heap_39 w.params) mg base) : CallG PP w (hd12.heap_39 w.params) mg base 6 (.ref 454) (pos (spCkS (hd12.heap_39 w.params) ckG)) := by
  obtain ⟨fd, F⟩ := fn_check_signals w
  refine def_pos F sc_check_signals (fun vs H Q E h => ?_) (fun _ _ _ _ _ _ us hl => match us, hl with | [_], _ => rfl) (fun cdv A outer s H vs Q E hr hg h => ?_)
  · obtain ⟨p, xs, ps, rfl, _⟩ := h; rfl
  have nd := sc_check_signals.nd
  obtain ⟨p, xs, ps, rfl, hp, hps, hok, hnd, hl, q⟩ := h
  refine ⟨_, (pss_cons (ps_setLc2 (i := 1) (own := [("agent", 2), ("row", 3)]) (g := gName 2) (g1 := gName 3) (vs1 := [3]) (by rfl) nd rfl rfl (sw_true rfl rfl rfl (by decide +kernel)) (pi_tup (pe_cl (takes_of rfl rfl rfl rfl) (ok_of_class M) (hr.mono (by decide)) hg rfl (mg_of_class M) (kp_of_class w) (pa_cons (pv 0) (pa_cons pe_str pa_nil)))) (blkOk_by (own := [("agent", 2), ("row", 3)]) (N := ["parts", "steps", "agent", "row", "k", "part"]) (sc := defScope s_check_signals) (by decide +kernel)) (by decide) (fun _ _ _ _ _ => (pg_name (i := 2) nd rfl (Or.inl rfl))) (fun _ _ _ _ _ => pts_nil) (fun _ _ _ _ _ => (xpi_tup (hd12.heap_39 w.params) (xpe_fld (hd12.heap_39 w.params) (pv 2) rfl))) (fun _ _ _ _ _ => (pg_name (i := 3) nd rfl (Or.inl rfl))) (fun _ _ _ _ _ => pts_nil) (fun _ _ _ _ _ => (pv 3)))
      (pss_one (ps_for (passes_of rfl) rfl (pi_enumT (by rfl) (mn_enumerate M) (pa_cons (pv 0) pa_nil)) (pg_tup (by rfl) (pgs_cons (pg_name (i := 4) nd rfl (.inl rfl)) (pgs_cons (pg_name (i := 5) nd rfl (.inl rfl)) pgs_nil))) (pss_one (ps_if (pt_val (pe_callB call_isi (by rfl) (mn_isinstance M) (by decide +kernel) (pa_cons (pv 5) (pa_cons (pe_glob (v := .ref 337) rfl (mg_Signal M) rfl) pa_nil)))) (pss_one (ps_if (PW.pt (pw_or (pt_cmpR op_ne (pe_bm PySem.F.plainAttrs_list PySem.F.slot_list_count PySem.F.type_list_count (mt_countD (hu_big hr)) (pv 1) (pa_cons (pe_tup (pa_cons pe_str (pa_cons (pe_fld (pv 5) rfl) pa_nil))) pa_nil)) pe_int (nomark _)) (pw_or1 (pt_cmpR op_ne (pe_bm PySem.F.plainAttrs_list PySem.F.slot_list_count PySem.F.type_list_count (mt_countD (hu_big hr)) (pv 1) (pa_cons (pe_tup (pa_cons pe_str (pa_cons (pe_fld (pv 5) rfl) pa_nil))) pa_nil)) pe_int (nomark _))))) (pss_one (ps_raise rfl (takes_of rfl rfl rfl rfl) (pmk_E (mke_NoNet w) (takes_of rfl rfl rfl rfl) (ok_NoNet___init__ M) (hr.mono (by decide)) hg (kp_NoNet w) rfl (mg_NoNet M) (pa_cons pe_str (pa_cons (pv 4) pa_nil)) (by decide)))) pss_nil)) pss_nil))))), ?_⟩
  refine ⟨_, rfl, rfl, 0, p, xs, ps, rfl, by decide, hp, hps, hl, fun t1 H1 s1 e1 => ⟨t1, rfl, ⟨_, SqT.of e1⟩, fun D hD => ?_⟩⟩
  have hp := st_mono s1 hp
  have hps := prtsA_mono s1 hps
  have hpc := ofA_parts 0 hps
  have hlc := prtsA_len hpc
  have hlp := prtsA_len hps
  have q := okOrN.same q s1
  have hss0 : ∀ s ∈ allSs ps, s.ok = true := fun s hs => by
    obtain ⟨r, hr, hsr⟩ := List.mem_flatMap.mp hs
    obtain ⟨hm, hcl⟩ := ofC_mem hr
    obtain ⟨k, n, ss, rfl⟩ := cl0 hcl
    exact ((hok _ hm).2.2.2.2 s hsr).1
  have hlay : ∀ s ∈ allSs ps, s.lay = true := fun s hs => ok_lay (hss0 s hs)
  have hss1 : ∀ l : List Prt, (∀ r ∈ l, r ∈ ofC 0 ps) → (l.flatMap Prt.ss).length ≤ 24 * l.length := fun l hl => by
    induction l with
    | nil => exact Nat.zero_le _
    | cons r l ih =>
      obtain ⟨hm, hcl⟩ := ofC_mem (hl r (List.mem_cons_self ..))
      obtain ⟨k, n, ss, rfl⟩ := cl0 hcl
      have := ih fun r hr => hl r (List.mem_cons_of_mem _ hr)
      have h24 : ss.length ≤ 24 := (hok _ hm).2.2.2.1
      rw [List.flatMap_cons, List.length_append, List.length_cons]
      show ss.length + _ ≤ _
      omega
  refine lc2_it (walk_tup (xs := (ofA 0 xs ps).map V.ref)) (fun j H' => Same H1 H' ∧ ∃ acc, H' D = some (.lst acc) ∧ StpsV (hd12.heap_39 w.params) H1 acc (((ofC 0 ps).take j).flatMap Prt.ss)) ⟨same_new hD, [], upd_same, .nil⟩ (fun j H' _ h => SqT.of (h.1 _ _ e1)) (fun j v H4 H5 hj h y => ?_) (fun H2 h => ?_)
  · obtain ⟨sd, acc, eD, hacc⟩ := h
    obtain ⟨rfl, hv⟩ := y
    rw [List.length_map] at hj
    obtain ⟨x, hx, rfl⟩ := map_ref_get hv
    obtain ⟨r, hr2, hA⟩ := prtsA_get hpc hx
    obtain ⟨hm, hcl⟩ := ofC_mem (List.mem_of_getElem? hr2)
    obtain ⟨k, n, ss, rfl⟩ := cl0 hcl
    obtain ⟨C, dx, fs, pa, vs, hC, cC, nC, lC, hpa, hss⟩ := ag_steps hA
    have hls := stpsV_len hss
    have h24 : ss.length ≤ 24 := (hok _ hm).2.2.2.1
    have hacl := stpsV_len hacc
    have hal := hss1 ((ofC 0 ps).take j) fun r hr => List.mem_of_mem_take hr
    rw [List.length_take] at hal
    have hol := ofC_le 0 ps
    refine ⟨rfl, ?_⟩
    refine ⟨_, rfl, x, C, dx, fs, _, rfl, sd _ _ hC, cC, nC, lC, pa, rfl, ⟨_, SqT.of (sd _ _ hpa)⟩, ?_⟩
    refine in_it (walk_tup (xs := vs)) (fun i H' => Same H1 H' ∧ H' D = some (.lst (acc ++ vs.take i))) ⟨sd, by rw [eD]; simp⟩ (fun i H' _ h => SqT.of (h.1 _ _ hpa)) (fun i v H6 H7 hi h y => ?_) (fun H' h => ?_)
    · obtain ⟨s7, e7⟩ := h
      obtain ⟨rfl, hv⟩ := y
      refine ⟨rfl, ?_⟩
      refine ⟨_, rfl, _, e7, ?_, same_upd s7 hD, ?_⟩
      · rw [List.length_append, List.length_take]
        exact small (by omega)
      · rw [upd_same, List.take_add_one, hv, List.append_assoc] <;> rfl
    · obtain ⟨s7, e7⟩ := h
      rw [take_all (Nat.le_refl _)] at e7
      refine ⟨s7, _, e7, ?_⟩
      rw [List.take_add_one, hr2, List.flatMap_append]
      refine stpsV_app hacc ?_
      rw [show (some (Prt.ag k n ss)).toList.flatMap Prt.ss = ss from by simp [Prt.ss]]
      exact hss
  obtain ⟨sd, rows, eD, hrows⟩ := h
  rw [take_all (by rw [List.length_map, hlc]; exact Nat.le_refl _)] at hrows
  have hrows : StpsV (hd12.heap_39 w.params) H1 rows (allSs ps) := hrows
  have hp := st_mono sd hp
  have hps := prtsA_mono sd hps
  have q := okOrN.same q sd
  refine ⟨_, rfl, p, _, rfl, hp, ?_⟩
  refine for_it walk_enumT (fun i σ H' => (∃ o2 o3 o4 o5, σ = [some (.ref p), some (.ref D), o2, o3, o4, o5]) ∧ Same H2 H' ∧ ∀ j, j < i → sigAt ps j = false) ⟨⟨_, _, _, _, rfl⟩, Same.rfl, fun j hj => absurd hj (Nat.not_lt_zero j)⟩ (fun i σ H' _ h => st_mono h.2.1 hp) (fun i x σ H3 H4 hi h y => ?_) (fun σ H3 h => ?_)
  · obtain ⟨⟨o2, o3, o4, o5, rfl⟩, sm, hno⟩ := h
    obtain ⟨T, kk, v, rfl, hT, rfl, hkk, hv⟩ := y
    cases hkk
    rw [List.length_map] at hi
    obtain ⟨x, hx, rfl⟩ := map_ref_get hv
    obtain ⟨r, hr2, hA⟩ := prtsA_get hps hx
    have s2 := same_trans sm (same_new (o := .tup [.int i, .ref x]) hT)
    have hA := prtA_mono s2 hA
    have next : ∀ H', Same H2 H' → sigAt ps i = false → (∃ a b c d, [some (V.ref p), some (.ref D), o2, o3, some (.int (i : Int)), some (.ref x)] = [some (.ref p), some (.ref D), a, b, c, d]) ∧ Same H2 H' ∧ ∀ j, j < i + 1 → sigAt ps j = false := fun H' s e => ⟨⟨_, _, _, _, rfl⟩, s, fun j hj => by
      rcases lt_succ_cases hj with h | rfl
      · exact hno j h
      · exact e⟩
    refine ⟨T, _, rfl, SqT.of upd_same, rfl, _, _, rfl, _, _, rfl, rfl, ?_⟩
    refine ⟨_, rfl, _, _, _, _, _, rfl, .own _, prt_ty hA, prt_kt 1 (by decide) hA, _, rfl, ite_b (fun hc => ?_) (fun hc => ?_)⟩
    · obtain ⟨n, tk, rfl⟩ := cl1 (beq_iff_eq.mp hc)
      have hn := (hok _ (List.mem_of_getElem? hr2)).1
      obtain ⟨C, dx, fs, hC, cC, nC, lC⟩ := prt_name hA
      have eD2 := s2 _ _ eD
      have s20 := same_trans sd s2
      have esg : sigAt ps i = !(decide ((allSs ps).count (.two "post" n) = 1) && decide ((allSs ps).count (.two "wait" n) = 1)) := by
        unfold sigAt
        rw [prtAt_of hr2]
      have eV : ∀ c : Nat, decide (V.int (c : Int) = V.int 1) = decide (c = 1) := fun c => decide_eq_decide.mpr ⟨fun h => by cases c with | zero => cases h | succ c => injection h with h; omega, fun h => by rw [h] <;> rfl⟩
      have bad : ∀ H5, Same H2 H5 → sigAt ps i = true → ∀ d2, H5 d2 = none → E (.ref 74) (some d2) (upd H5 d2 (.xd [("place", .int i), ("reason", .str "signal")])) := fun H5 s5 hb d2 hd2 => by
        have e : ckG ps = some (("signal" : Str), .at_ i) := firstR_some hno hb (by omega)
        rw [e] at q
        exact q _ d2 _ (same_trans s5 (same_new hd2)) rfl upd_same
      have hC0 := hC
      have eD0 := eD2
      refine ⟨_, rfl, .inl ⟨rfl, _, SqL.of eD0⟩, _, rfl, x, C, dx, fs, _, rfl, hC0, cC, nC, lC, Nat.le_of_ble_eq_true rfl, fun z0 hz0 => ?_⟩
      refine ⟨D, .ref z0, (Stp.two "post" n).d, (allSs ps).map Stp.d, rfl, rfl, .lst (SqL.of (at_new hz0 eD0)) (stpsV_dp (stpsV_mono (same_trans s20 (same_new hz0)) hrows)), .tup (SqT.of upd_same) (.cons (.str _) (.cons (.str _) .nil)), stps_shaped _ hlay, lay2 "post" n (by decide) hn, by rw [stp_depth]; decide, rfl, _, rfl, ?_⟩
      rw [stp_count]
      rw [eV]
      refine ite_b (fun h1 => ?_) (fun h1 => ?_)
      · refine ifT rfl ⟨_, rfl, rfl, bad _ (same_trans s2 (same_new hz0)) (by rw [esg, not_b h1] <;> rfl)⟩
      have s21 := same_trans s20 (same_new (o := .tup [.str "post", .str n]) hz0)
      have hC1 := at_new (o := .tup [.str "post", .str n]) hz0 hC0
      have eD1 := at_new (o := .tup [.str "post", .str n]) hz0 eD0
      refine ⟨_, rfl, .inl ⟨rfl, _, SqL.of eD1⟩, _, rfl, x, C, dx, fs, _, rfl, hC1, cC, nC, lC, Nat.le_of_ble_eq_true rfl, fun z1 hz1 => ?_⟩
      refine ⟨D, .ref z1, (Stp.two "wait" n).d, (allSs ps).map Stp.d, rfl, rfl, .lst (SqL.of (at_new hz1 eD1)) (stpsV_dp (stpsV_mono (same_trans s21 (same_new hz1)) hrows)), .tup (SqT.of upd_same) (.cons (.str _) (.cons (.str _) .nil)), stps_shaped _ hlay, lay2 "wait" n (by decide) hn, by rw [stp_depth]; decide, rfl, _, rfl, ?_⟩
      rw [stp_count]
      rw [eV]
      have s22 := same_trans s2 (same_trans (same_new (o := .tup [.str "post", .str n]) hz0) (same_new (o := .tup [.str "wait", .str n]) hz1))
      refine ite_b (fun h2 => ?_) (fun h2 => ?_)
      · exact ⟨_, rfl, rfl, bad _ s22 (by rw [esg, not_b' h1, not_b h2] <;> rfl)⟩
      · exact next _ s22 (by rw [esg, not_b' h1, not_b' h2] <;> rfl)
    · exact next _ s2 (by
        unfold sigAt
        rw [prtAt_of hr2]
        cases r <;> first | rfl | cases hc)
  · obtain ⟨_, sm, hno⟩ := h
    rw [List.length_map, hlp] at hno
    rw [show ckG ps = none from firstR_none hno] at q
    exact q H3 sm
end
end M12

namespace M12
open PySem PySem.Spec PyProof.Rows L2 StX Uk
local macro_rules | `(tactic| wtm_at "cls") => `(tactic| first | exact cls_Agent _ | exact cls_Signal _ | exact cls_Variable _ | exact cls_Net _)
local macro_rules | `(tactic| wtm_at "na") => `(tactic| first | exact na_Agent_name _ | exact na_Agent_steps _ | exact na_Agent_shape _ | exact na_Signal_name _ | exact na_Signal_tokens _ | exact na_Variable_name _ | exact na_Variable_size _ | exact na_Variable_at _ | exact na_Variable_shape _ | exact na_Net_line _ | exact na_Net_ring _ | exact na_Net_variables _ | exact na_Net_signals _ | exact na_Net_agents _ | exact na_Net_shape _ | exact na_Net_by_name _ | exact na_Net_bytes_at _ | exact na_Net_lines_at _)

def spLines (K : PySem.W.Frag) : Sp := fun vs H Q _ => ∃ (p : Addr) (line : Int) (ns : List Int), vs = [.ref p, .int line] ∧ SqT K H p (ns.map V.int) ∧ 1 ≤ line ∧ line ≤ 16 ∧ ns.length ≤ 8 ∧ (∀ a ∈ ns, 0 ≤ a ∧ a < 1024) ∧ ∀ t H', Same H H' → H' t = some (.tup ((linesL ns line).map V.int)) → Q (.ref t) H'
def spBir (K : PySem.W.Frag) : Sp := fun vs H Q _ => ∃ (x t dx pa bn : Addr) (fs : List (Str × V)) (ring : Int) (xs : List Addr) (ps : List Prt) (q : Nat × Nat) (st : Stp), vs = [.ref x, .ref t] ∧ H x = some (.ins 599 dx fs) ∧ fs.lookup ("agents" : Str) = some (.ref pa) ∧ fs.lookup ("by_name" : Str) = some (.ref bn) ∧ fs.lookup ("ring" : Str) = some (.int ring) ∧
  SqT K H pa ((ofA 0 xs ps).map V.ref) ∧ H bn = some (.dK (nameKv xs ps)) ∧ PrtsA cs K H xs ps ∧ (∀ p ∈ ps, p.ok) ∧ (ps.map Prt.n).Nodup ∧ 1 ≤ ring ∧ ring ≤ 4 ∧ H t = some (.tup [.int q.1, .int q.2]) ∧ stepOf? ps q.1 q.2 = some st ∧ fitsB ps st = true ∧
  ∀ l H', Same H H' → RowsV K H' l (stepB ps st) ring → Q (.ref l) H'
section
variable {mg : PySem.Str → Option Value} {base : Heap} {w : World}
theorem ok_lines_of (M : Mod (hd12.heap_39 w.params) mg base) : CallG PP w (hd12.heap_39 w.params) mg base 1 (.ref 346) (pos (spLines (hd12.heap_39 w.params))) := by
  obtain ⟨fd, F⟩ := fn_lines_of w
  refine def_pos F sc_lines_of (fun vs H Q E h => ?_) (fun _ _ _ _ _ _ us hl => match us, hl with | [_, _], _ => rfl) (fun cdv A outer s H vs Q E hr hg h => ?_)
  · obtain ⟨p, line, ns, rfl, _⟩ := h; rfl
  have nd := sc_lines_of.nd
  obtain ⟨p, line, ns, rfl, hp, h1, h16, hl, hns, q⟩ := h
  refine ⟨_, (pss_one (ps_ret (pe_callTy call_tuple_of (by rfl) (mn_tuple M) (by decide +kernel) (pa_cons (pe_callB (cr_sortedSet rfl) (by rfl) (mn_sorted M) (by decide +kernel) (pa_cons (pe_scI (own := [("address", 2)]) (g := gName 2) (by rfl) nd (pi_tup (pv 0)) (blkOk_by (own := [("address", 2)]) (N := ["addresses", "line", "address"]) (sc := defScope s_lines_of) (by decide +kernel)) (fun _ _ _ _ _ => (pg_name (i := 2) nd rfl (Or.inl rfl))) (fun _ _ _ _ _ => pts_nil) (fun _ _ _ _ _ => (pe_op op_fdivN (pv 2) (pv 1)))) pa_nil)) pa_nil)))), ?_⟩
  refine ⟨_, rfl, p, rfl, ⟨_, hp⟩, fun D hD => ?_⟩
  refine cc_it (o0 := fun D => SetO w D (fun _ => false) 0) (walk_tup (xs := ns.map V.int)) (fun j H' => Same H H' ∧ ∃ S n, H' D = some (SetO w D S n) ∧ n ≤ j ∧ ∀ k, S k = (ns.take j).any fun a => a.fdiv line == k) ⟨same_new hD, _, _, upd_same, Nat.le_refl _, fun k => by simp⟩ (fun j H' _ h => st_mono h.1 hp) (fun j v H4 H5 hj h y => ?_) (fun H' h => ?_)
  · obtain ⟨sd, S, n, eD, hn, hS⟩ := h
    obtain ⟨rfl, hv⟩ := y
    rw [List.length_map] at hj
    rw [List.getElem?_map, List.getElem?_eq_getElem hj] at hv
    cases hv
    refine ⟨rfl, ?_⟩
    refine ⟨_, rfl, _, rfl, _, _, rfl, rfl, ⟨by omega, by omega⟩, _, S, n, rfl, eD, Nat.lt_of_lt_of_le (show n + 1 < 10 by omega) (by decide), same_upd sd hD, _, _, upd_same, ?_, fun k => ?_⟩
    · split <;> omega
    · rw [List.take_add_one, List.getElem?_eq_getElem hj, List.any_append, ← hS]
      show (S k || decide (k = _)) = (S k || (_ == k || false))
      rw [Bool.or_false]
      congr 1
      by_cases e : k = ns[j].fdiv line
      · rw [decide_eq_true e, e, beq_self_eq_true]
      · rw [decide_eq_false e]
        exact (beq_eq_false_iff_ne.mpr fun h => e h.symm).symm
  · obtain ⟨sd, S, n, eD, hn, hS⟩ := h
    rw [List.length_map] at hn
    rw [List.length_map, take_all (Nat.le_refl _)] at hS
    refine ⟨D, S, n, rfl, eD, by omega, fun ms l2 hasc hmem hlen h2 => ?_⟩
    have e : ms = linesL ns line := asc_uniq hasc (linesL_asc ns line) fun k => by
      rw [hmem, hS, linesL_mem hns h1, List.any_eq_true]
      exact ⟨fun ⟨a, ha, e⟩ => ⟨a, ha, beq_iff_eq.mp e⟩, fun ⟨a, ha, e⟩ => ⟨a, ha, beq_iff_eq.mpr e⟩⟩
    subst e
    refine ⟨l2, _, rfl, .inl ⟨SqL.of upd_same, fun t ht => ?_⟩⟩
    exact q t _ (same_trans sd (same_trans (same_new h2) (same_new ht))) upd_same
end
end M12

namespace M12
open PySem PySem.Spec PyProof.Rows L2 StX Uk
local macro_rules | `(tactic| wtm_at "cls") => `(tactic| first | exact cls_Agent _ | exact cls_Signal _ | exact cls_Variable _ | exact cls_Net _)
local macro_rules | `(tactic| wtm_at "na") => `(tactic| first | exact na_Agent_name _ | exact na_Agent_steps _ | exact na_Agent_shape _ | exact na_Signal_name _ | exact na_Signal_tokens _ | exact na_Variable_name _ | exact na_Variable_size _ | exact na_Variable_at _ | exact na_Variable_shape _ | exact na_Net_line _ | exact na_Net_ring _ | exact na_Net_variables _ | exact na_Net_signals _ | exact na_Net_agents _ | exact na_Net_shape _ | exact na_Net_by_name _ | exact na_Net_bytes_at _ | exact na_Net_lines_at _)
section
variable {mg : PySem.Str → Option Value} {base : Heap} {w : World}
theorem ok_Net_bytes_in_ring (M : Mod (hd12.heap_39 w.params) mg base) : CallG PP w (hd12.heap_39 w.params) mg base 3 (.ref 575) (pos (spBir (hd12.heap_39 w.params))) := by
  obtain ⟨fd, F⟩ := fn_Net_bytes_in_ring w
  refine def_pos F sc_Net_bytes_in_ring (fun vs H Q E h => ?_) (fun _ _ _ _ _ _ us hl => match us, hl with | [_, _], _ => rfl) (fun cdv A outer s H vs Q E hr hg h => ?_)
  · obtain ⟨x, t, dx, pa, bn, fs, ring, xs, ps, q, st, rfl, _⟩ := h; rfl
  have nd := sc_Net_bytes_in_ring.nd
  obtain ⟨x, t, dx, pa, bn, fs, ring, xs, ps, ⟨a, s⟩, st, rfl, hx, lag, lbn, lri, hpa, hbn, hps, hok, hnd, hr1, hr4, ht, hst?, hfit, q⟩ := h
  have hpc := ofA_parts 0 hps
  obtain ⟨r, hr2, hss⟩ : ∃ r, (ofC 0 ps)[a]? = some r ∧ r.ss[s]? = some st := by
    unfold stepOf? at hst?
    cases e : (ofC 0 ps)[a]? with
    | none => rw [e] at hst?; cases hst?
    | some r => rw [e] at hst?; exact ⟨r, rfl, hst?⟩
  obtain ⟨hm, hcl⟩ := ofC_mem (List.mem_of_getElem? hr2)
  obtain ⟨k, n0, ss, rfl⟩ := cl0 hcl
  have hokst := ((hok _ hm).2.2.2.2 st (List.mem_of_getElem? hss)).1
  obtain ⟨xa, hxa, hA⟩ := prtsA_get' hpc hr2
  obtain ⟨C, dxa, fsa, pss, vs, hC, cC, nC, lC, hpss, hsv⟩ := ag_steps hA
  obtain ⟨v, hv, ⟨ts, rfl, hst⟩⟩ := stpsV_get' hsv hss
  have hxa2 : (List.map V.ref (ofA 0 xs ps))[a]? = some (.ref xa) := by rw [List.getElem?_map, hxa] <;> rfl
  refine ⟨_, (pss_cons (ps_set (i := 2) nd rfl (.inr rfl) (pe_ix ix_tup (pe_fld (pe_ix ix_tup (pe_fld (pv 0) rfl) (pe_ix ix_tup (pv 1) pe_int (fun _ _ => rfl)) (fun _ _ => rfl)) rfl) (pe_ix ix_tup (pv 1) pe_int (fun _ _ => rfl)) (fun _ _ => rfl)))
      (pss_cons (ps_if (pt_cmpR op_in_seq (pe_ix ix_tup (pv 2) pe_int (fun _ _ => rfl)) (pe_glob (v := .ref 142) rfl (mg_SIGNALLING M) rfl) (by rfl)) (pss_one (ps_ret (pe_op op_rep (pe_lst (pa_cons (pe_tup pa_nil) pa_nil)) (pe_fld (pv 0) rfl)))) pss_nil)
      (pss_cons (ps_set (i := 3) nd rfl (.inr rfl) (pe_fld (pe_dget (hu_of hr) (pe_fld (pv 0) rfl) (pe_ix ix_tup (pv 2) pe_int (fun _ _ => rfl)) (fun _ _ => rfl)) rfl))
      (pss_cons (ps_setLc (i := 4) (own := [("n", 5)]) (g := gName 5) (by rfl) nd rfl rfl (sw_true rfl rfl rfl (by decide +kernel)) (pi_range1 (by rfl) (mn_range M) (pa_cons (pe_fld (pv 0) rfl) pa_nil)) (blkOk_by (own := [("n", 5)]) (N := ["self", "place", "row", "at", "starts", "n", "k", "first"]) (sc := defScope s_Net_bytes_in_ring) (by decide +kernel)) (fun _ _ _ _ _ => (pg_name (i := 5) nd rfl (Or.inl rfl))) (fun _ _ _ _ _ => pts_nil) (fun _ _ _ _ _ => (pe_ix (xix_tup (hd12.heap_39 w.params)) (pv 3) (pe_op op_modN (pe_op op_add (pv 5) (pe_ix (xix_tup (hd12.heap_39 w.params)) (pv 2) pe_int (fun _ _ => rfl))) (pe_callB (xcall_len_seq (hd12.heap_39 w.params)) (by rfl) (mn_len M) (by decide +kernel) (pa_cons (pv 3) pa_nil))) (fun _ _ => rfl))))
      (pss_one (ps_ret (pe_lc (own := [("first", 7)]) (g := gName 7) (by rfl) nd (pi_list (pv 4)) (blkOk_by (own := [("first", 7)]) (N := ["self", "place", "row", "at", "starts", "n", "k", "first"]) (sc := defScope s_Net_bytes_in_ring) (by decide +kernel)) (fun _ _ _ _ _ => (pg_name (i := 7) nd rfl (Or.inr rfl))) (fun _ _ _ _ _ => pts_nil) (fun _ _ _ _ _ => (pe_callTy (xcall_tuple_of (hd12.heap_39 w.params)) (by rfl) (mn_tuple M) (by decide +kernel) (pa_cons (pe_lc (own := [("k", 6)]) (g := gName 6) (by rfl) nd (pi_range2 (by rfl) (mn_range M) (pa_cons (pe_ix (xix_tup (hd12.heap_39 w.params)) (pv 2) pe_int (fun _ _ => rfl)) (pa_cons (pe_op op_add (pe_ix (xix_tup (hd12.heap_39 w.params)) (pv 2) pe_int (fun _ _ => rfl)) pe_int) pa_nil))) (blkOk_by (own := [("k", 6)]) (by kernel_rfl)) (fun _ _ _ _ _ => (pg_name (i := 6) nd rfl (Or.inl rfl))) (fun _ _ _ _ _ => pts_nil) (fun _ _ _ _ _ => (pe_op op_add (pv 7) (pv 6)))) pa_nil)))))))))), ?_⟩
  refine ⟨_, rfl, x, 599, dx, _, _, rfl, hx, cls_Net w, na_Net_agents w, lag, _, rfl, t, _, 0, _, rfl, rfl, SqT.of ht, atI_nat (j := 0) rfl, pa, _, a, .ref xa, rfl, rfl, hpa, atI_nat hxa2, ?_⟩
  refine ⟨xa, C, dxa, fsa, _, rfl, hC, cC, nC, lC, _, rfl, t, _, 1, _, rfl, rfl, SqT.of ht, atI_nat (j := 1) rfl, pss, _, s, _, rfl, rfl, SqT.of hpss, atI_nat hv, ?_⟩
  cases st with
  | two w0 n =>
    have ho := ok_two hokst
    refine ⟨_, rfl, ts, _, 0, _, rfl, rfl, hst, atI_nat (j := 0) rfl, 142, _, rfl, .inr (sq_SIGNALLING w _), rfl, L2.flat_strs ["post", "wait"], ?_⟩
    refine ⟨_, rfl, ifT (sig_two w0 ho.2) ?_⟩
    refine ⟨Nat.zero_le _, fun e he => ⟨Nat.le_of_ble_eq_true rfl, fun l hl => ?_⟩⟩
    have s2 := same_trans (same_new (o := .tup []) he) (same_new (o := .lst [.ref e]) hl)
    refine ⟨_, rfl, x, 599, dx, _, _, rfl, s2 _ _ hx, cls_Net w, na_Net_ring w, lri, l, ring, _, rfl, rfl, upd_same, by omega, by omega, smallE (by show 1 * ring.toNat ≤ 100000; omega), fun z hz => ?_⟩
    refine q z _ (same_trans s2 (same_new hz)) ⟨List.replicate ring.toNat e, ?_, List.length_replicate, fun r t2 h2 => ?_⟩
    · rw [upd_same, List.map_replicate]
      congr 1
      have : ∀ m : Nat, (List.replicate m [V.ref e]).flatten = List.replicate m (V.ref e) := fun m => by
        induction m with
        | zero => rfl
        | succ m ih => rw [List.replicate_succ, List.flatten_cons, ih] <;> rfl
      rw [this]
    · have e2 := List.eq_of_mem_replicate (List.mem_of_getElem? h2)
      subst e2
      exact SqT.of (at_new hz (at_new hl upd_same))
  | five w0 n sh fi la =>
    have ho := ok_five hokst
    obtain ⟨n1, b, as, hfd, hla, rfl⟩ : ∃ n1 b as, (ofC 2 ps).find? (fun p => p.n == n) = some (.var n1 b as) ∧ la < b ∧ n1 = n := by
      have h : (match sizeOf? ps n with | some b => decide (la < b) | none => false) = true := hfit
      unfold sizeOf? at h
      cases e : (ofC 2 ps).find? (fun p => p.n == n) with
      | none => rw [e] at h; cases h
      | some r =>
        rw [e] at h
        have hm := List.mem_of_find?_eq_some e
        obtain ⟨n1, b, as, rfl⟩ := cl2 (ofC_mem hm).2
        have := List.find?_some e
        exact ⟨n1, b, as, rfl, of_decide_eq_true h, beq_iff_eq.mp this⟩
    have hvm := (ofC_mem (List.mem_of_find?_eq_some hfd)).1
    have eslot : slotsOf ps n1 = as := by unfold slotsOf; rw [hfd]
    obtain ⟨iv, hiv⟩ := List.getElem?_of_mem hvm
    obtain ⟨xv, hxv, hV⟩ := prtsA_get' hps hiv
    have hget := nameKv_some hnd hxv hiv
    obtain ⟨dxv, pat, sq, hxv2, hpat, hsq⟩ := hV
    obtain ⟨_, hb1, hb8, hl1, hl4, hbd⟩ := hok _ hvm
    refine ⟨_, rfl, ts, _, 0, _, rfl, rfl, hst, atI_nat (j := 0) rfl, 142, _, rfl, .inr (sq_SIGNALLING w _), rfl, L2.flat_strs ["post", "wait"], ?_⟩
    refine ⟨_, rfl, ifF (not_sig ho.2.1) ?_⟩
    refine ⟨_, rfl, x, 599, dx, _, _, rfl, hx, cls_Net w, na_Net_by_name w, lbn, _, rfl, ts, _, 1, _, rfl, rfl, hst, atI_nat (j := 1) rfl, bn, .ref xv, rfl, ?_, ?_⟩
    · have z := DGet.k (k := Sum.inr n1) hbn
      rw [show valV (nameKv xs ps) (Sum.inr n1) = some (.ref xv) from hget] at z
      exact z
    refine ⟨xv, 411, dxv, _, _, rfl, hxv2, cls_Variable w, na_Variable_at w, rfl, ?_⟩
    refine ⟨_, rfl, x, 599, dx, _, _, rfl, hx, cls_Net w, na_Net_ring w, lri, ring, rfl, by omega, by omega, fun D hD => ?_⟩
    refine lc_range (lo := 0) (n := ring.toNat) (fun j H' => Same H H' ∧ H' D = some (.lst (((List.range j).map fun (r : Nat) => startOf as sh r).map V.int))) ⟨same_new hD, upd_same⟩ (fun j H' hj h => ?_) (fun H1 h => ?_)
    · obtain ⟨sd, eD⟩ := h
      refine ⟨rfl, ?_⟩
      have hlen : ((as.map V.int).length : Int) = as.length := by rw [List.length_map]
      have hfm := @fmod_range ((0 + (j : Int)) + sh) as.length (by omega)
      have hix : atI (as.map V.int) ((0 + (j : Int) + sh).fmod as.length) = some (.int (startOf as sh j)) := by
        refine atI_lit hfm.1 ?_
        unfold startOf
        rw [Int.zero_add, List.getElem?_map, List.getD_eq_getElem?_getD]
        rw [Int.zero_add] at hfm
        rw [List.getElem?_eq_getElem (by omega)] <;> rfl
      refine ⟨_, rfl, _, rfl, _, rfl, ts, _, 2, _, rfl, rfl, st_mono sd hst, atI_nat (j := 2) rfl, _, _, rfl, rfl, _, rfl, pat, _, rfl, .inr (SqT.of (sd _ _ hpat)), ?_⟩
      rw [hlen]
      refine ⟨_, _, rfl, rfl, (by show (as.length : Int) ≠ 0; omega), pat, _, _, _, rfl, rfl, SqT.of (sd _ _ hpat), hix, _, eD, ?_, same_upd sd hD, ?_⟩
      · rw [List.length_map, List.length_map, List.length_range]
        exact small (by omega)
      · rw [upd_same, List.range_succ, List.map_append, List.map_append] <;> rfl
    obtain ⟨sd, eD⟩ := h
    have hst1 := st_mono sd hst
    refine ⟨_, rfl, D, rfl, ⟨_, SqL.of eD⟩, fun L hL => ?_⟩
    have hLl : (((List.range ring.toNat).map fun (r : Nat) => startOf as sh r).map V.int).length = ring.toNat := by rw [List.length_map, List.length_map, List.length_range]
    refine lc_it (walk_list (xs := ((List.range ring.toNat).map fun (r : Nat) => startOf as sh r).map V.int)) (fun j H' => Same H1 H' ∧ ∃ us : List Addr, H' L = some (.lst (us.map V.ref)) ∧ us.length = j ∧ ∀ r t, us[r]? = some t → SqT (hd12.heap_39 w.params) H' t ((bytesOf as sh fi la r).map V.int)) ⟨same_new hL, [], upd_same, rfl, fun r t h => by cases h⟩ (fun j H' _ h => SqL.of (h.1 _ _ eD)) (fun j v H4 H5 hj h y => ?_) (fun H2 h => ?_)
    · obtain ⟨s4, us, eL, hul, hus⟩ := h
      obtain ⟨rfl, hv⟩ := y
      rw [hLl] at hj
      rw [List.getElem?_map, List.getElem?_map, List.getElem?_range hj] at hv
      cases hv
      refine ⟨rfl, ?_⟩
      have hst4 := st_mono s4 hst1
      refine ⟨_, rfl, ts, _, 3, _, rfl, rfl, hst4, atI_nat (j := 3) rfl, _, rfl, ts, _, 4, _, rfl, rfl, hst4, atI_nat (j := 4) rfl, _, _, rfl, rfl, _, _, rfl, ⟨by omega, by omega, by omega, by omega⟩, fun D2 hD2 => ?_⟩
      refine lc_it walk_range (fun m H' => Same H5 H' ∧ H' D2 = some (.lst (((List.range m).map fun (k : Nat) => startOf as sh j + (fi + (k : Int))).map V.int))) ⟨same_new hD2, upd_same⟩ (fun _ _ _ _ => trivial) (fun m v H6 H7 hm h y => ?_) (fun H6 h => ?_)
      · obtain ⟨s6, e6⟩ := h
        obtain ⟨rfl, rfl⟩ := y
        refine ⟨rfl, ?_⟩
        refine ⟨_, rfl, _, rfl, _, _, rfl, rfl, _, e6, ?_, same_upd s6 hD2, ?_⟩
        · rw [List.length_map, List.length_map, List.length_range]
          exact small (by omega)
        · rw [upd_same, List.range_succ, List.map_append, List.map_append] <;> rfl
      · obtain ⟨s6, e6⟩ := h
        refine ⟨D2, _, rfl, .inl ⟨SqL.of e6, fun t2 ht2 => ?_⟩⟩
        have s7 := same_trans s6 (same_new ht2 (o := .tup (((List.range (la + 1 - fi).toNat).map fun (k : Nat) => startOf as sh j + (fi + (k : Int))).map V.int)))
        refine ⟨_, s7 _ _ eL, ?_, same_upd (same_trans s4 s7) hL, us ++ [t2], ?_, by rw [List.length_append, hul] <;> rfl, fun r t3 h3 => ?_⟩
        · rw [List.length_map, hul]
          exact small (by omega)
        · rw [upd_same, List.map_append] <;> rfl
        · have hne : ∀ t, SqT (hd12.heap_39 w.params) (upd H6 t2 (.tup (((List.range (la + 1 - fi).toNat).map fun (k : Nat) => startOf as sh j + (fi + (k : Int))).map V.int))) t ((bytesOf as sh fi la r).map V.int) → SqT (hd12.heap_39 w.params) (upd (upd H6 t2 (.tup (((List.range (la + 1 - fi).toNat).map fun (k : Nat) => startOf as sh j + (fi + (k : Int))).map V.int))) L (.lst (us.map V.ref ++ [.ref t2]))) t ((bytesOf as sh fi la r).map V.int) := fun t h => sqT_lst (s7 _ _ eL) h
          by_cases hrj : r < j
          · rw [List.getElem?_append_left (by omega)] at h3
            exact hne _ (st_mono s7 (hus r t3 h3))
          · have hrl := (List.getElem?_eq_some_iff.mp h3).1
            rw [List.length_append, hul] at hrl
            obtain rfl : r = j := by simp at hrl; omega
            rw [List.getElem?_append_right (by omega), hul, Nat.sub_self] at h3
            cases h3
            exact hne _ (SqT.of upd_same)
    · obtain ⟨s4, us, eL, hul, hus⟩ := h
      rw [hLl] at hul
      refine q L H2 (same_trans sd s4) ⟨us, eL, hul, fun r t h => ?_⟩
      show SqT (hd12.heap_39 w.params) H2 t ((bytesOf (slotsOf ps n1) sh fi la r).map V.int)
      rw [eslot]
      exact hus r t h
end
end M12

namespace M12
open PySem PySem.Spec PyProof.Rows L2 StX Uk
local macro_rules | `(tactic| wtm_at "cls") => `(tactic| first | exact cls_Agent _ | exact cls_Signal _ | exact cls_Variable _ | exact cls_Net _)
local macro_rules | `(tactic| wtm_at "na") => `(tactic| first | exact na_Agent_name _ | exact na_Agent_steps _ | exact na_Agent_shape _ | exact na_Signal_name _ | exact na_Signal_tokens _ | exact na_Variable_name _ | exact na_Variable_size _ | exact na_Variable_at _ | exact na_Variable_shape _ | exact na_Net_line _ | exact na_Net_ring _ | exact na_Net_variables _ | exact na_Net_signals _ | exact na_Net_agents _ | exact na_Net_shape _ | exact na_Net_by_name _ | exact na_Net_bytes_at _ | exact na_Net_lines_at _)

def spNInit (K : PySem.W.Frag) : Sp := fun vs H Q E => ∃ (a dx p : Addr) (v1 v2 : V) (d1 d2 : PyData) (xs : List V) (as : List NArg), vs = [.ref a, v1, v2, .ref p] ∧ H a = some (.ins 599 dx []) ∧ H p = some (.tup xs) ∧ Dq K H v1 d1 ∧ Dq K H v2 d2 ∧ ArgsV cs K (Off a H) xs as ∧ xs.length ≤ 1000 ∧
  match wantN d1 d2 as with
  | none => ∀ line ring ys ps H', d1 = .int line → d2 = .int ring → xs = ys.map V.ref → as.map argP = ps → (∀ j, j < as.length → argAt as j = false) → Same (Off a H) (Off a H') → NetA 599 cs K H' a line ring ys ps → Q .non H'
  | some r => ∀ H' d v, Same H H' → PlV H' v r.2 → H' d = some (.xd [("place", v), ("reason", .str r.1)]) → E (.ref 74) (some d) H'
section
variable {mg : PySem.Str → Option Value} {base : Heap} {w : World}
theorem ok_Net___init__ (M : Mod (hd12.heap_39 w.params) mg base) : CallG PP w (hd12.heap_39 w.params) mg base 12 (.ref 468) (spStarK 1 ["line", "ring"] [.int 8, .int 1] (spNInit (hd12.heap_39 w.params))) := by
  obtain ⟨fd, F⟩ := fnd_Net___init__ w
  refine def_starK (ps := ["self"]) (ks := ["line", "ring"]) (pv := "parts") F sc_Net___init__ rfl (by simp) (fun kV doc pm an cdv ct us rest ws h1 h2 => ?_) (fun D doc pm an cdv ct us rest ws h1 h2 => ?_) (fun cdv A outer s H vs Q E hr hg h => ?_)
  · match us, ws, h1, h2 with
    | [_], [_, _], _, _ => cases rest <;> rfl
  · match us, ws, h1, h2 with
    | [_], [_, _], _, _ => cases rest <;> exact ⟨_, _, _, _, _, _, rfl, rfl, _, _, _, _, _, _, rfl, rfl, rfl⟩
  have nd := sc_Net___init__.nd
  obtain ⟨a, dx, p, v1, v2, d1, d2, xs, as, rfl, ha, hp, h1, h2, has, hl, q⟩ := h
  refine ⟨_, (pss_cons (ps_if (PW.pt (pw_or (pt_not (pt_val (pe_cl (takes_of rfl rfl rfl rfl) (ok_is_integer M) (hr.mono (by decide)) hg rfl (mg_is_integer M) (kp_is_integer w) (pa_cons (pv 1) pa_nil)))) (pw_or1 (pt_cmpR op_notIn_seq (pv 1) (pe_con (pv 0) rfl) (by rfl))))) (pss_one (ps_raise rfl (takes_of rfl rfl rfl rfl) (pmk_E (mke_NoNet w) (takes_of rfl rfl rfl rfl) (ok_NoNet___init__ M) (hr.mono (by decide)) hg (kp_NoNet w) rfl (mg_NoNet M) (pa_cons pe_str (pa_cons pe_non pa_nil)) (by decide)))) pss_nil)
      (pss_cons (ps_if (pt_not (pt_val (pe_cl (takes_of rfl rfl rfl rfl) (ok_is_within M) (hr.mono (by decide)) hg rfl (mg_is_within M) (kp_is_within w) (pa_cons (pv 2) (pa_cons pe_int (pa_cons (pe_glob (v := .int 4) rfl (mg_MOST_RING M) ⟨_, rfl⟩) pa_nil)))))) (pss_one (ps_raise rfl (takes_of rfl rfl rfl rfl) (pmk_E (mke_NoNet w) (takes_of rfl rfl rfl rfl) (ok_NoNet___init__ M) (hr.mono (by decide)) hg (kp_NoNet w) rfl (mg_NoNet M) (pa_cons pe_str (pa_cons pe_non pa_nil)) (by decide)))) pss_nil)
      (pss_cons (ps_expr (pe_cl (takes_of rfl rfl rfl rfl) (ok_check_parts M) (hr.mono (by decide)) hg rfl (mg_check_parts M) (kp_check_parts w) (pa_cons (pv 3) pa_nil)))
      (pss_cons (ps_expr (pe_cl (takes_of rfl rfl rfl rfl) (ok_check_variables M) (hr.mono (by decide)) hg rfl (mg_check_variables M) (kp_check_variables w) (pa_cons (pv 3) (pa_cons (pv 2) pa_nil))))
      (pss_cons (ps_expr (pe_cl (takes_of rfl rfl rfl rfl) (ok_check_steps M) (hr.mono (by decide)) hg rfl (mg_check_steps M) (kp_check_steps w) (pa_cons (pv 3) pa_nil)))
      (pss_cons (ps_expr (pe_cl (takes_of rfl rfl rfl rfl) (ok_check_signals M) (hr.mono (by decide)) hg rfl (mg_check_signals M) (kp_check_signals w) (pa_cons (pv 3) pa_nil)))
      (pss_cons (ps_fld (pv 0) (pv 1) rfl)
      (pss_cons (ps_fld (pv 0) (pv 2) rfl)
      (pss_cons (ps_fld (pv 0) (pe_cl (takes_of rfl rfl rfl rfl) (ok_of_class M) (hr.mono (by decide)) hg rfl (mg_of_class M) (kp_of_class w) (pa_cons (pv 3) (pa_cons pe_str pa_nil))) rfl)
      (pss_cons (ps_fld (pv 0) (pe_cl (takes_of rfl rfl rfl rfl) (ok_of_class M) (hr.mono (by decide)) hg rfl (mg_of_class M) (kp_of_class w) (pa_cons (pv 3) (pa_cons pe_str pa_nil))) rfl)
      (pss_cons (ps_fld (pv 0) (pe_cl (takes_of rfl rfl rfl rfl) (ok_of_class M) (hr.mono (by decide)) hg rfl (mg_of_class M) (kp_of_class w) (pa_cons (pv 3) (pa_cons pe_str pa_nil))) rfl)
      (pss_cons (ps_fld (pv 0) (pe_tup (pa_cons (pv 1) (pa_cons (pv 2) (pa_cons (pe_fld (pv 0) rfl) (pa_cons (pe_fld (pv 0) rfl) (pa_cons (pe_fld (pv 0) rfl) pa_nil)))))) rfl)
      (pss_cons (ps_fld (pv 0) (pe_dcK (own := [("part", 4)]) (g := gName 4) (by rfl) nd (pi_tup (pv 3)) (blkOk_by (own := [("part", 4)]) (N := ["self", "line", "ring", "parts", "part", "spots", "a", "agent", "s", "place", "some"]) (sc := defScope s_Net___init__) (by decide +kernel)) (fun _ _ _ _ _ => (pg_name (i := 4) nd rfl (Or.inl rfl))) (fun _ _ _ _ _ => pts_nil) (fun _ _ _ _ _ => (xpe_fld (hd12.heap_39 w.params) (pv 4) rfl)) (fun _ _ _ _ _ => (pv 4))) rfl)
      (pss_cons (ps_setLc2 (i := 5) (own := [("a", 6), ("agent", 7), ("s", 8)]) (g := _) (g1 := gName 8) (vs1 := [8]) (by rfl) nd rfl rfl (sw_true rfl rfl rfl (by decide +kernel)) (pi_enumT (by rfl) (mn_enumerate M) (pa_cons (pe_fld (pv 0) rfl) pa_nil)) (blkOk_by (own := [("a", 6), ("agent", 7), ("s", 8)]) (N := ["self", "line", "ring", "parts", "part", "spots", "a", "agent", "s", "place", "some"]) (sc := defScope s_Net___init__) (by decide +kernel)) (by decide) (fun _ _ _ _ _ => (xpg_tup (n := 2) (hd12.heap_39 w.params) (by rfl) (pgs_cons (pg_name (i := 6) nd rfl (Or.inl rfl)) (pgs_cons (pg_name (i := 7) nd rfl (Or.inl rfl)) pgs_nil)))) (fun _ _ _ _ _ => pts_nil) (fun _ _ _ _ _ => (pi_range1 (by rfl) (mn_range M) (pa_cons (pe_callB (xcall_len_seq (hd12.heap_39 w.params)) (by rfl) (mn_len M) (by decide +kernel) (pa_cons (xpe_fld (hd12.heap_39 w.params) (pv 7) rfl) pa_nil)) pa_nil))) (fun _ _ _ _ _ => (pg_name (i := 8) nd rfl (Or.inl rfl))) (fun _ _ _ _ _ => pts_nil) (fun _ _ _ _ _ => (pe_tup (pa_cons (pv 6) (pa_cons (pv 8) pa_nil)))))
      (pss_cons (ps_fld (pv 0) (pe_dcT (own := [("place", 9)]) (g := gName 9) (hu_of hr) (by rfl) nd (pi_list (pv 5)) (blkOk_by (own := [("place", 9)]) (N := ["self", "line", "ring", "parts", "part", "spots", "a", "agent", "s", "place", "some"]) (sc := defScope s_Net___init__) (by decide +kernel)) (fun _ _ _ _ _ => (pg_name (i := 9) nd rfl (Or.inl rfl))) (fun _ _ _ _ _ => pts_nil) (fun _ _ _ _ _ => (pv 9)) (fun _ _ _ _ _ => (pe_meG takes_no (pv 0) (cls_Net w) (me_Net_bytes_in_ring w) (ok_Net_bytes_in_ring M) (hr.mono (by decide)) hg (pa_cons (pv 9) pa_nil)))) rfl)
      (pss_one (ps_fld (pv 0) (pe_lock (pe_dcT (own := [("place", 9)]) (g := gName 9) (hu_of hr) (by rfl) nd (pi_keys (pe_fld (pv 0) rfl)) (blkOk_by (own := [("place", 9)]) (N := ["self", "line", "ring", "parts", "part", "spots", "a", "agent", "s", "place", "some"]) (sc := defScope s_Net___init__) (by decide +kernel)) (fun _ _ _ _ _ => (pg_name (i := 9) nd rfl (Or.inl rfl))) (fun _ _ _ _ _ => pts_nil) (fun _ _ _ _ _ => (pv 9)) (fun _ _ _ _ _ => (pe_lc (own := [("some", 10)]) (g := gName 10) (by rfl) nd (xpi_list (hd12.heap_39 w.params) (pe_dget (hu_of hr) (xpe_fld (hd12.heap_39 w.params) (pv 0) rfl) (pv 9) (fun _ _ => rfl))) (blkOk_by (own := [("some", 10)]) (by kernel_rfl)) (fun _ _ _ _ _ => (pg_name (i := 10) nd rfl (Or.inl rfl))) (fun _ _ _ _ _ => pts_nil) (fun _ _ _ _ _ => (pe_cl takes_no (ok_lines_of M) (hr.mono (by decide)) hg rfl (mg_lines_of M) (kp_lines_of w) (pa_cons (pv 10) (pa_cons (pv 1) pa_nil)))))))) rfl))))))))))))))))), ?_⟩
  have lineErr : (isIntD d1 && lineOk (intV d1)) = false → wantN d1 d2 as = some (("line" : Str), .non) := fun e => by unfold wantN; rw [if_pos e]
  refine ⟨_, rfl, rfl, v1, d1, rfl, h1, _, rfl, ite_b (fun e1 => ?_) (fun e1 => ?_)⟩
  · have e1 : isIntD d1 = false := not_b e1
    refine ifT rfl ⟨rfl, fun d hd => ?_⟩
    rw [lineErr (by rw [e1] <;> rfl)] at q
    exact q _ d _ (same_new hd) rfl upd_same
  have e1 := not_b' e1
  obtain ⟨line, rfl, rfl⟩ := dq_int h1 e1
  refine ⟨_, rfl, _, rfl, a, _, _, _, _, _, rfl, ha, cls_Net w, con_Net_LINES w, rfl, _, _, rfl, .inr (sq_LINES w _), rfl, rfl, _, rfl, ite_b (fun e2 => ?_) (fun e2 => ?_)⟩
  · have e2 : lineOk line = false := by rw [← line_in]; exact not_b e2
    refine ⟨rfl, fun d hd => ?_⟩
    rw [lineErr e2] at q
    exact q _ d _ (same_new hd) rfl upd_same
  have e2 : lineOk line = true := by rw [← line_in]; exact not_b' e2
  refine ⟨_, rfl, rfl, v2, d2, 1, 4, rfl, h2, _, rfl, ite_b (fun e3 => ?_) (fun e3 => ?_)⟩
  · have e3 : within d2 1 4 = false := not_b e3
    have e : wantN (.int line) d2 as = some (("ring" : Str), .non) := by
      unfold wantN
      rw [if_neg (by rw [show (isIntD (.int line) && lineOk (intV (.int line))) = true from e2]; exact Bool.noConfusion), if_pos e3]
    refine ⟨rfl, fun d hd => ?_⟩
    rw [e] at q
    exact q _ d _ (same_new hd) rfl upd_same
  have e3 := not_b' e3
  have ei : isIntD d2 = true := by
    cases h : isIntD d2 with
    | true => rfl
    | false => rw [within_of h] at e3; cases e3
  obtain ⟨ring, rfl, rfl⟩ := dq_int h2 ei
  obtain ⟨hr1, hr4⟩ : 1 ≤ ring ∧ ring ≤ 4 := by
    have e : (decide (1 ≤ ring) && decide (ring ≤ 4)) = true := e3
    simpa using e
  have e : wantN (.int line) (.int ring) as = orR (ckA as) (ckRest ring (as.map argP)) := by
    unfold wantN
    rw [if_neg (by rw [show (isIntD (.int line) && lineOk (intV (.int line))) = true from e2]; exact Bool.noConfusion), if_neg (by rw [e3]; exact Bool.noConfusion)] <;> rfl
  rw [e] at q
  have hl1 : 1 ≤ line ∧ line ≤ 16 := by
    have h : (decide (line = 1) || (decide (line = 2) || (decide (line = 4) || (decide (line = 8) || decide (line = 16))))) = true := e2
    simp only [Bool.or_eq_true, decide_eq_true_eq] at h
    omega
  clear e e1 e2 e3 ei lineErr h1 h2
  obtain ⟨R, qr, hR⟩ : ∃ R : Hp → Prop, okOrN 74 (orR (ckA as) (orR (ckV ring (as.map argP)) (orR (ckS (as.map argP)) (ckG (as.map argP))))) H R E ∧ ∀ H1, R H1 → ∀ ys H', xs = ys.map V.ref → (∀ j, j < as.length → argAt as j = false) → Same (Off a H1) (Off a H') → NetA 599 cs (hd12.heap_39 w.params) H' a line ring ys (as.map argP) → Q .non H' := by
    unfold ckRest at q
    refine ⟨fun H1 => ∀ ys H', xs = ys.map V.ref → (∀ j, j < as.length → argAt as j = false) → Same (Off a H1) (Off a H') → NetA 599 cs (hd12.heap_39 w.params) H' a line ring ys (as.map argP) → Q .non H', ?_, fun _ h => h⟩
    cases e : orR (ckA as) (orR (ckV ring (as.map argP)) (orR (ckS (as.map argP)) (ckG (as.map argP)))) with
    | some r => rw [e] at q; exact q
    | none =>
      rw [e] at q
      exact fun H1 s ys H' e1 e3 s2 N => q line ring ys _ H' rfl rfl e1 rfl e3 (same_trans (Off.same s) s2) N
  clear q
  have hasH : ArgsV cs (hd12.heap_39 w.params) H xs as := argsV_mono offAt has
  refine ⟨_, rfl, rfl, p, xs, as, rfl, SqT.of hp, hasH, hl, okOrN.step qr fun n1 H1 s1 qr => ?_⟩
  obtain ⟨n0, nP⟩ := ckA_none n1
  obtain ⟨ys, rfl, hps, hok⟩ := args_parts has n0
  have hnd := ckP_nodup nP
  generalize eps : as.map argP = ps at *
  rw [List.length_map] at hl
  have sq1 : SqT (hd12.heap_39 w.params) H1 p (ys.map V.ref) := SqT.of (s1 _ _ hp)
  have hpsH := prtsA_mono (same_trans offAt s1) hps
  refine ⟨_, rfl, _, rfl, rfl, p, ring, ys, ps, rfl, sq1, hpsH, hok, hl, okOrN.step qr fun n2 H2 s2 qr => ?_⟩
  have s12 := same_trans s1 s2
  refine ⟨_, rfl, rfl, p, ys, ps, rfl, st_mono s2 sq1, prtsA_mono s2 hpsH, hok, hnd, hl, okOrN.step qr fun n3 H3 s3 qr => ?_⟩
  have s13 := same_trans s12 s3
  have s23 := same_trans s2 s3
  have qr : okOrN 74 (orR (ckG ps) none) H3 R E := by
    cases e : ckG ps with
    | none => rw [e] at qr; exact qr
    | some r => rw [e] at qr; exact qr
  refine ⟨_, rfl, rfl, p, ys, ps, rfl, st_mono s23 sq1, prtsA_mono s23 hpsH, hok, hnd, hl, okOrN.step qr fun n4 H4 s4 qr => ?_⟩
  have s14 := same_trans s13 s4
  have q := hR H4 (qr H4 Same.rfl) ys
  have hpa : p ≠ a := ne_of hp ha (fun z => nomatch z)
  have h0 := s14 _ _ ha
  have pO : SqT (hd12.heap_39 w.params) (Off a H4) p (ys.map V.ref) := SqT.of (Off.of (s14 _ _ hp) hpa)
  have psO : PrtsA cs (hd12.heap_39 w.params) (Off a H4) ys ps := prtsA_mono (Off.same s14) hps
  have hnc := fun k => ofA_len (k := k) (prtsA_len hps)
  clear has hasH sq1 hpsH hps s1 s2 s3 s4 s12 s13 s23 n1 n2 nP n4 hp
  refine ⟨_, rfl, _, rfl, a, 599, dx, _, rfl, h0, cls_Net w, na_Net_line w, Nat.le_of_ble_eq_true rfl, ?_⟩
  refine ⟨_, rfl, _, rfl, a, 599, dx, _, rfl, upd_same, cls_Net w, na_Net_ring w, Nat.le_of_ble_eq_true rfl, ?_⟩
  have S2 : Same (Off a H4) (Off a _) := same_trans (offU (o := .ins 599 dx [("line", .int line)])) (offU (o := .ins 599 dx [("line", .int line), ("ring", .int ring)]))
  refine ⟨_, rfl, rfl, 2, p, ys, ps, rfl, by decide, st_mono (same_trans S2 offAt) pO, prtsA_mono (same_trans S2 offAt) psO, hl, fun pv H5 s5 e5 => ⟨_, rfl, a, 599, dx, _, rfl, s5 _ _ upd_same, cls_Net w, na_Net_variables w, Nat.le_of_ble_eq_true rfl, ?_⟩⟩
  have hA5 : (upd H5 a (.ins 599 dx [("line", .int line), ("ring", .int ring), ("variables", .ref pv)])) a = _ := upd_same
  have n5 : pv ≠ a := ne_of e5 (s5 _ _ upd_same) (fun z => nomatch z)
  have S5 : Same (Off a H4) (Off a (upd H5 a (.ins 599 dx [("line", .int line), ("ring", .int ring), ("variables", .ref pv)]))) := same_trans S2 (same_trans (Off.same s5) offU)
  have f5 := Off.of ((upd_ne n5).trans e5 : (upd H5 a (.ins 599 dx [("line", .int line), ("ring", .int ring), ("variables", .ref pv)])) pv = _) n5
  refine ⟨_, rfl, rfl, 1, p, ys, ps, rfl, by decide, st_mono (same_trans S5 offAt) pO, prtsA_mono (same_trans S5 offAt) psO, hl, fun pg H6 s6 e6 => ⟨_, rfl, a, 599, dx, _, rfl, s6 _ _ hA5, cls_Net w, na_Net_signals w, Nat.le_of_ble_eq_true rfl, ?_⟩⟩
  have hA6 : (upd H6 a (.ins 599 dx [("line", .int line), ("ring", .int ring), ("variables", .ref pv), ("signals", .ref pg)])) a = _ := upd_same
  have n6 : pg ≠ a := ne_of e6 (s6 _ _ hA5) (fun z => nomatch z)
  have S56 : Same (Off a (upd H5 a (.ins 599 dx [("line", .int line), ("ring", .int ring), ("variables", .ref pv)]))) (Off a (upd H6 a (.ins 599 dx [("line", .int line), ("ring", .int ring), ("variables", .ref pv), ("signals", .ref pg)]))) := same_trans (Off.same s6) offU
  have S6 := same_trans S5 S56
  have f5 := S56 _ _ f5
  have f6 := Off.of ((upd_ne n6).trans e6 : (upd H6 a (.ins 599 dx [("line", .int line), ("ring", .int ring), ("variables", .ref pv), ("signals", .ref pg)])) pg = _) n6
  refine ⟨_, rfl, rfl, 0, p, ys, ps, rfl, by decide, st_mono (same_trans S6 offAt) pO, prtsA_mono (same_trans S6 offAt) psO, hl, fun pa H7 s7 e7 => ⟨_, rfl, a, 599, dx, _, rfl, s7 _ _ hA6, cls_Net w, na_Net_agents w, Nat.le_of_ble_eq_true rfl, ?_⟩⟩
  have hA7 : (upd H7 a (.ins 599 dx [("line", .int line), ("ring", .int ring), ("variables", .ref pv), ("signals", .ref pg), ("agents", .ref pa)])) a = _ := upd_same
  have n7 : pa ≠ a := ne_of e7 (s7 _ _ hA6) (fun z => nomatch z)
  have S67 : Same (Off a (upd H6 a (.ins 599 dx [("line", .int line), ("ring", .int ring), ("variables", .ref pv), ("signals", .ref pg)]))) (Off a (upd H7 a (.ins 599 dx [("line", .int line), ("ring", .int ring), ("variables", .ref pv), ("signals", .ref pg), ("agents", .ref pa)]))) := same_trans (Off.same s7) offU
  have S7 := same_trans S6 S67
  have f5 := S67 _ _ f5
  have f6 := S67 _ _ f6
  have f7 := Off.of ((upd_ne n7).trans e7 : (upd H7 a (.ins 599 dx [("line", .int line), ("ring", .int ring), ("variables", .ref pv), ("signals", .ref pg), ("agents", .ref pa)])) pa = _) n7
  refine ⟨_, rfl, _, rfl, _, rfl, a, 599, dx, _, _, rfl, hA7, cls_Net w, na_Net_variables w, rfl, _, rfl, a, 599, dx, _, _, rfl, hA7, cls_Net w, na_Net_signals w, rfl, _, rfl, a, 599, dx, _, _, rfl, hA7, cls_Net w, na_Net_agents w, rfl, Nat.le_of_ble_eq_true rfl, fun sh hsh => ⟨_, rfl, a, 599, dx, _, rfl, at_new hsh hA7, cls_Net w, na_Net_shape w, Nat.le_of_ble_eq_true rfl, ?_⟩⟩
  have nsh : sh ≠ a := (ne_of_none hA7 hsh).symm
  have hA8 : (upd (upd (upd H7 a (.ins 599 dx [("line", .int line), ("ring", .int ring), ("variables", .ref pv), ("signals", .ref pg), ("agents", .ref pa)])) sh (.tup [.int line, .int ring, .ref pv, .ref pg, .ref pa])) a (.ins 599 dx [("line", .int line), ("ring", .int ring), ("variables", .ref pv), ("signals", .ref pg), ("agents", .ref pa), ("shape", .ref sh)])) a = _ := upd_same
  have S78 : Same (Off a (upd H7 a (.ins 599 dx [("line", .int line), ("ring", .int ring), ("variables", .ref pv), ("signals", .ref pg), ("agents", .ref pa)]))) (Off a (upd (upd (upd H7 a (.ins 599 dx [("line", .int line), ("ring", .int ring), ("variables", .ref pv), ("signals", .ref pg), ("agents", .ref pa)])) sh (.tup [.int line, .int ring, .ref pv, .ref pg, .ref pa])) a (.ins 599 dx [("line", .int line), ("ring", .int ring), ("variables", .ref pv), ("signals", .ref pg), ("agents", .ref pa), ("shape", .ref sh)]))) := same_trans (Off.same (same_new hsh)) offU
  have S8 := same_trans S7 S78
  have f5 := S78 _ _ f5
  have f6 := S78 _ _ f6
  have f7 := S78 _ _ f7
  have f8 := Off.of ((upd_ne nsh).trans upd_same : (upd (upd (upd H7 a (.ins 599 dx [("line", .int line), ("ring", .int ring), ("variables", .ref pv), ("signals", .ref pg), ("agents", .ref pa)])) sh (.tup [.int line, .int ring, .ref pv, .ref pg, .ref pa])) a (.ins 599 dx [("line", .int line), ("ring", .int ring), ("variables", .ref pv), ("signals", .ref pg), ("agents", .ref pa), ("shape", .ref sh)])) sh = _) nsh
  have pW8 := st_mono (same_trans S8 offAt) pO
  have psW8 := prtsA_mono (same_trans S8 offAt) psO
  have hlp := prtsA_len psW8
  refine ⟨_, rfl, p, rfl, ⟨_, pW8⟩, fun bn hbn => ?_⟩
  refine cc_it (o0 := fun _ => .dK []) (walk_tup (xs := ys.map V.ref)) (fun j H' => Same (upd (upd (upd H7 a (.ins 599 dx [("line", .int line), ("ring", .int ring), ("variables", .ref pv), ("signals", .ref pg), ("agents", .ref pa)])) sh (.tup [.int line, .int ring, .ref pv, .ref pg, .ref pa])) a (.ins 599 dx [("line", .int line), ("ring", .int ring), ("variables", .ref pv), ("signals", .ref pg), ("agents", .ref pa), ("shape", .ref sh)])) H' ∧ H' bn = some (.dK (nameKv (ys.take j) (ps.take j)))) ⟨same_new hbn, upd_same⟩ (fun j H' _ h => st_mono h.1 pW8) (fun j v Ha Hb hj h y => ?_) (fun H9 h => ?_)
  · obtain ⟨sd, eD⟩ := h
    obtain ⟨rfl, hv⟩ := y
    rw [List.length_map] at hj
    obtain ⟨x2, hx2, rfl⟩ := map_ref_get hv
    obtain ⟨r2, hr2, hA2⟩ := prtsA_get psW8 hx2
    obtain ⟨C2, dx2, fs2, hC2, cC2, nC2, lC2⟩ := prt_name (prtA_mono sd hA2)
    refine ⟨rfl, ?_⟩
    refine ⟨_, rfl, x2, C2, dx2, fs2, _, rfl, hC2, cC2, nC2, lC2, _, rfl, _, Sum.inr r2.n, rfl, eD, ?_, same_upd sd hbn, ?_⟩
    · unfold nameKv
      rw [List.length_map, List.length_zip, List.length_take]
      exact small (by omega)
    · rw [upd_same, nameKv_succ hx2 hr2, putK_new]
      refine nameKv_none fun hm => ?_
      rw [List.map_take] at hm
      obtain ⟨i, hi⟩ := List.getElem?_of_mem hm
      have hij : i < j := by
        have := (List.getElem?_eq_some_iff.mp hi).1
        rw [List.length_take] at this
        omega
      rw [List.getElem?_take_of_lt hij, List.getElem?_map] at hi
      cases e : ps[i]? with
      | none => rw [e] at hi; cases hi
      | some r3 =>
        rw [e] at hi
        exact nodup_at hnd hij e hr2 (Option.some.inj hi)
  obtain ⟨s9, e9⟩ := h
  rw [List.length_map, take_all (Nat.le_refl _), take_all (Nat.le_of_eq hlp.symm)] at e9
  refine ⟨_, rfl, a, 599, dx, _, rfl, s9 _ _ hA8, cls_Net w, na_Net_by_name w, Nat.le_of_ble_eq_true rfl, ?_⟩
  have nbn : bn ≠ a := ne_of e9 (s9 _ _ hA8) (fun z => nomatch z)
  have hA9 : (upd H9 a (.ins 599 dx [("line", .int line), ("ring", .int ring), ("variables", .ref pv), ("signals", .ref pg), ("agents", .ref pa), ("shape", .ref sh), ("by_name", .ref bn)])) a = _ := upd_same
  have S89 : Same (Off a (upd (upd (upd H7 a (.ins 599 dx [("line", .int line), ("ring", .int ring), ("variables", .ref pv), ("signals", .ref pg), ("agents", .ref pa)])) sh (.tup [.int line, .int ring, .ref pv, .ref pg, .ref pa])) a (.ins 599 dx [("line", .int line), ("ring", .int ring), ("variables", .ref pv), ("signals", .ref pg), ("agents", .ref pa), ("shape", .ref sh)]))) (Off a (upd H9 a (.ins 599 dx [("line", .int line), ("ring", .int ring), ("variables", .ref pv), ("signals", .ref pg), ("agents", .ref pa), ("shape", .ref sh), ("by_name", .ref bn)]))) := same_trans (Off.same s9) offU
  have S9 := same_trans S8 S89
  have f5 := S89 _ _ f5
  have f6 := S89 _ _ f6
  have f7 := S89 _ _ f7
  have f8 := S89 _ _ f8
  have f9 := Off.of ((upd_ne nbn).trans e9 : (upd H9 a (.ins 599 dx [("line", .int line), ("ring", .int ring), ("variables", .ref pv), ("signals", .ref pg), ("agents", .ref pa), ("shape", .ref sh), ("by_name", .ref bn)])) bn = _) nbn
  have psW9 := prtsA_mono (same_trans S9 offAt) psO
  have hpc := ofA_parts 0 psW9
  refine ⟨_, rfl, a, 599, dx, _, _, rfl, hA9, cls_Net w, na_Net_agents w, rfl, pa, _, rfl, SqT.of (Off.at f7), fun D hD => ?_⟩
  refine lc2_it (walk_enumT (xs := (ofA 0 ys ps).map V.ref)) (fun j H' => Same (upd H9 a (.ins 599 dx [("line", .int line), ("ring", .int ring), ("variables", .ref pv), ("signals", .ref pg), ("agents", .ref pa), ("shape", .ref sh), ("by_name", .ref bn)])) H' ∧ ∃ ts, H' D = some (.lst (ts.map V.ref)) ∧ PlsV H' ts (spotsN (ofC 0 ps) j)) ⟨same_new hD, [], upd_same, .nil⟩ (fun j H' _ h => SqT.of (h.1 _ _ (Off.at f7))) (fun j v Ha Hb hj h y => ?_) (fun H10 h => ?_)
  · obtain ⟨sd, ts, eD, hpl⟩ := h
    obtain ⟨T, kk, v, rfl, hT, rfl, hkk, hv⟩ := y
    cases hkk
    rw [List.length_map] at hj
    obtain ⟨x, hx, rfl⟩ := map_ref_get hv
    have sT := same_new (o := .tup [.int j, .ref x]) hT
    have s2 := same_trans sd sT
    obtain ⟨r, hr2, hA⟩ := prtsA_get (prtsA_mono s2 hpc) hx
    obtain ⟨k0, n0', ss, rfl⟩ := cl0 (ofC_mem (List.mem_of_getElem? hr2)).2
    obtain ⟨C, dxa, fsa, pss, vs, hC, cC, nC, lC, hpss, hsv⟩ := ag_steps hA
    have hls := stpsV_len hsv
    have hss : ss.length ≤ 24 := (hok _ (ofC_mem (List.mem_of_getElem? hr2)).1).2.2.2.1
    refine ⟨T, _, rfl, SqT.of upd_same, rfl, _, _, rfl, _, _, rfl, rfl, rfl, ?_⟩
    refine ⟨_, rfl, x, C, dxa, fsa, _, rfl, hC, cC, nC, lC, pss, _, rfl, .inr (SqT.of hpss), ss.length, by rw [hls], by omega, by omega, ?_⟩
    have hcl := hnc 0
    have hrow : (spotsN (ofC 0 ps) j).length + ss.length = (spotsN (ofC 0 ps) (j + 1)).length := by
      rw [spotsN_succ, List.length_append]
      unfold rowN
      rw [List.length_map, List.length_range, prtAt_of hr2] <;> rfl
    have hbig : (spotsN (ofC 0 ps) (j + 1)).length ≤ 24000 := Nat.le_trans (spotsN_le (by omega)) (spots_small hok (by omega))
    refine in_it walk_range (fun i H' => Same (upd H9 a (.ins 599 dx [("line", .int line), ("ring", .int ring), ("variables", .ref pv), ("signals", .ref pg), ("agents", .ref pa), ("shape", .ref sh), ("by_name", .ref bn)])) H' ∧ ∃ ts, H' D = some (.lst (ts.map V.ref)) ∧ PlsV H' ts (spotsN (ofC 0 ps) j ++ (List.range i).map fun s => (j, s))) ⟨s2, ts, sT _ _ eD, by simpa using plsV_mono sT hpl⟩ (fun _ _ _ _ => trivial) (fun i v H6 H7 hi h y => ?_) (fun H' h => ?_)
    · obtain ⟨s7, ts, e7, hpl⟩ := h
      obtain ⟨rfl, rfl⟩ := y
      refine ⟨rfl, ?_⟩
      refine ⟨_, rfl, _, rfl, Nat.le_of_ble_eq_true rfl, fun z hz => ?_⟩
      have sz := same_new (o := .tup [.int j, .int (0 + (i : Int))]) hz
      have ez := sz _ _ e7
      have hz2 : (upd H7 z (.tup [.int j, .int (0 + (i : Int))])) z = some (.tup [.int j, .int i]) := upd_same.trans (by rw [Int.zero_add])
      have hln := plsV_len hpl
      rw [List.length_append, List.length_map, List.length_range] at hln
      refine ⟨ts.map V.ref, ?_, ?_, ?_, ts ++ [z], ?_, ?_⟩
      · exact ez
      · rw [List.length_map]
        exact small (by omega)
      · exact same_upd (same_trans s7 sz) hD
      · rw [upd_same, List.map_append] <;> rfl
      · rw [List.range_succ, List.map_append, ← List.append_assoc]
        exact plsV_app (plsV_lst ez (plsV_mono sz hpl)) (plsV_lst ez (.cons hz2 .nil))
    · obtain ⟨s7, ts, e7, hpl⟩ := h
      refine ⟨s7, ts, e7, ?_⟩
      rw [spotsN_succ]
      unfold rowN
      rw [prtAt_of hr2]
      exact hpl
  obtain ⟨s10, ts, eD, hpl⟩ := h
  rw [List.length_map, hnc 0] at hpl
  have hpl : PlsV H10 ts (spots ps) := hpl
  have hlt := plsV_len hpl
  have hbig := spots_small hok (by omega)
  refine ⟨_, rfl, D, rfl, ⟨_, SqL.of eD⟩, fun ba hba => ?_⟩
  refine cc_it (o0 := fun _ => .dT []) (walk_list (xs := ts.map V.ref)) (fun j H' => Same H10 H' ∧ ∃ ls, H' ba = some (.dT (plKv ((spots ps).take j) ls)) ∧ TabV (hd12.heap_39 w.params) H' ls ((spots ps).take j) (bytesAtF ps) ring) ⟨same_new hba, [], upd_same, rfl, fun i l q h => by cases h⟩ (fun j H' _ h => SqL.of (h.1 _ _ eD)) (fun j v Ha Hb hj h y => ?_) (fun H11 h => ?_)
  · obtain ⟨sd, ls, eB, tab⟩ := h
    obtain ⟨rfl, hv⟩ := y
    rw [List.length_map] at hj
    obtain ⟨t, ht, rfl⟩ := map_ref_get hv
    obtain ⟨⟨qa, qs⟩, hq, ht2⟩ := plsV_get hpl ht
    obtain ⟨st, hst⟩ := spots_mem.mp (List.mem_of_getElem? hq)
    have s2 := same_trans s10 sd
    refine ⟨rfl, ?_⟩
    refine ⟨_, rfl, _, rfl, a, dx, _, rfl, s2 _ _ hA9, rfl, _, rfl, rfl, a, t, dx, pa, bn, _, ring, ys, ps, (qa, qs), st, rfl, s2 _ _ hA9, rfl, rfl, rfl, SqT.of (s2 _ _ (Off.at f7)), s2 _ _ (Off.at f9), prtsA_mono s2 psW9, hok, hnd, hr1, hr4, sd _ _ ht2, hst, ckS_fits n3 hst, fun l He se rows => ?_⟩
    have eB2 := se _ _ eB
    have nB : NotSq (He ba) := by rw [eB2]; trivial
    have hlq : ls.length = j := by rw [tab.1, List.length_take]; omega
    refine ⟨_, plK (qa, qs), t, rfl, se _ _ (sd _ _ ht2), eB2, ?_, same_upd (same_trans sd se) hba, ls ++ [l], ?_, ?_⟩
    · rw [plKv_len tab.1.symm, List.length_take]
      exact small (by omega)
    · rw [upd_same, plKv_snoc hq hlq, putK_new]
      refine plKv_none fun hm => ?_
      obtain ⟨i, hi⟩ := List.getElem?_of_mem hm
      have hij : i < j := by
        have := (List.getElem?_eq_some_iff.mp hi).1
        rw [List.length_take] at this
        omega
      rw [List.getElem?_take_of_lt hij] at hi
      exact nodup_at (f := id) (by rw [List.map_id]; exact spotsN_nodup _ _) hij hi hq rfl
    · refine TabV.snoc hq (tabV_chg nB (tab.mono se)) (rowsV_chg nB ?_)
      have e : bytesAtF ps (qa, qs) = stepB ps st := by
        funext r
        unfold bytesAtF
        rw [hst]
      rw [e]
      exact rows
  obtain ⟨s11, ls, eB, tab⟩ := h
  rw [List.length_map, hlt, take_all (Nat.le_refl _)] at eB tab
  have s1011 := same_trans s10 s11
  have hA11 := s1011 _ _ hA9
  refine ⟨_, rfl, a, 599, dx, _, rfl, hA11, cls_Net w, na_Net_bytes_at w, Nat.le_of_ble_eq_true rfl, ?_⟩
  have nba : ba ≠ a := ne_of eB hA11 (fun z => nomatch z)
  have nA : NotSq (H11 a) := by rw [hA11]; trivial
  have S91 : Same (Off a (upd H9 a (.ins 599 dx [("line", .int line), ("ring", .int ring), ("variables", .ref pv), ("signals", .ref pg), ("agents", .ref pa), ("shape", .ref sh), ("by_name", .ref bn)]))) (Off a (upd H11 a (.ins 599 dx [("line", .int line), ("ring", .int ring), ("variables", .ref pv), ("signals", .ref pg), ("agents", .ref pa), ("shape", .ref sh), ("by_name", .ref bn), ("bytes_at", .ref ba)]))) := same_trans (Off.same s1011) offU
  have hA12' : (upd H11 a (.ins 599 dx [("line", .int line), ("ring", .int ring), ("variables", .ref pv), ("signals", .ref pg), ("agents", .ref pa), ("shape", .ref sh), ("by_name", .ref bn), ("bytes_at", .ref ba)])) a = _ := upd_same
  have S11 := same_trans S9 S91
  have f5 := S91 _ _ f5
  have f6 := S91 _ _ f6
  have f7 := S91 _ _ f7
  have f8 := S91 _ _ f8
  have f9 := S91 _ _ f9
  have f11 := Off.of ((upd_ne nba).trans eB : (upd H11 a (.ins 599 dx [("line", .int line), ("ring", .int ring), ("variables", .ref pv), ("signals", .ref pg), ("agents", .ref pa), ("shape", .ref sh), ("by_name", .ref bn), ("bytes_at", .ref ba)])) ba = _) nba
  have tab := ((tabV_off nA tab).mono (offU (o := .ins 599 dx [("line", .int line), ("ring", .int ring), ("variables", .ref pv), ("signals", .ref pg), ("agents", .ref pa), ("shape", .ref sh), ("by_name", .ref bn), ("bytes_at", .ref ba)]))).mono offAt
  have hB := Off.at f11
  have nB : NotSq ((upd H11 a (.ins 599 dx [("line", .int line), ("ring", .int ring), ("variables", .ref pv), ("signals", .ref pg), ("agents", .ref pa), ("shape", .ref sh), ("by_name", .ref bn), ("bytes_at", .ref ba)])) ba) := by rw [hB]; trivial
  refine ⟨ba, _, hB, trivial, fun od => ?_⟩
  have hAF : (upd (upd H11 a (.ins 599 dx [("line", .int line), ("ring", .int ring), ("variables", .ref pv), ("signals", .ref pg), ("agents", .ref pa), ("shape", .ref sh), ("by_name", .ref bn), ("bytes_at", .ref ba)])) ba (.frz od (.dT (plKv (spots ps) ls)))) a = some (.ins 599 dx [("line", .int line), ("ring", .int ring), ("variables", .ref pv), ("signals", .ref pg), ("agents", .ref pa), ("shape", .ref sh), ("by_name", .ref bn), ("bytes_at", .ref ba)]) := (upd_ne (Ne.symm nba)).trans upd_same
  refine ⟨_, rfl, a, 599, dx, _, _, rfl, hAF, cls_Net w, na_Net_bytes_at w, rfl, ba, od, rfl, .inr ⟨_, upd_same, fun D hD => ?_⟩⟩
  have tabF := tabV_chg (o := .frz od (.dT (plKv (spots ps) ls))) nB tab
  have hlk : (plKv (spots ps) ls).length = (spots ps).length := plKv_len tab.1.symm
  refine cc_it (o0 := fun _ => .dT []) walk_keysT (fun j H' => Same (upd (upd H11 a (.ins 599 dx [("line", .int line), ("ring", .int ring), ("variables", .ref pv), ("signals", .ref pg), ("agents", .ref pa), ("shape", .ref sh), ("by_name", .ref bn), ("bytes_at", .ref ba)])) ba (.frz od (.dT (plKv (spots ps) ls)))) H' ∧ ∃ l2, H' D = some (.dT (plKv ((spots ps).take j) l2)) ∧ TabV (hd12.heap_39 w.params) H' l2 ((spots ps).take j) (linesAtF ps line) ring) ⟨same_new hD, [], upd_same, rfl, fun i l q h => by cases h⟩ (fun j H' _ h => h.1 _ _ upd_same) (fun j v Ha Hb hj h y => ?_) (fun H12 h => ?_)
  · obtain ⟨sd, l2, eL, tab2⟩ := h
    obtain ⟨rfl, kk, v2, t, hkv, rfl, ht⟩ := y
    rw [hlk] at hj
    obtain ⟨⟨qa, qs⟩, l0, hq, hl0, rfl, rfl⟩ := plKv_get hkv
    obtain ⟨st, hst⟩ := spots_mem.mp (List.mem_of_getElem? hq)
    obtain ⟨ts2, hl, hln, hrow⟩ := (tabF.2 j l0 _ hl0 hq).mono sd
    have ebf : bytesAtF ps (qa, qs) = stepB ps st := by
      funext r
      unfold bytesAtF
      rw [hst]
    refine ⟨rfl, ?_⟩
    refine ⟨_, rfl, _, rfl, a, 599, dx, _, _, rfl, sd _ _ hAF, cls_Net w, na_Net_bytes_at w, rfl, _, rfl, ba, .ref l0, rfl, .inr ⟨_, plK (qa, qs), t, .inr ⟨od, sd _ _ upd_same⟩, rfl, ht, (plKv_some (spotsN_nodup _ _) hq hl0).symm⟩, l0, rfl, ⟨_, SqL.of hl⟩, fun D2 hD2 => ?_⟩
    refine lc_it (walk_list (xs := ts2.map V.ref)) (fun m H' => Same Hb H' ∧ ∃ us : List Addr, H' D2 = some (.lst (us.map V.ref)) ∧ us.length = m ∧ ∀ r t, us[r]? = some t → SqT (hd12.heap_39 w.params) H' t ((linesAtF ps line (qa, qs) r).map V.int)) ⟨same_new hD2, [], upd_same, rfl, fun r t h => by cases h⟩ (fun m H' _ h => SqL.of (h.1 _ _ hl)) (fun m v Hc Hd hm h y => ?_) (fun He h => ?_)
    · obtain ⟨s4, us, eU, hul, hus⟩ := h
      obtain ⟨rfl, hv⟩ := y
      rw [List.length_map] at hm
      obtain ⟨t3, ht3, rfl⟩ := map_ref_get hv
      have hr3 := hrow m t3 ht3
      obtain ⟨hb8, hbr⟩ := stepB_range hok (stepOf_ok hok hst) (ckS_fits n3 hst) m
      rw [← ebf] at hb8 hbr
      refine ⟨rfl, ?_⟩
      refine ⟨_, rfl, _, rfl, rfl, t3, line, bytesAtF ps (qa, qs) m, rfl, st_mono s4 hr3, hl1.1, hl1.2, hb8, hbr, fun z Hz sz ez => ?_⟩
      refine ⟨_, sz _ _ eU, ?_, same_upd (same_trans s4 sz) hD2, us ++ [z], ?_, by rw [List.length_append, hul] <;> rfl, fun r t4 h4 => ?_⟩
      · rw [List.length_map, hul]
        exact small (by omega)
      · rw [upd_same, List.map_append] <;> rfl
      · refine sqT_lst (sz _ _ eU) ?_
        by_cases hrm : r < m
        · rw [List.getElem?_append_left (by omega)] at h4
          exact st_mono sz (hus r t4 h4)
        · have hrl := (List.getElem?_eq_some_iff.mp h4).1
          rw [List.length_append, hul] at hrl
          obtain rfl : r = m := by simp at hrl; omega
          rw [List.getElem?_append_right (by omega), hul, Nat.sub_self] at h4
          cases h4
          exact SqT.of ez
    · obtain ⟨s4, us, eU, hul, hus⟩ := h
      rw [List.length_map, hln] at hul
      have eL2 := s4 _ _ eL
      have nD : NotSq (He D) := by rw [eL2]; trivial
      have hlq : l2.length = j := by rw [tab2.1, List.length_take]; omega
      refine ⟨_, plK (qa, qs), t, rfl, s4 _ _ ht, eL2, ?_, same_upd (same_trans sd s4) hD, l2 ++ [D2], ?_, ?_⟩
      · rw [plKv_len tab2.1.symm, List.length_take]
        exact small (by omega)
      · rw [upd_same, plKv_snoc hq hlq, putK_new]
        refine plKv_none fun hm => ?_
        obtain ⟨i, hi⟩ := List.getElem?_of_mem hm
        have hij : i < j := by
          have := (List.getElem?_eq_some_iff.mp hi).1
          rw [List.length_take] at this
          omega
        rw [List.getElem?_take_of_lt hij] at hi
        exact nodup_at (f := id) (by rw [List.map_id]; exact spotsN_nodup _ _) hij hi hq rfl
      · exact TabV.snoc hq (tabV_chg nD (tab2.mono s4)) (rowsV_chg nD ⟨us, eU, hul, hus⟩)
  obtain ⟨s12, l2, eL, tab2⟩ := h
  rw [hlk, take_all (Nat.le_refl _)] at eL tab2
  have hA12 := s12 _ _ hAF
  have hB12 := s12 _ _ (upd_same (o := .frz od (.dT (plKv (spots ps) ls))))
  have sU := same_lock hB s12
  refine ⟨hB12, _, rfl, a, 599, dx, _, rfl, sU _ _ upd_same, cls_Net w, na_Net_lines_at w, Nat.le_of_ble_eq_true rfl, ?_⟩
  have nD : NotSq (H12 D) := by rw [eL]; trivial
  have nB2 : NotSq (H12 ba) := by rw [hB12]; trivial
  have nDa : D ≠ a := ne_of eL hA12 (fun z => nomatch z)
  have nDb : D ≠ ba := ne_of eL hB12 (fun z => nomatch z)
  have SZ : Same (Off a (upd H11 a (.ins 599 dx [("line", .int line), ("ring", .int ring), ("variables", .ref pv), ("signals", .ref pg), ("agents", .ref pa), ("shape", .ref sh), ("by_name", .ref bn), ("bytes_at", .ref ba)]))) (Off a (upd (upd H12 ba (.dT (plKv (spots ps) ls))) a (.ins 599 dx [("line", .int line), ("ring", .int ring), ("variables", .ref pv), ("signals", .ref pg), ("agents", .ref pa), ("shape", .ref sh), ("by_name", .ref bn), ("bytes_at", .ref ba), ("lines_at", .ref D)]))) := same_trans (Off.same sU) offU
  have SA := same_trans S11 SZ
  have nA2 : NotSq ((upd H12 ba (.dT (plKv (spots ps) ls))) a) := by rw [sU _ _ upd_same]; trivial
  have tab3 := tabV_chg (o := .ins 599 dx [("line", .int line), ("ring", .int ring), ("variables", .ref pv), ("signals", .ref pg), ("agents", .ref pa), ("shape", .ref sh), ("by_name", .ref bn), ("bytes_at", .ref ba), ("lines_at", .ref D)]) nA2 (tabV_chg (o := .dT (plKv (spots ps) ls)) nB2 tab2)
  have nAW : NotSq ((upd H11 a (.ins 599 dx [("line", .int line), ("ring", .int ring), ("variables", .ref pv), ("signals", .ref pg), ("agents", .ref pa), ("shape", .ref sh), ("by_name", .ref bn), ("bytes_at", .ref ba)])) a) := by rw [hA12']; trivial
  have tab4 := ((tabV_off nAW tab).mono SZ).mono offAt
  refine q _ rfl n0 SA ⟨dx, pv, pg, pa, sh, bn, ba, D, upd_same, ?_⟩
  exact ⟨prtsA_mono (same_trans SA offAt) psO, Off.at (SZ _ _ f5), Off.at (SZ _ _ f6), Off.at (SZ _ _ f7), Off.at (SZ _ _ f8), Off.at (SZ _ _ f9), ⟨ls, Off.at (SZ _ _ f11), tab4⟩, ⟨l2, (upd_ne nDa).trans ((upd_ne nDb).trans eL), tab3⟩⟩
end
end M12

namespace M12
open PySem PySem.Spec PyProof.Rows L2 StX Uk
local macro_rules | `(tactic| wtm_at "cls") => `(tactic| first | exact cls_Agent _ | exact cls_Signal _ | exact cls_Variable _ | exact cls_Net _)
local macro_rules | `(tactic| wtm_at "na") => `(tactic| first | exact na_Agent_name _ | exact na_Agent_steps _ | exact na_Agent_shape _ | exact na_Signal_name _ | exact na_Signal_tokens _ | exact na_Variable_name _ | exact na_Variable_size _ | exact na_Variable_at _ | exact na_Variable_shape _ | exact na_Net_line _ | exact na_Net_ring _ | exact na_Net_variables _ | exact na_Net_signals _ | exact na_Net_agents _ | exact na_Net_shape _ | exact na_Net_by_name _ | exact na_Net_bytes_at _ | exact na_Net_lines_at _)

def spMkNet (K : PySem.W.Frag) (xs : List V) (v1 v2 : V) (H : Hp) (Q : VK) (E : XK) : Prop := ∃ (d1 d2 : PyData) (as : List NArg), Dq K H v1 d1 ∧ Dq K H v2 d2 ∧ ArgsV cs K H xs as ∧ xs.length ≤ 1000 ∧
  match wantN d1 d2 as with
  | none => ∀ x line ring ys ps H', d1 = .int line → d2 = .int ring → xs = ys.map V.ref → as.map argP = ps → (∀ j, j < as.length → argAt as j = false) → Same H H' → NetA 599 cs K H' x line ring ys ps → Q (.ref x) H'
  | some r => ∀ H' d v, Same H H' → PlV H' v r.2 → H' d = some (.xd [("place", v), ("reason", .str r.1)]) → E (.ref 74) (some d) H'
theorem mkNet {K : PySem.W.Frag} {xs : List V} {v1 v2 : V} {zs : List (PySem.Str × V)} {H : Hp} {Q : VK} {E : XK} (hz : (zs = [] ∧ v1 = .int 8 ∧ v2 = .int 1) ∨ zs = (["line", "ring"] : List PySem.Str).zip [v1, v2]) (h : spMkNet K xs v1 v2 H Q E) : spMkK 599 (spStarK 1 ["line", "ring"] [.int 8, .int 1] (spNInit K)) xs zs H Q E := by
  obtain ⟨d1, d2, as, h1, h2, has, hl, q⟩ := h
  intro x dx hx hdx hne
  have sA : Same H (upd (upd H dx (.own x)) x (.ins 599 dx [])) := same_trans (same_new hdx) (same_new (by rw [upd_ne (Ne.symm hne)]; exact hx))
  refine ⟨[.ref x], xs, [v1, v2], rfl, rfl, ?_, by rw [sizeLine_eq]; omega, fun p hp => ?_⟩
  · rcases hz with ⟨rfl, rfl, rfl⟩ | rfl
    · exact .inl ⟨rfl, rfl⟩
    · exact .inr ⟨rfl, rfl⟩
  have sB := same_trans sA (same_new (o := .tup xs) hp)
  have sO : Same H (Off x (upd (upd (upd H dx (.own x)) x (.ins 599 dx [])) p (.tup xs))) := fun b u e => Off.of (sB _ _ e) (fun e2 => by rw [e2, hx] at e; cases e)
  refine ⟨x, dx, p, v1, v2, d1, d2, xs, as, rfl, at_new hp upd_same, upd_same, dq_mono sB h1, dq_mono sB h2, argsV_mono sO has, hl, ?_⟩
  split
  · rename_i e
    rw [e] at q
    exact fun line ring ys ps H' e1 e2 e3 e4 e5 s N => ⟨rfl, q x line ring ys ps H' e1 e2 e3 e4 e5 (same_trans sO (same_trans s offAt)) N⟩
  · rename_i r e
    rw [e] at q
    exact fun H' d v s => q H' d v (same_trans sB s)
def spNMade (K : PySem.W.Frag) : Sp := fun vs H Q E => ∃ (l : Addr) (v1 v2 : V) (xs : List V), vs = [.ref 599, .ref l, v1, v2] ∧ (SqT K H l xs ∨ SqL K H l xs) ∧ spMkNet K xs v1 v2 H Q E
def spNLen (K : PySem.W.Frag) : Sp := fun vs H Q _ => ∃ (x : Addr) (line ring : Int) (ys : List Addr) (ps : List Prt), vs = [.ref x] ∧ NetA 599 cs K H x line ring ys ps ∧ Q (.int (ofC 0 ps).length) H
def hasN (ps : List Prt) (d : PyData) : Bool := match d with
  | .str n => decide (n ∈ ps.map Prt.n)
  | _ => false
theorem hasN_kv {xs : List Addr} {ps : List Prt} (hl : xs.length = ps.length) (hn : (ps.map Prt.n).Nodup) (n : PySem.Str) : (valV (nameKv xs ps) (Sum.inr n)).isSome = hasN ps (.str n) := by
  unfold hasN
  by_cases h : n ∈ ps.map Prt.n
  · obtain ⟨p, hp, rfl⟩ := List.mem_map.mp h
    obtain ⟨i, hi⟩ := List.getElem?_of_mem hp
    have hil : i < xs.length := by rw [hl]; exact (List.getElem?_eq_some_iff.mp hi).1
    rw [nameKv_some hn (List.getElem?_eq_getElem hil) hi]
    exact (decide_eq_true h).symm
  · rw [nameKv_none h]
    exact (decide_eq_false h).symm
theorem hasN_not {ps : List Prt} {d : PyData} (e : isD "str" d = false) : hasN ps d = false := by
  cases d <;> first | rfl | exact absurd e (by simp only [isD, tyD]; decide)
def spNHas (K : PySem.W.Frag) : Sp := fun vs H Q _ => ∃ (x : Addr) (v : V) (d : PyData) (line ring : Int) (ys : List Addr) (ps : List Prt), vs = [.ref x, v] ∧ NetA 599 cs K H x line ring ys ps ∧ (ps.map Prt.n).Nodup ∧ Dq K H v d ∧ Q (.bl (hasN ps d)) H
def spNGet (K : PySem.W.Frag) : Sp := fun vs H Q E => ∃ (x : Addr) (v : V) (d : PyData) (line ring : Int) (ys : List Addr) (ps : List Prt), vs = [.ref x, v] ∧ NetA 599 cs K H x line ring ys ps ∧ (ps.map Prt.n).Nodup ∧ Dq K H v d ∧
  (∀ (i : Nat) (y : Addr) (p : Prt), d = .str p.n → ys[i]? = some y → ps[i]? = some p → Q (.ref y) H) ∧ (hasN ps d = false → ∀ dd H', Same H H' → H' dd = some (.xd [("name", v)]) → E (.ref 95) (some dd) H')
def spPEq (K : PySem.W.Frag) : Sp := fun vs H Q _ => ∃ (x : Addr) (p : Prt), vs = [.ref x, .ref x] ∧ PrtA cs K H x p ∧ Q (.bl true) H
section
variable {mg : PySem.Str → Option Value} {base : Heap} {w : World}
theorem ok_Net_made (M : Mod (hd12.heap_39 w.params) mg base) : CallG PP w (hd12.heap_39 w.params) mg base 14 (.ref 476) (spKwD 2 ["line", "ring"] [.int 8, .int 1] (spNMade (hd12.heap_39 w.params))) := by
  obtain ⟨fd, F⟩ := fnd_Net_made w
  refine def_kwD (ps := ["cls", "parts"]) (ks := ["line", "ring"]) F sc_Net_made rfl (by simp) (fun kV doc pm an cdv ct us ws h1 h2 => ?_) (fun D doc pm an cdv ct us ws h1 h2 => ?_) (fun cdv A outer s H vs Q E hr hg h => ?_)
  · match us, ws, h1, h2 with
    | [_, _], [_, _], _, _ => rfl
  · match us, ws, h1, h2 with
    | [_, _], [_, _], _, _ => exact ⟨_, _, _, _, _, _, rfl, rfl, _, _, _, _, _, _, rfl, rfl, rfl⟩
  have nd := sc_Net_made.nd
  obtain ⟨l, v1, v2, xs, rfl, hx, q⟩ := h
  refine ⟨_, (pss_one (ps_ret (pe_mkSK (ns := ["line", "ring"]) (dom := fun C => C = 599) (takes_of rfl rfl rfl rfl) (fun C e => by subst e; exact mk_Net w) (ok_Net___init__ M) (hr.mono (by decide)) hg (pv 0) (pv 1) (pk_cons (pv 2) (pk_cons (pv 3) pk_nil))))), ?_⟩
  exact ⟨_, rfl, 599, rfl, rfl, _, rfl, _, rfl, _, rfl, l, xs, rfl, hx, rfl, mkNet (.inr rfl) q⟩
theorem ok_Net___len__ (M : Mod (hd12.heap_39 w.params) mg base) : CallG PP w (hd12.heap_39 w.params) mg base 3 (.ref 486) (pos (spNLen (hd12.heap_39 w.params))) := by
  obtain ⟨fd, F⟩ := fn_Net___len__ w
  refine def_pos F sc_Net___len__ (fun vs H Q E h => ?_) (fun _ _ _ _ _ _ us hl => match us, hl with | [_], _ => rfl) (fun cdv A outer s H vs Q E hr hg h => ?_)
  · obtain ⟨x, line, ring, ys, ps, rfl, _⟩ := h; rfl
  have nd := sc_Net___len__.nd
  obtain ⟨x, line, ring, ys, ps, rfl, ⟨dx, av, ag, pa, sh, bn, ba, la, hx, N⟩, q⟩ := h
  refine ⟨_, (pss_one (ps_ret (pe_callB call_len_seq (by rfl) (mn_len M) (by decide +kernel) (pa_cons (pe_fld (pv 0) rfl) pa_nil)))), ?_⟩
  refine ⟨_, rfl, x, 599, dx, _, _, rfl, hx, cls_Net w, na_Net_agents w, rfl, pa, _, rfl, .inr (SqT.of N.ha), ?_⟩
  rw [List.length_map, ofA_len (prtsA_len N.prts)]
  exact q
theorem ok_Net___contains__ (M : Mod (hd12.heap_39 w.params) mg base) : CallG PP w (hd12.heap_39 w.params) mg base 3 (.ref 500) (pos (spNHas (hd12.heap_39 w.params))) := by
  obtain ⟨fd, F⟩ := fn_Net___contains__ w
  refine def_pos F sc_Net___contains__ (fun vs H Q E h => ?_) (fun _ _ _ _ _ _ us hl => match us, hl with | [_, _], _ => rfl) (fun cdv A outer s H vs Q E hr hg h => ?_)
  · obtain ⟨x, v, d, line, ring, ys, ps, rfl, _⟩ := h; rfl
  have nd := sc_Net___contains__.nd
  obtain ⟨x, v, d, line, ring, ys, ps, rfl, ⟨dx, av, ag, pa, sh, bn, ba, la, hx, N⟩, hn, hd, q⟩ := h
  refine ⟨_, (pss_one (ps_ret (pe_and (pe_callB call_isi (by rfl) (mn_isinstance M) (by decide +kernel) (pa_cons (pv 1) (pa_cons (pe_bltn (v := .ty "str") (by rfl) (mn_str M) (by decide +kernel) rfl) pa_nil))) (pe_one (pe_cmp (pc_din (hu_of hr) (pv 1) (pe_fld (pv 0) rfl)) rfl))))), ?_⟩
  refine ⟨_, rfl, _, _, _, _, _, rfl, .ty "str", dq_ty hd, kit_dStr d, _, rfl, ite_b (fun e => ?_) (fun e => ?_)⟩
  · obtain ⟨n, rfl, rfl⟩ := dq_str hd e
    refine ⟨_, rfl, _, rfl, x, 599, dx, _, _, rfl, hx, cls_Net w, na_Net_by_name w, rfl, bn, _, rfl, DGet.k (k := Sum.inr n) N.hn, ?_⟩
    rw [hasN_kv (prtsA_len N.prts) hn]
    exact q
  · rw [hasN_not e] at q
    exact q
theorem ok_Net___getitem__ (M : Mod (hd12.heap_39 w.params) mg base) : CallG PP w (hd12.heap_39 w.params) mg base 5 (.ref 507) (pos (spNGet (hd12.heap_39 w.params))) := by
  obtain ⟨fd, F⟩ := fn_Net___getitem__ w
  refine def_pos F sc_Net___getitem__ (fun vs H Q E h => ?_) (fun _ _ _ _ _ _ us hl => match us, hl with | [_, _], _ => rfl) (fun cdv A outer s H vs Q E hr hg h => ?_)
  · obtain ⟨x, v, d, line, ring, ys, ps, rfl, _⟩ := h; rfl
  have nd := sc_Net___getitem__.nd
  obtain ⟨x, v, d, line, ring, ys, ps, rfl, ⟨dx, av, ag, pa, sh, bn, ba, la, hx, N⟩, hn, hd, q1, q2⟩ := h
  refine ⟨_, (pss_cons (ps_if (PW.pt (pw_or (pt_not (pt_val (pe_callB call_isi (by rfl) (mn_isinstance M) (by decide +kernel) (pa_cons (pv 1) (pa_cons (pe_bltn (v := .ty "str") (by rfl) (mn_str M) (by decide +kernel) rfl) pa_nil))))) (pw_or1 (pt_cmp (pc_dnotin (hu_of hr) (pv 1) (pe_fld (pv 0) rfl)))))) (pss_one (ps_raise rfl (takes_of rfl rfl rfl rfl) (pmk_E (mke_NoName w) (takes_of rfl rfl rfl rfl) (ok_NoName___init__ M) (hr.mono (by decide)) hg (kp_NoName w) rfl (mg_NoName M) (pa_cons (pv 1) pa_nil) (by decide)))) pss_nil)
      (pss_one (ps_ret (pe_dget (hu_of hr) (pe_fld (pv 0) rfl) (pv 1) (fun _ _ => rfl))))), ?_⟩
  refine ⟨_, rfl, _, _, _, _, _, rfl, .ty "str", dq_ty hd, kit_dStr d, _, rfl, ite_b (fun e => ?_) (fun e => ?_)⟩
  · refine ifT (b := true) rfl ⟨_, rfl, rfl, fun d1 hd1 => ?_⟩
    exact q2 (hasN_not (not_b e)) d1 _ (same_new hd1) upd_same
  obtain ⟨n, rfl, rfl⟩ := dq_str hd (not_b' e)
  refine ⟨_, rfl, _, rfl, x, 599, dx, _, _, rfl, hx, cls_Net w, na_Net_by_name w, rfl, bn, _, rfl, DGet.k (k := Sum.inr n) N.hn, _, rfl, ?_⟩
  rw [hasN_kv (prtsA_len N.prts) hn]
  refine ite_b (fun e2 => ?_) (fun e2 => ?_)
  · exact ⟨_, rfl, rfl, fun d1 hd1 => q2 (not_b e2) d1 _ (same_new hd1) upd_same⟩
  · have hm : n ∈ ps.map Prt.n := of_decide_eq_true (not_b' e2)
    obtain ⟨r, hr2, rfl⟩ := List.mem_map.mp hm
    obtain ⟨i, hi⟩ := List.getElem?_of_mem hr2
    obtain ⟨y, hy, _⟩ := prtsA_get' N.prts hi
    have z := DGet.k (k := Sum.inr r.n) N.hn
    rw [show valV (nameKv ys ps) (Sum.inr r.n) = some (.ref y) from nameKv_some hn hy hi] at z
    exact ⟨_, rfl, x, 599, dx, _, _, rfl, hx, cls_Net w, na_Net_by_name w, rfl, _, rfl, bn, .ref y, rfl, z, q1 i y r rfl hy hi⟩
theorem ok_Variable___eq__ (M : Mod (hd12.heap_39 w.params) mg base) : CallG PP w (hd12.heap_39 w.params) mg base 2 (.ref 403) (pos (fun vs H Q E => ∃ (x : Addr) (n : PySem.Str) (b : Int) (as : List Int), vs = [.ref x, .ref x] ∧ PrtA cs (hd12.heap_39 w.params) H x (.var n b as) ∧ Q (.bl true) H)) := by
  obtain ⟨fd, F⟩ := fn_Variable___eq__ w
  refine def_pos F sc_Variable___eq__ (fun vs H Q E h => ?_) (fun _ _ _ _ _ _ us hl => match us, hl with | [_, _], _ => rfl) (fun cdv A outer s H vs Q E hr hg h => ?_)
  · obtain ⟨x, n, b, as, rfl, _⟩ := h; rfl
  have nd := sc_Variable___eq__.nd
  obtain ⟨x, n, b, as, rfl, hA, q⟩ := h
  refine ⟨_, (pss_one (ps_ret (pe_and (pe_callB call_isi (by rfl) (mn_isinstance M) (by decide +kernel) (pa_cons (pv 1) (pa_cons (pe_glob (v := .ref 411) rfl (mg_Variable M) rfl) pa_nil))) (pe_one (pe_cmpR (op_eqTs (hu_big hr)) (pe_fld (pv 0) rfl) (pe_fld (pv 1) rfl) (nomark _)))))), ?_⟩
  refine ⟨_, rfl, _, _, _, _, _, rfl, .own _, prt_ty hA, prt_kt 2 (by decide) hA, _, rfl, ifT rfl ?_⟩
  obtain ⟨dx, pa, sq, hx, hpa, hsq⟩ := hA
  exact ⟨_, rfl, x, 411, dx, _, _, rfl, hx, cls_Variable w, na_Variable_shape w, rfl, _, rfl, x, 411, dx, _, _, rfl, hx, cls_Variable w, na_Variable_shape w, rfl, sq, sq, _, rfl, rfl, SqT.of hsq, SqT.of hsq, (fun v hv => by simp only [List.mem_cons, List.not_mem_nil, or_false] at hv; rcases hv with rfl | rfl | rfl <;> rfl), q⟩
theorem ok_Signal___eq__ (M : Mod (hd12.heap_39 w.params) mg base) : CallG PP w (hd12.heap_39 w.params) mg base 2 (.ref 334) (pos (fun vs H Q E => ∃ (x : Addr) (n : PySem.Str) (t : Int), vs = [.ref x, .ref x] ∧ PrtA cs (hd12.heap_39 w.params) H x (.sig n t) ∧ Q (.bl true) H)) := by
  obtain ⟨fd, F⟩ := fn_Signal___eq__ w
  refine def_pos F sc_Signal___eq__ (fun vs H Q E h => ?_) (fun _ _ _ _ _ _ us hl => match us, hl with | [_, _], _ => rfl) (fun cdv A outer s H vs Q E hr hg h => ?_)
  · obtain ⟨x, n, t, rfl, _⟩ := h; rfl
  have nd := sc_Signal___eq__.nd
  obtain ⟨x, n, t, rfl, hA, q⟩ := h
  refine ⟨_, (pss_one (ps_ret (pe_and (pe_callB call_isi (by rfl) (mn_isinstance M) (by decide +kernel) (pa_cons (pv 1) (pa_cons (pe_glob (v := .ref 337) rfl (mg_Signal M) rfl) pa_nil))) (pe_and (pe_cmpR op_eq (pe_fld (pv 0) rfl) (pe_fld (pv 1) rfl) (nomark _)) (pe_one (pe_cmpR op_eq (pe_fld (pv 0) rfl) (pe_fld (pv 1) rfl) (nomark _))))))), ?_⟩
  refine ⟨_, rfl, _, _, _, _, _, rfl, .own _, prt_ty hA, prt_kt 1 (by decide) hA, _, rfl, ifT rfl ?_⟩
  obtain ⟨dx, hx⟩ := hA
  refine ⟨_, rfl, x, 337, dx, _, _, rfl, hx, cls_Signal w, na_Signal_name w, rfl, _, rfl, x, 337, dx, _, _, rfl, hx, cls_Signal w, na_Signal_name w, rfl, rfl, _, rfl, ifT (decide_eq_true rfl) ⟨_, rfl, x, 337, dx, _, _, rfl, hx, cls_Signal w, na_Signal_tokens w, rfl, _, rfl, x, 337, dx, _, _, rfl, hx, cls_Signal w, na_Signal_tokens w, rfl, rfl, ?_⟩⟩
  rw [decide_eq_true (p := V.int t = V.int t) rfl]
  exact q
theorem ok_Agent___eq__ (M : Mod (hd12.heap_39 w.params) mg base) : CallG PP w (hd12.heap_39 w.params) mg base 2 (.ref 215) (pos (fun vs H Q E => ∃ (x : Addr) (k : Nat) (n : PySem.Str) (ss : List Stp), vs = [.ref x, .ref x] ∧ PrtA cs (hd12.heap_39 w.params) H x (.ag k n ss) ∧ Q (.bl true) H)) := by
  obtain ⟨fd, F⟩ := fn_Agent___eq__ w
  refine def_pos F sc_Agent___eq__ (fun vs H Q E h => ?_) (fun _ _ _ _ _ _ us hl => match us, hl with | [_, _], _ => rfl) (fun cdv A outer s H vs Q E hr hg h => ?_)
  · obtain ⟨x, k, n, ss, rfl, _⟩ := h; rfl
  have nd := sc_Agent___eq__.nd
  obtain ⟨x, k, n, ss, rfl, hA, q⟩ := h
  refine ⟨_, (pss_one (ps_ret (pe_and (pe_callB call_isi (by rfl) (mn_isinstance M) (by decide +kernel) (pa_cons (pv 1) (pa_cons (pe_glob (v := .ref 232) rfl (mg_Agent M) rfl) pa_nil))) (pe_one (pe_cmpR (op_eqTs (hu_big hr)) (pe_fld (pv 0) rfl) (pe_fld (pv 1) rfl) (nomark _)))))), ?_⟩
  refine ⟨_, rfl, _, _, _, _, _, rfl, .own _, prt_ty hA, prt_kt 0 (by decide) hA, _, rfl, ifT rfl ?_⟩
  obtain ⟨dx, pa, sq, vs, hx, hpa, _, hsq, hk⟩ := hA
  rcases lt3 hk with rfl | rfl | rfl
  · exact ⟨_, rfl, x, 232, dx, _, _, rfl, hx, cls_Agent w, na_Agent_shape w, rfl, _, rfl, x, 232, dx, _, _, rfl, hx, cls_Agent w, na_Agent_shape w, rfl, sq, sq, _, rfl, rfl, SqT.of hsq, SqT.of hsq, (fun v hv => by simp only [List.mem_cons, List.not_mem_nil, or_false] at hv; rcases hv with rfl | rfl | rfl <;> rfl), q⟩
  · exact ⟨_, rfl, x, 272, dx, _, _, rfl, hx, cls_Through w, na_Through_shape w, rfl, _, rfl, x, 272, dx, _, _, rfl, hx, cls_Through w, na_Through_shape w, rfl, sq, sq, _, rfl, rfl, SqT.of hsq, SqT.of hsq, (fun v hv => by simp only [List.mem_cons, List.not_mem_nil, or_false] at hv; rcases hv with rfl | rfl | rfl <;> rfl), q⟩
  · exact ⟨_, rfl, x, 310, dx, _, _, rfl, hx, cls_Back w, na_Back_shape w, rfl, _, rfl, x, 310, dx, _, _, rfl, hx, cls_Back w, na_Back_shape w, rfl, sq, sq, _, rfl, rfl, SqT.of hsq, SqT.of hsq, (fun v hv => by simp only [List.mem_cons, List.not_mem_nil, or_false] at hv; rcases hv with rfl | rfl | rfl <;> rfl), q⟩
end
end M12

namespace M12
open PySem PySem.Spec PyProof.Rows L2 StX Uk
local macro_rules | `(tactic| wtm_at "cls") => `(tactic| first | exact cls_Agent _ | exact cls_Signal _ | exact cls_Variable _ | exact cls_Net _)
local macro_rules | `(tactic| wtm_at "na") => `(tactic| first | exact na_Agent_name _ | exact na_Agent_steps _ | exact na_Agent_shape _ | exact na_Signal_name _ | exact na_Signal_tokens _ | exact na_Variable_name _ | exact na_Variable_size _ | exact na_Variable_at _ | exact na_Variable_shape _ | exact na_Net_line _ | exact na_Net_ring _ | exact na_Net_variables _ | exact na_Net_signals _ | exact na_Net_agents _ | exact na_Net_shape _ | exact na_Net_by_name _ | exact na_Net_bytes_at _ | exact na_Net_lines_at _)

def spLShuf (K : PySem.W.Frag) : Sp := fun vs H Q _ => ∃ (p c l : Addr) (m : Int) (xs : List V) (ps : List Prt), vs = [.ref p, .ref l] ∧ Pen H p c m ∧ m ≤ 99000 ∧ Off p H l = some (.lst xs) ∧ ItmsV K (Off p H) xs ps ∧ xs.length ≤ 16 ∧
  ∀ r ys qs H', Same (Off p H) (Off p H') → Pen H' p c (m + 16) → Off p H' r = some (.lst ys) → ItmsV K (Off p H') ys qs → ps.Perm qs → Q (.ref r) H'
abbrev words7 : List PySem.Str := ["read", "write", "clean", "drop", "flush", "get", "put"]
theorem words7_may (k : Nat) (d : Nat) (h : d < 2 ∨ k ≠ 0) (h7 : d < 7) : (words7.getD d "read") ∈ wAcc ++ wUp ∧ (words7.getD d "read") ∈ mayK k := by
  have a : ∀ d, d < 7 → (words7.getD d "read") ∈ wAcc ++ wUp ∧ (words7.getD d "read") ∈ wordsA ++ wordsB := by decide +kernel
  have b : ∀ d, d < 2 → (words7.getD d "read") ∈ wordsA := by decide +kernel
  refine ⟨(a d h7).1, ?_⟩
  unfold mayK
  split
  · rename_i e
    rcases h with h | h
    · exact b d h
    · exact absurd e h
  · exact (a d h7).2
def spLSteps (K : PySem.W.Frag) : Sp := fun vs H Q _ => ∃ (p c V0 G : Addr) (m : Int) (k : Nat) (xs gs : List V) (vps : List Prt) (sts : List Stp), vs = [.ref p, .int k, .ref V0, .ref G] ∧ Pen H p c m ∧ m ≤ 99000 ∧ k < 3 ∧ Off p H V0 = some (.lst xs) ∧ ItmsV K (Off p H) xs vps ∧ VarsG vps ∧ 1 ≤ xs.length ∧ xs.length ≤ 1000 ∧
  Off p H G = some (.lst gs) ∧ StpsV K (Off p H) gs sts ∧ gs.length ≤ 12 ∧ ∀ r ys ex qs H', Same (Off p H) (Off p H') → Pen H' p c (m + 40) → H r = none → Off p H' r = some (.lst ys) → StpsV K (Off p H') ys qs → qs.Perm (sts ++ ex) → 1 ≤ ex.length → ex.length ≤ 4 → (∀ s ∈ ex, FiveOk k vps s) → Q (.ref r) H'
section
variable {mg : PySem.Str → Option Value} {base : Heap} {w : World}
theorem ok__law_shuffled (M : Mod (hd12.heap_39 w.params) mg base) : CallG PP w (hd12.heap_39 w.params) mg base 6 (.ref 636) (pos (spLShuf (hd12.heap_39 w.params))) := by
  obtain ⟨fd, F⟩ := fn__law_shuffled w
  refine def_pos F sc__law_shuffled (fun vs H Q E h => ?_) (fun _ _ _ _ _ _ us hl => match us, hl with | [_, _], _ => rfl) (fun cdv A outer s H vs Q E hr hg h => ?_)
  · obtain ⟨p, c, l, m, xs, ps, rfl, _⟩ := h; rfl
  have nd := sc__law_shuffled.nd
  obtain ⟨p, c, l, m, xs, ps, rfl, P, hm, hl, hI, h16, q⟩ := h
  refine ⟨_, (pss_cons (ps_set (i := 2) nd rfl (.inl rfl) (pe_lst pa_nil))
      (pss_cons (ps_for (passes_of rfl) rfl (pi_list (pv 1)) (pg_name (i := 3) nd rfl (.inl rfl)) (pss_cons (ps_set (i := 4) nd rfl (.inl rfl) (pe_cl (takes_of rfl rfl rfl rfl) (ok_drawP M) (hr.mono (by decide)) hg rfl (mg__law_draw M) (kp__law_draw w) (pa_cons (pv 0) (pa_cons (pe_op op_add (pe_callB call_len_seq (by rfl) (mn_len M) (by decide +kernel) (pa_cons (pv 2) pa_nil)) pe_int) pa_nil))))
      (pss_one (ps_set (i := 2) nd rfl (.inl rfl) (pe_op op_cat (pe_op op_cat (pe_slice sl_list (pv 2) po_none (po_some (pv 4))) (pe_lst (pa_cons (pv 3) pa_nil))) (pe_slice sl_list (pv 2) (po_some (pv 4)) po_none))))))
      (pss_one (ps_ret (pv 2))))), ?_⟩
  refine ⟨Nat.zero_le _, fun f0 hf0 => ?_⟩
  refine ⟨_, rfl, l, rfl, ⟨_, SqL.of (at_new hf0 (Off.at hl))⟩, ?_⟩
  refine for_it (walk_list (xs := xs)) (fun i σ H' => (∃ o3 o4 f ys qs, σ = [some (.ref p), some (.ref l), some (.ref f), o3, o4] ∧ Off p H' f = some (.lst ys) ∧ ItmsV (hd12.heap_39 w.params) (Off p H') ys qs ∧ qs.Perm (ps.take i)) ∧ Same (Off p H) (Off p H') ∧ Pen H' p c (m + i)) ⟨⟨_, _, f0, [], [], rfl, Off.of upd_same (P.ne hf0), .nil, by rw [List.take_zero]⟩, Off.new hf0, (P.new hf0).mono (by omega)⟩ (fun i σ H' _ h => SqL.of (Off.at (h.2.1 _ _ hl))) (fun i x σ H2 H3 hi h y => ?_) (fun σ H2 h => ?_)
  · obtain ⟨⟨o3, o4, f, ys, qs, rfl, hf, hys, hperm⟩, s, P2⟩ := h
    obtain ⟨rfl, hv⟩ := y
    obtain ⟨r, hr, hA⟩ := itmsV_get hI hv
    have hly := itmsV_len hys
    have hlq := hperm.length_eq
    have hlp := itmsV_len hI
    rw [List.length_take] at hlq
    refine ⟨_, rfl, _, rfl, _, _, rfl, .inl (SqL.of (Off.at hf)), _, _, rfl, rfl, rfl, p, c, _, _, rfl, P2, by omega, by omega, by omega, fun d H4 d0 d1 s4 P4 => ?_⟩
    obtain ⟨k, rfl⟩ : ∃ k : Nat, d = k := ⟨d.toNat, by omega⟩
    have hk : k ≤ ys.length := by omega
    have hf4 := s4 _ _ hf
    refine ⟨_, rfl, _, rfl, k, rfl, f, ys, rfl, SqL.of (Off.at hf4), fun l1 h1 => ?_⟩
    refine ⟨_, rfl, Nat.le_of_ble_eq_true rfl, fun l2 h2 => ?_⟩
    have e2 := upd_same (H := upd H4 l1 (.lst (cutV ys none (some (k : Int))))) (a := l2) (o := .lst [x])
    rw [cut_front hk] at *
    refine ⟨l1, l2, _, _, rfl, rfl, at_new h2 upd_same, upd_same, ?_, fun l3 h3 => ?_⟩
    · rw [List.length_take]
      exact smallE (by show _ + 1 ≤ _; omega)
    have s3 : Same H4 _ := same_trans (same_new h1) (same_trans (same_new h2) (same_new (o := .lst (ys.take k ++ [x])) h3))
    refine ⟨_, rfl, _, rfl, k, rfl, f, ys, rfl, SqL.of (s3 _ _ (Off.at hf4)), fun l4 h4 => ?_⟩
    rw [cut_back hk] at *
    refine ⟨l3, l4, _, _, rfl, rfl, at_new h4 upd_same, upd_same, ?_, fun l5 h5 => ?_⟩
    · rw [List.length_append, List.length_take, List.length_drop]
      exact smallE (by show _ + 1 + _ ≤ _; omega)
    have s34 := same_trans s3 (same_new (o := .lst (ys.drop k)) h4)
    have s5 : Same H4 _ := same_trans s34 ((same_new (o := .lst (ys.take k ++ [x] ++ ys.drop k)) h5))
    have P5 := P4.same s5
    have sA := same_trans s4 (Off.same s5)
    refine ⟨⟨_, _, l5, _, qs.take k ++ [r] ++ qs.drop k, rfl, Off.of upd_same (Pen.ne (P4.same s34) h5), itmsV_app (itmsV_app (itmsV_take k (itmsV_mono sA hys)) (.cons (itmV_mono (same_trans s sA) hA) .nil)) (itmsV_drop k (itmsV_mono sA hys)), ?_⟩, same_trans s sA, P5.mono (by omega)⟩
    rw [List.take_add_one, hr]
    exact (ins_perm qs k r).trans (perm_snoc hperm)
  obtain ⟨⟨o3, o4, f, ys, qs, rfl, hf, hys, hperm⟩, s, P2⟩ := h
  rw [take_all (Nat.le_of_eq (itmsV_len hI).symm)] at hperm
  exact ⟨_, rfl, q f ys qs _ s (P2.mono (by omega)) hf hys hperm.symm⟩
theorem ok__law_steps (M : Mod (hd12.heap_39 w.params) mg base) : CallG PP w (hd12.heap_39 w.params) mg base 6 (.ref 624) (pos (spLSteps (hd12.heap_39 w.params))) := by
  obtain ⟨fd, F⟩ := fn__law_steps w
  refine def_pos F sc__law_steps (fun vs H Q E h => ?_) (fun _ _ _ _ _ _ us hl => match us, hl with | [_, _, _, _], _ => rfl) (fun cdv A outer s H vs Q E hr hg h => ?_)
  · obtain ⟨p, c, V0, G, m, k, xs, gs, vps, sts, rfl, _⟩ := h; rfl
  have nd := sc__law_steps.nd
  obtain ⟨p, c, V0, G, m, k, xs, gs, vps, sts, rfl, P, hm, hk3, hV, hI, hvars, h1, h1000, hgs, hst, h12, q⟩ := h
  refine ⟨_, (pss_cons (ps_set (i := 4) nd rfl (.inl rfl) (pe_callTy call_list_of (by rfl) (mn_list M) (by decide +kernel) (pa_cons (pv 3) pa_nil)))
      (pss_cons (ps_for (passes_of rfl) rfl (pi_range1 (by rfl) (mn_range M) (pa_cons (pe_op op_add pe_int (pe_cl (takes_of rfl rfl rfl rfl) (ok_drawP M) (hr.mono (by decide)) hg rfl (mg__law_draw M) (kp__law_draw w) (pa_cons (pv 0) (pa_cons pe_int pa_nil)))) pa_nil)) (pg_name (i := 5) nd rfl (.inl rfl)) (pss_cons (ps_set (i := 6) nd rfl (.inl rfl) (pe_lst (pa_cons pe_str (pa_cons pe_str (pa_cons pe_str (pa_cons pe_str (pa_cons pe_str (pa_cons pe_str (pa_cons pe_str pa_nil)))))))))
      (pss_cons (ps_set (i := 7) nd rfl (.inl rfl) (pe_ix ix_list (pv 6) (pe_cl (takes_of rfl rfl rfl rfl) (ok_drawP M) (hr.mono (by decide)) hg rfl (mg__law_draw M) (kp__law_draw w) (pa_cons (pv 0) (pa_cons (pe_op op_add pe_int (pe_op op_mul pe_int (pe_callTy call_int1 (by rfl) (mn_int M) (by decide +kernel) (pa_cons (pe_cmpR op_gt (pv 1) pe_int (nomark _)) pa_nil)))) pa_nil))) (fun _ _ => rfl)))
      (pss_cons (ps_set (i := 8) nd rfl (.inl rfl) (pe_ix ix_list (pv 2) (pe_cl (takes_of rfl rfl rfl rfl) (ok_drawP M) (hr.mono (by decide)) hg rfl (mg__law_draw M) (kp__law_draw w) (pa_cons (pv 0) (pa_cons (pe_callB call_len_seq (by rfl) (mn_len M) (by decide +kernel) (pa_cons (pv 2) pa_nil)) pa_nil))) (fun _ _ => rfl)))
      (pss_cons (ps_set (i := 9) nd rfl (.inl rfl) (pe_cl (takes_of rfl rfl rfl rfl) (ok_drawP M) (hr.mono (by decide)) hg rfl (mg__law_draw M) (kp__law_draw w) (pa_cons (pv 0) (pa_cons (pe_ix ix_tup (pv 8) pe_int (fun _ _ => rfl)) pa_nil))))
      (pss_cons (ps_set (i := 10) nd rfl (.inl rfl) (pe_tup (pa_cons (pv 7) (pa_cons (pe_ix ix_tup (pv 8) pe_int (fun _ _ => rfl)) (pa_cons (pe_cl (takes_of rfl rfl rfl rfl) (ok_drawP M) (hr.mono (by decide)) hg rfl (mg__law_draw M) (kp__law_draw w) (pa_cons (pv 0) (pa_cons pe_int pa_nil))) (pa_cons (pv 9) (pa_cons (pe_op op_add (pv 9) (pe_cl (takes_of rfl rfl rfl rfl) (ok_drawP M) (hr.mono (by decide)) hg rfl (mg__law_draw M) (kp__law_draw w) (pa_cons (pv 0) (pa_cons (pe_op op_sub (pe_ix ix_tup (pv 8) pe_int (fun _ _ => rfl)) (pv 9)) pa_nil)))) pa_nil)))))))
      (pss_cons (ps_set (i := 11) nd rfl (.inl rfl) (pe_cl (takes_of rfl rfl rfl rfl) (ok_drawP M) (hr.mono (by decide)) hg rfl (mg__law_draw M) (kp__law_draw w) (pa_cons (pv 0) (pa_cons (pe_op op_add (pe_callB call_len_seq (by rfl) (mn_len M) (by decide +kernel) (pa_cons (pv 4) pa_nil)) pe_int) pa_nil))))
      (pss_one (ps_set (i := 4) nd rfl (.inl rfl) (pe_op op_cat (pe_op op_cat (pe_slice sl_list (pv 4) po_none (po_some (pv 11))) (pe_lst (pa_cons (pv 10) pa_nil))) (pe_slice sl_list (pv 4) (po_some (pv 11)) po_none)))))))))))
      (pss_one (ps_ret (pv 4))))), ?_⟩
  have hlg := stpsV_len hst
  have hli := itmsV_len hI
  refine ⟨_, rfl, G, gs, rfl, .inl (SqL.of (Off.at hgs)), fun f0 hf0 => ?_⟩
  have P0 := P.new (o := .lst gs) hf0
  have s0 := Off.new (p := p) (o := .lst gs) hf0
  have n0 := P.ne hf0
  refine ⟨_, rfl, rfl, p, c, _, _, rfl, P0, by omega, by omega, by omega, fun r0 H1 r00 r04 s1 P1 => ?_⟩
  refine ⟨_, _, rfl, rfl, (1 + r0).toNat, by rw [Int.toNat_of_nonneg (by omega)], by omega, by omega, ?_⟩
  have hf1 : Off p H1 f0 = some (.lst gs) := s1 _ _ (Off.of upd_same n0)
  have s01 := same_trans s0 s1
  refine for_range (lo := 0) (n := (1 + r0).toNat) (fun i σ H' => (∃ o5 o6 o7 o8 o9 o10 o11 f ys ex qs, σ = [some (.ref p), some (.int k), some (.ref V0), some (.ref G), some (.ref f), o5, o6, o7, o8, o9, o10, o11] ∧ H f = none ∧ Off p H' f = some (.lst ys) ∧ StpsV (hd12.heap_39 w.params) (Off p H') ys qs ∧ qs.Perm (sts ++ ex) ∧ ex.length = i ∧ ∀ s ∈ ex, FiveOk k vps s) ∧ Same (Off p H) (Off p H') ∧ Pen H' p c (m + 1 + 6 * i)) ⟨⟨_, _, _, _, _, _, _, f0, gs, [], sts, rfl, hf0, hf1, stpsV_mono s01 hst, by rw [List.append_nil], rfl, fun _ h => nomatch h⟩, s01, P1.mono (by omega)⟩ (fun i σ H2 hi h => ?_) (fun σ H2 h => ?_)
  · obtain ⟨⟨o5, o6, o7, o8, o9, o10, o11, f, ys, ex, qs, rfl, hfn, hf, hys, hperm, hel, hex⟩, s, P2⟩ := h
    have hly := stpsV_len hys
    have hlq := hperm.length_eq
    rw [List.length_append] at hlq
    refine ⟨Nat.le_of_ble_eq_true rfl, fun W hW => ?_⟩
    have PW := P2.new (o := .lst (words7.map V.str)) hW
    have nW := P2.ne hW
    have sW := Off.new (p := p) (o := .lst (words7.map V.str)) hW
    refine ⟨_, rfl, _, rfl, _, rfl, _, _, rfl, rfl, .inr ⟨_, rfl, ?_⟩⟩
    have hb : ∃ bi : Int, 0 ≤ bi ∧ bi ≤ 1 ∧ (bi = 0 ∨ k ≠ 0) ∧ (if decide (0 < (k : Int)) = true then (1 : Int) else 0) = bi := by
      by_cases h : (k : Int) > 0
      · exact ⟨1, by omega, by omega, .inr (by omega), if_pos (decide_eq_true h)⟩
      · exact ⟨0, by omega, by omega, .inl rfl, if_neg (by rw [decide_eq_false h]; exact Bool.noConfusion)⟩
    obtain ⟨bi, b0, b1, hbk, eb⟩ := hb
    refine ⟨_, _, rfl, rfl, .inl ⟨by decide, by decide⟩, ?_⟩
    refine ⟨_, _, rfl, rfl, ?_⟩
    refine ⟨rfl, p, c, _, _, rfl, PW, by omega, by rw [eb]; omega, by rw [eb]; omega, fun d H3 d0 d1 s3 P3 => ?_⟩
    rw [eb] at d1
    obtain ⟨dn, rfl⟩ : ∃ n : Nat, d = n := ⟨d.toNat, by omega⟩
    obtain ⟨hw1, hw2⟩ := words7_may k dn (by rcases hbk with h | h; exact .inl (by omega); exact .inr h) (by omega)
    have hw : (words7.map V.str)[dn]? = some (.str (words7.getD dn "read")) := by
      rw [List.getElem?_map, List.getD_eq_getElem?_getD, List.getElem?_eq_getElem (show dn < words7.length by show dn < 7; omega)] <;> rfl
    generalize words7.getD dn "read" = wd at *
    have s23 := same_trans sW s3
    have hV3 := s23 _ _ (s _ _ hV)
    refine ⟨W, _, dn, .str wd, rfl, rfl, SqL.of (Off.at (s3 _ _ (Off.of upd_same nW))), atI_nat hw, ?_⟩
    refine ⟨_, rfl, _, rfl, _, rfl, V0, xs, rfl, .inl (SqL.of (Off.at hV3)), rfl, p, c, _, _, rfl, P3, by omega, by omega, by omega, fun cx H4 c0 c1 s4 P4 => ?_⟩
    obtain ⟨cn, rfl⟩ : ∃ n : Nat, cx = n := ⟨cx.toNat, by omega⟩
    have s24 := same_trans s23 s4
    have hcx := List.getElem?_eq_getElem (show cn < xs.length by omega)
    obtain ⟨vp, hvp, hIv⟩ := itmsV_get hI hcx
    obtain ⟨n, b, as, rfl, hn, hb1, hb8⟩ := hvars vp (List.mem_of_getElem? hvp)
    obtain ⟨t, l, et, ht, _⟩ := itmV_mono (same_trans s s24) hIv
    rw [et] at hcx
    refine ⟨V0, xs, cn, .ref t, rfl, rfl, SqL.of (Off.at (s4 _ _ hV3)), atI_nat hcx, ?_⟩
    refine ⟨_, rfl, _, rfl, t, _, 2, .int b, rfl, rfl, SqT.of (Off.at ht), atI_nat (j := 2) rfl, rfl, p, c, _, _, rfl, P4, by omega, by omega, by omega, fun fx H5 f0' f1' s5 P5 => ?_⟩
    have ht5 := s5 _ _ ht
    refine ⟨_, rfl, _, rfl, t, _, 1, .str n, rfl, rfl, SqT.of (Off.at ht5), atI_nat (j := 1) rfl, ?_⟩
    refine ⟨_, rfl, rfl, p, c, _, _, rfl, P5, by omega, by omega, by omega, fun sx H6 e0 e1 s6 P6 => ?_⟩
    have ht6 := s6 _ _ ht5
    refine ⟨_, rfl, _, rfl, _, rfl, _, rfl, t, _, 2, .int b, rfl, rfl, SqT.of (Off.at ht6), atI_nat (j := 2) rfl, ?_⟩
    refine ⟨_, rfl, _, _, rfl, rfl, rfl, p, c, _, _, rfl, P6, by omega, by omega, by omega, fun lx H7 l0 l1 s7 P7 => ⟨_, _, rfl, rfl, Nat.le_of_ble_eq_true rfl, fun T hT => ?_⟩⟩
    have sT := Off.new (p := p) (o := .tup [.str wd, .str n, .int sx, .int fx, .int (fx + lx)]) hT
    have PT := P7.new (o := .tup [.str wd, .str n, .int sx, .int fx, .int (fx + lx)]) hT
    have s28 := same_trans s24 (same_trans s5 (same_trans s6 (same_trans s7 sT)))
    have hf8 := s28 _ _ hf
    have hT8 : Off p (upd H7 T (.tup [.str wd, .str n, .int sx, .int fx, .int (fx + lx)])) T = _ := Off.of upd_same (P7.ne hT)
    refine ⟨_, rfl, _, rfl, _, _, rfl, .inl (SqL.of (Off.at hf8)), _, _, rfl, rfl, rfl, p, c, _, _, rfl, PT, by omega, by omega, by omega, fun d9 H9 d90 d91 s9 P9 => ?_⟩
    obtain ⟨kk, rfl⟩ : ∃ k : Nat, d9 = k := ⟨d9.toNat, by omega⟩
    have hk : kk ≤ ys.length := by omega
    have hf9 := s9 _ _ hf8
    refine ⟨_, rfl, _, rfl, kk, rfl, f, ys, rfl, SqL.of (Off.at hf9), fun a1 h1' => ?_⟩
    refine ⟨_, rfl, Nat.le_of_ble_eq_true rfl, fun a2 h2' => ?_⟩
    rw [cut_front hk] at *
    refine ⟨a1, a2, _, _, rfl, rfl, at_new h2' upd_same, upd_same, ?_, fun a3 h3' => ?_⟩
    · rw [List.length_take]
      exact smallE (by show _ + 1 ≤ _; omega)
    have t3 : Same H9 _ := same_trans (same_new h1') (same_trans (same_new h2') (same_new (o := .lst (ys.take kk ++ [.ref T])) h3'))
    refine ⟨_, rfl, _, rfl, kk, rfl, f, ys, rfl, SqL.of (t3 _ _ (Off.at hf9)), fun a4 h4' => ?_⟩
    rw [cut_back hk] at *
    refine ⟨a3, a4, _, _, rfl, rfl, at_new h4' upd_same, upd_same, ?_, fun a5 h5' => ?_⟩
    · rw [List.length_append, List.length_take, List.length_drop]
      exact smallE (by show _ + 1 + _ ≤ _; omega)
    have t34 := same_trans t3 (same_new (o := .lst (ys.drop kk)) h4')
    have t5 : Same H9 _ := same_trans t34 (same_new (o := .lst (ys.take kk ++ [.ref T] ++ ys.drop kk)) h5')
    have P10 := P9.same t5
    have s9' := same_trans s9 (Off.same t5)
    have sA := same_trans s28 s9'
    have hsq : SqT (hd12.heap_39 w.params) (Off p _) T (Stp.vs (.five wd n sx fx (fx + lx))) := SqT.of (s9' _ _ hT8)
    have hst5 : Stp.ok (.five wd n sx fx (fx + lx)) = true := by
      show (nameOk n && (decide (wd ∈ wAcc ++ wUp) && ((decide (0 ≤ sx) && decide (sx ≤ 3)) && ((decide (0 ≤ fx) && decide (fx ≤ 7)) && (decide (fx ≤ fx + lx) && decide (fx + lx ≤ 7)))))) = true
      rw [hn, decide_eq_true hw1, decide_eq_true e0, decide_eq_true (show sx ≤ 3 by omega), decide_eq_true f0', decide_eq_true (show fx ≤ 7 by omega), decide_eq_true (show fx ≤ fx + lx by omega), decide_eq_true (show fx + lx ≤ 7 by omega)] <;> rfl
    refine ⟨⟨_, _, _, _, _, _, _, a5, _, ex ++ [.five wd n sx fx (fx + lx)], qs.take kk ++ [.five wd n sx fx (fx + lx)] ++ qs.drop kk, rfl, old_none (same_trans s (same_trans s28 (same_trans s9 (Off.same t34)))) (P9.same t34) h5', Off.of upd_same (Pen.ne (P9.same t34) h5'), stpsV_app (stpsV_app (stpsV_take kk (stpsV_mono sA hys)) (.cons ⟨T, rfl, hsq⟩ .nil)) (stpsV_drop kk (stpsV_mono sA hys)), ?_, by rw [List.length_append, hel] <;> rfl, fun st hst => ?_⟩, same_trans s sA, P10.mono (by omega)⟩
    · rw [← List.append_assoc]
      exact (ins_perm qs kk _).trans (perm_snoc hperm)
    · rcases List.mem_append.mp hst with h | h
      · exact hex st h
      · rw [List.mem_singleton.mp h]
        exact ⟨hst5, hw2, wd, n, sx, fx, fx + lx, b, as, rfl, List.mem_of_getElem? hvp, by omega⟩
  obtain ⟨⟨o5, o6, o7, o8, o9, o10, o11, f, ys, ex, qs, rfl, hfn, hf, hys, hperm, hel, hex⟩, s, P2⟩ := h
  exact ⟨_, rfl, q f ys ex qs _ s (P2.mono (by omega)) hfn hf hys hperm (by omega) (by omega) hex⟩
end
end M12

namespace M12
open PySem PySem.Spec PyProof.Rows L2 StX Uk
local macro_rules | `(tactic| wtm_at "cls") => `(tactic| first | exact cls_Agent _ | exact cls_Signal _ | exact cls_Variable _ | exact cls_Net _)
local macro_rules | `(tactic| wtm_at "na") => `(tactic| first | exact na_Agent_name _ | exact na_Agent_steps _ | exact na_Agent_shape _ | exact na_Signal_name _ | exact na_Signal_tokens _ | exact na_Variable_name _ | exact na_Variable_size _ | exact na_Variable_at _ | exact na_Variable_shape _ | exact na_Net_line _ | exact na_Net_ring _ | exact na_Net_variables _ | exact na_Net_signals _ | exact na_Net_agents _ | exact na_Net_shape _ | exact na_Net_by_name _ | exact na_Net_bytes_at _ | exact na_Net_lines_at _)

def spLPart (K : PySem.W.Frag) : Sp := fun vs H Q _ => ∃ (v : V) (r : Prt), vs = [v] ∧ ItmV K H v r ∧ r.ok ∧ apartP r ∧ ∀ x H', Same H H' → PrtA cs K H' x r → Q (.ref x) H'
theorem stp_small {st : Stp} (h : st.ok = true) : partsSmall st.d := by
  have sn : ∀ {n : PySem.Str}, nameOk n = true → smallD (.str n) := fun {n} h => by
    have h2 : (decide (1 ≤ n.length ∧ n.length ≤ 8) && lettersOk n) = true := h
    rw [Bool.and_eq_true, decide_eq_true_eq] at h2
    show n.length ≤ 1000
    omega
  cases st with
  | two w n =>
    obtain ⟨hn, hw⟩ := ok_two h
    refine ⟨Nat.le_of_ble_eq_true rfl, fun d hd => ?_⟩
    have hd : d ∈ [PyData.str w, PyData.str n] := hd
    simp only [List.mem_cons, List.not_mem_nil, or_false] at hd
    rcases hd with rfl | rfl
    · have z : ∀ w ∈ (["post", "wait"] : List PySem.Str), w.length ≤ 1000 := by decide +kernel
      exact z w hw
    · exact sn hn
  | five w n s f l =>
    obtain ⟨hn, hw, _⟩ := ok_five h
    refine ⟨Nat.le_of_ble_eq_true rfl, fun d hd => ?_⟩
    have hd : d ∈ [PyData.str w, PyData.str n, PyData.int s, PyData.int f, PyData.int l] := hd
    simp only [List.mem_cons, List.not_mem_nil, or_false] at hd
    rcases hd with rfl | rfl | rfl | rfl | rfl
    · have z : ∀ w ∈ wAcc ++ wUp, w.length ≤ 1000 := by decide +kernel
      exact z w hw
    · exact sn hn
    · trivial
    · trivial
    · trivial
theorem small_n {n : PySem.Str} (h : nameOk n = true) : smallD (.str n) := by
  have h2 : (decide (1 ≤ n.length ∧ n.length ≤ 8) && lettersOk n) = true := h
  rw [Bool.and_eq_true, decide_eq_true_eq] at h2
  show n.length ≤ 1000
  omega
section
variable {mg : PySem.Str → Option Value} {base : Heap} {w : World}
theorem ok__law_part (M : Mod (hd12.heap_39 w.params) mg base) : CallG PP w (hd12.heap_39 w.params) mg base 14 (.ref 643) (pos (spLPart (hd12.heap_39 w.params))) := by
  obtain ⟨fd, F⟩ := fn__law_part w
  refine def_pos F sc__law_part (fun vs H Q E h => ?_) (fun _ _ _ _ _ _ us hl => match us, hl with | [_], _ => rfl) (fun cdv A outer s H vs Q E hr hg h => ?_)
  · obtain ⟨v, r, rfl, _⟩ := h; rfl
  have nd := sc__law_part.nd
  obtain ⟨v, r, rfl, hI, hok, hap, q⟩ := h
  refine ⟨_, (pss_cons (ps_if (pt_cmpR op_eq (pe_ix ix_tup (pv 0) pe_int (fun _ _ => rfl)) pe_str (nomark _)) (pss_one (ps_ret (pe_cmG (takes_of rfl rfl rfl rfl) (pe_glob (v := .ref 411) rfl (mg_Variable M) rfl) (crd_Variable w) (cm_Variable_made w) (ok_Variable_made M) (hr.mono (by decide)) hg (pa_cons (pe_ix ix_tup (pv 0) pe_int (fun _ _ => rfl)) (pa_cons (pe_ix ix_tup (pv 0) pe_int (fun _ _ => rfl)) (pa_cons (pe_ix ix_tup (pv 0) pe_int (fun _ _ => rfl)) pa_nil)))))) pss_nil)
      (pss_cons (ps_if (pt_cmpR op_eq (pe_ix ix_tup (pv 0) pe_int (fun _ _ => rfl)) pe_str (nomark _)) (pss_one (ps_ret (pe_mkG (takes_of rfl rfl rfl rfl) (mk_Signal w) (CallG.pos0 (ok_Signal___init__ M)) (hr.mono (by decide)) hg rfl (mg_Signal M) (pa_cons (pe_ix ix_tup (pv 0) pe_int (fun _ _ => rfl)) (pa_cons (pe_ix ix_tup (pv 0) pe_int (fun _ _ => rfl)) pa_nil))))) pss_nil)
      (pss_cons (ps_if (PW.pt (pw_and (pt_cmpR op_eq (pe_ix ix_tup (pv 0) pe_int (fun _ _ => rfl)) pe_str (nomark _)) (pw_and1 (pt_cmpR op_eq (pe_ix ix_tup (pv 0) pe_int (fun _ _ => rfl)) pe_int (nomark _))))) (pss_one (ps_ret (pe_cmG (takes_of rfl rfl rfl rfl) (pe_glob (v := .ref 232) rfl (mg_Agent M) rfl) (crd_Agent w) (cm_Agent_made w) (ok_Agent_made M) (hr.mono (by decide)) hg (pa_cons (pe_ix ix_tup (pv 0) pe_int (fun _ _ => rfl)) (pa_cons (pe_ix ix_tup (pv 0) pe_int (fun _ _ => rfl)) pa_nil))))) pss_nil)
      (pss_cons (ps_if (PW.pt (pw_and (pt_cmpR op_eq (pe_ix ix_tup (pv 0) pe_int (fun _ _ => rfl)) pe_str (nomark _)) (pw_and1 (pt_cmpR op_eq (pe_ix ix_tup (pv 0) pe_int (fun _ _ => rfl)) pe_int (nomark _))))) (pss_one (ps_ret (pe_cmG (takes_of rfl rfl rfl rfl) (pe_glob (v := .ref 272) rfl (mg_Through M) rfl) (crd_Through w) (cm_Through_made w) (ok_Through_made M) (hr.mono (by decide)) hg (pa_cons (pe_ix ix_tup (pv 0) pe_int (fun _ _ => rfl)) (pa_cons (pe_ix ix_tup (pv 0) pe_int (fun _ _ => rfl)) pa_nil))))) pss_nil)
      (pss_cons (ps_if (pt_cmpR op_eq (pe_ix ix_tup (pv 0) pe_int (fun _ _ => rfl)) pe_str (nomark _)) (pss_one (ps_ret (pe_cmG (takes_of rfl rfl rfl rfl) (pe_glob (v := .ref 310) rfl (mg_Back M) rfl) (crd_Back w) (cm_Back_made w) (ok_Back_made M) (hr.mono (by decide)) hg (pa_cons (pe_ix ix_tup (pv 0) pe_int (fun _ _ => rfl)) (pa_cons (pe_ix ix_tup (pv 0) pe_int (fun _ _ => rfl)) pa_nil))))) pss_nil)
      (pss_one (ps_ret (pe_ix ix_tup (pv 0) pe_int (fun _ _ => rfl))))))))), ?_⟩
  cases r with
  | var n b as =>
    obtain ⟨t, l, rfl, ht, hl⟩ := hI
    obtain ⟨hn, hb1, hb8, hl1, hl4, hr⟩ := hok
    refine ⟨_, rfl, t, _, 0, .str "var", rfl, rfl, SqT.of ht, atI_nat (j := 0) rfl, rfl, _, rfl, ifT (by decide +kernel) ?_⟩
    refine ⟨rfl, _, rfl, t, _, 1, .str n, rfl, rfl, SqT.of ht, atI_nat (j := 1) rfl, _, rfl, t, _, 2, .int b, rfl, rfl, SqT.of ht, atI_nat (j := 2) rfl, _, rfl, t, _, 3, .ref l, rfl, rfl, SqT.of ht, atI_nat (j := 3) rfl, rfl, .str n, .int b, l, _, rfl, .inr (SqL.of hl), .str n, .int b, .str n, .int b, as.map V.int, as.map PyData.int, rfl, .str _, small_n hn, .int _, dqAll_ints as, by rw [List.length_map]; omega, ?_⟩
    rw [ok_wantV hn hb1 hb8 hl1 hl4 hr hap]
    intro x n2 b2 ps2 H' e1 e2 e3 s hA
    cases e1
    cases e2
    have e3 : as = ps2 := List.map_inj_right (fun a b h => by injection h) |>.mp e3
    subst e3
    exact q x H' s hA
  | sig n tk =>
    obtain ⟨t, rfl, ht⟩ := hI
    obtain ⟨hn, h0, h3⟩ := hok
    refine ⟨_, rfl, t, _, 0, .str "sig", rfl, rfl, SqT.of ht, atI_nat (j := 0) rfl, rfl, _, rfl, ifF (by decide +kernel) ?_⟩
    refine ⟨_, rfl, t, _, 0, .str "sig", rfl, rfl, SqT.of ht, atI_nat (j := 0) rfl, rfl, _, rfl, ifT (by decide +kernel) ?_⟩
    refine ⟨_, rfl, t, _, 1, .str n, rfl, rfl, SqT.of ht, atI_nat (j := 1) rfl, _, rfl, t, _, 2, .int tk, rfl, rfl, SqT.of ht, atI_nat (j := 2) rfl, rfl, ?_⟩
    show spMkK 337 (spDfl 2 [.int 0] (spSInit (hd12.heap_39 w.params))) [.str n, .int tk] [] H Q _
    refine mkSig ⟨.str n, .int tk, .str n, .int tk, rfl, .str _, small_n hn, .int _, ?_⟩
    rw [ok_wantS hn h0 h3]
    intro x n2 t2 H' e1 e2 s hA
    cases e1
    cases e2
    exact q x H' s hA
  | ag k n ss =>
    obtain ⟨t, l, vs, rfl, ht, hl, hss⟩ := hI
    obtain ⟨hn, hk, hl1, hl24, hs⟩ := hok
    have hms : ∀ (E2 : XK) k, k < 3 → (∀ s ∈ ss, s.ok = true ∧ s.w ∈ mayK k) → (∀ x H', Same H H' → PrtA cs (hd12.heap_39 w.params) H' x (.ag k n ss) → Q (.ref x) H') → spAMade (hd12.heap_39 w.params) k [.ref (clsN k), .str n, .ref l] H Q E2 := fun E2 k hk hs q => by
      refine ⟨.str n, l, vs, rfl, .inr (SqL.of hl), .str n, .str n, vs, ss.map Stp.d, rfl, hk, .str _, small_n hn, stpsV_dq hss, fun d hd => ?_, by rw [List.length_map]; omega, ?_⟩
      · obtain ⟨st, hst, rfl⟩ := List.mem_map.mp hd
        exact stp_small (hs st hst).1
      rw [ok_wantK hn hl1 hl24 hs]
      intro x n2 ss2 H' e1 e2 s hA
      cases e1
      have e2 : ss = ss2 := List.map_inj_right (fun a b h => by cases a <;> cases b <;> simp [Stp.d, Stp.ds] at h <;> simp [h]) |>.mp e2
      subst e2
      exact q x H' s hA
    refine ⟨_, rfl, t, _, 0, .str "agent", rfl, rfl, SqT.of ht, atI_nat (j := 0) rfl, rfl, _, rfl, ifF (by decide +kernel) ?_⟩
    refine ⟨_, rfl, t, _, 0, .str "agent", rfl, rfl, SqT.of ht, atI_nat (j := 0) rfl, rfl, _, rfl, ifF (by decide +kernel) ?_⟩
    have arm : ∀ k2 : Nat, k2 < 3 → decide (V.int (k : Int) = V.int (k2 : Int)) = decide (k = k2) := fun k2 _ => decide_eq_decide.mpr ⟨fun h => by injection h with h; omega, fun h => by rw [h]⟩
    refine ⟨_, rfl, t, _, 0, .str "agent", rfl, rfl, SqT.of ht, atI_nat (j := 0) rfl, rfl, _, rfl, ifT (by decide +kernel) ?_⟩
    refine ⟨_, rfl, t, _, 2, .int k, rfl, rfl, SqT.of ht, atI_nat (j := 2) rfl, rfl, _, rfl, ite_b (fun e => ?_) (fun e => ?_)⟩
    · obtain rfl : k = 0 := by
        have e := of_decide_eq_true e
        injection e with e
        omega
      exact ⟨rfl, _, rfl, t, _, 1, .str n, rfl, rfl, SqT.of ht, atI_nat (j := 1) rfl, _, rfl, t, _, 3, .ref l, rfl, rfl, SqT.of ht, atI_nat (j := 3) rfl, rfl, hms _ 0 hk hs q⟩
    have k0 : k ≠ 0 := fun z => by rw [z] at e; exact absurd e (by decide)
    refine ⟨_, rfl, t, _, 0, .str "agent", rfl, rfl, SqT.of ht, atI_nat (j := 0) rfl, rfl, _, rfl, ifT (by decide +kernel) ?_⟩
    refine ⟨_, rfl, t, _, 2, .int k, rfl, rfl, SqT.of ht, atI_nat (j := 2) rfl, rfl, _, rfl, ite_b (fun e => ?_) (fun e => ?_)⟩
    · obtain rfl : k = 1 := by
        have e := of_decide_eq_true e
        injection e with e
        omega
      exact ⟨rfl, _, rfl, t, _, 1, .str n, rfl, rfl, SqT.of ht, atI_nat (j := 1) rfl, _, rfl, t, _, 3, .ref l, rfl, rfl, SqT.of ht, atI_nat (j := 3) rfl, rfl, hms _ 1 hk hs q⟩
    have k1 : k ≠ 1 := fun z => by rw [z] at e; exact absurd e (by decide)
    obtain rfl : k = 2 := by omega
    refine ⟨_, rfl, t, _, 0, .str "agent", rfl, rfl, SqT.of ht, atI_nat (j := 0) rfl, rfl, _, rfl, ifT (by decide +kernel) ?_⟩
    exact ⟨rfl, _, rfl, t, _, 1, .str n, rfl, rfl, SqT.of ht, atI_nat (j := 1) rfl, _, rfl, t, _, 3, .ref l, rfl, rfl, SqT.of ht, atI_nat (j := 3) rfl, rfl, hms _ 2 hk hs q⟩
end
end M12

namespace M12
open PySem PySem.Spec PyProof.Rows L2 StX Uk
local macro_rules | `(tactic| wtm_at "cls") => `(tactic| first | exact cls_Agent _ | exact cls_Signal _ | exact cls_Variable _ | exact cls_Net _)
local macro_rules | `(tactic| wtm_at "na") => `(tactic| first | exact na_Agent_name _ | exact na_Agent_steps _ | exact na_Agent_shape _ | exact na_Signal_name _ | exact na_Signal_tokens _ | exact na_Variable_name _ | exact na_Variable_size _ | exact na_Variable_at _ | exact na_Variable_shape _ | exact na_Net_line _ | exact na_Net_ring _ | exact na_Net_variables _ | exact na_Net_signals _ | exact na_Net_agents _ | exact na_Net_shape _ | exact na_Net_by_name _ | exact na_Net_bytes_at _ | exact na_Net_lines_at _)

def spLItems (K : PySem.W.Frag) : Sp := fun vs H Q _ => ∃ (p c : Addr) (m slots : Int), vs = [.ref p, .int slots] ∧ Pen H p c m ∧ m ≤ 90000 ∧ 1 ≤ slots ∧ slots ≤ 4 ∧
  ∀ r xs ps H', Same (Off p H) (Off p H') → Pen H' p c (m + 300) → Off p H' r = some (.lst xs) → ItmsV K (Off p H') xs ps → GoodN slots ps → (∀ q ∈ ps, apartP q) → xs.length ≤ 13 → Q (.ref r) H'
theorem atI_in {xs : List V} {i : Int} (h0 : 0 ≤ i) (h1 : i < xs.length) : ∃ v, atI xs i = some v ∧ v ∈ xs := by
  obtain ⟨k, rfl⟩ : ∃ k : Nat, i = k := ⟨i.toNat, by omega⟩
  have e := List.getElem?_eq_getElem (show k < xs.length by omega)
  exact ⟨_, atI_nat e, List.getElem_mem _⟩
section
variable {mg : PySem.Str → Option Value} {base : Heap} {w : World}
theorem ok__law_items (M : Mod (hd12.heap_39 w.params) mg base) : CallG PP w (hd12.heap_39 w.params) mg base 7 (.ref 629) (pos (spLItems (hd12.heap_39 w.params))) := by
  obtain ⟨fd, F⟩ := fn__law_items w
  refine def_pos F sc__law_items (fun vs H Q E h => ?_) (fun _ _ _ _ _ _ us hl => match us, hl with | [_, _], _ => rfl) (fun cdv A outer s H vs Q E hr hg h => ?_)
  · obtain ⟨p, c, m, slots, rfl, _⟩ := h; rfl
  have nd := sc__law_items.nd
  obtain ⟨p, c, m, slots, rfl, P, hm, hs1, hs4, q⟩ := h
  refine ⟨_, (pss_cons (ps_set (i := 2) nd rfl (.inl rfl) (pe_lst pa_nil))
      (pss_cons (ps_set (i := 3) nd rfl (.inl rfl) (pe_cl (takes_of rfl rfl rfl rfl) (ok_drawP M) (hr.mono (by decide)) hg rfl (mg__law_draw M) (kp__law_draw w) (pa_cons (pv 0) (pa_cons pe_int pa_nil))))
      (pss_cons (ps_for (passes_of rfl) rfl (pi_range1 (by rfl) (mn_range M) (pa_cons (pe_op op_add pe_int (pe_cl (takes_of rfl rfl rfl rfl) (ok_drawP M) (hr.mono (by decide)) hg rfl (mg__law_draw M) (kp__law_draw w) (pa_cons (pv 0) (pa_cons pe_int pa_nil)))) pa_nil)) (pg_name (i := 4) nd rfl (.inl rfl)) (pss_cons (ps_set (i := 5) nd rfl (.inl rfl) (pe_op op_add pe_int (pe_cl (takes_of rfl rfl rfl rfl) (ok_drawP M) (hr.mono (by decide)) hg rfl (mg__law_draw M) (kp__law_draw w) (pa_cons (pv 0) (pa_cons pe_int pa_nil)))))
      (pss_cons (ps_set (i := 6) nd rfl (.inl rfl) (pe_lst pa_nil))
      (pss_cons (ps_for (passes_of rfl) rfl (pi_range1 (by rfl) (mn_range M) (pa_cons (pe_ix ix_list (pe_lst (pa_cons pe_int (pa_cons (pv 1) pa_nil))) (pe_cl (takes_of rfl rfl rfl rfl) (ok_drawP M) (hr.mono (by decide)) hg rfl (mg__law_draw M) (kp__law_draw w) (pa_cons (pv 0) (pa_cons pe_int pa_nil))) (fun _ _ => rfl)) pa_nil)) (pg_name (i := 7) nd rfl (.inl rfl)) (pss_cons (ps_expr (pe_bm PySem.F.plainAttrs_list PySem.F.slot_list_append PySem.F.type_list_append mt_append (pv 6) (pa_cons (pv 3) pa_nil)))
      (pss_one (ps_set (i := 3) nd rfl (.inl rfl) (pe_op op_add (pe_op op_add (pv 3) (pv 5)) (pe_cl (takes_of rfl rfl rfl rfl) (ok_drawP M) (hr.mono (by decide)) hg rfl (mg__law_draw M) (kp__law_draw w) (pa_cons (pv 0) (pa_cons pe_int pa_nil))))))))
      (pss_cons (ps_if (pt_cmpR op_eq (pe_cl (takes_of rfl rfl rfl rfl) (ok_drawP M) (hr.mono (by decide)) hg rfl (mg__law_draw M) (kp__law_draw w) (pa_cons (pv 0) (pa_cons pe_int pa_nil))) pe_int (nomark _)) (pss_one (ps_set (i := 6) nd rfl (.inl rfl) (pe_op op_cat (pe_slice sl_list (pv 6) (po_some pe_int) po_none) (pe_slice sl_list (pv 6) po_none (po_some pe_int))))) pss_nil)
      (pss_cons (ps_if (pt_cmpR op_eq (pe_cl (takes_of rfl rfl rfl rfl) (ok_drawP M) (hr.mono (by decide)) hg rfl (mg__law_draw M) (kp__law_draw w) (pa_cons (pv 0) (pa_cons pe_int pa_nil))) pe_int (nomark _)) (pss_one (ps_set (i := 6) nd rfl (.inl rfl) (pe_listRev rfl rfl (mn_list M) rfl (mn_reversed M) (pe_callTy call_list_of (by rfl) (mn_list M) (by decide +kernel) (pa_cons (pv 6) pa_nil))))) pss_nil)
      (pss_one (ps_expr (pe_bm PySem.F.plainAttrs_list PySem.F.slot_list_append PySem.F.type_list_append mt_append (pv 2) (pa_cons (pe_tup (pa_cons pe_str (pa_cons (pe_op op_add_str pe_str (pe_ix ix_str pe_str (pv 4) (fun _ _ => rfl))) (pa_cons (pv 5) (pa_cons (pv 6) pa_nil))))) pa_nil))))))))))
      (pss_cons (ps_set (i := 8) nd rfl (.inl rfl) (pe_callTy call_list_of (by rfl) (mn_list M) (by decide +kernel) (pa_cons (pv 2) pa_nil)))
      (pss_cons (ps_set (i := 9) nd rfl (.inl rfl) (pe_op op_add pe_int (pe_cl (takes_of rfl rfl rfl rfl) (ok_drawP M) (hr.mono (by decide)) hg rfl (mg__law_draw M) (kp__law_draw w) (pa_cons (pv 0) (pa_cons pe_int pa_nil)))))
      (pss_cons (ps_setLc (i := 10) (own := [("k", 4)]) (g := gName 4) (by rfl) nd rfl rfl (sw_true rfl rfl rfl (by decide +kernel)) (pi_range1 (by rfl) (mn_range M) (pa_cons (pv 9) pa_nil)) (blkOk_by (own := [("k", 4)]) (N := ["pen", "slots_here", "items", "free", "k", "big", "spots", "j", "variables_here", "many", "signalled", "kind"]) (sc := defScope s__law_items) (by decide +kernel)) (fun _ _ _ _ _ => (pg_name (i := 4) nd rfl (Or.inl rfl))) (fun _ _ _ _ _ => pts_nil) (fun _ _ _ _ _ => (pe_lst pa_nil)))
      (pss_cons (ps_for (passes_of rfl) rfl (pi_range1 (by rfl) (mn_range M) (pa_cons (pe_ix ix_list (pe_lst (pa_cons pe_int (pa_cons pe_int (pa_cons pe_int (pa_cons pe_int (pa_cons pe_int (pa_cons pe_int pa_nil))))))) (pe_cl (takes_of rfl rfl rfl rfl) (ok_drawP M) (hr.mono (by decide)) hg rfl (mg__law_draw M) (kp__law_draw w) (pa_cons (pv 0) (pa_cons pe_int pa_nil))) (fun _ _ => rfl)) pa_nil)) (pg_name (i := 4) nd rfl (.inl rfl)) (pss_cons (ps_expr (pe_bm PySem.F.plainAttrs_list PySem.F.slot_list_append PySem.F.type_list_append mt_append (pv 2) (pa_cons (pe_tup (pa_cons pe_str (pa_cons (pe_op op_add_str pe_str (pe_ix ix_str pe_str (pv 4) (fun _ _ => rfl))) (pa_cons (pe_cl (takes_of rfl rfl rfl rfl) (ok_drawP M) (hr.mono (by decide)) hg rfl (mg__law_draw M) (kp__law_draw w) (pa_cons (pv 0) (pa_cons pe_int pa_nil))) pa_nil)))) pa_nil)))
      (pss_cons (ps_expr (pe_bm PySem.F.plainAttrs_list PySem.F.slot_list_append PySem.F.type_list_append mt_append (pe_ix ix_list (pv 10) (pe_cl (takes_of rfl rfl rfl rfl) (ok_drawP M) (hr.mono (by decide)) hg rfl (mg__law_draw M) (kp__law_draw w) (pa_cons (pv 0) (pa_cons (pv 9) pa_nil))) (fun _ _ => rfl)) (pa_cons (pe_tup (pa_cons pe_str (pa_cons (pe_op op_add_str pe_str (pe_ix ix_str pe_str (pv 4) (fun _ _ => rfl))) pa_nil))) pa_nil)))
      (pss_one (ps_expr (pe_bm PySem.F.plainAttrs_list PySem.F.slot_list_append PySem.F.type_list_append mt_append (pe_ix ix_list (pv 10) (pe_cl (takes_of rfl rfl rfl rfl) (ok_drawP M) (hr.mono (by decide)) hg rfl (mg__law_draw M) (kp__law_draw w) (pa_cons (pv 0) (pa_cons (pv 9) pa_nil))) (fun _ _ => rfl)) (pa_cons (pe_tup (pa_cons pe_str (pa_cons (pe_op op_add_str pe_str (pe_ix ix_str pe_str (pv 4) (fun _ _ => rfl))) pa_nil))) pa_nil)))))))
      (pss_cons (ps_for (passes_of rfl) rfl (pi_range1 (by rfl) (mn_range M) (pa_cons (pv 9) pa_nil)) (pg_name (i := 4) nd rfl (.inl rfl)) (pss_cons (ps_set (i := 11) nd rfl (.inl rfl) (pe_cl (takes_of rfl rfl rfl rfl) (ok_drawP M) (hr.mono (by decide)) hg rfl (mg__law_draw M) (kp__law_draw w) (pa_cons (pv 0) (pa_cons pe_int pa_nil))))
      (pss_one (ps_expr (pe_bm PySem.F.plainAttrs_list PySem.F.slot_list_append PySem.F.type_list_append mt_append (pv 2) (pa_cons (pe_tup (pa_cons pe_str (pa_cons (pe_op op_add_str pe_str (pe_ix ix_str pe_str (pv 4) (fun _ _ => rfl))) (pa_cons (pv 11) (pa_cons (pe_cl (takes_of rfl rfl rfl rfl) (ok__law_steps M) (hr.mono (by decide)) hg rfl (mg__law_steps M) (kp__law_steps w) (pa_cons (pv 0) (pa_cons (pv 11) (pa_cons (pv 8) (pa_cons (pe_ix ix_list (pv 10) (pv 4) (fun _ _ => rfl)) pa_nil))))) pa_nil))))) pa_nil))))))
      (pss_one (ps_ret (pv 2))))))))))), ?_⟩
  refine ⟨Nat.zero_le _, fun I hI => ?_⟩
  have PI := P.new (o := .lst []) hI
  have sI := Off.new (p := p) (o := .lst []) hI
  have Ip := P.ne hI
  have Ic := P.ne2 hI
  refine ⟨_, rfl, rfl, p, c, _, _, rfl, PI, by omega, by omega, by omega, fun fr H1 f0 f1 s1 P1 => ?_⟩
  refine ⟨_, rfl, rfl, p, c, _, _, rfl, P1, by omega, by omega, by omega, fun r0 H2 r00 r02 s2 P2 => ⟨_, _, rfl, rfl, (1 + r0).toNat, by rw [Int.toNat_of_nonneg (by omega)], by omega, by omega, ?_⟩⟩
  refine for_range (lo := 0) (n := (1 + r0).toNat) (fun i σ H' => ∃ free o4 o5 o6 o7 o8 o9 o10 o11 xs vps, σ = [some (.ref p), some (.int slots), some (.ref I), some (.int free), o4, o5, o6, o7, o8, o9, o10, o11] ∧ Same (Off p H) (Off p H') ∧ Pen H' p c (m + 2 + 8 * i) ∧ H' I = some (.lst xs) ∧ ItmsV (hd12.heap_39 w.params) (OffL [p, I] H') xs vps ∧ VarsA slots free vps ∧ vps.length = i ∧ 0 ≤ free ∧ free ≤ 8 + 44 * i)
    ⟨fr, _, _, _, _, _, _, _, _, [], [], rfl, same_trans sI (same_trans s1 s2), P2.mono (by omega), Off.at (s2 _ _ (s1 _ _ (Off.of upd_same Ip))), .nil, ⟨(fun i p h => by cases h), .nil⟩, rfl, f0, by omega⟩ (fun i σ H2 hi h => ?_) (fun σ H3 h => ?_)
  · clear s1 P1 s2 P2
    obtain ⟨free, o4, o5, o6, o7, o8, o9, o10, o11, xs, vps, rfl, s, P2, eI, hits, hva, hvl, hf0, hf1⟩ := h
    have hlx := itmsV_len hits
    refine ⟨_, rfl, rfl, p, c, _, _, rfl, P2, by omega, by omega, by omega, fun a1 H3 a10 a11 s3 P3 => ⟨_, _, rfl, rfl, ?_⟩⟩
    generalize eb : 1 + a1 = big
    refine ⟨Nat.zero_le _, fun S hS => ?_⟩
    refine ⟨_, rfl, Nat.le_of_ble_eq_true rfl, fun z hz => ?_⟩
    have P4 := (P3.new (o := .lst []) hS).new (o := .lst [.int 1, .int slots]) hz
    refine ⟨_, rfl, rfl, p, c, _, _, rfl, P4, by omega, by omega, by omega, fun a2 H5 a20 a21 s5 P5 => ?_⟩
    obtain ⟨cv, hcv, hcm⟩ := atI_in (xs := [V.int 1, .int slots]) a20 a21
    obtain ⟨cnt, rfl, hcnt⟩ : ∃ cnt : Int, cv = .int cnt ∧ (cnt = 1 ∨ cnt = slots) := by
      simp only [List.mem_cons, List.not_mem_nil, or_false] at hcm
      rcases hcm with rfl | rfl
      · exact ⟨_, rfl, .inl rfl⟩
      · exact ⟨_, rfl, .inr rfl⟩
    have nz : z ≠ p := (P3.new (o := .lst []) hS).ne hz
    have nS : S ≠ p := P3.ne hS
    have s35 : Same (Off p H3) (Off p H5) := same_trans (Off.new hS) (same_trans (Off.new hz) s5)
    have eI3 : H3 I = some (.lst xs) := Off.at (s3 _ _ (Off.of eI Ip))
    have nIS : S ≠ I := (ne_of_none eI3 hS).symm
    have eS5 : H5 S = some (.lst []) := Off.at (s5 _ _ (Off.new hz _ _ (Off.of upd_same nS)))
    have eI5 : H5 I = some (.lst xs) := Off.at (s35 _ _ (Off.of eI3 Ip))
    have s25 := same_trans s (same_trans s3 s35)
    have hS0 : H S = none := old_none (same_trans s s3) P3 hS
    have hit5 : ItmsV (hd12.heap_39 w.params) (OffL [p, I, S] H5) xs vps := by
      have e1 := itmsV_mono (OffL.off (S := [p, I]) (List.mem_cons_self ..) s3) hits
      have e2 : Same (OffL [p, I] H3) (OffL [p, I, S] (upd (upd H3 S (.lst [])) z (.lst [.int 1, .int slots]))) := OffL.grow (same_trans (same_new hS) (same_new hz)) fun a ha => by
        simp only [List.mem_cons, List.not_mem_nil, or_false] at ha ⊢
        rcases ha with rfl | rfl | rfl
        · exact .inl (.inl rfl)
        · exact .inl (.inr rfl)
        · exact .inr hS
      exact itmsV_mono (OffL.off (S := [p, I, S]) (List.mem_cons_self ..) s5) (itmsV_mono e2 e1)
    have Sc : S ≠ c := P3.ne2 hS
    refine ⟨z, _, a2, .int cnt, rfl, rfl, SqL.of (Off.at (s5 _ _ (Off.of upd_same nz))), hcv, cnt, rfl, by omega, by omega, ?_⟩
    refine for_range (lo := 0) (n := cnt.toNat) (fun j σ H' => ∃ fr o7 as, σ = [some (.ref p), some (.int slots), some (.ref I), some (.int fr), some (.int (0 + (i : Int))), some (.int (1 + a1)), some (.ref S), o7, o8, o9, o10, o11] ∧ Same (Off p H) (Off p H') ∧ Pen H' p c (m + 2 + 8 * i + 2 + j) ∧ H' I = some (.lst xs) ∧ H' S = some (.lst (as.map V.int)) ∧ ItmsV (hd12.heap_39 w.params) (OffL [p, I, S] H') xs vps ∧ as.length = j ∧ (∀ a ∈ as, free ≤ a ∧ a + big ≤ fr) ∧ as.Pairwise (fun x y => near big y x = false) ∧ free ≤ fr ∧ fr ≤ free + 11 * j)
      ⟨free, _, [], rfl, s25, P5.mono (by omega), eI5, eS5, hit5, rfl, (fun _ h => nomatch h), .nil, by omega, by omega⟩ (fun j σ H6 hj h => ?_) (fun σ H6 h => ?_)
    · obtain ⟨fr, o7, as, rfl, s6, P6, eI6, eS6, hit6, hal, har, hap, hfr0, hfr1⟩ := h
      refine ⟨_, rfl, .inl ⟨rfl, _, SqL.of eS6⟩, _, rfl, S, _, .int fr, rfl, rfl, eS6, ?_, ?_⟩
      · rw [List.length_map]
        exact small (by omega)
      have P7 := P6.upd (o := .lst (as.map V.int ++ [.int fr])) nS Sc
      refine ⟨_, rfl, _, rfl, _, _, rfl, rfl, _, rfl, rfl, p, c, _, _, rfl, P7, by omega, by omega, by omega, fun a3 H7 a30 a31 s7 P7 => ⟨_, _, rfl, rfl, ?_⟩⟩
      refine ⟨_, _, as ++ [fr], rfl, same_trans (offP_upd s6 hS0) s7, P7.mono (by omega), Off.at (s7 _ _ (Off.of ((upd_ne nIS.symm).trans eI6) Ip)), ?_, itmsV_mono (same_trans (OffL.chg (by simp)) (OffL.off (S := [p, I, S]) (List.mem_cons_self ..) s7)) hit6, by rw [List.length_append, hal] <;> rfl, fun a ha => ?_, ?_, by omega, by omega⟩
      · rw [List.map_append]
        exact Off.at (s7 _ _ (Off.of upd_same nS))
      · rcases List.mem_append.mp ha with h | h
        · have := har a h
          omega
        · rw [List.mem_singleton.mp h]
          omega
      · refine List.pairwise_append.mpr ⟨hap, List.pairwise_singleton _ _, fun x hx y hy => ?_⟩
        rw [List.mem_singleton.mp hy]
        have := har x hx
        show (decide (x - big < fr) && decide (fr < x + big)) = false
        rw [decide_eq_false (p := fr < x + big) (by omega), Bool.and_false]
    obtain ⟨fr, o7, as, rfl, s6, P6, eI6, eS6, hit6, hal, har, hap, hfr0, hfr1⟩ := h
    have hV6 : VarA slots free fr i (.var (vN i) big as) := ⟨big, as, rfl, by omega, by omega, by omega, by rcases hcnt with e | e <;> omega, har, hap⟩
    have hits6 : ItmsV (hd12.heap_39 w.params) (OffL [p, I] H6) xs vps := itmsV_mono (OffL.grow Same.rfl fun a ha => by
      simp only [List.mem_cons, List.not_mem_nil, or_false] at ha ⊢
      rcases ha with rfl | rfl
      · exact .inl (.inl rfl)
      · exact .inl (.inr (.inl rfl))) hit6
    clear hit6 hit5 har hap hal eS5 eI5 s25 hS0
    refine ⟨_, rfl, rfl, p, c, _, _, rfl, P6, by omega, by omega, by omega, fun a4 H7 a40 a41 s7 P7 => ⟨rfl, _, rfl, ?_⟩⟩
    have eS7 := Off.at (s7 _ _ (Off.of eS6 nS))
    have s67 := same_trans s6 s7
    have eI7 := Off.at (s7 _ _ (Off.of eI6 Ip))
    have hits7 := itmsV_mono (OffL.off (S := [p, I]) (List.mem_cons_self ..) s7) hits6
    refine split_rest (R := ?R) (C := fun σ Hx => ∃ S as, σ = [some (.ref p), some (.int slots), some (.ref I), some (.int fr), some (.int (0 + (i : Int))), some (.int (1 + a1)), some (.ref S), o7, o8, o9, o10, o11] ∧ Same (Off p H) (Off p Hx) ∧ Pen Hx p c (m + 2 + 8 * i + 7) ∧ Hx I = some (.lst xs) ∧ Hx S = some (.lst (as.map V.int)) ∧ S ≠ p ∧ S ≠ I ∧ ItmsV (hd12.heap_39 w.params) (OffL [p, I] Hx) xs vps ∧ VarA slots free fr i (.var (vN i) big as)) ?main ?rest
    case main =>
      intro rest
      refine ite_b (fun e => ?_) (fun e => ?_)
      rotate_left
      · exact rest _ _ ⟨S, as, rfl, s67, P7.mono (by omega), eI7, eS7, nS, nIS, hits7, hV6⟩
      · have hl1 : 1 ≤ (as.map V.int).length := by
          obtain ⟨b, as', e2, _, _, l1, _⟩ := hV6
          cases e2
          rw [List.length_map]
          exact l1
        refine ⟨_, rfl, 1, rfl, S, _, rfl, SqL.of eS7, fun l1 h1 => ?_⟩
        refine ⟨_, rfl, 1, rfl, S, _, rfl, SqL.of (at_new h1 eS7), fun l2 h2 => ?_⟩
        rw [show cutV (as.map V.int) (some 1) none = (as.map V.int).drop 1 from cut_back (i := 1) hl1, show cutV (as.map V.int) none (some 1) = (as.map V.int).take 1 from cut_front (i := 1) hl1] at *
        refine ⟨l1, l2, _, _, rfl, rfl, at_new h2 upd_same, upd_same, ?_, fun l3 h3 => ?_⟩
        · rw [List.length_drop, List.length_take, List.length_map]
          exact smallE (by
            obtain ⟨b, as', e2, _, _, _, hls, _⟩ := hV6
            cases e2
            omega)
        have sN : Same H7 _ := same_trans (same_new h1) (same_trans (same_new h2) (same_new (o := .lst ((as.map V.int).drop 1 ++ (as.map V.int).take 1)) h3))
        refine rest _ _ ⟨l3, as.drop 1 ++ as.take 1, rfl, same_trans s67 (Off.same sN), (P7.same sN).mono (by omega), sN _ _ eI7, ?_, Pen.ne (P7.same (same_trans (same_new h1) (same_new h2))) h3, (ne_of_none (at_new h2 (at_new h1 eI7)) h3).symm, itmsV_mono (OffL.same sN) hits7, varA_perm ((List.perm_append_comm.trans (by rw [List.take_append_drop])).symm) hV6⟩
        rw [List.map_append, List.map_drop, List.map_take]
        exact upd_same
    case rest =>
      clear hV6 hits6 hits7 eS7 eI7 s67 s7 P7 s6 P6 eI6 eS6 nz nS nIS Sc s35 eI3
      rintro σ Hx ⟨S, as, rfl, sx, Px, eIx, eSx, nS, nIS, hitx, hVx⟩
      refine ⟨_, rfl, rfl, p, c, _, _, rfl, Px, by omega, by omega, by omega, fun a5 H7 a50 a51 s7 P7 => ⟨rfl, _, rfl, ?_⟩⟩
      have eS7 := Off.at (s7 _ _ (Off.of eSx nS))
      have s67 := same_trans sx s7
      have eI7 := Off.at (s7 _ _ (Off.of eIx Ip))
      have hits7 := itmsV_mono (OffL.off (S := [p, I]) (List.mem_cons_self ..) s7) hitx
      refine split_rest (R := ?R2) (C := fun σ Hx => ∃ S as, σ = [some (.ref p), some (.int slots), some (.ref I), some (.int fr), some (.int (0 + (i : Int))), some (.int (1 + a1)), some (.ref S), o7, o8, o9, o10, o11] ∧ Same (Off p H) (Off p Hx) ∧ Pen Hx p c (m + 2 + 8 * i + 8) ∧ Hx I = some (.lst xs) ∧ Hx S = some (.lst (as.map V.int)) ∧ S ≠ p ∧ S ≠ I ∧ ItmsV (hd12.heap_39 w.params) (OffL [p, I] Hx) xs vps ∧ VarA slots free fr i (.var (vN i) big as)) ?main2 ?rest2
      case main2 =>
        intro rest
        refine ite_b (fun e => ?_) (fun e => ?_)
        rotate_left
        · exact rest _ _ ⟨S, as, rfl, s67, P7.mono (by omega), eI7, eS7, nS, nIS, hits7, hVx⟩
        · refine ⟨_, rfl, S, _, rfl, .inl (SqL.of eS7), fun z hz => ⟨z, _, rfl, SqL.of upd_same, fun y hy => ?_⟩⟩
          have sN : Same H7 _ := same_trans (same_new (o := .lst (as.map V.int)) hz) (same_new (o := .lst (as.map V.int).reverse) hy)
          refine rest _ _ ⟨y, as.reverse, rfl, same_trans s67 (Off.same sN), (P7.same sN).mono (by omega), sN _ _ eI7, ?_, Pen.ne (P7.new hz) hy, (ne_of_none (at_new hz eI7) hy).symm, itmsV_mono (OffL.same sN) hits7, varA_perm (List.reverse_perm as).symm hVx⟩
          rw [List.map_reverse]
          exact upd_same
      case rest2 =>
        clear hVx hitx hits7 eS7 eI7 s67 s7 P7 sx Px eIx eSx nS nIS
        rintro σ Hx ⟨S, as, rfl, sx, Px, eIx, eSx, nS, nIS, hitx, hVx⟩
        obtain ⟨ch, hch, ecat⟩ := vN_cat i (by omega)
        have h2 : ∀ x : PySem.Str, x.length ≤ 10 → x.length ≤ sizeLine := fun x h => smallE (by omega)
        refine ⟨_, rfl, .inl ⟨rfl, _, SqL.of eIx⟩, _, rfl, _, _, ch, rfl, rfl, h2 _ (by decide), (by rw [Int.zero_add]; exact hch), _, _, rfl, rfl, smallE (show 1 + 1 ≤ 100000 by decide), _, rfl, _, rfl, Nat.le_of_ble_eq_true rfl, fun T hT => ⟨I, xs, .ref T, rfl, rfl, at_new hT eIx, small (by omega), ?_⟩⟩
        rw [ecat, eb] at *
        have nT := Px.ne hT
        have nTI : T ≠ I := (ne_of_none eIx hT).symm
        have Sc2 : Same (OffL [p, I] Hx) (OffL [p, I] _) := same_trans (OffL.same (same_new (o := .tup [.str "var", .str (vN i), .int big, .ref S]) hT)) (OffL.chg (a := I) (o := .lst (xs ++ [.ref T])) (by simp))
        have eS2 := Sc2 _ _ (OffL.of eSx (by simp [nS, nIS]))
        have eT2 := OffL.chg (S := [p, I]) (a := I) (o := .lst (xs ++ [.ref T])) (by simp) _ _ (OffL.of (upd_same (H := Hx) (a := T) (o := .tup [.str "var", .str (vN i), .int big, .ref S])) (show T ∉ [p, I] by simp [nT, nTI]))
        have PT := Px.new (o := .tup [.str "var", .str (vN i), .int big, .ref S]) hT
        rw [← hvl] at hVx
        have hIt : ItmV (hd12.heap_39 w.params) (OffL [p, I] (upd (upd Hx T (.tup [.str "var", .str (vN i), .int big, .ref S])) I (.lst (xs ++ [.ref T])))) (.ref T) (.var (vN vps.length) big as) := ⟨T, S, rfl, by rw [hvl]; exact eT2, eS2⟩
        exact ⟨fr, _, _, _, _, _, _, _, _, xs ++ [.ref T], vps ++ [.var (vN vps.length) big as], rfl, offP_upd (same_trans sx (Off.new hT)) hI, (PT.upd Ip Ic).mono (by omega), upd_same, itmsV_app (itmsV_mono Sc2 hitx) (.cons hIt .nil), hva.snoc hf0 hfr0 hVx, by rw [List.length_append, hvl] <;> rfl, by omega, by omega⟩
  clear s1 P1 s2 P2
  obtain ⟨free, o4, o5, o6, o7, o8, o9, o10, o11, xs, vps, rfl, s3, P3, eI, hits, hva, hvl, hf0, hf1⟩ := h
  have hlx := itmsV_len hits
  have hvG : VarsG vps := fun r hr => by
    obtain ⟨j, hj⟩ := List.getElem?_of_mem hr
    obtain ⟨b, as, rfl, b1, b8, _⟩ := hva.each j r hj
    exact ⟨_, b, as, rfl, vN_ok j (by have := (List.getElem?_eq_some_iff.mp hj).1; omega), b1, b8⟩
  refine ⟨_, rfl, I, xs, rfl, .inl (SqL.of eI), fun V0 hV0 => ?_⟩
  have PV := P3.new (o := .lst xs) hV0
  refine ⟨_, rfl, rfl, p, c, _, _, rfl, PV, by omega, by omega, by omega, fun a6 H4 a60 a61 s4 P4 => ⟨_, _, rfl, rfl, ?_⟩⟩
  have nV0 := P3.ne hV0
  have s34 : Same (Off p H3) (Off p H4) := same_trans (Off.new (o := .lst xs) hV0) s4
  have eI4 := Off.at (s34 _ _ (Off.of eI Ip))
  have eV4 : H4 V0 = some (.lst xs) := Off.at (s4 _ _ (Off.of upd_same nV0))
  have nV0I : V0 ≠ I := (ne_of_none eI hV0).symm
  refine ⟨_, rfl, 1 + a6, rfl, by omega, by omega, fun G hG => ?_⟩
  refine lc_range (lo := 0) (n := (1 + a6).toNat) (fun i H' => Same H4 H' ∧ ∃ sa : List Addr, H' G = some (.lst (sa.map V.ref)) ∧ sa.length = i ∧ sa.Nodup ∧ ∀ s ∈ sa, H4 s = none ∧ s ≠ G ∧ H' s = some (.lst [])) ⟨same_new hG, [], upd_same, rfl, List.nodup_nil, (fun _ h => nomatch h)⟩ (fun i H' hi h => ?_) (fun H5 h => ?_)
  · obtain ⟨sm, sa, eG, hl, hnd, hsa⟩ := h
    refine ⟨rfl, ?_⟩
    refine ⟨Nat.zero_le _, fun t ht => ⟨_, at_new ht eG, ?_, same_upd (same_trans sm (same_new ht)) hG, sa ++ [t], ?_, by rw [List.length_append, hl] <;> rfl, ?_, fun a ha => ?_⟩⟩
    · rw [List.length_map]
      exact small (by omega)
    · rw [upd_same, List.map_append] <;> rfl
    · refine List.nodup_append.mpr ⟨hnd, (by simp), fun x hx y hy e => ?_⟩
      rw [List.mem_singleton.mp hy] at e
      have := (hsa x hx).2.2
      rw [e, ht] at this
      cases this
    · have ntG : t ≠ G := (ne_of_none eG ht).symm
      rcases List.mem_append.mp ha with h | h
      · obtain ⟨h1, h2, h3⟩ := hsa a h
        exact ⟨h1, h2, (upd_ne h2).trans (at_new ht h3)⟩
      · rw [List.mem_singleton.mp h]
        refine ⟨?_, ntG, (upd_ne ntG).trans upd_same⟩
        cases e : H4 t with
        | none => rfl
        | some u =>
          have := sm _ _ e
          rw [ht] at this
          cases this
  obtain ⟨s5, sa, eG, hsl, hnd, hsa⟩ := h
  have sme : ∀ {a : Addr} {u : HO}, H4 a = some u → a ∉ sa := fun {a u} e hm => by
    have := (hsa a hm).1
    rw [e] at this
    cases this
  obtain ⟨eb4, el4, ens4, ep4, ec4, _⟩ := id P4
  have F : LF p c H I sa := ⟨Ip, Ic, hI, sme eI4, sme ep4, sme ec4, hnd, fun t ht => old_none (same_trans s3 s34) P4 (hsa t ht).1⟩
  have nG : G ∉ p :: I :: sa := fun hm => by
    rcases List.mem_cons.mp hm with h | hm
    · exact P4.ne hG h
    rcases List.mem_cons.mp hm with h | hm
    · exact ne_of_none eI4 hG h.symm
    · exact (hsa G hm).2.1 rfl
  have nV : V0 ∉ p :: I :: sa := fun hm => by
    rcases List.mem_cons.mp hm with h | hm
    · exact nV0 h
    rcases List.mem_cons.mp hm with h | hm
    · exact nV0I h
    · exact sme eV4 hm
  have hit5 : ItmsV (hd12.heap_39 w.params) (OffL (p :: I :: sa) H5) xs vps := by
    have e1 := itmsV_mono (OffL.off (S := [p, I]) (List.mem_cons_self ..) s34) hits
    refine itmsV_mono (OffL.grow s5 fun a ha => ?_) e1
    rcases List.mem_cons.mp ha with rfl | ha
    · exact .inl (by simp)
    rcases List.mem_cons.mp ha with rfl | ha
    · exact .inl (by simp)
    · exact .inr (hsa a ha).1
  have L5 : LI (hd12.heap_39 w.params) p c H I G V0 sa xs vps H5 (m + 28) xs vps (List.replicate sa.length []) :=
    { s := same_trans s3 (same_trans s34 (Off.same s5)), P := (P4.same s5).mono (by omega), hI := s5 _ _ eI4, its := hit5, hG := OffL.of eG nG, hV := OffL.of (s5 _ _ eV4) nV, hvs := hit5, sll := List.length_replicate
      hsl := fun j t l h1 h2 => by
        obtain ⟨_, _, e⟩ := hsa t (List.mem_of_getElem? h1)
        rw [List.eq_of_mem_replicate (List.mem_of_getElem? h2)]
        exact ⟨[], e, .nil⟩ }
  clear hit5 nV nG sme ep4 ec4 eG s5 hsa hnd eV4 eI4 s34 s4 P4 PV nV0 hits eI P3 s3
  refine ⟨Nat.le_of_ble_eq_true rfl, fun z hz => ?_⟩
  have Lz := LI.new L5 (same_new (o := .lst [.int 0, .int 1, .int 2, .int 3, .int 3, .int 6]) hz)
  have nz := L5.P.ne hz
  refine ⟨_, rfl, rfl, p, c, _, _, rfl, Lz.P, by omega, by omega, by omega, fun a7 H6 a70 a71 s6 P6 => ?_⟩
  have L6 := LI.draw F Lz s6 P6
  obtain ⟨cv, hcv, hcm⟩ := atI_in (xs := [V.int 0, .int 1, .int 2, .int 3, .int 3, .int 6]) a70 a71
  obtain ⟨cnt, rfl, c0, c6⟩ : ∃ cnt : Int, cv = .int cnt ∧ 0 ≤ cnt ∧ cnt ≤ 6 := by
    simp only [List.mem_cons, List.not_mem_nil, or_false] at hcm
    rcases hcm with rfl | rfl | rfl | rfl | rfl | rfl <;> exact ⟨_, rfl, by omega, by omega⟩
  refine ⟨z, _, a7, .int cnt, rfl, rfl, SqL.of (Off.at (s6 _ _ (Off.of upd_same nz))), hcv, cnt, rfl, by omega, by omega, ?_⟩
  refine for_range (lo := 0) (n := cnt.toNat) (fun i σ H' => ∃ o4 o11 ys sps sl, σ = [some (.ref p), some (.int slots), some (.ref I), some (.int free), o4, o5, o6, o7, some (.ref V0), some (.int (1 + a6)), some (.ref G), o11] ∧ LI (hd12.heap_39 w.params) p c H I G V0 sa xs vps H' (m + 30 + 3 * i) ys (vps ++ sps) sl ∧ sps.length = i ∧ (∀ (j : Nat) (r : Prt), sps[j]? = some r → SigA j r) ∧ sl.flatten.Perm (sigSteps i))
    ⟨_, _, xs, [], _, rfl, by rw [List.append_nil]; exact L6.le (by omega), rfl, (fun j r h => by cases h), by
      rw [List.flatten_eq_nil_iff.mpr fun l hl => List.eq_of_mem_replicate hl]
      exact List.Perm.refl _⟩ (fun i σ H7 hi h => ?_) (fun σ H7 h => ?_)
  · clear L6 s6 P6 Lz L5
    obtain ⟨o4, o11, ys, sps, sl, rfl, L, hsp, hsig, hpm⟩ := h
    have hly := itmsV_len L.its
    rw [List.length_append] at hly
    obtain ⟨ch, hch, ecat⟩ := sN_cat i (by omega)
    have h2 : ∀ x : PySem.Str, x.length ≤ 10 → x.length ≤ sizeLine := fun x h => smallE (by omega)
    refine ⟨_, rfl, .inl ⟨rfl, _, SqL.of L.hI⟩, _, rfl, _, _, ch, rfl, rfl, h2 _ (by decide), (by rw [Int.zero_add]; exact hch), _, _, rfl, rfl, smallE (show 1 + 1 ≤ 100000 by decide), ?_⟩
    refine ⟨_, rfl, rfl, p, c, _, _, rfl, L.P, by omega, by omega, by omega, fun tk H8 tk0 tk1 s8 P8 => ⟨Nat.le_of_ble_eq_true rfl, fun T hT => ?_⟩⟩
    have L8 := LI.draw F L s8 P8
    refine ⟨I, ys, .ref T, rfl, rfl, at_new hT L8.hI, small (by omega), ?_⟩
    have K8 := LI.new L8 (same_new (o := .tup [.str "sig", .str (("s" : PySem.Str) ++ ⟨#[ch]⟩), .int tk]) hT)
    have hI8 : ItmV (hd12.heap_39 w.params) (OffL (p :: I :: sa) (upd H8 T (.tup [.str "sig", .str (("s" : PySem.Str) ++ ⟨#[ch]⟩), .int tk]))) (.ref T) (.sig (sN i) tk) := ⟨T, rfl, (L8.obj hT).trans (by rw [ecat])⟩
    have M8 := LI.put F K8 hI8
    have slen : sa.length = (1 + a6).toNat := hsl
    have slen2 := L.sll
    refine ⟨_, rfl, _, rfl, _, rfl, rfl, p, c, _, _, rfl, M8.P, by omega, by omega, by omega, fun aj H9 aj0 aj1 s9 P9 => ?_⟩
    have L9 := LI.draw F M8 s9 P9
    have hsa9 : sa[aj.toNat]? = some _ := List.getElem?_eq_getElem (show aj.toNat < sa.length by omega)
    have hsl9 : (sl)[aj.toNat]? = some _ := List.getElem?_eq_getElem (show aj.toNat < (sl).length by rw [L9.sll]; omega)
    obtain ⟨gs9, es9, hq9⟩ := L9.hsl _ _ _ hsa9 hsl9
    have hg9 : gs9.length ≤ 12 := by
      have h1 := hpm.length_eq
      have h2 := (List.sublist_flatten_of_mem (List.mem_of_getElem? hsl9)).length_le
      have h3 := stpsV_len hq9
      rw [sigSteps_len] at h1
      omega
    refine ⟨G, _, aj, .ref _, rfl, rfl, SqL.of (OffL.at L9.hG), atI_lit aj0 (by rw [List.getElem?_map, hsa9] <;> rfl), .inl ⟨rfl, _, SqL.of es9⟩, ?_⟩
    refine ⟨_, rfl, _, _, ch, rfl, rfl, h2 _ (by decide), (by rw [Int.zero_add]; exact hch), _, _, rfl, rfl, smallE (show 1 + 1 ≤ 100000 by decide), Nat.le_of_ble_eq_true rfl, fun T9 hT9 => ⟨_, gs9, .ref T9, rfl, rfl, at_new hT9 es9, small (by omega), ?_⟩⟩
    have K9 := LI.new L9 (same_new (o := .tup [.str "post", .str (("s" : PySem.Str) ++ ⟨#[ch]⟩)]) hT9)
    have hst9 : StpV (hd12.heap_39 w.params) (OffL (p :: I :: sa) (upd H9 T9 (.tup [.str "post", .str (("s" : PySem.Str) ++ ⟨#[ch]⟩)]))) (.ref T9) (.two "post" (sN i)) := ⟨T9, rfl, SqT.of ((L9.obj hT9).trans (by rw [ecat] <;> rfl))⟩
    have M9 := LI.add F K9 hsa9 hsl9 (at_new hT9 es9) (stpsV_mono (OffL.same (same_new hT9)) hq9) hst9
    have pm9 := (set_flat (s := Stp.two "post" (sN i)) hsl9).trans (List.Perm.append_right _ hpm)
    refine ⟨_, rfl, _, rfl, _, rfl, rfl, p, c, _, _, rfl, M9.P, by omega, by omega, by omega, fun ak H10 ak0 ak1 s10 P10 => ?_⟩
    have L10 := LI.draw F M9 s10 P10
    have hsa10 : sa[ak.toNat]? = some _ := List.getElem?_eq_getElem (show ak.toNat < sa.length by omega)
    have hsl10 : (sl.set aj.toNat (sl[aj.toNat] ++ [Stp.two "post" (sN i)]))[ak.toNat]? = some _ := List.getElem?_eq_getElem (show ak.toNat < (sl.set aj.toNat (sl[aj.toNat] ++ [Stp.two "post" (sN i)])).length by rw [L10.sll]; omega)
    obtain ⟨gs10, es10, hq10⟩ := L10.hsl _ _ _ hsa10 hsl10
    have hg10 : gs10.length ≤ 12 := by
      have h1 := pm9.length_eq
      have h2 := (List.sublist_flatten_of_mem (List.mem_of_getElem? hsl10)).length_le
      have h3 := stpsV_len hq10
      rw [List.length_append, sigSteps_len, List.length_singleton] at h1
      omega
    refine ⟨G, _, ak, .ref _, rfl, rfl, SqL.of (OffL.at L10.hG), atI_lit ak0 (by rw [List.getElem?_map, hsa10] <;> rfl), .inl ⟨rfl, _, SqL.of es10⟩, ?_⟩
    refine ⟨_, rfl, _, _, ch, rfl, rfl, h2 _ (by decide), (by rw [Int.zero_add]; exact hch), _, _, rfl, rfl, smallE (show 1 + 1 ≤ 100000 by decide), Nat.le_of_ble_eq_true rfl, fun T10 hT10 => ⟨_, gs10, .ref T10, rfl, rfl, at_new hT10 es10, small (by omega), ?_⟩⟩
    have K10 := LI.new L10 (same_new (o := .tup [.str "wait", .str (("s" : PySem.Str) ++ ⟨#[ch]⟩)]) hT10)
    have hst10 : StpV (hd12.heap_39 w.params) (OffL (p :: I :: sa) (upd H10 T10 (.tup [.str "wait", .str (("s" : PySem.Str) ++ ⟨#[ch]⟩)]))) (.ref T10) (.two "wait" (sN i)) := ⟨T10, rfl, SqT.of ((L10.obj hT10).trans (by rw [ecat] <;> rfl))⟩
    have M10 := LI.add F K10 hsa10 hsl10 (at_new hT10 es10) (stpsV_mono (OffL.same (same_new hT10)) hq10) hst10
    have pm10 := (set_flat (s := Stp.two "wait" (sN i)) hsl10).trans (List.Perm.append_right _ pm9)
    have N10 := (M10.le (n := m + 30 + 3 * ((i + 1 : Nat) : Int)) (by omega)).to (List.append_assoc ..)
    refine ⟨_, _, ys ++ [.ref T], sps ++ [.sig (sN i) tk], _, rfl, N10, by rw [List.length_append, hsp] <;> rfl, fun j r hj => ?_, by rw [sigSteps_succ]; simpa using pm10⟩
    by_cases hjs : j < sps.length
    · rw [List.getElem?_append_left hjs] at hj
      exact hsig j r hj
    · have hjl := (List.getElem?_eq_some_iff.mp hj).1
      rw [List.length_append, List.length_singleton] at hjl
      obtain rfl : j = i := by omega
      rw [List.getElem?_append_right (by omega), hsp, Nat.sub_self] at hj
      cases hj
      exact ⟨tk, rfl, by omega, by omega⟩
  clear L6 s6 P6 Lz L5
  obtain ⟨o4, o11, ys, sps, sl, rfl, L, hsp, hsig, hpm⟩ := h
  refine ⟨_, rfl, 1 + a6, rfl, by omega, by omega, ?_⟩
  refine for_range (lo := 0) (n := (1 + a6).toNat) (fun i σ H' => ∃ o4 o11 zs aps, σ = [some (.ref p), some (.int slots), some (.ref I), some (.int free), o4, o5, o6, o7, some (.ref V0), some (.int (1 + a6)), some (.ref G), o11] ∧ LI (hd12.heap_39 w.params) p c H I G V0 sa xs vps H' (m + 50 + 42 * i) zs (vps ++ sps ++ aps) sl ∧ aps.length = i ∧ ∀ (j : Nat) (r : Prt) (l : List Stp), aps[j]? = some r → sl[j]? = some l → AgA vps l j r)
    ⟨_, _, ys, [], rfl, by rw [List.append_nil]; exact L.le (by omega), rfl, (fun j r l h => by cases h)⟩ (fun i σ H8 hi h => ?_) (fun σ H8 h => ?_)
  · clear L
    obtain ⟨o4, o11, zs, aps, rfl, L, hap, hag⟩ := h
    have hlz := itmsV_len L.its
    rw [List.length_append, List.length_append] at hlz
    obtain ⟨ch, hch, ecat⟩ := aN_cat i (by omega)
    have h2 : ∀ x : PySem.Str, x.length ≤ 10 → x.length ≤ sizeLine := fun x h => smallE (by omega)
    refine ⟨_, rfl, rfl, p, c, _, _, rfl, L.P, by omega, by omega, by omega, fun kd H9 kd0 kd1 s9 P9 => ?_⟩
    obtain ⟨k, rfl⟩ : ∃ k : Nat, kd = k := ⟨kd.toNat, by omega⟩
    have L9 := LI.draw F L s9 P9
    have hsa9 : sa[i]? = some _ := List.getElem?_eq_getElem (show i < sa.length by omega)
    have hsl9 : sl[i]? = some _ := List.getElem?_eq_getElem (show i < sl.length by rw [L9.sll]; omega)
    obtain ⟨gs, es, hq9⟩ := L9.hsl _ _ _ hsa9 hsl9
    have hg9 : gs.length ≤ 12 := by
      have h1 := hpm.length_eq
      have h2 := (List.sublist_flatten_of_mem (List.mem_of_getElem? hsl9)).length_le
      have h3 := stpsV_len hq9
      rw [sigSteps_len] at h1
      omega
    have tO := OffL.toOff (S := p :: I :: sa) (H := H9) (List.mem_cons_self ..)
    refine ⟨_, rfl, .inl ⟨rfl, _, SqL.of L9.hI⟩, _, rfl, _, _, ch, rfl, rfl, h2 _ (by decide), (by rw [Int.zero_add]; exact hch), _, _, rfl, rfl, smallE (show 1 + 1 ≤ 100000 by decide), ?_⟩
    refine ⟨_, rfl, _, rfl, _, rfl, _, rfl, _, rfl, _, rfl, G, _, _, .ref _, rfl, rfl, SqL.of (OffL.at L9.hG), (by rw [Int.zero_add]; exact atI_nat (by rw [List.getElem?_map, hsa9] <;> rfl)), ?_⟩
    refine ⟨rfl, p, c, V0, _, _, k, xs, gs, vps, _, rfl, L9.P, by omega, by omega, tO _ _ L9.hV, itmsV_mono tO L9.hvs, hvG, by omega, by omega, Off.of es (fun z => F.psa (by rw [← z]; exact List.mem_of_getElem? hsa9)), stpsV_mono tO hq9, hg9, fun r ws ex qs H10 s10 P10 hrn hr hws hperm e1 e4 hex => ?_⟩
    refine ⟨Nat.le_of_ble_eq_true rfl, fun T hT => ?_⟩
    have L10 := LI.draw F L9 s10 P10
    refine ⟨I, zs, .ref T, rfl, rfl, at_new hT L10.hI, small (by omega), ?_⟩
    have er := OffL.of (S := p :: I :: sa) (Off.at hr) (L9.notIn hrn)
    have hw := stpsV_offL L10.lsts (stpsV_mono offAt hws)
    have K10 := LI.new L10 (same_new (o := .tup [.str "agent", .str (("a" : PySem.Str) ++ ⟨#[ch]⟩), .int k, .ref r]) hT)
    have sT := OffL.same (S := p :: I :: sa) (same_new (o := .tup [.str "agent", .str (("a" : PySem.Str) ++ ⟨#[ch]⟩), .int k, .ref r]) hT)
    have hI10 : ItmV (hd12.heap_39 w.params) (OffL (p :: I :: sa) (upd H10 T (.tup [.str "agent", .str (("a" : PySem.Str) ++ ⟨#[ch]⟩), .int k, .ref r]))) (.ref T) (.ag k (aN i) qs) := ⟨T, r, ws, rfl, (L10.obj hT).trans (by rw [ecat]), sT _ _ er, stpsV_mono sT hw⟩
    have M10 := LI.put F K10 hI10
    have N10 := (M10.le (n := m + 50 + 42 * ((i + 1 : Nat) : Int)) (by omega)).to (List.append_assoc ..)
    refine ⟨_, _, zs ++ [.ref T], aps ++ [.ag k (aN i) qs], rfl, N10, by rw [List.length_append, hap] <;> rfl, fun j r2 l hj hl => ?_⟩
    by_cases hja : j < aps.length
    · rw [List.getElem?_append_left hja] at hj
      exact hag j r2 l hj hl
    · have hjl := (List.getElem?_eq_some_iff.mp hj).1
      rw [List.length_append, List.length_singleton] at hjl
      obtain rfl : j = i := by omega
      rw [List.getElem?_append_right (by omega), hap, Nat.sub_self] at hj
      cases hj
      rw [hsl9] at hl
      cases hl
      exact ⟨k, qs, ex, rfl, by omega, hperm, e1, e4, hex⟩
  clear L
  obtain ⟨o4, o11, zs, aps, rfl, L, hap, hag⟩ := h
  have hlz := itmsV_len L.its
  rw [List.length_append, List.length_append] at hlz
  have slen2 := L.sll
  obtain ⟨g1, g2⟩ := goodItems hva (by omega) hs4 (by omega) (by omega) hsig (by omega) (by omega) hag (by rw [hsp]; exact hpm)
  exact ⟨_, rfl, q I zs _ H8 L.s (L.P.mono (by omega)) (Off.of L.hI Ip) (itmsV_mono (OffL.toOff (List.mem_cons_self ..)) L.its) g1 g2 (by omega)⟩
end
end M12

namespace M12
open PySem PySem.Spec PyProof.Rows L2 StX Uk
local macro_rules | `(tactic| wtm_at "cls") => `(tactic| first | exact cls_Agent _ | exact cls_Signal _ | exact cls_Variable _ | exact cls_Net _)
local macro_rules | `(tactic| wtm_at "na") => `(tactic| first | exact na_Agent_name _ | exact na_Agent_steps _ | exact na_Agent_shape _ | exact na_Signal_name _ | exact na_Signal_tokens _ | exact na_Variable_name _ | exact na_Variable_size _ | exact na_Variable_at _ | exact na_Variable_shape _ | exact na_Net_line _ | exact na_Net_ring _ | exact na_Net_variables _ | exact na_Net_signals _ | exact na_Net_agents _ | exact na_Net_shape _ | exact na_Net_by_name _ | exact na_Net_bytes_at _ | exact na_Net_lines_at _)

def isAgC (C : Addr) : Prop := C = 232 ∨ C = 272 ∨ C = 310
def spALen (K : PySem.W.Frag) : Sp := fun vs H Q _ => ∃ (x : Addr) (k : Nat) (n : PySem.Str) (ss : List Stp), vs = [.ref x] ∧ PrtA cs K H x (.ag k n ss) ∧ Q (.int ss.length) H
def spAGet (K : PySem.W.Frag) : Sp := fun vs H Q _ => ∃ (x : Addr) (k : Nat) (n : PySem.Str) (ss : List Stp) (s : Nat) (st : Stp), vs = [.ref x, .int s] ∧ PrtA cs K H x (.ag k n ss) ∧ ss[s]? = some st ∧ ∀ v, StpV K H v st → Q v H
def spNStep (K : PySem.W.Frag) : Sp := fun vs H Q _ => ∃ (x t : Addr) (line ring : Int) (ys : List Addr) (ps : List Prt) (a s : Nat) (st : Stp), vs = [.ref x, .ref t] ∧ NetA 599 cs K H x line ring ys ps ∧ ps.length ≤ 1000 ∧ (∀ p ∈ ps, p.ok) ∧ SqT K H t [.int a, .int s] ∧ stepOf? ps a s = some st ∧ ∀ v, StpV K H v st → Q v H
def spNTab (K : PySem.W.Frag) (f : List Prt → Int → Stp → Nat → List Int) : Sp := fun vs H Q _ => ∃ (x t : Addr) (line ring n : Int) (ys : List Addr) (ps : List Prt) (a s : Nat) (st : Stp), vs = [.ref x, .ref t, .int n] ∧ NetA 599 cs K H x line ring ys ps ∧ ps.length ≤ 1000 ∧ (∀ p ∈ ps, p.ok) ∧ H t = some (.tup [.int a, .int s]) ∧ stepOf? ps a s = some st ∧ 1 ≤ ring ∧ ring ≤ 4 ∧
  ∀ t2, SqT K H t2 ((f ps line st (n.fmod ring).toNat).map V.int) → Q (.ref t2) H
section
variable {mg : PySem.Str → Option Value} {base : Heap} {w : World}
theorem kt_tup (w : World) : PySem.W.kitOne (hd12.heap_39 w.params) (.type "tuple") (.type "tuple") = some true := by kernel_rfl
theorem own_ag_len (w : World) (C : Addr) (h : isAgC C) : Own (hd12.heap_39 w.params) C "__len__" 194 := by
  rcases h with rfl | rfl | rfl
  · exact own_Agent_len w
  · exact ⟨by kernel_rfl, by kernel_rfl⟩
  · exact ⟨by kernel_rfl, by kernel_rfl⟩
theorem own_ag_getitem (w : World) (C : Addr) (h : isAgC C) : Own (hd12.heap_39 w.params) C "__getitem__" 201 := by
  rcases h with rfl | rfl | rfl
  · exact own_Agent_getitem w
  · exact ⟨by kernel_rfl, by kernel_rfl⟩
  · exact ⟨by kernel_rfl, by kernel_rfl⟩
theorem ag_cls {w : World} {H : Hp} {x : Addr} {k : Nat} {n : PySem.Str} {ss : List Stp} (h : PrtA cs (hd12.heap_39 w.params) H x (.ag k n ss)) : ∃ C dx fs, H x = some (.ins C dx fs) ∧ isAgC C := by
  obtain ⟨dx, pa, q, vs, h, _, _, _, hk⟩ := h
  rcases lt3 hk with rfl | rfl | rfl
  · exact ⟨_, dx, _, h, .inl rfl⟩
  · exact ⟨_, dx, _, h, .inr (.inl rfl)⟩
  · exact ⟨_, dx, _, h, .inr (.inr rfl)⟩
theorem ok_Agent___len__ (M : Mod (hd12.heap_39 w.params) mg base) : CallG PP w (hd12.heap_39 w.params) mg base 2 (.ref 194) (pos (spALen (hd12.heap_39 w.params))) := by
  obtain ⟨fd, F⟩ := fn_Agent___len__ w
  refine def_pos F sc_Agent___len__ (fun vs H Q E h => ?_) (fun _ _ _ _ _ _ us hl => match us, hl with | [_], _ => rfl) (fun cdv A outer s H vs Q E hr hg h => ?_)
  · obtain ⟨x, k, n, ss, rfl, _⟩ := h; rfl
  have nd := sc_Agent___len__.nd
  obtain ⟨x, k, n, ss, rfl, hA, q⟩ := h
  obtain ⟨C, dx, fs, pa, vs, hx, cC, nC, lC, hpa, hsv⟩ := ag_steps hA
  refine ⟨_, (pss_one (ps_ret (pe_callB call_len_seq (by rfl) (mn_len M) (by decide +kernel) (pa_cons (pe_fld (pv 0) rfl) pa_nil)))), ?_⟩
  refine ⟨_, rfl, x, C, dx, fs, _, rfl, hx, cC, nC, lC, pa, _, rfl, .inr (SqT.of hpa), ?_⟩
  rw [stpsV_len hsv]
  exact q
theorem ok_Agent___getitem__ (M : Mod (hd12.heap_39 w.params) mg base) : CallG PP w (hd12.heap_39 w.params) mg base 2 (.ref 201) (pos (spAGet (hd12.heap_39 w.params))) := by
  obtain ⟨fd, F⟩ := fn_Agent___getitem__ w
  refine def_pos F sc_Agent___getitem__ (fun vs H Q E h => ?_) (fun _ _ _ _ _ _ us hl => match us, hl with | [_, _], _ => rfl) (fun cdv A outer s H vs Q E hr hg h => ?_)
  · obtain ⟨x, k, n, ss, s, st, rfl, _⟩ := h; rfl
  have nd := sc_Agent___getitem__.nd
  obtain ⟨x, k, n, ss, s, st, rfl, hA, hs, q⟩ := h
  obtain ⟨C, dx, fs, pa, vs, hx, cC, nC, lC, hpa, hsv⟩ := ag_steps hA
  obtain ⟨v, hv, hst⟩ := stpsV_get' hsv hs
  refine ⟨_, (pss_one (ps_ret (pe_ix ix_tup (pe_fld (pv 0) rfl) (pv 1) (fun _ _ => rfl)))), ?_⟩
  exact ⟨_, rfl, x, C, dx, fs, _, rfl, hx, cC, nC, lC, _, rfl, pa, _, s, v, rfl, rfl, SqT.of hpa, atI_nat hv, q v hst⟩
theorem ok_Net_step (M : Mod (hd12.heap_39 w.params) mg base) : CallG PP w (hd12.heap_39 w.params) mg base 5 (.ref 556) (pos (spNStep (hd12.heap_39 w.params))) := by
  obtain ⟨fd, F⟩ := fn_Net_step w
  refine def_pos F sc_Net_step (fun vs H Q E h => ?_) (fun _ _ _ _ _ _ us hl => match us, hl with | [_, _], _ => rfl) (fun cdv A outer s H vs Q E hr hg h => ?_)
  · obtain ⟨x, t, line, ring, ys, ps, a, s, st, rfl, _⟩ := h; rfl
  have nd := sc_Net_step.nd
  obtain ⟨x, t, line, ring, ys, ps, a, s, st, rfl, hN, hl, hok, ht, hst, q⟩ := h
  obtain ⟨dx, av, ag, pa, sh, bn, ba, la, hx, N⟩ := hN
  obtain ⟨r, hr2, hss⟩ : ∃ r, (ofC 0 ps)[a]? = some r ∧ r.ss[s]? = some st := by
    unfold stepOf? at hst
    cases e : (ofC 0 ps)[a]? with
    | none => rw [e] at hst; cases hst
    | some r => rw [e] at hst; exact ⟨r, rfl, hst⟩
  obtain ⟨hm, hcl⟩ := ofC_mem (List.mem_of_getElem? hr2)
  obtain ⟨k, n0, ss, rfl⟩ := cl0 hcl
  have hss : ss[s]? = some st := hss
  obtain ⟨xa, hxa, hA⟩ := prtsA_get' (ofA_parts 0 N.prts) hr2
  obtain ⟨C, dxa, fsa, hC, hag⟩ := ag_cls hA
  have hal := (List.getElem?_eq_some_iff.mp hr2).1
  have hsl := (List.getElem?_eq_some_iff.mp hss).1
  have hle := ofC_le 0 ps
  have h24 := (hok _ hm).2.2.2.1
  have hla := ofA_len (k := 0) (prtsA_len N.prts)
  have hxa2 : (List.map V.ref (ofA 0 ys ps))[a]? = some (.ref xa) := by rw [List.getElem?_map, hxa] <;> rfl
  refine ⟨_, (pss_cons (ps_if (PW.pt (pw_or (pt_not (pt_val (pe_callB call_isi (by rfl) (mn_isinstance M) (by decide +kernel) (pa_cons (pv 1) (pa_cons (pe_bltn (v := .ty "tuple") (by rfl) (mn_tuple M) (by decide +kernel) rfl) pa_nil))))) (pw_or1 (pt_cmpR op_ne (pe_callB call_len_seq (by rfl) (mn_len M) (by decide +kernel) (pa_cons (pv 1) pa_nil)) pe_int (nomark _))))) (pss_one ps_dead) pss_nil)
      (pss_cons (ps_asg (pv 1) (pg_tup (by rfl) (pgs_cons (pg_name (i := 2) nd rfl (.inl rfl)) (pgs_cons (pg_name (i := 3) nd rfl (.inl rfl)) pgs_nil))))
      (pss_cons (ps_if (PW.pt (pw_or (pt_not (pt_val (pe_cl (takes_of rfl rfl rfl rfl) (ok_is_within M) (hr.mono (by decide)) hg rfl (mg_is_within M) (kp_is_within w) (pa_cons (pv 2) (pa_cons pe_int (pa_cons (pe_op op_sub (pe_callB call_len_seq (by rfl) (mn_len M) (by decide +kernel) (pa_cons (pe_fld (pv 0) rfl) pa_nil)) pe_int) pa_nil)))))) (pw_or1 (pt_not (pt_val (pe_cl (takes_of rfl rfl rfl rfl) (ok_is_within M) (hr.mono (by decide)) hg rfl (mg_is_within M) (kp_is_within w) (pa_cons (pv 3) (pa_cons pe_int (pa_cons (pe_op op_sub (pe_callB (call_lenO (D := isAgC) (ok_Agent___len__ M) (hr.mono (by decide)) hg (own_ag_len w)) (by rfl) (mn_len M) (by decide +kernel) (pa_cons (pe_ix ix_tup (pe_fld (pv 0) rfl) (pv 2) (fun _ _ => rfl)) pa_nil)) pe_int) pa_nil))))))))) (pss_one ps_dead) pss_nil)
      (pss_one (ps_ret (pe_ixO (D := isAgC) (ok_Agent___getitem__ M) (hr.mono (by decide)) hg (own_ag_getitem w) (fi_Agent_getitem w) (pe_ix ix_tup (pe_fld (pv 0) rfl) (pv 2) (fun _ _ => rfl)) (pv 3) (fun _ _ => rfl))))))), ?_⟩
  refine ⟨_, rfl, _, _, _, _, _, rfl, .ty "tuple", sqT_ty ht, kt_tup w, _, rfl, ifF rfl ?_⟩
  refine ⟨_, rfl, t, _, rfl, .inr ht, rfl, _, rfl, ifF (by show (!decide (V.int 2 = V.int 2)) = false; decide) ?_⟩
  refine ⟨_, rfl, t, _, rfl, ht, rfl, _, _, rfl, _, _, rfl, rfl, ?_⟩
  have wi : ∀ (i n : Nat), i < n → within (.int (i : Int)) 0 ((n : Int) - 1) = true := fun i n h => by
    show (decide ((0 : Int) ≤ (i : Int)) && decide ((i : Int) ≤ (n : Int) - 1)) = true
    rw [decide_eq_true (show (0 : Int) ≤ (i : Int) by omega), decide_eq_true (show (i : Int) ≤ (n : Int) - 1 by omega)] <;> rfl
  refine ⟨_, rfl, _, rfl, x, 599, dx, _, _, rfl, hx, cls_Net w, na_Net_agents w, rfl, pa, _, rfl, .inr (SqT.of N.ha), _, _, rfl, rfl, rfl, .int a, .int a, 0, _, rfl, .int _, _, rfl, ifF ?_ ?_⟩
  · rw [List.length_map, hla, wi _ _ hal] <;> rfl
  refine ⟨_, rfl, _, rfl, x, 599, dx, _, _, rfl, hx, cls_Net w, na_Net_agents w, rfl, _, rfl, pa, _, a, .ref xa, rfl, rfl, SqT.of N.ha, atI_nat hxa2, ?_⟩
  refine ⟨xa, C, dxa, fsa, rfl, hag, hC, rfl, xa, k, n0, ss, rfl, hA, ss.length, rfl, Nat.lt_of_le_of_lt h24 (by decide), _, _, rfl, rfl, rfl, .int s, .int s, 0, _, rfl, .int _, _, rfl, ifF ?_ ?_⟩
  · rw [wi _ _ hsl] <;> rfl
  exact ⟨_, rfl, x, 599, dx, _, _, rfl, hx, cls_Net w, na_Net_agents w, rfl, _, rfl, pa, _, a, .ref xa, rfl, rfl, SqT.of N.ha, atI_nat hxa2, _, rfl, xa, C, dxa, fsa, rfl, hag, hC, rfl, xa, k, n0, ss, s, st, rfl, hA, hss, q⟩
theorem ok_Net_touched (M : Mod (hd12.heap_39 w.params) mg base) : CallG PP w (hd12.heap_39 w.params) mg base 7 (.ref 582) (pos (spNTab (hd12.heap_39 w.params) (fun ps _ st => stepB ps st))) := by
  obtain ⟨fd, F⟩ := fn_Net_touched w
  refine def_pos F sc_Net_touched (fun vs H Q E h => ?_) (fun _ _ _ _ _ _ us hl => match us, hl with | [_, _, _], _ => rfl) (fun cdv A outer s H vs Q E hr hg h => ?_)
  · obtain ⟨x, t, line, ring, n, ys, ps, a, s, st, rfl, _⟩ := h; rfl
  have nd := sc_Net_touched.nd
  obtain ⟨x, t, line, ring, n, ys, ps, a, s, st, rfl, hN, hl, hok, ht, hst, hr1, hr4, q⟩ := h
  obtain ⟨dx, av, ag, pa, sh, bn, ba, la, hx, N⟩ := id hN
  obtain ⟨ls, hL, tab⟩ := N.hb
  refine ⟨_, (pss_cons (ps_expr (pe_meG (takes_of rfl rfl rfl rfl) (pv 0) (cls_Net w) (me_Net_step w) (ok_Net_step M) (hr.mono (by decide)) hg (pa_cons (pv 1) pa_nil)))
      (pss_one (ps_ret (pe_ix ix_list (pe_dget (hu_of hr) (pe_fld (pv 0) rfl) (pv 1) (fun _ _ => rfl)) (pe_op op_modN (pv 2) (pe_fld (pv 0) rfl)) (fun _ _ => rfl))))), ?_⟩
  refine ⟨_, rfl, x, dx, _, rfl, hx, rfl, _, rfl, rfl, x, t, line, ring, ys, ps, a, s, st, rfl, hN, hl, hok, SqT.of ht, hst, fun v _ => ?_⟩
  have hm : (a, s) ∈ spots ps := spots_mem.mpr ⟨st, hst⟩
  obtain ⟨i, hi⟩ := List.getElem?_of_mem hm
  have hli : i < ls.length := by rw [tab.1]; exact (List.getElem?_eq_some_iff.mp hi).1
  have hl2 := List.getElem?_eq_getElem hli
  obtain ⟨ts, hts, htl, hrow⟩ := tab.2 i _ _ hl2 hi
  have hf := @fmod_range n ring (by omega)
  have hrl : (n.fmod ring).toNat < ts.length := by omega
  have ht3 := List.getElem?_eq_getElem hrl
  have hv := hrow _ _ ht3
  have eb : bytesAtF ps (a, s) (n.fmod ring).toNat = stepB ps st (n.fmod ring).toNat := by
    unfold bytesAtF
    rw [hst]
  refine ⟨_, rfl, x, 599, dx, _, _, rfl, hx, cls_Net w, na_Net_bytes_at w, rfl, _, rfl, ba, .ref ls[i], rfl, .inr ⟨_, plK (a, s), t, .inl hL, rfl, ht, (plKv_some (spotsN_nodup _ _) hi hl2).symm⟩, ?_⟩
  refine ⟨_, rfl, _, rfl, x, 599, dx, _, _, rfl, hx, cls_Net w, na_Net_ring w, rfl, _, _, rfl, rfl, (by show ring ≠ 0; omega), _, _, _, .ref _, rfl, rfl, SqL.of hts, atI_lit hf.1 (by rw [List.getElem?_map, ht3] <;> rfl), q _ ?_⟩
  rw [eb] at hv
  exact hv
theorem ok_Net_lines (M : Mod (hd12.heap_39 w.params) mg base) : CallG PP w (hd12.heap_39 w.params) mg base 7 (.ref 589) (pos (spNTab (hd12.heap_39 w.params) (fun ps line st r => linesL (stepB ps st r) line))) := by
  obtain ⟨fd, F⟩ := fn_Net_lines w
  refine def_pos F sc_Net_lines (fun vs H Q E h => ?_) (fun _ _ _ _ _ _ us hl => match us, hl with | [_, _, _], _ => rfl) (fun cdv A outer s H vs Q E hr hg h => ?_)
  · obtain ⟨x, t, line, ring, n, ys, ps, a, s, st, rfl, _⟩ := h; rfl
  have nd := sc_Net_lines.nd
  obtain ⟨x, t, line, ring, n, ys, ps, a, s, st, rfl, hN, hl, hok, ht, hst, hr1, hr4, q⟩ := h
  obtain ⟨dx, av, ag, pa, sh, bn, ba, la, hx, N⟩ := id hN
  obtain ⟨ls, hL, tab⟩ := N.hl
  refine ⟨_, (pss_cons (ps_expr (pe_meG (takes_of rfl rfl rfl rfl) (pv 0) (cls_Net w) (me_Net_step w) (ok_Net_step M) (hr.mono (by decide)) hg (pa_cons (pv 1) pa_nil)))
      (pss_one (ps_ret (pe_ix ix_list (pe_dget (hu_of hr) (pe_fld (pv 0) rfl) (pv 1) (fun _ _ => rfl)) (pe_op op_modN (pv 2) (pe_fld (pv 0) rfl)) (fun _ _ => rfl))))), ?_⟩
  refine ⟨_, rfl, x, dx, _, rfl, hx, rfl, _, rfl, rfl, x, t, line, ring, ys, ps, a, s, st, rfl, hN, hl, hok, SqT.of ht, hst, fun v _ => ?_⟩
  have hm : (a, s) ∈ spots ps := spots_mem.mpr ⟨st, hst⟩
  obtain ⟨i, hi⟩ := List.getElem?_of_mem hm
  have hli : i < ls.length := by rw [tab.1]; exact (List.getElem?_eq_some_iff.mp hi).1
  have hl2 := List.getElem?_eq_getElem hli
  obtain ⟨ts, hts, htl, hrow⟩ := tab.2 i _ _ hl2 hi
  have hf := @fmod_range n ring (by omega)
  have hrl : (n.fmod ring).toNat < ts.length := by omega
  have ht3 := List.getElem?_eq_getElem hrl
  have hv := hrow _ _ ht3
  have eb : bytesAtF ps (a, s) (n.fmod ring).toNat = stepB ps st (n.fmod ring).toNat := by
    unfold bytesAtF
    rw [hst]
  refine ⟨_, rfl, x, 599, dx, _, _, rfl, hx, cls_Net w, na_Net_lines_at w, rfl, _, rfl, la, .ref ls[i], rfl, .inr ⟨_, plK (a, s), t, .inl hL, rfl, ht, (plKv_some (spotsN_nodup _ _) hi hl2).symm⟩, ?_⟩
  refine ⟨_, rfl, _, rfl, x, 599, dx, _, _, rfl, hx, cls_Net w, na_Net_ring w, rfl, _, _, rfl, rfl, (by show ring ≠ 0; omega), _, _, _, .ref _, rfl, rfl, SqL.of hts, atI_lit hf.1 (by rw [List.getElem?_map, ht3] <;> rfl), q _ ?_⟩
  unfold linesAtF at hv; rw [eb] at hv
  exact hv
end
end M12

namespace M12
open PySem PySem.Spec PyProof.Rows L2 StX Uk
local macro_rules | `(tactic| wtm_at "cls") => `(tactic| first | exact cls_Agent _ | exact cls_Signal _ | exact cls_Variable _ | exact cls_Net _)
local macro_rules | `(tactic| wtm_at "na") => `(tactic| first | exact na_Agent_name _ | exact na_Agent_steps _ | exact na_Agent_shape _ | exact na_Signal_name _ | exact na_Signal_tokens _ | exact na_Variable_name _ | exact na_Variable_size _ | exact na_Variable_at _ | exact na_Variable_shape _ | exact na_Net_line _ | exact na_Net_ring _ | exact na_Net_variables _ | exact na_Net_signals _ | exact na_Net_agents _ | exact na_Net_shape _ | exact na_Net_by_name _ | exact na_Net_bytes_at _ | exact na_Net_lines_at _)

theorem ktI (w : World) : PySem.W.kitOne (hd12.heap_39 w.params) (.type "int") (.type "int") = some true := by kernel_rfl
theorem ktIB (w : World) : PySem.W.kitOne (hd12.heap_39 w.params) (.type "int") (.type "bool") = some false := by kernel_rfl
def spLBytes (K : PySem.W.Frag) : Sp := fun vs H Q _ => ∃ (l1 t : Addr) (slots n : Int) (xs : List V) (ps : List Prt) (st : Stp), vs = [.ref l1, .int slots, .ref t, .int n] ∧ H l1 = some (.lst xs) ∧ ItmsV K H xs ps ∧ SqT K H t st.vs ∧ GoodN slots ps ∧ fitsP ps st ∧ st.ok = true ∧ 1 ≤ slots ∧ slots ≤ 4 ∧ xs.length ≤ 1000 ∧
  ∀ r H', Same H H' → H' r = some (.lst ((stepB ps st (n.fmod slots).toNat).map V.int)) → Q (.ref r) H'
def spLLines (K : PySem.W.Frag) : Sp := fun vs H Q _ => ∃ (l : Addr) (width : Int) (ns : List Int), vs = [.ref l, .int width] ∧ H l = some (.lst (ns.map V.int)) ∧ ns.Pairwise (· < ·) ∧ ns.length ≤ 8 ∧ (∀ a ∈ ns, 0 ≤ a ∧ a < 1024) ∧ 1 ≤ width ∧ width ≤ 16 ∧
  ∀ r H', Same H H' → H' r = some (.lst ((linesL ns width).map V.int)) → Q (.ref r) H'
def spLWhole (K : PySem.W.Frag) : Sp := fun vs H Q _ => ∃ (t : Addr) (ns : List Int), vs = [.ref t] ∧ SqT K H t (ns.map V.int) ∧ ns.length ≤ 10000 ∧ ∀ H', Same H H' → Q (.bl true) H'
section
variable {mg : PySem.Str → Option Value} {base : Heap} {w : World}
theorem ok__law_whole (M : Mod (hd12.heap_39 w.params) mg base) : CallG PP w (hd12.heap_39 w.params) mg base 3 (.ref 660) (pos (spLWhole (hd12.heap_39 w.params))) := by
  obtain ⟨fd, F⟩ := fn__law_whole w
  refine def_pos F sc__law_whole (fun vs H Q E h => ?_) (fun _ _ _ _ _ _ us hl => match us, hl with | [_], _ => rfl) (fun cdv A outer s H vs Q E hr hg h => ?_)
  · obtain ⟨t, ns, rfl, _⟩ := h; rfl
  have nd := sc__law_whole.nd
  obtain ⟨t, ns, rfl, ht, hl, q⟩ := h
  refine ⟨_, (pss_one (ps_ret (pe_and (pe_callB call_isi (by rfl) (mn_isinstance M) (by decide +kernel) (pa_cons (pv 0) (pa_cons (pe_bltn (v := .ty "tuple") (by rfl) (mn_tuple M) (by decide +kernel) rfl) pa_nil))) (pe_one (pe_callB (cr_all rfl) (by rfl) (mn_all M) (by decide +kernel) (pa_cons (pe_lc (own := [("one", 1)]) (g := gName 1) (by rfl) nd (pi_tup (pv 0)) (blkOk_by (own := [("one", 1)]) (N := ["numbers", "one"]) (sc := defScope s__law_whole) (by decide +kernel)) (fun _ _ _ _ _ => (pg_name (i := 1) nd rfl (Or.inl rfl))) (fun _ _ _ _ _ => pts_nil) (fun _ _ _ _ _ => (pe_and (pe_callB (xcall_isi (hd12.heap_39 w.params)) (by rfl) (mn_isinstance M) (by decide +kernel) (pa_cons (pv 1) (pa_cons (pe_bltn (v := .ty "int") (by rfl) (mn_int M) (by decide +kernel) rfl) pa_nil))) (pe_one (pe_not (pe_callB (xcall_isi (hd12.heap_39 w.params)) (by rfl) (mn_isinstance M) (by decide +kernel) (pa_cons (pv 1) (pa_cons (pe_bltn (v := .ty "bool") (by rfl) (mn_bool M) (by decide +kernel) rfl) pa_nil)))))))) pa_nil)))))), ?_⟩
  refine ⟨_, rfl, _, _, _, _, _, rfl, .ty "tuple", sqT_ty ht, kt_tup w, _, rfl, ifT rfl ?_⟩
  refine ⟨_, rfl, t, rfl, ⟨_, ht⟩, fun D hD => ?_⟩
  refine lc_it (walk_tup (xs := ns.map V.int)) (fun j H' => Same H H' ∧ H' D = some (.lst ((List.replicate j true).map V.bl))) ⟨same_new hD, upd_same⟩ (fun j H' _ h => st_mono h.1 ht) (fun j v H4 H5 hj h y => ?_) (fun H' h => ?_)
  · obtain ⟨sd, eD⟩ := h
    obtain ⟨rfl, hv⟩ := y
    rw [List.length_map] at hj
    rw [List.getElem?_map, List.getElem?_eq_getElem hj] at hv
    cases hv
    refine ⟨rfl, ?_⟩
    refine ⟨_, rfl, _, _, _, _, _, rfl, .ty "int", .base (.int _), ktI w, _, rfl, ifT rfl ?_⟩
    refine ⟨_, rfl, _, _, _, _, _, rfl, .ty "bool", .base (.int _), ktIB w, _, rfl, _, eD, ?_, same_upd sd hD, ?_⟩
    · rw [List.length_map, List.length_replicate]
      exact small (by omega)
    · rw [upd_same, List.replicate_succ', List.map_append] <;> rfl
  · obtain ⟨sd, eD⟩ := h
    refine ⟨D, _, rfl, SqL.of eD, ?_⟩
    have e : (List.replicate (ns.map V.int).length true).all id = true := List.all_eq_true.mpr fun b hb => List.eq_of_mem_replicate hb
    rw [e]
    exact q _ sd
theorem ok__law_lines (M : Mod (hd12.heap_39 w.params) mg base) : CallG PP w (hd12.heap_39 w.params) mg base 2 (.ref 655) (pos (spLLines (hd12.heap_39 w.params))) := by
  obtain ⟨fd, F⟩ := fn__law_lines w
  refine def_pos F sc__law_lines (fun vs H Q E h => ?_) (fun _ _ _ _ _ _ us hl => match us, hl with | [_, _], _ => rfl) (fun cdv A outer s H vs Q E hr hg h => ?_)
  · obtain ⟨l, width, ns, rfl, _⟩ := h; rfl
  have nd := sc__law_lines.nd
  obtain ⟨l, width, ns, rfl, hl, hasc, hn8, hnr, hw1, hw2, q⟩ := h
  refine ⟨_, (pss_cons (ps_set (i := 2) nd rfl (.inl rfl) (pe_lst pa_nil))
      (pss_cons (ps_for (passes_of rfl) rfl (pi_list (pv 0)) (pg_name (i := 3) nd rfl (.inl rfl)) (pss_cons (ps_set (i := 4) nd rfl (.inl rfl) (pe_op op_fdivN (pe_callTy call_int1 (by rfl) (mn_int M) (by decide +kernel) (pa_cons (pv 3) pa_nil)) (pv 1)))
      (pss_one (ps_if (pt_cmpR op_notIn_seq (pv 4) (pv 2) (by rfl)) (pss_one (ps_expr (pe_bm PySem.F.plainAttrs_list PySem.F.slot_list_append PySem.F.type_list_append mt_append (pv 2) (pa_cons (pv 4) pa_nil)))) pss_nil))))
      (pss_one (ps_ret (pv 2))))), ?_⟩
  refine ⟨Nat.zero_le _, fun f hf => ?_⟩
  have hlf : l ≠ f := ne_of_none hl hf
  refine ⟨_, rfl, l, rfl, ⟨_, SqL.of (at_new hf hl)⟩, ?_⟩
  refine for_it (walk_list (xs := ns.map V.int)) (fun j σ H' => (∃ o3 o4, σ = [some (.ref l), some (.int width), some (.ref f), o3, o4]) ∧ Same H H' ∧ ∃ ms : List Int, H' f = some (.lst (ms.map V.int)) ∧ ms.Pairwise (· < ·) ∧ ms.length ≤ j ∧ ∀ x, x ∈ ms ↔ ∃ a ∈ ns.take j, a.fdiv width = x) ⟨⟨_, _, rfl⟩, same_new hf, [], upd_same, .nil, Nat.le_refl _, fun x => by simp⟩ (fun j σ H' _ h => SqL.of (h.2.1 _ _ hl)) (fun j v σ H2 H3 hj h y => ?_) (fun σ H2 h => ?_)
  · obtain ⟨⟨o3, o4, rfl⟩, s, ms, eF, hpw, hml, hmem⟩ := h
    obtain ⟨rfl, hv⟩ := y
    rw [List.length_map] at hj
    have hnj := List.getElem?_eq_getElem hj
    rw [List.getElem?_map, hnj] at hv
    cases hv
    have htk : ns.take (j + 1) = ns.take j ++ [ns[j]] := by rw [List.take_add_one, hnj] <;> rfl
    have hrng := fdiv_range (hnr _ (List.getElem_mem hj)).1 (hnr _ (List.getElem_mem hj)).2 hw1
    refine ⟨_, rfl, .inl ⟨_, rfl, _, rfl, _, _, rfl, rfl, ⟨by omega, by omega⟩, ?_⟩⟩
    have hin : inV (.int (ns[j].fdiv width)) (ms.map V.int) = decide (ns[j].fdiv width ∈ ms) := inV_intsL _ _
    refine ⟨_, rfl, _, rfl, f, _, rfl, .inl (SqL.of eF), rfl, flat_intsL ms, _, rfl, ite_b (fun e => ?_) (fun e => ?_)⟩
    · have e : inV (.int (ns[j].fdiv width)) (ms.map V.int) = false := not_b e
      rw [hin] at e
      have hni : ns[j].fdiv width ∉ ms := of_decide_eq_false e
      refine ⟨_, rfl, .inl ⟨rfl, _, SqL.of eF⟩, _, rfl, f, _, .int (ns[j].fdiv width), rfl, rfl, eF, ?_, ?_⟩
      · rw [List.length_map]
        exact small (by omega)
      refine ⟨⟨_, _, rfl⟩, same_upd s hf, ms ++ [ns[j].fdiv width], by rw [upd_same, List.map_append] <;> rfl, ?_, by rw [List.length_append, List.length_singleton]; omega, fun x => ?_⟩
      · refine List.pairwise_append.mpr ⟨hpw, List.pairwise_singleton _ _, fun a ha b hb => ?_⟩
        rw [List.mem_singleton.mp hb]
        obtain ⟨a2, ha2, rfl⟩ := (hmem a).mp ha
        obtain ⟨i, hi⟩ := List.getElem?_of_mem ha2
        have hij : i < j := by
          have := (List.getElem?_eq_some_iff.mp hi).1
          rw [List.length_take] at this
          omega
        rw [List.getElem?_take_of_lt hij] at hi
        have hlt := List.pairwise_iff_getElem.mp hasc i j (List.getElem?_eq_some_iff.mp hi).1 hj hij
        rw [(List.getElem?_eq_some_iff.mp hi).2] at hlt
        have hm := fdiv_mono (Int.le_of_lt hlt) hw1
        have hne : a2.fdiv width ≠ ns[j].fdiv width := fun z => hni (by rw [← z]; exact (hmem _).mpr ⟨a2, ha2, rfl⟩)
        omega
      · rw [List.mem_append, List.mem_singleton, hmem, htk]
        constructor
        · rintro (⟨a, ha, rfl⟩ | rfl)
          · exact ⟨a, List.mem_append_left _ ha, rfl⟩
          · exact ⟨_, List.mem_append_right _ (List.mem_singleton.mpr rfl), rfl⟩
        · rintro ⟨a, ha, rfl⟩
          rcases List.mem_append.mp ha with h | h
          · exact .inl ⟨a, h, rfl⟩
          · exact .inr (by rw [List.mem_singleton.mp h])
    · have e : inV (.int (ns[j].fdiv width)) (ms.map V.int) = true := not_b' e
      rw [hin] at e
      have hyi : ns[j].fdiv width ∈ ms := of_decide_eq_true e
      refine ⟨⟨_, _, rfl⟩, s, ms, eF, hpw, by omega, fun x => ?_⟩
      rw [hmem, htk]
      constructor
      · rintro ⟨a, ha, rfl⟩
        exact ⟨a, List.mem_append_left _ ha, rfl⟩
      · rintro ⟨a, ha, rfl⟩
        rcases List.mem_append.mp ha with h | h
        · exact ⟨a, h, rfl⟩
        · rw [List.mem_singleton.mp h]
          exact (hmem _).mp hyi
  obtain ⟨⟨o3, o4, rfl⟩, s, ms, eF, hpw, hml, hmem⟩ := h
  have e : ms = linesL ns width := asc_uniq hpw (linesL_asc ns width) fun x => by
    rw [hmem, linesL_mem hnr hw1, List.length_map, take_all (Nat.le_refl _)]
  subst e
  exact ⟨_, rfl, q f H2 s eF⟩
theorem ok__law_bytes (M : Mod (hd12.heap_39 w.params) mg base) : CallG PP w (hd12.heap_39 w.params) mg base 3 (.ref 648) (pos (spLBytes (hd12.heap_39 w.params))) := by
  obtain ⟨fd, F⟩ := fn__law_bytes w
  refine def_pos F sc__law_bytes (fun vs H Q E h => ?_) (fun _ _ _ _ _ _ us hl => match us, hl with | [_, _, _, _], _ => rfl) (fun cdv A outer s H vs Q E hr hg h => ?_)
  · obtain ⟨l1, t, slots, n, xs, ps, st, rfl, _⟩ := h; rfl
  have nd := sc__law_bytes.nd
  obtain ⟨l1, t, slots, n, xs, ps, st, rfl, hl1, hI, ht, hg, hfit, hok, hs1, hs4, hx1000, q⟩ := h
  refine ⟨_, (pss_cons (ps_if (pt_cmpR op_eq (pe_callB call_len_seq (by rfl) (mn_len M) (by decide +kernel) (pa_cons (pv 2) pa_nil)) pe_int (nomark _)) (pss_one (ps_ret (pe_lst pa_nil))) pss_nil)
      (pss_cons (ps_set (i := 4) nd rfl (.inl rfl) (pe_ix ix_list (pe_lc (own := [("item", 5)]) (g := gName 5) (by rfl) nd (pi_list (pv 0)) (blkOk_by (own := [("item", 5)]) (N := ["items", "slots_here", "step", "n", "chosen", "item", "number", "start", "k"]) (sc := defScope s__law_bytes) (by decide +kernel)) (fun _ _ _ _ _ => (pg_name (i := 5) nd rfl (Or.inl rfl))) (fun _ _ _ _ _ => pts_one (PW.pt (pw_and (pt_cmpR op_eq (pe_ix (xix_tup (hd12.heap_39 w.params)) (pv 5) pe_int (fun _ _ => rfl)) pe_str (nomark _)) (pw_and1 (pt_cmpR op_eq (pe_ix (xix_tup (hd12.heap_39 w.params)) (pv 5) pe_int (fun _ _ => rfl)) (pe_ix (xix_tup (hd12.heap_39 w.params)) (pv 2) pe_int (fun _ _ => rfl)) (nomark _)))))) (fun _ _ _ _ _ => (pv 5))) pe_int (fun _ _ => rfl)))
      (pss_cons (ps_set (i := 6) nd rfl (.inl rfl) (pe_op op_add (pv 3) (pe_ix ix_tup (pv 2) pe_int (fun _ _ => rfl))))
      (pss_cons (ps_while (passes_of rfl) (pt_cmpR op_lt (pv 6) pe_int (nomark _)) (pss_one (ps_set (i := 6) nd rfl (.inl rfl) (pe_op op_add (pv 6) pe_int))))
      (pss_cons (ps_set (i := 7) nd rfl (.inr rfl) (pe_ix ix_list (pe_ix ix_tup (pv 4) pe_int (fun _ _ => rfl)) (pe_op op_modN (pe_callTy call_int1 (by rfl) (mn_int M) (by decide +kernel) (pa_cons (pv 6) pa_nil)) (pe_callB call_len_seq (by rfl) (mn_len M) (by decide +kernel) (pa_cons (pe_ix ix_tup (pv 4) pe_int (fun _ _ => rfl)) pa_nil))) (fun _ _ => rfl)))
      (pss_one (ps_ret (pe_lc (own := [("k", 8)]) (g := gName 8) (by rfl) nd (pi_range1 (by rfl) (mn_range M) (pa_cons (pe_ix ix_tup (pv 4) pe_int (fun _ _ => rfl)) pa_nil)) (blkOk_by (own := [("k", 8)]) (N := ["items", "slots_here", "step", "n", "chosen", "item", "number", "start", "k"]) (sc := defScope s__law_bytes) (by decide +kernel)) (fun _ _ _ _ _ => (pg_name (i := 8) nd rfl (Or.inl rfl))) (fun _ _ _ _ _ => pts_one (pt_chain op_le op_le (pe_ix (xix_tup (hd12.heap_39 w.params)) (pv 2) pe_int (fun _ _ => rfl)) (pv 8) (pe_ix (xix_tup (hd12.heap_39 w.params)) (pv 2) pe_int (fun _ _ => rfl)))) (fun _ _ _ _ _ => (pe_op op_add (pv 7) (pv 8))))))))))), ?_⟩
  have hli := itmsV_len hI
  cases st with
  | two w0 nm =>
    refine ⟨_, rfl, t, _, rfl, .inr ht, rfl, _, rfl, ifT (by show decide (V.int 2 = V.int 2) = true; decide) ?_⟩
    exact ⟨Nat.zero_le _, fun r hr => q r _ (same_new hr) upd_same⟩
  | five w0 nm sh f la =>
    obtain ⟨_, _, hsh0, hsh3, hf0, hfl, hl7⟩ := ok_five hok
    obtain ⟨b, as, hvm, hlb⟩ := hfit
    have hgo := hg.ok _ hvm
    have hsl := hg.slots _ _ _ hvm
    obtain ⟨_, hb1, hb8, hl1', hl4, hbd⟩ := hgo
    refine ⟨_, rfl, t, _, rfl, .inr ht, rfl, _, rfl, ifF (by show decide (V.int 5 = V.int 2) = false; decide) ?_⟩
    refine ⟨_, rfl, l1, rfl, ⟨_, SqL.of hl1⟩, fun D hD => ?_⟩
    refine lc_it (walk_list (xs := xs)) (fun j H' => Same H H' ∧ ∃ ws : List V, H' D = some (.lst ws) ∧ ws.length ≤ j ∧ (∀ v ∈ ws, ∃ (i : Nat) (b2 : Int) (as2 : List Int), xs[i]? = some v ∧ ps[i]? = some (.var nm b2 as2)) ∧ ∀ (i : Nat) (b2 : Int) (as2 : List Int), i < j → ps[i]? = some (.var nm b2 as2) → ws ≠ []) ⟨same_new hD, [], upd_same, Nat.le_refl _, (fun _ h => nomatch h), fun i _ _ h _ => absurd h (Nat.not_lt_zero i)⟩ (fun j H' _ h => SqL.of (h.1 _ _ hl1)) (fun j v H2 H3 hj h y => ?_) (fun H2 h => ?_)
    · obtain ⟨sd, ws, eW, hwl, hin, hne⟩ := h
      obtain ⟨rfl, hv⟩ := y
      obtain ⟨r, hr2, hA⟩ := itmsV_get hI hv
      obtain ⟨tt, tx, rfl, htt, h0, h1⟩ := itmV_both (itmV_mono sd hA)
      have no : (∀ b2 as2, r ≠ .var nm b2 as2) → ∀ (i : Nat) (b2 : Int) (as2 : List Int), i < j + 1 → ps[i]? = some (.var nm b2 as2) → ws ≠ [] := fun hno i b2 as2 hi e => by
        rcases lt_succ_cases hi with h | rfl
        · exact hne i b2 as2 h e
        · rw [hr2] at e
          exact absurd (Option.some.inj e) (hno b2 as2)
      refine ⟨rfl, ?_⟩
      refine ⟨_, rfl, tt, tx, 0, _, rfl, rfl, SqT.of htt, h0, rfl, _, rfl, ite_b (fun e1 => ?_) (fun e1 => ?_)⟩
      · have e1 := of_decide_eq_true e1
        refine ⟨_, rfl, tt, tx, 1, _, rfl, rfl, SqT.of htt, h1, _, rfl, t, _, 1, .str nm, rfl, rfl, (st_mono sd ht), atI_nat (j := 1) rfl, rfl, _, rfl, ite_b (fun e2 => ?_) (fun e2 => ?_)⟩
        · have e2 := of_decide_eq_true e2
          obtain ⟨n2, b2, as2, rfl⟩ : ∃ n2 b2 as2, r = .var n2 b2 as2 := by
            cases r with
            | var n2 b2 as2 => exact ⟨n2, b2, as2, rfl⟩
            | sig => exact absurd e1 (by show ¬ V.str (itmW 1) = V.str "var"; decide +kernel)
            | ag => exact absurd e1 (by show ¬ V.str (itmW 0) = V.str "var"; decide +kernel)
          have e2 : n2 = nm := by injection e2
          subst e2
          refine ⟨_, rfl, ws, eW, small (by omega), same_upd sd hD, ws ++ [.ref tt], upd_same, by rw [List.length_append, List.length_singleton]; omega, fun u hu => ?_, fun _ _ _ _ _ => by simp⟩
          rcases List.mem_append.mp hu with h | h
          · exact hin u h
          · rw [List.mem_singleton.mp h]
            exact ⟨j, b2, as2, hv, hr2⟩
        · have e2 := of_decide_eq_false e2
          exact ⟨sd, ws, eW, by omega, hin, no fun b2 as2 e => e2 (by rw [e] <;> rfl)⟩
      · have e1 := of_decide_eq_false e1
        exact ⟨sd, ws, eW, by omega, hin, no fun b2 as2 e => e1 (by rw [e] <;> rfl)⟩
    obtain ⟨s2, ws, eW, hwl, hin, hne⟩ := h
    obtain ⟨i0, hi0⟩ := List.getElem?_of_mem hvm
    have hwn := hne i0 b as (by rw [hli]; exact (List.getElem?_eq_some_iff.mp hi0).1) hi0
    obtain ⟨w1, wr, rfl⟩ : ∃ w1 wr, ws = w1 :: wr := by
      cases ws with
      | nil => exact absurd rfl hwn
      | cons a b => exact ⟨a, b, rfl⟩
    obtain ⟨i1, b2, as2, hx1, hp1⟩ := hin w1 (List.mem_cons_self ..)
    obtain ⟨rfl, rfl⟩ := var_uniq hg.nd hvm (List.mem_of_getElem? hp1)
    obtain ⟨p1, hp1', hA⟩ := itmsV_get hI hx1
    rw [hp1] at hp1'
    cases hp1'
    obtain ⟨tt, l, rfl, htt, hll⟩ := itmV_mono s2 hA
    have ht2 := st_mono s2 ht
    refine ⟨D, _, 0, .ref tt, rfl, rfl, SqL.of eW, atI_nat (j := 0) rfl, ?_⟩
    refine ⟨_, rfl, _, rfl, t, _, 2, .int sh, rfl, rfl, ht2, atI_nat (j := 2) rfl, _, _, rfl, rfl, ?_⟩
    refine ⟨fun m σ H' => H' = H2 ∧ ∃ j : Nat, σ = [some (.ref l1), some (.int slots), some (.ref t), some (.int n), some (.ref tt), none, some (.int (n + sh + 12 * (j : Int))), none, none] ∧ m = (-(n + sh + 12 * (j : Int))).toNat, ⟨_, rfl, 0, by simp; rfl, rfl⟩, ?_⟩
    rintro m σ H' ⟨rfl, j, rfl, rfl⟩
    refine ⟨_, rfl, _, _, rfl, rfl, _, rfl, ite_b (fun e => ?_) (fun e => ?_)⟩
    · have e := of_decide_eq_true e
      refine ⟨fun σ' H3 => H3 = H' ∧ σ' = [some (.ref l1), some (.int slots), some (.ref t), some (.int n), some (.ref tt), none, some (.int (n + sh + 12 * ((j + 1 : Nat) : Int))), none, none], fun σ' H3 h => ⟨_, ?_, h.1, j + 1, h.2, rfl⟩, ?_⟩
      · omega
      refine ⟨_, rfl, _, _, rfl, rfl, rfl, ?_⟩
      show [some (V.ref l1), some (.int slots), some (.ref t), some (.int n), some (.ref tt), none, some (.int (n + sh + 12 * (j : Int) + 12)), none, none] = _
      rw [show n + sh + 12 * (j : Int) + 12 = n + sh + 12 * ((j + 1 : Nat) : Int) by omega]
    have e := of_decide_eq_false e
    have hlen : ((as.map V.int).length : Int) = as.length := by rw [List.length_map]
    have hfm := @fmod_range (n + sh + 12 * (j : Int)) as.length (by omega)
    have hix : atI (as.map V.int) ((n + sh + 12 * (j : Int)).fmod as.length) = some (.int (startOf as sh (n.fmod slots).toNat)) := by
      have hfr := @fmod_range n slots (by omega)
      have es : ((n.fmod slots).toNat : Int) = n.fmod slots := by omega
      unfold startOf
      rw [es, fmod_same hs1 hs4 (by rcases hsl with h | h; exact .inl h; exact .inr h) (j : Int)]
      refine atI_lit hfm.1 ?_
      rw [List.getElem?_map, List.getD_eq_getElem?_getD, List.getElem?_eq_getElem (by omega)] <;> rfl
    refine ⟨_, rfl, tt, _, 3, .ref l, rfl, rfl, SqT.of htt, atI_nat (j := 3) rfl, _, rfl, .inl ⟨_, rfl, _, rfl, tt, _, 3, .ref l, rfl, rfl, SqT.of htt, atI_nat (j := 3) rfl, l, _, rfl, .inl (SqL.of hll), _, _, rfl, rfl, (by rw [hlen]; omega), l, _, _, .int (startOf as sh (n.fmod slots).toNat), rfl, rfl, SqL.of hll, (by rw [hlen]; exact hix), ?_⟩⟩
    refine ⟨_, rfl, tt, _, 2, .int b, rfl, rfl, SqT.of htt, atI_nat (j := 2) rfl, b, rfl, by omega, by omega, fun D2 hD2 => ?_⟩
    have hb2 : ∀ i, (((List.range i).filter fun (k : Nat) => decide (f ≤ (k : Int)) && decide ((k : Int) ≤ la)).map fun (k : Nat) => startOf as sh (n.fmod slots).toNat + (k : Int)).length ≤ i := fun i => by
      rw [List.length_map]
      refine Nat.le_trans (List.length_filter_le ..) ?_
      rw [List.length_range]
      exact Nat.le_refl _
    have fsucc : ∀ i : Nat, ((List.range (i + 1)).filter fun (k : Nat) => decide (f ≤ (k : Int)) && decide ((k : Int) ≤ la)) = ((List.range i).filter fun (k : Nat) => decide (f ≤ (k : Int)) && decide ((k : Int) ≤ la)) ++ (if (decide (f ≤ (i : Int)) && decide ((i : Int) ≤ la)) = true then [i] else []) := fun i => by
      rw [List.range_succ, List.filter_append]
      congr 1
      by_cases h : (decide (f ≤ (i : Int)) && decide ((i : Int) ≤ la)) = true
      · rw [if_pos h, List.filter_cons, if_pos h] <;> rfl
      · rw [if_neg h, List.filter_cons, if_neg h] <;> rfl
    refine lc_range (lo := 0) (n := b.toNat) (fun i H3 => Same H' H3 ∧ H3 D2 = some (.lst ((((List.range i).filter fun (k : Nat) => decide (f ≤ (k : Int)) && decide ((k : Int) ≤ la)).map fun (k : Nat) => startOf as sh (n.fmod slots).toNat + (k : Int)).map V.int))) ⟨same_new hD2, upd_same⟩ (fun i H3 hi h => ?_) (fun H3 h => ?_)
    · obtain ⟨s3, eD⟩ := h
      refine ⟨rfl, ?_⟩
      have ht3 := st_mono s3 ht2
      have hbi := hb2 i
      refine ⟨_, rfl, t, _, 3, .int f, rfl, rfl, ht3, atI_nat (j := 3) rfl, _, rfl, _, _, rfl, rfl, _, rfl, ?_⟩
      rw [Int.zero_add]
      have stay : (decide (f ≤ (i : Int)) && decide ((i : Int) ≤ la)) = false → Same H' H3 ∧ H3 D2 = some (.lst ((((List.range (i + 1)).filter fun (k : Nat) => decide (f ≤ (k : Int)) && decide ((k : Int) ≤ la)).map fun (k : Nat) => startOf as sh (n.fmod slots).toNat + (k : Int)).map V.int)) := fun e => by
        rw [fsucc, if_neg (by rw [e]; exact Bool.noConfusion), List.append_nil]
        exact ⟨s3, eD⟩
      refine ite_b (fun c1 => ?_) (fun c1 => ?_)
      · refine ⟨_, rfl, t, _, 4, .int la, rfl, rfl, ht3, atI_nat (j := 4) rfl, _, _, rfl, rfl, _, rfl, ite_b (fun c2 => ?_) (fun c2 => ?_)⟩
        · refine ⟨_, rfl, _, rfl, _, _, rfl, rfl, _, eD, ?_, same_upd s3 hD2, ?_⟩
          · rw [List.length_map]
            exact small (by omega)
          · rw [upd_same, fsucc, if_pos (by rw [c1, c2] <;> rfl), List.map_append, List.map_append] <;> rfl
        · exact stay (by rw [c1, c2] <;> rfl)
      · exact ⟨_, rfl, ifF rfl (stay (by rw [c1, Bool.false_and]))⟩
    · obtain ⟨s3, eD⟩ := h
      rw [bytes_filter hf0 hfl hlb] at eD
      refine q D2 H3 (same_trans s2 s3) ?_
      rw [eD]
      show _ = some (HO.lst ((bytesOf (slotsOf ps nm) sh f la (n.fmod slots).toNat).map V.int))
      rw [slotsOf_good hg hvm] <;> rfl
end
end M12

namespace M12
open PySem PySem.Spec PyProof.Rows L2 StX Uk
local macro_rules | `(tactic| wtm_at "cls") => `(tactic| first | exact cls_Agent _ | exact cls_Signal _ | exact cls_Variable _ | exact cls_Net _)
local macro_rules | `(tactic| wtm_at "na") => `(tactic| first | exact na_Agent_name _ | exact na_Agent_steps _ | exact na_Agent_shape _ | exact na_Signal_name _ | exact na_Signal_tokens _ | exact na_Variable_name _ | exact na_Variable_size _ | exact na_Variable_at _ | exact na_Variable_shape _ | exact na_Net_line _ | exact na_Net_ring _ | exact na_Net_variables _ | exact na_Net_signals _ | exact na_Net_agents _ | exact na_Net_shape _ | exact na_Net_by_name _ | exact na_Net_bytes_at _ | exact na_Net_lines_at _)

theorem stepOf_fits {ring : Int} {ps : List Prt} (g : GoodN ring ps) {a s : Nat} {st : Stp} (e : stepOf? ps a s = some st) : fitsP ps st := by
  unfold stepOf? at e
  cases e1 : (ofC 0 ps)[a]? with
  | none => rw [e1] at e; cases e
  | some r =>
    rw [e1] at e
    obtain ⟨hm, hcl⟩ := ofC_mem (List.mem_of_getElem? e1)
    obtain ⟨k, n, ss, rfl⟩ := cl0 hcl
    exact g.fits k n ss hm st (List.mem_of_getElem? (i := s) e)
theorem linesL_len (ns : List Int) (line : Int) : (linesL ns line).length ≤ 10000 := by
  unfold linesL
  refine Nat.le_trans (List.length_filter_le ..) ?_
  rw [List.length_map, List.length_range]
  decide
theorem ints_idV (ns : List Int) : ∀ v ∈ ns.map V.int, idV v = true := fun v h => by
  obtain ⟨x, _, rfl⟩ := List.mem_map.mp h
  rfl
theorem fmod_ring {n ring : Int} (h1 : 1 ≤ ring) (h4 : ring ≤ 4) : (n + ring).fmod ring = n.fmod ring := by
  rw [Int.fmod_eq_emod_of_nonneg _ (show (0 : Int) ≤ ring by omega), Int.fmod_eq_emod_of_nonneg _ (show (0 : Int) ≤ ring by omega)]
  obtain rfl | rfl | rfl | rfl : ring = 1 ∨ ring = 2 ∨ ring = 3 ∨ ring = 4 := by omega
  · omega
  · omega
  · omega
  · omega
def spLRight (K : PySem.W.Frag) : Sp := fun vs H Q _ => ∃ (x l1 t1 t2 : Addr) (slots n line : Int) (xs : List V) (ys : List Addr) (ps : List Prt) (a s : Nat) (st : Stp), vs = [.ref x, .ref l1, .int slots, .ref t1, .ref t2, .int n] ∧ NetA 599 cs K H x line slots ys ps ∧ GoodN slots ps ∧ 1 ≤ slots ∧ slots ≤ 4 ∧ H l1 = some (.lst xs) ∧ ItmsV K H xs ps ∧ xs.length ≤ 1000 ∧ H t1 = some (.tup [.int a, .int s]) ∧ SqT K H t2 st.vs ∧ stepOf? ps a s = some st ∧ 1 ≤ line ∧ line ≤ 16 ∧ ∀ H', Same H H' → Q (.bl true) H'
section
variable {mg : PySem.Str → Option Value} {base : Heap} {w : World}
theorem ok__law_right (M : Mod (hd12.heap_39 w.params) mg base) : CallG PP w (hd12.heap_39 w.params) mg base 9 (.ref 667) (pos (spLRight (hd12.heap_39 w.params))) := by
  obtain ⟨fd, F⟩ := fn__law_right w
  refine def_pos F sc__law_right (fun vs H Q E h => ?_) (fun _ _ _ _ _ _ us hl => match us, hl with | [_, _, _, _, _, _], _ => rfl) (fun cdv A outer s H vs Q E hr hg h => ?_)
  · obtain ⟨x, l1, t1, t2, slots, n, line, xs, ys, ps, a, s, st, rfl, _⟩ := h; rfl
  have nd := sc__law_right.nd
  obtain ⟨x, l1, t1, t2, slots, n, line, xs, ys, ps, a, s, st, rfl, hN, gd, hs1, hs4, hl1, hI, hx1, ht1, ht2, hst, hw1, hw2, q⟩ := h
  refine ⟨_, (pss_cons (ps_set (i := 6) nd rfl (.inl rfl) (pe_cl (takes_of rfl rfl rfl rfl) (ok__law_bytes M) (hr.mono (by decide)) hg rfl (mg__law_bytes M) (kp__law_bytes w) (pa_cons (pv 1) (pa_cons (pv 2) (pa_cons (pv 4) (pa_cons (pv 5) pa_nil))))))
      (pss_cons (ps_set (i := 7) nd rfl (.inl rfl) (pe_meG (takes_of rfl rfl rfl rfl) (pv 0) (cls_Net w) (me_Net_touched w) (ok_Net_touched M) (hr.mono (by decide)) hg (pa_cons (pv 3) (pa_cons (pv 5) pa_nil))))
      (pss_cons (ps_if (PW.pt (pw_or (pt_not (pt_val (pe_cl (takes_of rfl rfl rfl rfl) (ok__law_whole M) (hr.mono (by decide)) hg rfl (mg__law_whole M) (kp__law_whole w) (pa_cons (pv 7) pa_nil)))) (pw_or (pt_cmpR (op_neLs (hu_big hr)) (pe_callTy call_list_of (by rfl) (mn_list M) (by decide +kernel) (pa_cons (pv 7) pa_nil)) (pv 6) (nomark _)) (pw_or1 (pt_cmpR (op_neTs (hu_big hr)) (pe_meG (takes_of rfl rfl rfl rfl) (pv 0) (cls_Net w) (me_Net_touched w) (ok_Net_touched M) (hr.mono (by decide)) hg (pa_cons (pv 3) (pa_cons (pe_op op_add (pv 5) (pv 2)) pa_nil))) (pv 7) (nomark _)))))) (pss_one (ps_ret pe_bl)) pss_nil)
      (pss_cons (ps_set (i := 7) nd rfl (.inl rfl) (pe_meG (takes_of rfl rfl rfl rfl) (pv 0) (cls_Net w) (me_Net_lines w) (ok_Net_lines M) (hr.mono (by decide)) hg (pa_cons (pv 3) (pa_cons (pv 5) pa_nil))))
      (pss_one (ps_ret (pe_and (pe_cl (takes_of rfl rfl rfl rfl) (ok__law_whole M) (hr.mono (by decide)) hg rfl (mg__law_whole M) (kp__law_whole w) (pa_cons (pv 7) pa_nil)) (pe_one (pe_cmpR (op_eqLs (hu_big hr)) (pe_callTy call_list_of (by rfl) (mn_list M) (by decide +kernel) (pa_cons (pv 7) pa_nil)) (pe_cl (takes_of rfl rfl rfl rfl) (ok__law_lines M) (hr.mono (by decide)) hg rfl (mg__law_lines M) (kp__law_lines w) (pa_cons (pv 6) (pa_cons (pe_fld (pv 0) rfl) pa_nil))) (nomark _)))))))))), ?_⟩
  have hok := stepOf_ok gd.ok hst
  have hfit := stepOf_fits gd hst
  have hpl : ps.length ≤ 1000 := by rw [← itmsV_len hI]; exact hx1
  obtain ⟨hn8, hnr⟩ := stepB_range gd.ok hok (fits_ok gd.nd hfit) (n.fmod slots).toNat
  have hasc := stepB_asc (ps := ps) (st := st) (n.fmod slots).toNat
  refine ⟨_, rfl, _, rfl, _, rfl, _, rfl, rfl, l1, t2, slots, n, xs, ps, st, rfl, hl1, hI, ht2, gd, hfit, hok, hs1, hs4, hx1, fun W H1 s1 eW => ?_⟩
  have hN1 := hN.mono s1
  obtain ⟨dx, av, ag, pa, sh, bn, ba, la, hx, _⟩ := id hN1
  have ht11 := s1 _ _ ht1
  refine ⟨_, rfl, x, dx, _, rfl, hx, rfl, _, rfl, _, rfl, rfl, x, t1, line, slots, n, ys, ps, a, s, st, rfl, hN1, hpl, gd.ok, ht11, hst, hs1, hs4, fun F hF => ?_⟩
  refine ⟨_, rfl, rfl, F, stepB ps st (n.fmod slots).toNat, rfl, hF, (Nat.le_trans hn8 (by decide)), fun H2 s2 => ⟨_, rfl, ifF rfl ?_⟩⟩
  have hF2 := st_mono s2 hF
  refine ⟨_, rfl, F, _, rfl, .inr hF2, fun z hz => ⟨_, rfl, z, W, _, _, rfl, rfl, SqL.of upd_same, SqL.of (at_new hz (s2 _ _ eW)), .inr ⟨rfl, ints_idV _, _, rfl, ifF rfl ?_⟩⟩⟩
  have s3 := same_trans s2 (same_new (o := .lst ((stepB ps st (n.fmod slots).toNat).map V.int)) hz)
  have hN3 := hN1.mono s3
  refine ⟨_, rfl, x, dx, _, rfl, s3 _ _ hx, rfl, _, rfl, _, rfl, _, rfl, _, _, rfl, rfl, rfl, x, t1, line, slots, n + slots, ys, ps, a, s, st, rfl, hN3, hpl, gd.ok, s3 _ _ ht11, hst, hs1, hs4, fun F2 hFF => ?_⟩
  rw [fmod_ring hs1 hs4] at hFF
  refine ⟨_, rfl, F2, F, _, rfl, rfl, hFF, st_mono s3 hF, ints_idV _, _, rfl, ifF rfl ?_⟩
  refine ⟨_, rfl, x, dx, _, rfl, s3 _ _ hx, rfl, _, rfl, _, rfl, rfl, x, t1, line, slots, n, ys, ps, a, s, st, rfl, hN3, hpl, gd.ok, s3 _ _ ht11, hst, hs1, hs4, fun F3 hF3 => ?_⟩
  refine ⟨_, rfl, rfl, F3, _, rfl, hF3, linesL_len _ _, fun H4 s4 => ⟨_, rfl, ifT rfl ?_⟩⟩
  have hF4 := st_mono s4 hF3
  refine ⟨_, rfl, F3, _, rfl, .inr hF4, fun z2 hz2 => ?_⟩
  have s45 := same_trans s3 (same_trans s4 (same_new (o := .lst ((linesL (stepB ps st (n.fmod slots).toNat) line).map V.int)) hz2))
  refine ⟨_, rfl, _, rfl, x, 599, dx, _, _, rfl, s45 _ _ hx, cls_Net w, na_Net_line w, rfl, rfl, W, line, _, rfl, s45 _ _ eW, hasc, hn8, hnr, hw1, hw2, fun r H5 s5 e5 => ?_⟩
  exact ⟨z2, r, _, rfl, rfl, SqL.of (s5 _ _ upd_same), SqL.of e5, ints_idV _, q _ (same_trans s1 (same_trans s45 s5))⟩
end
end M12

namespace M12
open PySem PySem.Spec PyProof.Rows L2 StX Uk
local macro_rules | `(tactic| wtm_at "cls") => `(tactic| first | exact cls_Agent _ | exact cls_Signal _ | exact cls_Variable _ | exact cls_Net _)
local macro_rules | `(tactic| wtm_at "na") => `(tactic| first | exact na_Agent_name _ | exact na_Agent_steps _ | exact na_Agent_shape _ | exact na_Signal_name _ | exact na_Signal_tokens _ | exact na_Variable_name _ | exact na_Variable_size _ | exact na_Variable_at _ | exact na_Variable_shape _ | exact na_Net_line _ | exact na_Net_ring _ | exact na_Net_variables _ | exact na_Net_signals _ | exact na_Net_agents _ | exact na_Net_shape _ | exact na_Net_by_name _ | exact na_Net_bytes_at _ | exact na_Net_lines_at _)

def spLRound (K : PySem.W.Frag) : Sp := fun vs H Q _ => ∃ (p c : Addr) (m : Int), vs = [.ref p] ∧ Pen H p c m ∧ m ≤ 50000 ∧ ∀ H', Same (Off p H) (Off p H') → Pen H' p c (m + 2000) → Q (.bl true) H'
theorem itmsV_snoc {K : PySem.W.Frag} {H : Hp} {xs : List V} {ps : List Prt} {v : V} {r : Prt} (h : ItmsV K H xs ps) (hv : ItmV K H v r) : ItmsV K H (xs ++ [v]) (ps ++ [r]) := itmsV_app h (.cons hv .nil)
section
variable {mg : PySem.Str → Option Value} {base : Heap} {w : World}
theorem ok__law_round (M : Mod (hd12.heap_39 w.params) mg base) : CallG PP w (hd12.heap_39 w.params) mg base 17 (.ref 672) (pos (spLRound (hd12.heap_39 w.params))) := by
  obtain ⟨fd, F⟩ := fn__law_round w
  refine def_pos F sc__law_round (fun vs H Q E h => ?_) (fun _ _ _ _ _ _ us hl => match us, hl with | [_], _ => rfl) (fun cdv A outer s H vs Q E hr hg h => ?_)
  · obtain ⟨p, c, m, rfl, _⟩ := h; rfl
  have nd := sc__law_round.nd
  obtain ⟨p, c, m, rfl, P, hm, q⟩ := h
  refine ⟨_, (pss_cons (ps_set (i := 1) nd rfl (.inl rfl) (pe_op op_add pe_int (pe_cl (takes_of rfl rfl rfl rfl) (ok_drawP M) (hr.mono (by decide)) hg rfl (mg__law_draw M) (kp__law_draw w) (pa_cons (pv 0) (pa_cons pe_int pa_nil)))))
      (pss_cons (ps_set (i := 2) nd rfl (.inl rfl) (pe_cl (takes_of rfl rfl rfl rfl) (ok__law_shuffled M) (hr.mono (by decide)) hg rfl (mg__law_shuffled M) (kp__law_shuffled w) (pa_cons (pv 0) (pa_cons (pe_cl (takes_of rfl rfl rfl rfl) (ok__law_items M) (hr.mono (by decide)) hg rfl (mg__law_items M) (kp__law_items w) (pa_cons (pv 0) (pa_cons (pv 1) pa_nil))) pa_nil))))
      (pss_cons (ps_setLc (i := 3) (own := [("item", 4)]) (g := gName 4) (by rfl) nd rfl rfl (sw_true rfl rfl rfl (by decide +kernel)) (pi_list (pv 2)) (blkOk_by (own := [("item", 4)]) (N := ["pen", "slots_here", "items", "handed", "item", "agents_here", "far", "width", "net", "a", "s", "step", "n"]) (sc := defScope s__law_round) (by decide +kernel)) (fun _ _ _ _ _ => (pg_name (i := 4) nd rfl (Or.inl rfl))) (fun _ _ _ _ _ => pts_nil) (fun _ _ _ _ _ => (pe_cl takes_no (ok__law_part M) (hr.mono (by decide)) hg rfl (mg__law_part M) (kp__law_part w) (pa_cons (pv 4) pa_nil))))
      (pss_cons (ps_setLc (i := 5) (own := [("item", 4)]) (g := gName 4) (by rfl) nd rfl rfl (sw_true rfl rfl rfl (by decide +kernel)) (pi_list (pv 2)) (blkOk_by (own := [("item", 4)]) (N := ["pen", "slots_here", "items", "handed", "item", "agents_here", "far", "width", "net", "a", "s", "step", "n"]) (sc := defScope s__law_round) (by decide +kernel)) (fun _ _ _ _ _ => (pg_name (i := 4) nd rfl (Or.inl rfl))) (fun _ _ _ _ _ => pts_one (pt_cmpR op_eq (pe_ix (xix_tup (hd12.heap_39 w.params)) (pv 4) pe_int (fun _ _ => rfl)) pe_str (nomark _))) (fun _ _ _ _ _ => (pv 4)))
      (pss_cons (ps_set (i := 6) nd rfl (.inl rfl) (pe_ix ix_list (pe_lst (pa_cons (pe_un un_neg pe_int) (pa_cons (pe_un un_neg pe_int) (pa_cons (pe_op op_add pe_int (pe_cl (takes_of rfl rfl rfl rfl) (ok_drawP M) (hr.mono (by decide)) hg rfl (mg__law_draw M) (kp__law_draw w) (pa_cons (pv 0) (pa_cons pe_int pa_nil)))) pa_nil)))) (pe_cl (takes_of rfl rfl rfl rfl) (ok_drawP M) (hr.mono (by decide)) hg rfl (mg__law_draw M) (kp__law_draw w) (pa_cons (pv 0) (pa_cons pe_int pa_nil))) (fun _ _ => rfl)))
      (pss_cons (ps_for (passes_of rfl) rfl (pi_list (pe_lst (pa_cons pe_int (pa_cons pe_int (pa_cons pe_int (pa_cons pe_int (pa_cons pe_int pa_nil))))))) (pg_name (i := 7) nd rfl (.inl rfl)) (pss_cons (ps_set (i := 8) nd rfl (.inl rfl) (pe_cmGpk (ns := ["line", "ring"]) (takes_of rfl rfl rfl rfl) (pe_glob (v := .ref 599) rfl (mg_Net M) rfl) (crd_Net w) (cm_Net_made w) (ok_Net_made M) (hr.mono (by decide)) hg (pa_cons (pv 3) pa_nil) (pk_cons (pv 7) (pk_cons (pv 1) pk_nil))))
      (pss_one (ps_for (passes_of rfl) rfl (pi_range1 (by rfl) (mn_range M) (pa_cons (pe_callB call_len_seq (by rfl) (mn_len M) (by decide +kernel) (pa_cons (pv 5) pa_nil)) pa_nil)) (pg_name (i := 9) nd rfl (.inl rfl)) (pss_one (ps_for (passes_of rfl) rfl (pi_range1 (by rfl) (mn_range M) (pa_cons (pe_callB call_len_seq (by rfl) (mn_len M) (by decide +kernel) (pa_cons (pe_ix ix_tup (pe_ix ix_list (pv 5) (pv 9) (fun _ _ => rfl)) pe_int (fun _ _ => rfl)) pa_nil)) pa_nil)) (pg_name (i := 10) nd rfl (.inl rfl)) (pss_cons (ps_set (i := 11) nd rfl (.inl rfl) (pe_ix ix_list (pe_ix ix_tup (pe_ix ix_list (pv 5) (pv 9) (fun _ _ => rfl)) pe_int (fun _ _ => rfl)) (pv 10) (fun _ _ => rfl)))
      (pss_one (ps_for (passes_of rfl) rfl (pi_list (pe_lst (pa_cons pe_int (pa_cons pe_int (pa_cons pe_int (pa_cons pe_int (pa_cons (pe_un un_neg pe_int) (pa_cons (pe_op op_sub (pe_cl (takes_of rfl rfl rfl rfl) (ok_drawP M) (hr.mono (by decide)) hg rfl (mg__law_draw M) (kp__law_draw w) (pa_cons (pv 0) (pa_cons pe_int pa_nil))) pe_int) (pa_cons (pv 6) pa_nil))))))))) (pg_name (i := 12) nd rfl (.inl rfl)) (pss_one (ps_if (pt_not (pt_val (pe_cl (takes_of rfl rfl rfl rfl) (ok__law_right M) (hr.mono (by decide)) hg rfl (mg__law_right M) (kp__law_right w) (pa_cons (pv 8) (pa_cons (pv 2) (pa_cons (pv 1) (pa_cons (pe_tup (pa_cons (pv 9) (pa_cons (pv 10) pa_nil))) (pa_cons (pv 11) (pa_cons (pv 12) pa_nil))))))))) (pss_one (ps_ret pe_bl)) pss_nil)))))))))))
      (pss_one (ps_ret pe_bl)))))))), ?_⟩
  refine ⟨_, rfl, rfl, p, c, _, _, rfl, P, by omega, by omega, by omega, fun a0 H1 a00 a01 s1 P1 => ⟨_, _, rfl, rfl, ?_⟩⟩
  refine ⟨_, rfl, _, rfl, _, rfl, rfl, p, c, _, 1 + a0, rfl, P1, by omega, by omega, by omega, fun r xs ps H2 s2 P2 hr hI gd hap hlen => ?_⟩
  refine ⟨rfl, p, c, r, _, xs, ps, rfl, P2, by omega, hr, hI, by omega, fun r2 zs qs H3 s3 P3 hr3 hI3 hperm => ?_⟩
  have gd := gd.perm hperm
  have hap : ∀ t ∈ qs, apartP t := fun t ht => hap t (hperm.mem_iff.mpr ht)
  have hlz := itmsV_len hI3
  have hl13 : qs.length ≤ 13 := by rw [← hperm.length_eq, ← itmsV_len hI]; exact hlen
  clear hperm hI hr hlen
  have hI3' := itmsV_mono offAt hI3
  refine ⟨_, rfl, r2, rfl, ⟨_, SqL.of (Off.at hr3)⟩, fun D hD => ?_⟩
  refine lc_it (walk_list (xs := zs)) (fun j H' => Same H3 H' ∧ ∃ as : List Addr, H' D = some (.lst (as.map V.ref)) ∧ as.length = j ∧ PrtsA cs (hd12.heap_39 w.params) H' as (qs.take j)) ⟨same_new hD, [], upd_same, rfl, .nil⟩ (fun j H' _ h => SqL.of (h.1 _ _ (Off.at hr3))) (fun j v H4 H5 hj h y => ?_) (fun H4 h => ?_)
  · obtain ⟨sd, as, eD, hal, hps⟩ := h
    obtain ⟨rfl, hv⟩ := y
    obtain ⟨t, ht, hA⟩ := itmsV_get hI3' hv
    refine ⟨rfl, ?_⟩
    have hm2 := List.mem_of_getElem? ht
    refine ⟨_, rfl, rfl, v, t, rfl, itmV_mono sd hA, gd.ok t hm2, hap t hm2, fun x H6 s6 hx => ?_⟩
    have eD6 := s6 _ _ eD
    refine ⟨_, eD6, ?_, same_upd (same_trans sd s6) hD, as ++ [x], ?_, by rw [List.length_append, hal] <;> rfl, prtsA_snoc (prtsA_lst eD6 (prtsA_mono s6 hps)) ht (prtA_lst eD6 hx)⟩
    · rw [List.length_map]
      exact small (by omega)
    · rw [upd_same, List.map_append] <;> rfl
  obtain ⟨sd, as, eD, hal, hps⟩ := h
  rw [take_all (by omega)] at hps
  have P4 := P3.same sd
  have hr4 := sd _ _ (Off.at hr3)
  have hI4 := itmsV_mono sd hI3'
  refine ⟨_, rfl, r2, rfl, ⟨_, SqL.of hr4⟩, fun D2 hD2 => ?_⟩
  refine lc_it (walk_list (xs := zs)) (fun j H' => Same H4 H' ∧ ∃ ws : List V, H' D2 = some (.lst ws) ∧ ItmsV (hd12.heap_39 w.params) (Off p H3) ws (ofC 0 (qs.take j))) ⟨same_new hD2, [], upd_same, .nil⟩ (fun j H' _ h => SqL.of (h.1 _ _ hr4)) (fun j v H8 H9 hj h y => ?_) (fun H5 h => ?_)
  · obtain ⟨s8, ws, eW, hwl⟩ := h
    obtain ⟨rfl, hv⟩ := y
    obtain ⟨t, ht, hA⟩ := itmsV_get hI3 hv
    obtain ⟨tt, tx, rfl, htt, hat⟩ := itmV_cl (itmV_mono (same_trans offAt (same_trans sd s8)) hA)
    have hsn := ofC_snoc (k := 0) ht
    have hto := take_le_C 0 j qs
    have hle := ofC_le 0 qs
    have hwl2 := itmsV_len hwl
    refine ⟨rfl, ?_⟩
    refine ⟨_, rfl, tt, tx, 0, _, rfl, rfl, SqT.of htt, hat, rfl, _, rfl, ite_b (fun e => ?_) (fun e => ?_)⟩
    · have ec : (t.cl == 0) = true := by
        have e := of_decide_eq_true e
        cases t with
        | ag => rfl
        | var => exact absurd e (by show ¬ V.str (itmW 2) = V.str "agent"; decide +kernel)
        | sig => exact absurd e (by show ¬ V.str (itmW 1) = V.str "agent"; decide +kernel)
      rw [if_pos ec] at hsn
      refine ⟨_, rfl, ws, eW, small (by omega), same_upd s8 hD2, _, upd_same, ?_⟩
      rw [hsn]
      exact itmsV_snoc hwl hA
    · have ec : (t.cl == 0) = false := by
        have e := of_decide_eq_false e
        cases t with
        | ag => exact absurd rfl e
        | var => rfl
        | sig => rfl
      rw [if_neg (by rw [ec]; exact Bool.noConfusion), List.append_nil] at hsn
      exact ⟨s8, ws, eW, by rw [hsn]; exact hwl⟩
  obtain ⟨s5, ws, eW, hws⟩ := h
  rw [hlz, take_all (Nat.le_refl _)] at hws
  have P5 := P4.same s5
  have s35 := same_trans sd s5
  refine ⟨_, rfl, _, rfl, ?_⟩
  refine ⟨_, rfl, rfl, p, c, _, _, rfl, P5, by omega, by omega, by omega, fun b0 H6 b00 b01 s6 P6 => ⟨_, _, rfl, rfl, Nat.le_of_ble_eq_true rfl, fun z hz => ?_⟩⟩
  have Pz := P6.new (o := .lst [.int (-1000), .int (-999), .int (990 + b0)]) hz
  have nz := P6.ne hz
  refine ⟨_, rfl, rfl, p, c, _, _, rfl, Pz, by omega, by omega, by omega, fun b1 H7 b10 b11 s7 P7 => ?_⟩
  obtain ⟨cv, hcv, hcm⟩ := atI_in (xs := [V.int (-1000), .int (-999), .int (990 + b0)]) b10 b11
  obtain ⟨far, rfl⟩ : ∃ far : Int, cv = .int far := by
    simp only [List.mem_cons, List.not_mem_nil, or_false] at hcm
    rcases hcm with rfl | rfl | rfl <;> exact ⟨_, rfl⟩
  refine ⟨z, _, b1, .int far, rfl, rfl, SqL.of (Off.at (s7 _ _ (Off.of upd_same nz))), hcv, ?_⟩
  have s57 : Same (Off p H5) (Off p H7) := same_trans s6 (same_trans (Off.new (o := .lst [.int (-1000), .int (-999), .int (990 + b0)]) hz) s7)
  have nD := P3.ne hD
  have nR := Off.ne hr3
  have nD2 := P4.ne hD2
  have hr7 := s57 _ _ (Off.of (s5 _ _ hr4) nR)
  have hI7 : ItmsV (hd12.heap_39 w.params) (Off p H7) zs qs := itmsV_mono (same_trans (Off.same s35) s57) hI3
  have eD7 := s57 _ _ (Off.of (s5 _ _ eD) nD)
  have eW7 := s57 _ _ (Off.of eW nD2)
  have hps7 : PrtsA cs (hd12.heap_39 w.params) (Off p H7) as qs := prtsA_mono (same_trans (Off.same s5) s57) (prtsA_off P4 hps)
  have hws7 : ItmsV (hd12.heap_39 w.params) (Off p H7) ws (ofC 0 qs) := itmsV_mono (same_trans (Off.same s35) s57) hws
  have s17 : Same (Off p H) (Off p H7) := same_trans s1 (same_trans s2 (same_trans s3 (same_trans (Off.same s35) s57)))
  refine ⟨Nat.le_of_ble_eq_true rfl, fun L hL => ⟨L, rfl, ⟨_, SqL.of upd_same⟩, ?_⟩⟩
  have PL := P7.new (o := .lst [.int 1, .int 2, .int 4, .int 8, .int 16]) hL
  have nL := P7.ne hL
  have sL := Off.new (p := p) (o := .lst [.int 1, .int 2, .int 4, .int 8, .int 16]) hL
  have hlw := itmsV_len hws7
  have hle := ofC_le 0 qs
  refine for_it (walk_list (xs := [V.int 1, .int 2, .int 4, .int 8, .int 16])) (fun i σ H' => (∃ o4 o7 o8 o9 o10 o11 o12, σ = [some (V.ref p), some (.int (1 + a0)), some (.ref r2), some (.ref D), o4, some (.ref D2), some (.int far), o7, o8, o9, o10, o11, o12]) ∧ Same (Off p H7) (Off p H') ∧ Pen H' p c (m + 400 + 320 * i) ∧ H' L = some (.lst [.int 1, .int 2, .int 4, .int 8, .int 16])) ⟨⟨_, _, _, _, _, _, _, rfl⟩, sL, PL.mono (by omega), upd_same⟩ (fun i σ H' _ h => SqL.of h.2.2.2) (fun i v σ H8 H9 hi h y => ?_) (fun σ H8 h => ?_)
  · obtain ⟨⟨o4, o7, o8, o9, o10, o11, o12, rfl⟩, s8, P8, eL⟩ := h
    obtain ⟨rfl, hv⟩ := y
    obtain ⟨wd, rfl, hwl⟩ : ∃ wd : Int, v = .int wd ∧ lineOk wd = true := by
      have := List.mem_of_getElem? hv
      simp only [List.mem_cons, List.not_mem_nil, or_false] at this
      rcases this with rfl | rfl | rfl | rfl | rfl <;> exact ⟨_, rfl, by decide⟩
    have hw16 : 1 ≤ wd ∧ wd ≤ 16 := by
      have h : (decide (wd = 1) || (decide (wd = 2) || (decide (wd = 4) || (decide (wd = 8) || decide (wd = 16))))) = true := hwl
      simp only [Bool.or_eq_true, decide_eq_true_eq] at h
      omega
    have i5 : i < 5 := hi
    have sO := same_trans s8 offAt
    refine ⟨rfl, _, rfl, _, rfl, _, rfl, rfl, [.int wd, .int (1 + a0)], rfl, .inr ⟨rfl, rfl⟩, D, .int wd, .int (1 + a0), as.map V.ref, rfl, .inr (SqL.of (sO _ _ eD7)), .int wd, .int (1 + a0), qs.map NArg.part, .int _, .int _, parts_args (prtsA_mono sO hps7) gd.ok, by rw [List.length_map]; omega, ?_⟩
    rw [wantN_none gd hwl (by omega) (by omega)]
    intro x line ring ys ps2 H10 e1 e2 e3 e4 _ s10 hN
    cases e1
    cases e2
    have e3 : as = ys := List.map_inj_right (fun a b h => by injection h) |>.mp e3
    subst e3
    rw [map_argP] at e4
    subst e4
    have P10 := P8.same s10
    have t10 : Same (Off p H7) (Off p H10) := same_trans s8 (Off.same s10)
    have hN10 := hN.off P10
    have eL10 := Off.of (s10 _ _ eL) nL
    have m4 := gd.m0
    refine ⟨_, rfl, D2, ws, rfl, .inl (SqL.of (Off.at (t10 _ _ eW7))), ws.length, rfl, by omega, by omega, ?_⟩
    refine for_range (lo := 0) (n := ws.length) (fun a σ H' => (∃ o4 o9 o10 o11 o12, σ = [some (V.ref p), some (.int (1 + a0)), some (.ref r2), some (.ref D), o4, some (.ref D2), some (.int far), some (.int wd), some (.ref x), o9, o10, o11, o12]) ∧ Same (Off p H10) (Off p H') ∧ Pen H' p c (m + 400 + 320 * i + 24 * a)) ⟨⟨_, _, _, _, _, rfl⟩, Same.rfl, P10.mono (by omega)⟩ (fun a σ H11 ha h => ?_) (fun σ H11 h => ?_)
    · obtain ⟨⟨o4, o9, o10, o11, o12, rfl⟩, s11, P11⟩ := h
      have t11 := same_trans t10 s11
      have hwa := List.getElem?_eq_getElem ha
      obtain ⟨ra, hra, hIa⟩ := itmsV_get hws7 hwa
      obtain ⟨hm, hcl⟩ := ofC_mem (List.mem_of_getElem? hra)
      obtain ⟨k, nm, ss, rfl⟩ := cl0 hcl
      obtain ⟨ta, la, vs, eta, hta, hla, hvs⟩ := hIa
      rw [eta] at hwa
      have hss24 := (gd.ok _ hm).2.2.2.1
      have hvl := stpsV_len hvs
      have at7 := same_trans t11 offAt
      refine ⟨_, rfl, _, rfl, D2, ws, _, .ref ta, rfl, rfl, SqL.of (at7 _ _ eW7), (by rw [Int.zero_add]; exact atI_nat hwa), ta, _, 3, .ref la, rfl, rfl, SqT.of (at7 _ _ hta), atI_nat (j := 3) rfl, la, vs, rfl, .inl (SqL.of (at7 _ _ hla)), vs.length, rfl, by omega, by omega, ?_⟩
      refine for_range (lo := 0) (n := vs.length) (fun b σ H' => (∃ o4 o10 o11 o12, σ = [some (V.ref p), some (.int (1 + a0)), some (.ref r2), some (.ref D), o4, some (.ref D2), some (.int far), some (.int wd), some (.ref x), some (.int (0 + (a : Int))), o10, o11, o12]) ∧ Same (Off p H10) (Off p H') ∧ Pen H' p c (m + 400 + 320 * i + 24 * a + b)) ⟨⟨_, _, _, _, rfl⟩, s11, P11.mono (by omega)⟩ (fun b σ H12 hb h => ?_) (fun σ H12 h => ?_)
      · obtain ⟨⟨o4, o10, o11, o12, rfl⟩, s12, P12⟩ := h
        have t12 := same_trans (same_trans t10 s12) offAt
        have hvb := List.getElem?_eq_getElem hb
        obtain ⟨st, hst, t2, et2, hsq⟩ := stpsV_get hvs hvb
        rw [et2] at hvb
        have hstep : stepOf? qs a b = some st := by
          unfold stepOf?
          rw [hra]
          exact hst
        refine ⟨_, rfl, _, rfl, D2, ws, _, .ref ta, rfl, rfl, SqL.of (t12 _ _ eW7), (by rw [Int.zero_add]; exact atI_nat hwa), ta, _, 3, .ref la, rfl, rfl, SqT.of (t12 _ _ hta), atI_nat (j := 3) rfl, _, rfl, la, vs, _, .ref t2, rfl, rfl, SqL.of (t12 _ _ hla), (by rw [Int.zero_add]; exact atI_nat hvb), ?_⟩
        refine ⟨_, rfl, _, rfl, rfl, p, c, _, _, rfl, P12, by omega, by omega, by omega, fun d H13 d0 d1 s13 P13 => ⟨_, _, rfl, rfl, _, rfl, Nat.le_of_ble_eq_true rfl, fun L2 hL2 => ⟨L2, rfl, ⟨_, SqL.of upd_same⟩, ?_⟩⟩⟩
        have t13 := same_trans s12 s13
        have sl := same_new (o := .lst [.int 0, .int 1, .int 2, .int 3, .int (-1), .int (d - 20), .int far]) hL2
        have Pl := P13.same sl
        refine for_it (walk_list (xs := [V.int 0, .int 1, .int 2, .int 3, .int (-1), .int (d - 20), .int far])) (fun j σ H' => (∃ o4 o12, σ = [some (V.ref p), some (.int (1 + a0)), some (.ref r2), some (.ref D), o4, some (.ref D2), some (.int far), some (.int wd), some (.ref x), some (.int (0 + (a : Int))), some (.int (0 + (b : Int))), some (.ref t2), o12]) ∧ Same H13 H' ∧ H' L2 = some (.lst [.int 0, .int 1, .int 2, .int 3, .int (-1), .int (d - 20), .int far])) ⟨⟨_, _, rfl⟩, sl, upd_same⟩ (fun j σ H' _ h => SqL.of h.2.2) (fun j v σ H14 H15 hj h y => ?_) (fun σ H14 h => ?_)
        · obtain ⟨⟨o4, o12, rfl⟩, s14, eL2⟩ := h
          obtain ⟨rfl, hv⟩ := y
          obtain ⟨n, rfl⟩ : ∃ n : Int, v = .int n := by
            have := List.mem_of_getElem? hv
            simp only [List.mem_cons, List.not_mem_nil, or_false] at this
            rcases this with rfl | rfl | rfl | rfl | rfl | rfl | rfl <;> exact ⟨_, rfl⟩
          refine ⟨_, rfl, _, rfl, _, rfl, _, rfl, _, rfl, Nat.le_of_ble_eq_true rfl, fun T hT => ?_⟩
          have sT := same_new (o := .tup [.int (0 + (a : Int)), .int (0 + (b : Int))]) hT
          have t14 : Same (Off p H10) _ := same_trans (same_trans t13 offAt) (same_trans s14 sT)
          have t714 : Same (Off p H7) _ := same_trans t10 t14
          refine ⟨_, rfl, _, rfl, rfl, x, r2, T, t2, 1 + a0, n, wd, zs, as, qs, a, b, st, rfl, hN10.mono t14, gd, by omega, by omega, t714 _ _ hr7, itmsV_mono t714 hI7, by omega, upd_same.trans (by rw [Int.zero_add, Int.zero_add]), st_mono t714 hsq, hstep, hw16.1, hw16.2, fun H16 s16 => ⟨_, rfl, ifF rfl ?_⟩⟩
          exact ⟨⟨_, _, rfl⟩, same_trans s14 (same_trans sT s16), s16 _ _ (sT _ _ eL2)⟩
        · obtain ⟨⟨o4, o12, rfl⟩, s14, _⟩ := h
          exact ⟨⟨_, _, _, _, rfl⟩, same_trans t13 (Off.same s14), (P13.same s14).mono (by omega)⟩
      · obtain ⟨⟨o4, o10, o11, o12, rfl⟩, s12, P12⟩ := h
        exact ⟨⟨_, _, _, _, _, rfl⟩, s12, P12.mono (by omega)⟩
    · obtain ⟨⟨o4, o9, o10, o11, o12, rfl⟩, s11, P11⟩ := h
      exact ⟨⟨_, _, _, _, _, _, _, rfl⟩, same_trans t10 s11, P11.mono (by omega), Off.at (s11 _ _ eL10)⟩
  · obtain ⟨_, s8, P8, _⟩ := h
    exact q _ (same_trans s17 s8) (P8.mono (by show m + 400 + 320 * ((5 : Nat) : Int) ≤ _; omega))
end
end M12

namespace M12
open PySem PySem.Spec PyProof.Rows L2 StX Uk

local macro_rules | `(tactic| wtm_at "off0") => `(tactic| first | with_reducible assumption | (with_reducible apply Off.mk; wtm_at "pen"; assumption))
local macro_rules | `(tactic| wtm_at "at0") => `(tactic| first | with_reducible assumption | with_reducible exact upd_same | (with_reducible apply Off.at; wtm_at "off0"))
local macro_rules | `(tactic| wtm_at "off1") => `(tactic| first | with_reducible assumption | (with_reducible apply Off.mk; wtm_at "pen"; assumption) | (with_reducible refine Off.new (by assumption) _ _ ?_; wtm_at "off0") | (with_reducible refine at_same (by with_reducible assumption) ?_; wtm_at "off0"))
local macro_rules | `(tactic| wtm_at "at1") => `(tactic| first | with_reducible assumption | with_reducible exact upd_same | (with_reducible refine at_new (by assumption) ?_; wtm_at "at0") | (with_reducible refine at_same (by with_reducible assumption) ?_; wtm_at "at0") | (with_reducible apply Off.at; wtm_at "off1"))
local macro_rules | `(tactic| wtm_at "off2") => `(tactic| first | with_reducible assumption | (with_reducible apply Off.mk; wtm_at "pen"; assumption) | (with_reducible refine Off.new (by assumption) _ _ ?_; wtm_at "off1") | (with_reducible refine at_same (by with_reducible assumption) ?_; wtm_at "off1"))
local macro_rules | `(tactic| wtm_at "at2") => `(tactic| first | with_reducible assumption | with_reducible exact upd_same | (with_reducible refine at_new (by assumption) ?_; wtm_at "at1") | (with_reducible refine at_same (by with_reducible assumption) ?_; wtm_at "at1") | (with_reducible apply Off.at; wtm_at "off2"))
local macro_rules | `(tactic| wtm_at "off3") => `(tactic| first | with_reducible assumption | (with_reducible apply Off.mk; wtm_at "pen"; assumption) | (with_reducible refine Off.new (by assumption) _ _ ?_; wtm_at "off2") | (with_reducible refine at_same (by with_reducible assumption) ?_; wtm_at "off2"))
local macro_rules | `(tactic| wtm_at "at3") => `(tactic| first | with_reducible assumption | with_reducible exact upd_same | (with_reducible refine at_new (by assumption) ?_; wtm_at "at2") | (with_reducible refine at_same (by with_reducible assumption) ?_; wtm_at "at2") | (with_reducible apply Off.at; wtm_at "off3"))
local macro_rules | `(tactic| wtm_at "off4") => `(tactic| first | with_reducible assumption | (with_reducible apply Off.mk; wtm_at "pen"; assumption) | (with_reducible refine Off.new (by assumption) _ _ ?_; wtm_at "off3") | (with_reducible refine at_same (by with_reducible assumption) ?_; wtm_at "off3"))
local macro_rules | `(tactic| wtm_at "at4") => `(tactic| first | with_reducible assumption | with_reducible exact upd_same | (with_reducible refine at_new (by assumption) ?_; wtm_at "at3") | (with_reducible refine at_same (by with_reducible assumption) ?_; wtm_at "at3") | (with_reducible apply Off.at; wtm_at "off4"))
local macro_rules | `(tactic| wtm_at "off5") => `(tactic| first | with_reducible assumption | (with_reducible apply Off.mk; wtm_at "pen"; assumption) | (with_reducible refine Off.new (by assumption) _ _ ?_; wtm_at "off4") | (with_reducible refine at_same (by with_reducible assumption) ?_; wtm_at "off4"))
local macro_rules | `(tactic| wtm_at "at5") => `(tactic| first | with_reducible assumption | with_reducible exact upd_same | (with_reducible refine at_new (by assumption) ?_; wtm_at "at4") | (with_reducible refine at_same (by with_reducible assumption) ?_; wtm_at "at4") | (with_reducible apply Off.at; wtm_at "off5"))
local macro_rules | `(tactic| wtm_at "off6") => `(tactic| first | with_reducible assumption | (with_reducible apply Off.mk; wtm_at "pen"; assumption) | (with_reducible refine Off.new (by assumption) _ _ ?_; wtm_at "off5") | (with_reducible refine at_same (by with_reducible assumption) ?_; wtm_at "off5"))
local macro_rules | `(tactic| wtm_at "at6") => `(tactic| first | with_reducible assumption | with_reducible exact upd_same | (with_reducible refine at_new (by assumption) ?_; wtm_at "at5") | (with_reducible refine at_same (by with_reducible assumption) ?_; wtm_at "at5") | (with_reducible apply Off.at; wtm_at "off6"))
local macro_rules | `(tactic| wtm_at "off7") => `(tactic| first | with_reducible assumption | (with_reducible apply Off.mk; wtm_at "pen"; assumption) | (with_reducible refine Off.new (by assumption) _ _ ?_; wtm_at "off6") | (with_reducible refine at_same (by with_reducible assumption) ?_; wtm_at "off6"))
local macro_rules | `(tactic| wtm_at "at7") => `(tactic| first | with_reducible assumption | with_reducible exact upd_same | (with_reducible refine at_new (by assumption) ?_; wtm_at "at6") | (with_reducible refine at_same (by with_reducible assumption) ?_; wtm_at "at6") | (with_reducible apply Off.at; wtm_at "off7"))
local macro_rules | `(tactic| wtm_at "off8") => `(tactic| first | with_reducible assumption | (with_reducible apply Off.mk; wtm_at "pen"; assumption) | (with_reducible refine Off.new (by assumption) _ _ ?_; wtm_at "off7") | (with_reducible refine at_same (by with_reducible assumption) ?_; wtm_at "off7"))
local macro_rules | `(tactic| wtm_at "at8") => `(tactic| first | with_reducible assumption | with_reducible exact upd_same | (with_reducible refine at_new (by assumption) ?_; wtm_at "at7") | (with_reducible refine at_same (by with_reducible assumption) ?_; wtm_at "at7") | (with_reducible apply Off.at; wtm_at "off8"))
local macro_rules | `(tactic| wtm_at "off9") => `(tactic| first | with_reducible assumption | (with_reducible apply Off.mk; wtm_at "pen"; assumption) | (with_reducible refine Off.new (by assumption) _ _ ?_; wtm_at "off8") | (with_reducible refine at_same (by with_reducible assumption) ?_; wtm_at "off8"))
local macro_rules | `(tactic| wtm_at "at9") => `(tactic| first | with_reducible assumption | with_reducible exact upd_same | (with_reducible refine at_new (by assumption) ?_; wtm_at "at8") | (with_reducible refine at_same (by with_reducible assumption) ?_; wtm_at "at8") | (with_reducible apply Off.at; wtm_at "off9"))
local macro_rules | `(tactic| wtm_at "off10") => `(tactic| first | with_reducible assumption | (with_reducible apply Off.mk; wtm_at "pen"; assumption) | (with_reducible refine Off.new (by assumption) _ _ ?_; wtm_at "off9") | (with_reducible refine at_same (by with_reducible assumption) ?_; wtm_at "off9"))
local macro_rules | `(tactic| wtm_at "at10") => `(tactic| first | with_reducible assumption | with_reducible exact upd_same | (with_reducible refine at_new (by assumption) ?_; wtm_at "at9") | (with_reducible refine at_same (by with_reducible assumption) ?_; wtm_at "at9") | (with_reducible apply Off.at; wtm_at "off10"))
local macro_rules | `(tactic| wtm_at "off11") => `(tactic| first | with_reducible assumption | (with_reducible apply Off.mk; wtm_at "pen"; assumption) | (with_reducible refine Off.new (by assumption) _ _ ?_; wtm_at "off10") | (with_reducible refine at_same (by with_reducible assumption) ?_; wtm_at "off10"))
local macro_rules | `(tactic| wtm_at "at11") => `(tactic| first | with_reducible assumption | with_reducible exact upd_same | (with_reducible refine at_new (by assumption) ?_; wtm_at "at10") | (with_reducible refine at_same (by with_reducible assumption) ?_; wtm_at "at10") | (with_reducible apply Off.at; wtm_at "off11"))
local macro_rules | `(tactic| wtm_at "off12") => `(tactic| first | with_reducible assumption | (with_reducible apply Off.mk; wtm_at "pen"; assumption) | (with_reducible refine Off.new (by assumption) _ _ ?_; wtm_at "off11") | (with_reducible refine at_same (by with_reducible assumption) ?_; wtm_at "off11"))
local macro_rules | `(tactic| wtm_at "at12") => `(tactic| first | with_reducible assumption | with_reducible exact upd_same | (with_reducible refine at_new (by assumption) ?_; wtm_at "at11") | (with_reducible refine at_same (by with_reducible assumption) ?_; wtm_at "at11") | (with_reducible apply Off.at; wtm_at "off12"))
local macro_rules | `(tactic| wtm_at "off13") => `(tactic| first | with_reducible assumption | (with_reducible apply Off.mk; wtm_at "pen"; assumption) | (with_reducible refine Off.new (by assumption) _ _ ?_; wtm_at "off12") | (with_reducible refine at_same (by with_reducible assumption) ?_; wtm_at "off12"))
local macro_rules | `(tactic| wtm_at "at13") => `(tactic| first | with_reducible assumption | with_reducible exact upd_same | (with_reducible refine at_new (by assumption) ?_; wtm_at "at12") | (with_reducible refine at_same (by with_reducible assumption) ?_; wtm_at "at12") | (with_reducible apply Off.at; wtm_at "off13"))
local macro_rules | `(tactic| wtm_at "off14") => `(tactic| first | with_reducible assumption | (with_reducible apply Off.mk; wtm_at "pen"; assumption) | (with_reducible refine Off.new (by assumption) _ _ ?_; wtm_at "off13") | (with_reducible refine at_same (by with_reducible assumption) ?_; wtm_at "off13"))
local macro_rules | `(tactic| wtm_at "at14") => `(tactic| first | with_reducible assumption | with_reducible exact upd_same | (with_reducible refine at_new (by assumption) ?_; wtm_at "at13") | (with_reducible refine at_same (by with_reducible assumption) ?_; wtm_at "at13") | (with_reducible apply Off.at; wtm_at "off14"))
local macro_rules | `(tactic| wtm_at "off15") => `(tactic| first | with_reducible assumption | (with_reducible apply Off.mk; wtm_at "pen"; assumption) | (with_reducible refine Off.new (by assumption) _ _ ?_; wtm_at "off14") | (with_reducible refine at_same (by with_reducible assumption) ?_; wtm_at "off14"))
local macro_rules | `(tactic| wtm_at "at15") => `(tactic| first | with_reducible assumption | with_reducible exact upd_same | (with_reducible refine at_new (by assumption) ?_; wtm_at "at14") | (with_reducible refine at_same (by with_reducible assumption) ?_; wtm_at "at14") | (with_reducible apply Off.at; wtm_at "off15"))
local macro_rules | `(tactic| wtm_at "off16") => `(tactic| first | with_reducible assumption | (with_reducible apply Off.mk; wtm_at "pen"; assumption) | (with_reducible refine Off.new (by assumption) _ _ ?_; wtm_at "off15") | (with_reducible refine at_same (by with_reducible assumption) ?_; wtm_at "off15"))
local macro_rules | `(tactic| wtm_at "at16") => `(tactic| first | with_reducible assumption | with_reducible exact upd_same | (with_reducible refine at_new (by assumption) ?_; wtm_at "at15") | (with_reducible refine at_same (by with_reducible assumption) ?_; wtm_at "at15") | (with_reducible apply Off.at; wtm_at "off16"))
local macro_rules | `(tactic| wtm_at "off17") => `(tactic| first | with_reducible assumption | (with_reducible apply Off.mk; wtm_at "pen"; assumption) | (with_reducible refine Off.new (by assumption) _ _ ?_; wtm_at "off16") | (with_reducible refine at_same (by with_reducible assumption) ?_; wtm_at "off16"))
local macro_rules | `(tactic| wtm_at "at17") => `(tactic| first | with_reducible assumption | with_reducible exact upd_same | (with_reducible refine at_new (by assumption) ?_; wtm_at "at16") | (with_reducible refine at_same (by with_reducible assumption) ?_; wtm_at "at16") | (with_reducible apply Off.at; wtm_at "off17"))
local macro_rules | `(tactic| wtm_at "off18") => `(tactic| first | with_reducible assumption | (with_reducible apply Off.mk; wtm_at "pen"; assumption) | (with_reducible refine Off.new (by assumption) _ _ ?_; wtm_at "off17") | (with_reducible refine at_same (by with_reducible assumption) ?_; wtm_at "off17"))
local macro_rules | `(tactic| wtm_at "at18") => `(tactic| first | with_reducible assumption | with_reducible exact upd_same | (with_reducible refine at_new (by assumption) ?_; wtm_at "at17") | (with_reducible refine at_same (by with_reducible assumption) ?_; wtm_at "at17") | (with_reducible apply Off.at; wtm_at "off18"))
local macro_rules | `(tactic| wtm_at "off19") => `(tactic| first | with_reducible assumption | (with_reducible apply Off.mk; wtm_at "pen"; assumption) | (with_reducible refine Off.new (by assumption) _ _ ?_; wtm_at "off18") | (with_reducible refine at_same (by with_reducible assumption) ?_; wtm_at "off18"))
local macro_rules | `(tactic| wtm_at "at19") => `(tactic| first | with_reducible assumption | with_reducible exact upd_same | (with_reducible refine at_new (by assumption) ?_; wtm_at "at18") | (with_reducible refine at_same (by with_reducible assumption) ?_; wtm_at "at18") | (with_reducible apply Off.at; wtm_at "off19"))
local macro_rules | `(tactic| wtm_at "off20") => `(tactic| first | with_reducible assumption | (with_reducible apply Off.mk; wtm_at "pen"; assumption) | (with_reducible refine Off.new (by assumption) _ _ ?_; wtm_at "off19") | (with_reducible refine at_same (by with_reducible assumption) ?_; wtm_at "off19"))
local macro_rules | `(tactic| wtm_at "at20") => `(tactic| first | with_reducible assumption | with_reducible exact upd_same | (with_reducible refine at_new (by assumption) ?_; wtm_at "at19") | (with_reducible refine at_same (by with_reducible assumption) ?_; wtm_at "at19") | (with_reducible apply Off.at; wtm_at "off20"))
local macro_rules | `(tactic| wtm_at "off21") => `(tactic| first | with_reducible assumption | (with_reducible apply Off.mk; wtm_at "pen"; assumption) | (with_reducible refine Off.new (by assumption) _ _ ?_; wtm_at "off20") | (with_reducible refine at_same (by with_reducible assumption) ?_; wtm_at "off20"))
local macro_rules | `(tactic| wtm_at "at21") => `(tactic| first | with_reducible assumption | with_reducible exact upd_same | (with_reducible refine at_new (by assumption) ?_; wtm_at "at20") | (with_reducible refine at_same (by with_reducible assumption) ?_; wtm_at "at20") | (with_reducible apply Off.at; wtm_at "off21"))
local macro_rules | `(tactic| wtm_at "off22") => `(tactic| first | with_reducible assumption | (with_reducible apply Off.mk; wtm_at "pen"; assumption) | (with_reducible refine Off.new (by assumption) _ _ ?_; wtm_at "off21") | (with_reducible refine at_same (by with_reducible assumption) ?_; wtm_at "off21"))
local macro_rules | `(tactic| wtm_at "at22") => `(tactic| first | with_reducible assumption | with_reducible exact upd_same | (with_reducible refine at_new (by assumption) ?_; wtm_at "at21") | (with_reducible refine at_same (by with_reducible assumption) ?_; wtm_at "at21") | (with_reducible apply Off.at; wtm_at "off22"))
local macro_rules | `(tactic| wtm_at "off23") => `(tactic| first | with_reducible assumption | (with_reducible apply Off.mk; wtm_at "pen"; assumption) | (with_reducible refine Off.new (by assumption) _ _ ?_; wtm_at "off22") | (with_reducible refine at_same (by with_reducible assumption) ?_; wtm_at "off22"))
local macro_rules | `(tactic| wtm_at "at23") => `(tactic| first | with_reducible assumption | with_reducible exact upd_same | (with_reducible refine at_new (by assumption) ?_; wtm_at "at22") | (with_reducible refine at_same (by with_reducible assumption) ?_; wtm_at "at22") | (with_reducible apply Off.at; wtm_at "off23"))
local macro_rules | `(tactic| wtm_at "off24") => `(tactic| first | with_reducible assumption | (with_reducible apply Off.mk; wtm_at "pen"; assumption) | (with_reducible refine Off.new (by assumption) _ _ ?_; wtm_at "off23") | (with_reducible refine at_same (by with_reducible assumption) ?_; wtm_at "off23"))
local macro_rules | `(tactic| wtm_at "at24") => `(tactic| first | with_reducible assumption | with_reducible exact upd_same | (with_reducible refine at_new (by assumption) ?_; wtm_at "at23") | (with_reducible refine at_same (by with_reducible assumption) ?_; wtm_at "at23") | (with_reducible apply Off.at; wtm_at "off24"))
local macro_rules | `(tactic| wtm_at "off25") => `(tactic| first | with_reducible assumption | (with_reducible apply Off.mk; wtm_at "pen"; assumption) | (with_reducible refine Off.new (by assumption) _ _ ?_; wtm_at "off24") | (with_reducible refine at_same (by with_reducible assumption) ?_; wtm_at "off24"))
local macro_rules | `(tactic| wtm_at "at25") => `(tactic| first | with_reducible assumption | with_reducible exact upd_same | (with_reducible refine at_new (by assumption) ?_; wtm_at "at24") | (with_reducible refine at_same (by with_reducible assumption) ?_; wtm_at "at24") | (with_reducible apply Off.at; wtm_at "off25"))
local macro_rules | `(tactic| wtm_at "off26") => `(tactic| first | with_reducible assumption | (with_reducible apply Off.mk; wtm_at "pen"; assumption) | (with_reducible refine Off.new (by assumption) _ _ ?_; wtm_at "off25") | (with_reducible refine at_same (by with_reducible assumption) ?_; wtm_at "off25"))
local macro_rules | `(tactic| wtm_at "at26") => `(tactic| first | with_reducible assumption | with_reducible exact upd_same | (with_reducible refine at_new (by assumption) ?_; wtm_at "at25") | (with_reducible refine at_same (by with_reducible assumption) ?_; wtm_at "at25") | (with_reducible apply Off.at; wtm_at "off26"))
local macro_rules | `(tactic| wtm_at "off27") => `(tactic| first | with_reducible assumption | (with_reducible apply Off.mk; wtm_at "pen"; assumption) | (with_reducible refine Off.new (by assumption) _ _ ?_; wtm_at "off26") | (with_reducible refine at_same (by with_reducible assumption) ?_; wtm_at "off26"))
local macro_rules | `(tactic| wtm_at "at27") => `(tactic| first | with_reducible assumption | with_reducible exact upd_same | (with_reducible refine at_new (by assumption) ?_; wtm_at "at26") | (with_reducible refine at_same (by with_reducible assumption) ?_; wtm_at "at26") | (with_reducible apply Off.at; wtm_at "off27"))
local macro_rules | `(tactic| wtm_at "off28") => `(tactic| first | with_reducible assumption | (with_reducible apply Off.mk; wtm_at "pen"; assumption) | (with_reducible refine Off.new (by assumption) _ _ ?_; wtm_at "off27") | (with_reducible refine at_same (by with_reducible assumption) ?_; wtm_at "off27"))
local macro_rules | `(tactic| wtm_at "at28") => `(tactic| first | with_reducible assumption | with_reducible exact upd_same | (with_reducible refine at_new (by assumption) ?_; wtm_at "at27") | (with_reducible refine at_same (by with_reducible assumption) ?_; wtm_at "at27") | (with_reducible apply Off.at; wtm_at "off28"))
local macro_rules | `(tactic| wtm_at "off29") => `(tactic| first | with_reducible assumption | (with_reducible apply Off.mk; wtm_at "pen"; assumption) | (with_reducible refine Off.new (by assumption) _ _ ?_; wtm_at "off28") | (with_reducible refine at_same (by with_reducible assumption) ?_; wtm_at "off28"))
local macro_rules | `(tactic| wtm_at "at29") => `(tactic| first | with_reducible assumption | with_reducible exact upd_same | (with_reducible refine at_new (by assumption) ?_; wtm_at "at28") | (with_reducible refine at_same (by with_reducible assumption) ?_; wtm_at "at28") | (with_reducible apply Off.at; wtm_at "off29"))
local macro_rules | `(tactic| wtm_at "off30") => `(tactic| first | with_reducible assumption | (with_reducible apply Off.mk; wtm_at "pen"; assumption) | (with_reducible refine Off.new (by assumption) _ _ ?_; wtm_at "off29") | (with_reducible refine at_same (by with_reducible assumption) ?_; wtm_at "off29"))
local macro_rules | `(tactic| wtm_at "at30") => `(tactic| first | with_reducible assumption | with_reducible exact upd_same | (with_reducible refine at_new (by assumption) ?_; wtm_at "at29") | (with_reducible refine at_same (by with_reducible assumption) ?_; wtm_at "at29") | (with_reducible apply Off.at; wtm_at "off30"))
local macro_rules | `(tactic| wtm_at "off31") => `(tactic| first | with_reducible assumption | (with_reducible apply Off.mk; wtm_at "pen"; assumption) | (with_reducible refine Off.new (by assumption) _ _ ?_; wtm_at "off30") | (with_reducible refine at_same (by with_reducible assumption) ?_; wtm_at "off30"))
local macro_rules | `(tactic| wtm_at "at31") => `(tactic| first | with_reducible assumption | with_reducible exact upd_same | (with_reducible refine at_new (by assumption) ?_; wtm_at "at30") | (with_reducible refine at_same (by with_reducible assumption) ?_; wtm_at "at30") | (with_reducible apply Off.at; wtm_at "off31"))
local macro_rules | `(tactic| wtm_at "off32") => `(tactic| first | with_reducible assumption | (with_reducible apply Off.mk; wtm_at "pen"; assumption) | (with_reducible refine Off.new (by assumption) _ _ ?_; wtm_at "off31") | (with_reducible refine at_same (by with_reducible assumption) ?_; wtm_at "off31"))
local macro_rules | `(tactic| wtm_at "at32") => `(tactic| first | with_reducible assumption | with_reducible exact upd_same | (with_reducible refine at_new (by assumption) ?_; wtm_at "at31") | (with_reducible refine at_same (by with_reducible assumption) ?_; wtm_at "at31") | (with_reducible apply Off.at; wtm_at "off32"))
local macro_rules | `(tactic| wtm_at "off33") => `(tactic| first | with_reducible assumption | (with_reducible apply Off.mk; wtm_at "pen"; assumption) | (with_reducible refine Off.new (by assumption) _ _ ?_; wtm_at "off32") | (with_reducible refine at_same (by with_reducible assumption) ?_; wtm_at "off32"))
local macro_rules | `(tactic| wtm_at "at33") => `(tactic| first | with_reducible assumption | with_reducible exact upd_same | (with_reducible refine at_new (by assumption) ?_; wtm_at "at32") | (with_reducible refine at_same (by with_reducible assumption) ?_; wtm_at "at32") | (with_reducible apply Off.at; wtm_at "off33"))
local macro_rules | `(tactic| wtm_at "off34") => `(tactic| first | with_reducible assumption | (with_reducible apply Off.mk; wtm_at "pen"; assumption) | (with_reducible refine Off.new (by assumption) _ _ ?_; wtm_at "off33") | (with_reducible refine at_same (by with_reducible assumption) ?_; wtm_at "off33"))
local macro_rules | `(tactic| wtm_at "at34") => `(tactic| first | with_reducible assumption | with_reducible exact upd_same | (with_reducible refine at_new (by assumption) ?_; wtm_at "at33") | (with_reducible refine at_same (by with_reducible assumption) ?_; wtm_at "at33") | (with_reducible apply Off.at; wtm_at "off34"))
local macro_rules | `(tactic| wtm_at "off35") => `(tactic| first | with_reducible assumption | (with_reducible apply Off.mk; wtm_at "pen"; assumption) | (with_reducible refine Off.new (by assumption) _ _ ?_; wtm_at "off34") | (with_reducible refine at_same (by with_reducible assumption) ?_; wtm_at "off34"))
local macro_rules | `(tactic| wtm_at "at35") => `(tactic| first | with_reducible assumption | with_reducible exact upd_same | (with_reducible refine at_new (by assumption) ?_; wtm_at "at34") | (with_reducible refine at_same (by with_reducible assumption) ?_; wtm_at "at34") | (with_reducible apply Off.at; wtm_at "off35"))
local macro_rules | `(tactic| wtm_at "off36") => `(tactic| first | with_reducible assumption | (with_reducible apply Off.mk; wtm_at "pen"; assumption) | (with_reducible refine Off.new (by assumption) _ _ ?_; wtm_at "off35") | (with_reducible refine at_same (by with_reducible assumption) ?_; wtm_at "off35"))
local macro_rules | `(tactic| wtm_at "at36") => `(tactic| first | with_reducible assumption | with_reducible exact upd_same | (with_reducible refine at_new (by assumption) ?_; wtm_at "at35") | (with_reducible refine at_same (by with_reducible assumption) ?_; wtm_at "at35") | (with_reducible apply Off.at; wtm_at "off36"))
local macro_rules | `(tactic| wtm_at "off37") => `(tactic| first | with_reducible assumption | (with_reducible apply Off.mk; wtm_at "pen"; assumption) | (with_reducible refine Off.new (by assumption) _ _ ?_; wtm_at "off36") | (with_reducible refine at_same (by with_reducible assumption) ?_; wtm_at "off36"))
local macro_rules | `(tactic| wtm_at "at37") => `(tactic| first | with_reducible assumption | with_reducible exact upd_same | (with_reducible refine at_new (by assumption) ?_; wtm_at "at36") | (with_reducible refine at_same (by with_reducible assumption) ?_; wtm_at "at36") | (with_reducible apply Off.at; wtm_at "off37"))
local macro_rules | `(tactic| wtm_at "off38") => `(tactic| first | with_reducible assumption | (with_reducible apply Off.mk; wtm_at "pen"; assumption) | (with_reducible refine Off.new (by assumption) _ _ ?_; wtm_at "off37") | (with_reducible refine at_same (by with_reducible assumption) ?_; wtm_at "off37"))
local macro_rules | `(tactic| wtm_at "at38") => `(tactic| first | with_reducible assumption | with_reducible exact upd_same | (with_reducible refine at_new (by assumption) ?_; wtm_at "at37") | (with_reducible refine at_same (by with_reducible assumption) ?_; wtm_at "at37") | (with_reducible apply Off.at; wtm_at "off38"))
local macro_rules | `(tactic| wtm_at "off39") => `(tactic| first | with_reducible assumption | (with_reducible apply Off.mk; wtm_at "pen"; assumption) | (with_reducible refine Off.new (by assumption) _ _ ?_; wtm_at "off38") | (with_reducible refine at_same (by with_reducible assumption) ?_; wtm_at "off38"))
local macro_rules | `(tactic| wtm_at "at39") => `(tactic| first | with_reducible assumption | with_reducible exact upd_same | (with_reducible refine at_new (by assumption) ?_; wtm_at "at38") | (with_reducible refine at_same (by with_reducible assumption) ?_; wtm_at "at38") | (with_reducible apply Off.at; wtm_at "off39"))
local macro_rules | `(tactic| wtm_at "at") => `(tactic| wtm_at "at39")
local macro_rules | `(tactic| wtm_at "off") => `(tactic| wtm_at "off39")
local macro_rules | `(tactic| wtm_at "pen") => `(tactic| first
  | assumption | (refine Pen.new (by assumption) ?_; wtm_at "pen") | (refine Pen.same (by assumption) ?_; wtm_at "pen"))
local macro_rules | `(tactic| wtm_at "same") => `(tactic| first
  | exact fun _ _ h => h | assumption | exact same_new (by assumption) | (refine same_trans ?_ (same_new (by assumption)); wtm_at "same") | (refine same_trans ?_ (by assumption); wtm_at "same")
  | (refine same_trans ?_ (Off.new (by assumption)); wtm_at "same") | (refine same_trans ?_ (Off.same (by assumption)); wtm_at "same"))
local macro_rules | `(tactic| wtm_at "dps") => `(tactic| first
  | exact .nil | (apply DpAll.cons; wtm_at "dp"; wtm_at "dps") | exact dpAll_ints _)
local macro_rules | `(tactic| wtm_at "dp") => `(tactic| first
  | exact .non | exact .bl _ | exact .int _ | exact .str _ | (fail) | (apply Dp.lst; (apply SqL.of; wtm_at "at"); wtm_at "dps") | (apply Dp.tup; (apply SqT.of; wtm_at "at"); wtm_at "dps"))
local macro_rules | `(tactic| wtm_at "side") => `(tactic| first
  | exact ⟨by decide, by decide⟩ | exact ⟨by decide, by decide, by decide⟩ | exact .inl ⟨by decide, by decide⟩ | exact .inr ⟨by decide, by decide⟩ | (show ¬ _ = _; decide))
local macro_rules | `(tactic| wtm_at "sml") => `(tactic| first
  | exact sml_none (by decide) | exact sml_bool (by decide) | exact sml_int (by decide) (by omega) | (fail) | exact sml_list (n := 19) (k := 0) (by wtm_at "smls") (by decide) (by decide))
local macro_rules | `(tactic| wtm_at "smls") => `(tactic| first | exact smlAll_nil (m := 0) | (apply smlAll_cons; wtm_at "sml"; wtm_at "smls"))
local macro_rules | `(tactic| wtm_at "shw") => `(tactic| exact Sml.shw (n := 10000) (k := 50) (by wtm_at "sml") (by decide) (by decide))
local macro_rules | `(tactic| wtm_at "rd") => `(tactic| first
  | refine ⟨_, rfl, ?_⟩ | refine ⟨_, _, rfl, rfl, ?_⟩ | refine ifT rfl ?_ | refine ifF rfl ?_ | refine ⟨rfl, ?_⟩
  | refine ⟨_, _, by rfl, by wtm_at "dp", by wtm_at "shw", ?_⟩
  | refine ⟨_, _, _, _, _, rfl, by wtm_at "at", by wtm_at "cls", by wtm_at "na", by rfl, ?_⟩
  | refine ⟨_, _, rfl, .inr (SqT.of (by wtm_at "at")), ?_⟩ | refine ⟨_, _, rfl, .inl (SqL.of (by wtm_at "at")), ?_⟩
  | refine ⟨_, _, rfl, .inr (SqT.of (by wtm_at "at")), by rfl, by rfl, ?_⟩ | refine ⟨_, _, rfl, .inl (SqL.of (by wtm_at "at")), by rfl, by rfl, ?_⟩
  | refine ⟨_, _, _, _, rfl, rfl, SqT.of (by wtm_at "at"), by rfl, ?_⟩ | refine ⟨_, _, _, _, rfl, rfl, SqL.of (by wtm_at "at"), by rfl, ?_⟩
  | refine ⟨_, _, rfl, rfl, by wtm_at "side", ?_⟩
  | refine ⟨_, _, by wtm_at "dp", by wtm_at "dp", by first | rfl | decide +kernel, by first | rfl | decide +kernel, ?_⟩
  | refine ⟨_, _, [_, _], [_, _], rfl, rfl, sqI2 (by wtm_at "at"), sqI2 (by wtm_at "at"), ?_⟩
  | refine ⟨_, _, rfl, ?_⟩
  | refine ⟨Nat.le_of_ble_eq_true rfl, fun _ _ => ?_⟩
  | refine ifF (by decide +kernel) ?_ | refine ifF (nd_refl _) ?_ | refine ifT (de_refl _) ?_)
local macro_rules | `(tactic| wtm_at "cls") => `(tactic| first | exact cls_Agent _ | exact cls_Signal _ | exact cls_Variable _ | exact cls_Net _)
local macro_rules | `(tactic| wtm_at "na") => `(tactic| first | exact na_Agent_name _ | exact na_Agent_steps _ | exact na_Agent_shape _ | exact na_Signal_name _ | exact na_Signal_tokens _ | exact na_Variable_name _ | exact na_Variable_size _ | exact na_Variable_at _ | exact na_Variable_shape _ | exact na_Net_line _ | exact na_Net_ring _ | exact na_Net_variables _ | exact na_Net_signals _ | exact na_Net_agents _ | exact na_Net_shape _ | exact na_Net_by_name _ | exact na_Net_bytes_at _ | exact na_Net_lines_at _)

/-- what is new in H' beside H -/
def Nw (H H' : Hp) : Hp := fun a => if (H a).isSome = true then none else H' a
theorem Nw.of {H H' : Hp} {a : Addr} {u : HO} (h : H a = none) (e : H' a = some u) : Nw H H' a = some u := by
  unfold Nw
  rw [h]
  exact e
theorem Nw.at {H H' : Hp} {a : Addr} {u : HO} (e : Nw H H' a = some u) : H' a = some u ∧ H a = none := by
  unfold Nw at e
  cases h : H a with
  | none => rw [h] at e; exact ⟨e, rfl⟩
  | some o => rw [h] at e; cases e
theorem upd_none {H : Hp} {a b : Addr} {o : HO} (h : upd H a o b = none) : H b = none := by
  by_cases e : b = a
  · rw [e, upd_same] at h; cases h
  · rw [upd_ne e] at h; exact h

theorem pen_cut (ns : List Int) : ∃ ms : List Int, cutV (ns.map V.int) none (some 63) = ms.map V.int ∧ ms.length ≤ 63 := by
  refine ⟨ns.take (HT.sIx ns.length ns.length (some 63)), ?_, ?_⟩
  · unfold cutV
    rw [List.length_map, HT.sIx_none, List.drop_zero, Nat.sub_zero, List.map_take]
  · rw [List.length_take]
    have : HT.sIx ns.length ns.length (some 63) = min 63 ns.length := HT.sIx_nat _ _ 63
    omega
def spPen (K : PySem.W.Frag) : Sp := fun vs H Q _ => ∃ (a : Addr) (ns : List Int), vs = [.ref a] ∧ SqL K H a (ns.map V.int) ∧ ∀ p c H', Same H H' → Pen H' p c 0 → Q (.ref p) H'
def thingData : List PyData := [.none, .bool true, .bool false, .int (-1), .int 0, .int 1, .int 3, .int 4, .int 5, .int 8, .int 9, .int 16, .int 17, .int 1016, .int 1023, .int 1024, .int ((10 : Int) ^ Int.toNat 60), .str "", .str "a", .str "A", .str "ab cd", .str "a\n", .str "abcdefgh", .str "abcdefghi", .str "a1", .str "read", .str "clean", .str "wait", .tuple [], .list [], .dict [], .tuple [.str "a"], .list [.int 0], .dict [(.str "a", .int 0)], .tuple [.int 0, .int 0]]
/-- one of the things that a law draws -/
def Thg (K : PySem.W.Frag) (H : Hp) (v : V) : Prop := ∃ d ∈ thingData, Dq K H v d
theorem Thg.same {K : PySem.W.Frag} {H H' : Hp} {v : V} (s : Same H H') (h : Thg K H v) : Thg K H' v := let ⟨d, m, q⟩ := h; ⟨d, m, dq_mono s q⟩
theorem Thg.on {K : PySem.W.Frag} {p : Addr} {H : Hp} {v : V} (h : Thg K (Uk.Off p H) v) : Thg K H v := h.same fun _ _ e => Uk.Off.at e
theorem thing_shw {d : PyData} (h : d ∈ thingData) : Shw d := by
  have z : (thingData.all fun d => d.showable && decide (d.shown.length ≤ 1000) && decide (d.depth ≤ 60)) = true := by decide +kernel
  have y := List.all_eq_true.mp z d h
  rw [Bool.and_eq_true, Bool.and_eq_true, decide_eq_true_eq, decide_eq_true_eq] at y
  exact ⟨y.1.1, Nat.le_trans y.1.2 (by decide), y.2⟩
def spThing (K : PySem.W.Frag) : Sp := fun vs H Q _ => ∃ p c m, vs = [.ref p] ∧ Pen H p c m ∧ m ≤ 99000 ∧ ∀ v H', Thg K (Nw H H') v → Same (Off p H) (Off p H') → Pen H' p c (m + 1) → Q v H'

def spLaw (K : PySem.W.Frag) : Sp := fun vs H Q _ => ∃ (a : Addr) (ns : List Int), vs = [.ref a] ∧ SqL K H a (ns.map V.int) ∧ ∀ H', Q (.bl true) H'
section
variable {mg : PySem.Str → Option Value} {base : Heap} {w : World}
theorem ok__law_pen (M : Mod (hd12.heap_39 w.params) mg base) : CallG PP w (hd12.heap_39 w.params) mg base 1 (.ref 610) (pos (spPen (hd12.heap_39 w.params))) := by
  obtain ⟨fd, F⟩ := fn__law_pen w
  refine def_pos F sc__law_pen (fun vs H Q E h => ?_) (fun _ _ _ _ _ _ us hl => match us, hl with | [_], _ => rfl) (fun cdv A outer s H vs Q E hr hg h => ?_)
  · obtain ⟨a, ns, rfl, _⟩ := h; rfl
  have nd := sc__law_pen.nd
  obtain ⟨a, ns, rfl, ha, q⟩ := h
  refine ⟨_, (pss_one (ps_ret (pe_lst (pa_cons (pe_callTy call_list_of (by rfl) (mn_list M) (by decide +kernel) (pa_cons (pe_slice sl_list (pv 0) po_none (po_some pe_int)) pa_nil)) (pa_cons pe_int (pa_cons pe_int pa_nil)))))), ?_⟩
  repeat wtm_at "rd"
  refine ⟨a, _, rfl, ha, fun p hp => ⟨p, _, rfl, .inl (SqL.of upd_same), fun l hl => ⟨Nat.le_of_ble_eq_true rfl, fun z hz => ?_⟩⟩⟩
  obtain ⟨ms, em, lm⟩ := pen_cut ns
  refine q z l _ (by wtm_at "same") ⟨0, 0, ms, upd_same, ?_, lm, Int.le_refl _, Int.le_refl _⟩
  rw [← em]
  wtm_at "at"
theorem ok_law (M : Mod (hd12.heap_39 w.params) mg base) : CallG PP w (hd12.heap_39 w.params) mg base 18 (.ref 679) (pos (spLaw (hd12.heap_39 w.params))) := by
  obtain ⟨fd, F⟩ := fn_law w
  refine def_pos F sc_law (fun vs H Q E h => ?_) (fun _ _ _ _ _ _ us hl => match us, hl with | [_], _ => rfl) (fun cdv A outer s H vs Q E hr hg h => ?_)
  · obtain ⟨a, ns, rfl, _⟩ := h; rfl
  have nd := sc_law.nd
  obtain ⟨a, ns, rfl, ha, q⟩ := h
  refine ⟨_, (pss_cons (ps_set (i := 1) nd rfl (.inl rfl) (pe_cl (takes_of rfl rfl rfl rfl) (ok__law_pen M) (hr.mono (by decide)) hg rfl (mg__law_pen M) (kp__law_pen w) (pa_cons (pv 0) pa_nil)))
      (pss_one (ps_ret (pe_and (pe_cl (takes_of rfl rfl rfl rfl) (ok__law_round M) (hr.mono (by decide)) hg rfl (mg__law_round M) (kp__law_round w) (pa_cons (pv 1) pa_nil)) (pe_one (pe_cl (takes_of rfl rfl rfl rfl) (ok__law_round M) (hr.mono (by decide)) hg rfl (mg__law_round M) (kp__law_round w) (pa_cons (pv 1) pa_nil))))))), ?_⟩
  wtm_at "rd"
  refine ⟨rfl, a, ns, rfl, ha, fun p c H1 s1 P1 => ?_⟩
  refine ⟨_, rfl, rfl, p, c, _, rfl, P1, by decide, fun H2 s2 P2 => ⟨_, rfl, ifT rfl ?_⟩⟩
  exact ⟨_, rfl, rfl, p, c, _, rfl, P2, by decide, fun H3 s3 P3 => q _⟩
end
theorem done : PySem.Challenge.rw_unkeptlines_k12_whole_bytes_of_steps.Holds := by
  refine hd12 ?_
  refine walkG (K := hd12.heap_39) (sp := fun w => spLaw (hd12.heap_39 w.params)) (k := 18) (by rfl) (by decide) (by rfl) ?_ (fun w h Y => PySem.W.kIn_of Y) (fun w mg fa h KX hns hm base M => ?_) fun w H a ns hl hs => ⟨a, ns, rfl, hs, fun _ => rfl⟩
  · exact ⟨by decide, by decide, by decide⟩
  · have e : fa = 679 := by
      have h1 : some (Value.ref fa) = some (.ref 679) := hm.symm.trans (mg_law M)
      cases h1
      rfl
    subst e
    exact ok_law M
end M12

theorem PySem.Challenge.cw_unkeptlines_k12_whole_bytes_of_steps_holds : PySem.Challenge.rw_unkeptlines_k12_whole_bytes_of_steps.Holds := by
  exact M12.done
