import PyProof.Rows.All
import Wide.All
import OpenK.AllK
import Wide.FinOn
import HandS.ForMost
import HandS.IsInst
import HandS.TupLe
import HandS.TupAny
import HandS.Flow
import HandS.Evl
import HandS.Walk
import HandS.Replace
import HandS.Deep
import HandS.More
import HandS.Style
import PyProof.EqAt
import PyProof.NeKinds
import PyProof.DelItemList
import HandS.StrMore
import HandS.Steps
import HandS.ForExc
import PyProof.P3Eq
import HandS.Property
import KE.KStateDown
import HandS.Defaults
import HandS.WordsExc
import HandS.Head0
import HandS.Head1
import HandS.Head2
import HandS.HeadEnd
import HandS.HeadHook1
import HandS.HeadHook2
import HandS.HeadHook3
import HandS.HeadHook4
import HandS.HeadNt
import PySem.Challenge.RW_indentokens_k26_whole_parting
set_option Elab.async false
set_option linter.all false
set_option maxRecDepth 100000
set_option maxHeartbeats 2000000
namespace Kt
open PySem PySem.Spec PyProof.Rows L2

/-! ## texts as lists of code points -/
theorem str_ext {x y : Str} (h : x.cps.toList = y.cps.toList) : x = y := by
  cases x; cases y; simp only [Str.mk.injEq]; exact Array.ext' h
def S (l : List Nat) : Str := ⟨l.toArray⟩
theorem S_toList (l : List Nat) : (S l).cps.toList = l := rfl
theorem S_of (x : Str) : S x.cps.toList = x := str_ext rfl
theorem S_len (l : List Nat) : (S l).length = l.length := by simp [S, Str.length]
theorem S_inj {a b : List Nat} (h : S a = S b) : a = b := congrArg (fun z : Str => z.cps.toList) h
theorem S_app (a b : List Nat) : S a ++ S b = S (a ++ b) := by
  apply str_ext
  show ((S a).append (S b)).cps.toList = _
  simp [Str.append, S]
theorem len_cps (x : Str) : x.length = x.cps.toList.length := by simp [Str.length]

/-! ## the names of Python's own -/
theorem b_len : bootBuiltins "len" = some (.builtin "len") := by decide +kernel
theorem b_abs : bootBuiltins "abs" = some (.builtin "abs") := by decide +kernel
theorem b_max : bootBuiltins "max" = some (.builtin "max") := by decide +kernel
theorem b_min : bootBuiltins "min" = some (.builtin "min") := by decide +kernel
theorem b_all : bootBuiltins "all" = some (.builtin "all") := by decide +kernel
theorem b_any : bootBuiltins "any" = some (.builtin "any") := by decide +kernel
theorem b_isinstance : bootBuiltins "isinstance" = some (.builtin "isinstance") := by decide +kernel
theorem b_repr : bootBuiltins "repr" = some (.builtin "repr") := by decide +kernel
theorem b_sum : bootBuiltins "sum" = some (.builtin "sum") := by decide +kernel
theorem b_str : bootBuiltins "str" = some (.type "str") := by decide +kernel
theorem b_int : bootBuiltins "int" = some (.type "int") := by decide +kernel
theorem b_bool : bootBuiltins "bool" = some (.type "bool") := by decide +kernel
theorem b_list : bootBuiltins "list" = some (.type "list") := by decide +kernel
theorem b_tuple : bootBuiltins "tuple" = some (.type "tuple") := by decide +kernel

section
variable {X : Cx} {x : Str} {pos : Pos}
/-- a module's own text, int, object -/
theorem pe_gstr {z : Str} (hm : ∃ t, X.mg x = some (.str z t)) (hg : Gl X x := by rfl) (hd : (x == ("__debug__" : Str)) = false := by decide) : PE X (.Name x pos) (tC (.str z)) := by
  obtain ⟨t, hm⟩ := hm
  exact pe_glob hg hm ⟨t, rfl⟩ hd
theorem pe_gint {z : Int} (hm : ∃ t, X.mg x = some (.int z t)) (hg : Gl X x := by rfl) (hd : (x == ("__debug__" : Str)) = false := by decide) : PE X (.Name x pos) (tC (.int z)) := by
  obtain ⟨t, hm⟩ := hm
  exact pe_glob hg hm ⟨t, rfl⟩ hd
theorem pe_gref {a : Addr} (hm : X.mg x = some (.ref a)) (hg : Gl X x := by rfl) (hd : (x == ("__debug__" : Str)) = false := by decide) : PE X (.Name x pos) (tC (.ref a)) :=
  pe_glob hg hm rfl hd

/-! ## a text so many times -/
def rMulS : R2 := fun x y H Q => ∃ (z : Str) (n : Int), x = .str z ∧ y = .int n ∧ n ≤ 100000 ∧ -1000000 ≤ n ∧ z.length * n.toNat ≤ 16777216 ∧ Q (.str (Txt.mul z n)) H
theorem op_mul_str : OpR X (binaryOp .Mult) rMulS := by
  intro pins s σ H x y v u Q I rx ry h
  obtain ⟨z, n, rfl, rfl, hn, hlo, hz, q⟩ := h
  obtain ⟨t, rfl⟩ := rx
  obtain ⟨t', rfl⟩ := ry
  have ok : MulOk z n := by
    refine ⟨?_, fun h1 h2 => ?_, fun _ _ => ?_⟩
    · have a : ¬ n < -(2 ^ 63 : Int) := by omega
      have b : ¬ n ≥ 2 ^ 63 := by omega
      rw [decide_eq_false a, decide_eq_false b]; rfl
    · have hp : 0 < n := by omega
      have hzz : z.length ≤ 16777216 := by
        have : 1 ≤ n.toNat := by omega
        calc z.length = z.length * 1 := (Nat.mul_one _).symm
          _ ≤ z.length * n.toNat := Nat.mul_le_mul_left _ this
          _ ≤ 16777216 := hz
      have hd : (16777216 : Int) ≤ (2 ^ 63 - 1) / n := by
        rw [Int.le_ediv_iff_mul_le hp]
        omega
      omega
    · unfold Builtin.Str.tooLong
      rw [decide_eq_false]
      rw [sizeLine_eq]
      omega
  exact PySem.SB.mul ok fun t'' k => ⟨.str (Txt.mul z n), H, I.tok _, ⟨_, rfl⟩, q⟩
theorem foldl_app : ∀ (l : List (Array Nat)) (a : Array Nat), (l.foldl (· ++ ·) a).toList = a.toList ++ (l.map Array.toList).flatten
  | [], a => by simp
  | b :: l, a => by
    rw [List.foldl_cons, foldl_app l]
    simp
theorem mul_list (z : Str) (n : Int) : (Txt.mul z n).cps.toList = (List.replicate n.toNat z.cps.toList).flatten := by
  unfold Txt.mul
  by_cases h : n < 1
  · rw [if_pos h]
    have : n.toNat = 0 := by omega
    rw [this]
    rfl
  · rw [if_neg h]
    by_cases h2 : (n == 1 || z.length == 0) = true
    · rw [if_pos h2]
      rcases Bool.or_eq_true_iff.mp h2 with h3 | h3
      · have : n = 1 := by simpa using h3
        subst this
        simp
      · have h4 : z.cps.toList = [] := by
          have : z.length = 0 := by simpa using h3
          rw [len_cps] at this
          exact List.eq_nil_of_length_eq_zero this
        rw [h4]
        induction n.toNat with
        | zero => rfl
        | succ k ih => rw [List.replicate_succ, List.flatten_cons, ← ih]; rfl
    · rw [if_neg h2]
      show ((List.replicate n.toNat z.cps).foldl (· ++ ·) #[]).toList = _
      rw [foldl_app]
      simp

/-! ## what is shown of data -/
def rReprD (K : PySem.W.Frag) : List V → Hp → VK → Prop := fun xs H Q => ∃ (v : V) (d : PyData), xs = [v] ∧ Dp K H v d ∧ d.showable = true ∧ d.depth ≤ 60 ∧ d.shown.length ≤ sizeLine ∧ Q (.str d.shown) H
theorem nodict_of {K : PySem.W.Frag} {H : Hp} : (∀ {d : PyData} {v : V}, Dp K H v d → d.hasDict = false) := by
  intro d v h
  refine Dp.rec (motive_1 := fun v d _ => d.hasDict = false) (motive_2 := fun vs ds _ => PyData.hasDictAll ds = false) ?_ ?_ ?_ ?_ ?_ ?_ ?_ ?_ h
  all_goals intros
  all_goals first
    | rfl
    | (simp only [PyData.hasDict, PyData.hasDictAll, Bool.or_eq_false_iff]; first | assumption | (constructor <;> assumption))
theorem call_reprD (hu : X.A.units + 64 < cLine) (hgd : X.A.guards = some []) : CallR X (.builtin "repr") (rReprD X.K) := by
  intro pins s σ H xs us Q I r h
  obtain ⟨v, d, rfl, hd, hs, hdp, hz, q⟩ := h
  obtain ⟨u, rfl, rv⟩ := vals1 r
  have fin : ∀ h' tk u, (∀ b o, s.heap.get? b = some o → h'.get? b = some o) → EP X pins σ Q (.str d.shown u) { s with heap := h', toks := tk } := fun h' tk u k => ⟨.str d.shown, H, I.kept k, ⟨u, rfl⟩, q⟩
  have same : ∀ tk u, EP X pins σ Q (.str d.shown u) { s with toks := tk } := fun tk u => fin s.heap tk u fun _ _ e => e
  cases hd with
  | non => cases rv; exact PySem.P.repr_of_none (same _ _)
  | bl b => cases rv; exact PySem.P.repr_of_bool (same _ _)
  | int i =>
    obtain ⟨t, rfl⟩ := rv
    refine PySem.P.repr_of_int ?_ (same _ _)
    simpa [PyData.showable] using hs
  | str z => obtain ⟨t, rfl⟩ := rv; exact PySem.P.repr_of_str (same _ _) hz
  | lst hs' ha =>
    have hD : Dp X.K H (.ref _) _ := .lst hs' ha
    obtain ⟨as, rd⟩ := Dp.reads I _ _ u hD rv
    cases rv
    exact repr_of_reads' rd hs (PyData.noDict_hsm (nodict_of hD)) hgd (by omega) (fun _ _ e => e) (fun h' u' tk hk => fin h' tk u' hk) hz
  | tup hs' ha =>
    have hD : Dp X.K H (.ref _) _ := .tup hs' ha
    obtain ⟨as, rd⟩ := Dp.reads I _ _ u hD rv
    cases rv
    exact repr_of_reads' rd hs (PyData.noDict_hsm (nodict_of hD)) hgd (by omega) (fun _ _ e => e) (fun h' u' tk hk => fin h' tk u' hk) hz
end
end Kt

set_option Elab.async false
set_option linter.all false
set_option maxRecDepth 100000
set_option maxHeartbeats 2000000
namespace Kt
open PySem PySem.Spec PyProof.Rows L2
/-! ## a def called where it is known what is being shown (nothing): its promise, its body, its call -/
structure FnG (P : Program) (w : World) (K : PySem.W.Frag) (mg : Str → Option Value) (base : Heap) (CX : CXT) (k : Nat) (f : Addr) (fd : FuncData) (ps : List Str) (sp : Sp) : Prop where
  len : ∀ vs H Q E, sp vs H Q E → vs.length = ps.length
  run : ∀ (A : Around) (outer : List Env) (s : Shared) (H : Hp) (args : Args) (us : List Value) (vs : List V) (Q : VK) (E : XK),
    A.guards = some [] → Room k A → Env0 P w K mg base A outer s H → BindsTo s fd args (ps.zip us) → Vals vs us → sp vs H Q E →
      codeAny (model P w) A (.call (.ref f) args) (CR CX outer P w H s Q E) s
section
variable {P : Program} {w : World} {K : PySem.W.Frag} {mg : Str → Option Value} {base : Heap} {CX : CXT} {k : Nat} {f : Addr} {fd : FuncData} {ps N : List Str} {sp : Sp} {x qual : Str} {st : Stmt}
theorem FnG.of (F : FnOk P w K mg base CX k f fd ps sp) : FnG P w K mg base CX k f fd ps sp :=
  ⟨F.len, fun A outer s H args us vs Q E _ hr e b r h => F.run A outer s H args us vs Q E hr e b r h⟩
/-- the body, walked where the guards are known: the walk is the ungarded one's, at one place -/
theorem okG_at {CX : CXT} (F : Fun K x qual st f fd) (Sc : FnScope N ps (defScope st)) (A : Around) (outer : List Env) (s : Shared) (H : Hp) (args : Args) (us : List Value) (vs : List V) (Q : VK) (E : XK)
    (hr : Room (k + 1) A) (e0 : Env0 P w K mg base A outer s H) (hb : BindsTo s fd args (ps.zip us)) (r : Vals vs us) (hl : vs.length = ps.length)
    (body : ∀ cdv : Value, Room k (A.deeper (envOfC qual (defScope st) s.heap.objs.size f cdv)) →
      ∃ t, PSs (cxOf CX P w K mg base N qual (defScope st) f cdv A outer s H E) (defBody st) t ∧ t { nx := fun _ H' => Q .non H', rt := Q } (start N vs) H) :
    codeAny (model P w) A (.call (.ref f) args) (CR CX outer P w H s Q E) s := by
  obtain ⟨oc, od, kV, doc, pm, an, cdv, ct, osl, rfl, lk, hcd⟩ := F.ex
  have only : FnOk P w K mg base CX (k + 1) f (PySem.W.fnOf x qual (defArgs st) (defBody st) (defScope st) .none kV doc pm an cdv ct) ps
      (fun vs' H' Q' E' => vs'.length = ps.length ∧ ∀ (A' : Around) (outer' : List Env) (s' : Shared), Room k (A'.deeper (envOfC qual (defScope st) s'.heap.objs.size f cdv)) →
        ∃ t, PSs (cxOf CX P w K mg base N qual (defScope st) f cdv A' outer' s' H' E') (defBody st) t ∧ t { nx := fun _ H'' => Q' .non H'', rt := Q' } (start N vs') H') :=
    fn_of lk hcd Sc (fun _ _ _ _ z => z.1) fun A' outer' s' H' vs' Q' E' hr' z => z.2 A' outer' s' hr'
  have KX : K.In s.heap := e0.mod.kin.keeps fun b o q => (e0.bs b o q).1
  have lim : s.heap.NoLimit := e0.mod.nolimit.keeps fun b o q => (e0.bs b o q).1
  have hkind : ∀ y ∈ ps.zip us, (defScope st).names.lookup y.1 = some .local ∨ ((defScope st).names.lookup y.1 = some .cell ∧ ((cellsFrom (s.heap.objs.size + 1) (defScope st).names []).lookup y.1).isSome = true) := by
    rintro ⟨n, v⟩ hy
    rcases Sc.par n (List.of_mem_zip hy).1 with q | q
    · exact Or.inl q
    · exact Or.inr ⟨q, PySem.W.cellsFrom_some _ _ _ (Or.inl q)⟩
  refine codeAny_call_function hr.depth (KX _ _ lk) rfl Sc.co Sc.gen rfl (PySem.W.codeRec_of KX hcd) (hb _ _ _ _ (wpAny_newFunctionEnv_cells Sc.kind hkind ?_))
  intro env he s1 xx
  cases he
  refine ⟨lim.keeps xx.toInCall.keep, codeAny_func ?_⟩
  obtain ⟨t, ht, hq⟩ := body cdv (hr.deeper _)
  have I := inv_start (CX := CX) (E := E) (qual := qual) Sc hr.hd e0 hl r xx
  refine wpAny_mono (ht.run [] s1 (start N vs) H _ I hq) ?_ (fun _ _ z => z)
  rintro (_ | _ | _ | u) s' hs
  · obtain ⟨σ', H', J, q⟩ := hs
    exact ⟨V.non, H', J.os, J.bare, J.base, J.hok, rfl, q⟩
  · obtain ⟨_, _, _, q⟩ := hs
    exact q.elim
  · obtain ⟨_, _, _, q⟩ := hs
    exact q.elim
  · obtain ⟨v, σ', H', J, rv, q⟩ := hs
    exact ⟨v, H', J.os, J.bare, J.base, J.hok, rv, q⟩
/-- THE RULE of a guarded def -/
theorem okG (F : Fun K x qual st f fd) (Sc : FnScope N ps (defScope st)) (len : ∀ vs H Q E, sp vs H Q E → vs.length = ps.length)
    (body : ∀ (cdv : Value) (A : Around) (outer : List Env) (s : Shared) (H : Hp) (vs : List V) (Q : VK) (E : XK), A.guards = some [] → Room k (A.deeper (envOfC qual (defScope st) s.heap.objs.size f cdv)) → sp vs H Q E →
      ∃ t, PSs (cxOf CX0 P w K mg base N qual (defScope st) f cdv A outer s H E).nox (defBody st) t ∧ t { nx := fun _ H' => Q .non H', rt := Q } (start N vs) H) :
    FnG P w K mg base CX0 (k + 1) f fd ps sp :=
  ⟨len, fun A outer s H args us vs Q E hg hr e0 hb r h => okG_at F Sc A outer s H args us vs Q E hr e0 hb r (len _ _ _ _ h) fun cdv hr' =>
    let ⟨t, h1, h2⟩ := body cdv A outer s H vs Q E hg hr' h
    ⟨t, h1.nox, h2⟩⟩
end
section
variable {X : Cx} {CX : CXT} {k : Nat} {f : Addr} {fd : FuncData} {ps ks : List Str} {sp : Sp} {dvs : List V} {ds : List Value} {E : XK} {x : Str} {p pos : Pos} {e : Expr} {es : List Expr} {t tk : TA} {kws : List Keyword}
theorem run_fnG {pins : List (Addr × Obj)} {σ : L2.St} {H : Hp} {s : Shared} {Q : VK} {us : List Value} {vs : List V} (F : FnG X.prog X.w X.K X.mg X.base CX k f fd ps sp) (hgd : X.A.guards = some []) (hr : Room k X.A) (hb : Binds X.K fd ps ds) (hd : Vals dvs ds) (hx : Passes CX X E)
    (I : Inv X pins σ H s) (r : Vals vs us) (h : sp (vs ++ dvs) H Q E) : wpAny (model X.prog X.w) X.A (call (.ref f) us) (EP X pins σ Q) X.xe s := by
  have r2 : Vals (vs ++ dvs) (us ++ ds) := r.append hd
  have hl : (us ++ ds).length = ps.length := by rw [← r2.length]; exact F.len _ _ _ _ h
  refine wpAny_call (codeAny_mono (F.run X.A X.stack s H ⟨us, []⟩ (us ++ ds) (vs ++ dvs) Q E hgd hr I.env0 (hb s us I.kIn hl) r2 h) ?_)
  rintro (e | _ | _ | _ | u) s' hq
  · exact hx pins σ H s e s' I hq
  · exact False.elim hq
  · exact False.elim hq
  · exact False.elim hq
  · exact I.after hq
theorem pe_callG (F : FnG X.prog X.w X.K X.mg X.base CX k f fd ps sp) (hgd : X.A.guards = some []) (hr : Room k X.A) (hg : Gl X x) (hm : X.mg x = some (.ref f)) (hk : PySem.W.keepIn X.K (.ref f) = true) (hb : Binds X.K fd ps ds) (hd : Vals dvs ds) (hx : Passes CX X E)
    (ha : PA X (e :: es) t) (hdb : (x == ("__debug__" : Str)) = false := by decide) (he : starEach (e :: es) X.env = (false, eval e X.env) :: starEach es X.env := by rfl)
    (hpl : (backTo pos (starEach es X.env)).any (·.1) = false := by rfl) : PE X (.Call (.Name x p) (e :: es) [] pos) (tCall sp dvs E t) :=
  ⟨fun pins s σ H Q I h => wpAny_Call_Name_kw (ld_glob I hg hm (PySem.W.callWith_K (h₀ := X.base) I.ok.mod.kin hk
    (thn (ha.run pos pins s σ H _ I h) fun us s1 ⟨vs, H1, I1, r, q⟩ => ⟨I1.kIn, run_fnG F hgd hr hb hd hx I1 r q⟩) he hpl) hdb)⟩
variable {g : List Value → List Value → List Value} {gV : List V → List V → List V}
/-- f(k = v, ..) -/
theorem pe_callK0 (F : FnOk X.prog X.w X.K X.mg X.base CX k f fd ps sp) (hr : Room k X.A) (hg : Gl X x) (hm : X.mg x = some (.ref f)) (hk : PySem.W.keepIn X.K (.ref f) = true) (hb : KBinds X.K fd ps ks g gV) (hx : Passes CX X E)
    (hkw : PK X kws tk) (hall : (backToKw pos (keywordEach kws X.env)).all (·.1.isSome) = true := by rfl) (hks : (backToKw pos (keywordEach kws X.env)).filterMap (·.1) = ks := by rfl)
    (hdb : (x == ("__debug__" : Str)) = false := by decide)
    (hpl : ((backTo pos (starEach [] X.env)).any (·.1) || (backToKw pos (keywordEach kws X.env)).any (·.1.isNone)) = false := by rfl) :
    PE X (.Call (.Name x p) [] kws pos) (tCallK sp gV E tNil tk) := by
  refine ⟨fun pins s σ H Q I h => wpAny_Call_Name_kw (ld_glob I hg hm ?_ hdb)⟩
  refine PySem.W.callWith_KW0 (h₀ := X.base) I.ok.mod.kin hk hall ?_ hpl
  refine thn (hkw.run pos pins s σ H _ I h) fun ws s2 ⟨zs, H2, I2, rz, q2⟩ => ⟨I2.kIn, ?_⟩
  rw [hks]
  exact run_fnk (us := []) (vs := []) F hr hb hx I2 .nil rz q2
end
/-! ## the law's end, for a guarded law -/
theorem law_endG {P : Program} {w : World} {K : PySem.W.Frag} {mg mb : Str → Option Value} {k : Nat} {fa a : Addr} {fd : FuncData} {x : Str} {sp : Sp} {s₁ : Shared} {vs : List Value} {ns : List Int}
    (KX : K.In s₁.heap) (hns : s₁.heap.Ns mainGlobals mg) (hb : s₁.heap.Ns builtinsNs mb) (hbb : ∀ x : Str, x ≠ "__name__" → mb x = bootBuiltins x) (hlim : s₁.heap.NoLimit) (hg : s₁.gens = #[])
    (ha : s₁.heap.get? a = some { cls := .type "list", data := .seq vs.toArray }) (hi : IntsAre vs ns) (hl : ns.length ≤ sizeLine) (hr : Room k callerA)
    (F : ∀ base : Heap, K.In base → base.Ns mainGlobals mg → FnG P w K mg base CX0 k fa fd [x] sp) (hbind : ∀ (s : Shared) (u : Value), BindsTo s fd ⟨[u], []⟩ [(x, u)])
    (hsp : ∀ H : Hp, Only H → SqL K H a (ns.map V.int) → sp [.ref a] H (fun v _ => v = .bl true) fun _ _ _ => False) :
    codeAny (model P w) callerA (.call (.ref fa) ⟨[.ref a], []⟩) (fun r s' => r = .ok (.ret (.bool true)) ∧ OldK s₁.heap s'.heap ∧ s'.os = s₁.os ∧ AllBare s'.gens) s₁ := by
  have rv := vals_ints hi
  have lenV := hi.length
  -- the script's own row: tracked (locked), or the module's
  have main : ∀ H : Hp, (∀ b, H b = none ∨ (b = a ∧ K.lookup a = none ∧ H b = some (.frz { cls := .type "list", data := .seq vs.toArray } (.lst (ns.map V.int))))) → SqL K H a (ns.map V.int) →
      codeAny (model P w) callerA (.call (.ref fa) ⟨[.ref a], []⟩) (fun r s' => r = .ok (.ret (.bool true)) ∧ OldK s₁.heap s'.heap ∧ s'.os = s₁.os ∧ AllBare s'.gens) s₁ := by
    intro H hH hS
    have hO : Only H := fun b => (hH b).imp id fun z => ⟨_, _, z.2.2⟩
    have ok : HOk P w H s₁.heap := fun b o e => by
      rcases hH b with z | ⟨rfl, _, z⟩
      · rw [e] at z; cases z
      · rw [e] at z; cases z
        exact ⟨ha, by rw [List.length_map]; exact hl, vs, _, rv, ha⟩
    have free : ∀ {b : Addr} {o : Obj}, s₁.heap.get? b = some o → b ≠ a → H b = none := fun {b o} _ hne => (hH b).resolve_right fun z => hne z.1
    have hKb : K.In (hidT s₁.heap H) := fun b o e => by
      refine hidT_get (KX b o e) ?_
      rcases hH b with z | ⟨rfl, z, _⟩
      · exact z
      · rw [z] at e; cases e
    have nsK : ∀ {b : Addr} {m : Str → Option Value}, s₁.heap.Ns b m → (hidT s₁.heap H).Ns b m := by
      rintro b m ⟨o, es, ep, e, d, r⟩
      refine ⟨o, es, ep, hidT_get e (free e ?_), d, r⟩
      rintro rfl
      rw [ha] at e
      cases e
      exact Data.noConfusion (show Data.seq vs.toArray _ = Data.dict es ep from d)
    have hM : Mod K mg (hidT s₁.heap H) := ⟨hKb, nsK hns, ⟨mb, nsK hb, hbb⟩, hlim.imp fun _ z => ⟨nsK z.1, z.2⟩⟩
    have e0 : Env0 P w K mg (hidT s₁.heap H) callerA [] s₁ H :=
      ⟨rfl, hM, fun _ _ e => of_hidT e, Nat.le_of_eq (hidT_size _ _), trivial, fun b z => absurd (show b ∈ ([] : List Addr) from z) List.not_mem_nil, ok, .of_eq hg⟩
    refine codeAny_mono ((F _ hKb (nsK hns)).run callerA [] s₁ H ⟨[.ref a], []⟩ [.ref a] [.ref a] _ _ rfl hr e0 (hbind s₁ (.ref a)) (.cons rfl .nil) (hsp H hO hS)) ?_
    rintro (e | _ | _ | _ | u) s' h
    · exact False.elim h
    · exact False.elim h
    · exact False.elim h
    · exact False.elim h
    · obtain ⟨v, H', os, bare, un, ok', r', q⟩ := h
      cases (show v = .bl true from q)
      cases (show u = Value.bool true from r')
      refine ⟨rfl, OldK.of_keep fun b o e => ?_, os, bare⟩
      rcases hH b with z | ⟨_, _, z⟩
      · exact un.keep b o e z (fun y => absurd (show b ∈ ([] : List Addr) from y) List.not_mem_nil) (by simp)
      · have z2 := un.frzs b _ _ z
        have e1 := (ok b _ z).1
        have e2 := (ok' b _ z2).1
        rw [e] at e1
        cases e1
        exact e2
  cases hk : K.lookup a with
  | some o =>
    have e := KX a o hk
    rw [ha] at e
    cases e
    exact main (fun _ => none) (fun _ => Or.inl rfl) (Or.inr ⟨_, vs.toArray, _, hk, rfl, rfl, rfl, by rw [List.size_toArray, lenV]; exact hl, by simpa using rv⟩)
  | none =>
    refine main (fun b => if b = a then some (.frz { cls := .type "list", data := .seq vs.toArray } (.lst (ns.map V.int))) else none) (fun b => ?_) (Or.inl (Or.inr ⟨_, if_pos rfl⟩))
    by_cases hb : b = a
    · exact Or.inr ⟨hb, hk, if_pos hb⟩
    · exact Or.inl (if_neg hb)
theorem walkG {l : PySem.W.OpenLaw} {n k : Nat} {q : Program} {loose : List Str} {XP : (Str → Option Value) → Heap → Prop} {YP : World → Heap → Prop} {d : DefRec} {K : Params → PySem.W.Frag} {sp : World → Sp} {x : Str}
    (hn : l.most = some n) (hn2 : n ≤ sizeLine) (hdf : d.params.defaults = []) (hr : Room k callerA) (hY : ∀ (w : World) (h : Heap), YP w h → (K w.params).In h)
    (F : ∀ (w : World) (mg : Str → Option Value) (fa : Addr) (h : Heap), (K w.params).In h → h.Ns mainGlobals mg → mg d.name = some (.ref fa) →
      ∃ fd : FuncData, (∀ (s : Shared) (u : Value), BindsTo s fd ⟨[u], []⟩ [(x, u)]) ∧ ∀ base : Heap, (K w.params).In base → base.Ns mainGlobals mg → FnG l.prog w (K w.params) mg base CX0 k fa fd [x] (sp w))
    (hsp : ∀ (w : World) (H : Hp) (a : Addr) (ns : List Int), ns.length ≤ n → Only H → SqL (K w.params) H a (ns.map V.int) → sp w [.ref a] H (fun v _ => v = .bl true) fun _ _ _ => False) :
    PySem.W.WalkO q loose XP YP l.row.toRowW d [] (fun f vs => PySem.call f vs) :=
  Att.attach_call hn hdf fun w s₀ s₁ mg mb fa o pm cd doc a vs ns G Y ho hd hcd hmg hobj hints hlen hg =>
    let KX := hY w _ Y
    let ⟨fd, hb, hF⟩ := F w mg fa _ KX G.T.g hmg
    law_endG KX G.T.g G.T.b G.T.builtins G.T.nolimit hg hobj hints (Nat.le_trans hlen hn2) hr hF hb fun H hO hS => hsp w H a ns hlen hO hS
end Kt

set_option Elab.async false
set_option linter.all false
set_option maxRecDepth 100000
set_option maxHeartbeats 2000000
namespace Kt
open PySem PySem.Spec PyProof.Rows L2 Evl
/-! ## data that stands still: what a reading evaluates to, as data -/
mutual
theorem dp_mono {K : PySem.W.Frag} {H H' : Hp} (e : Ex H H') : ∀ {v : V} {d : PyData}, Dp K H v d → Dp K H' v d
  | _, _, .non => .non
  | _, _, .bl b => .bl b
  | _, _, .int i => .int i
  | _, _, .str x => .str x
  | _, _, .lst h ha => .lst (ex_l e h) (dpa_mono e ha)
  | _, _, .tup h ha => .tup (ex_t e h) (dpa_mono e ha)
theorem dpa_mono {K : PySem.W.Frag} {H H' : Hp} (e : Ex H H') : ∀ {vs : List V} {ds : List PyData}, DpAll K H vs ds → DpAll K H' vs ds
  | _, _, .nil => .nil
  | _, _, .cons h t => .cons (dp_mono e h) (dpa_mono e t)
end
theorem dpa_len {K : PySem.W.Frag} {H : Hp} : ∀ {vs : List V} {ds : List PyData}, DpAll K H vs ds → vs.length = ds.length
  | _, _, .nil => rfl
  | _, _, .cons _ t => congrArg (· + 1) (dpa_len t)
theorem dpa_app {K : PySem.W.Frag} {H : Hp} : ∀ {vs ws : List V} {ds es : List PyData}, DpAll K H vs ds → DpAll K H ws es → DpAll K H (vs ++ ws) (ds ++ es)
  | _, _, _, _, .nil, k => k
  | _, _, _, _, .cons h t, k => .cons h (dpa_app t k)
theorem dpa_at {K : PySem.W.Frag} {H : Hp} : ∀ {vs : List V} {ds : List PyData} {i : Nat} {d : PyData}, DpAll K H vs ds → ds[i]? = some d → ∃ v, vs[i]? = some v ∧ Dp K H v d
  | _, _, _, _, .nil, e => by simp at e
  | _, _, 0, _, .cons h _, e => by simp at e; subst e; exact ⟨_, rfl, h⟩
  | _, _, i + 1, d, .cons _ t, e => by
    obtain ⟨v, h1, h2⟩ := dpa_at (i := i) (d := d) t (by simpa using e)
    exact ⟨v, by simpa using h1, h2⟩
theorem dpa_at' {K : PySem.W.Frag} {H : Hp} : ∀ {vs : List V} {ds : List PyData} {i : Nat} {v : V}, DpAll K H vs ds → vs[i]? = some v → ∃ d, ds[i]? = some d ∧ Dp K H v d
  | _, _, _, _, .nil, e => by simp at e
  | _, _, 0, _, .cons h _, e => by simp at e; subst e; exact ⟨_, rfl, h⟩
  | _, _, i + 1, d, .cons _ t, e => by
    obtain ⟨v, h1, h2⟩ := dpa_at' (i := i) (v := d) t (by simpa using e)
    exact ⟨v, by simpa using h1, h2⟩
/-- some data | a new list of data | arguments -/
def Ed (K : PySem.W.Frag) (te : TE) (σ : L2.St) (H : Hp) (d : PyData) : Prop := ∀ H1, Ex H H1 → ∀ Q : VK, (∀ v H2, Ex H1 H2 → Dp K H2 v d → Q v H2) → te σ H1 Q
def EdL (K : PySem.W.Frag) (te : TE) (σ : L2.St) (H : Hp) (ds : List PyData) : Prop := ∀ H1, Ex H H1 → ∀ Q : VK, (∀ p xs H2, Ex H1 H2 → H2 p = some (.lst xs) → DpAll K H2 xs ds → Q (.ref p) H2) → te σ H1 Q
def EdA (K : PySem.W.Frag) (ta : TA) (σ : L2.St) (H : Hp) (ds : List PyData) : Prop := ∀ H1, Ex H H1 → ∀ Q : List V → Hp → Prop, (∀ vs H2, Ex H1 H2 → DpAll K H2 vs ds → Q vs H2) → ta σ H1 Q
section
variable {K : PySem.W.Frag} {σ : L2.St} {H H' : Hp} {te tb : TE} {ta : TA} {d : PyData} {ds es : List PyData} {v : V}
theorem ed_of (h : Ev te σ H v) (k : Dp K H v d) : Ed K te σ H d := fun H1 e Q q => h H1 e Q fun H2 e2 => q v H2 e2 (dp_mono (e.trans e2) k)
theorem ed_var {i : Nat} (h : σ[i]? = some (some v)) (k : Dp K H v d) : Ed K (tVar i) σ H d := ed_of (ev_var h) k
theorem ed_non : Ed K (tC .non) σ H .none := ed_of ev_c .non
theorem ed_bl {b : Bool} : Ed K (tC (.bl b)) σ H (.bool b) := ed_of ev_c (.bl b)
theorem ed_int {i : Int} : Ed K (tC (.int i)) σ H (.int i) := ed_of ev_c (.int i)
theorem ed_str {x : Str} : Ed K (tC (.str x)) σ H (.str x) := ed_of ev_c (.str x)
theorem ed_evI {i : Int} (h : Ev te σ H (.int i)) : Ed K te σ H (.int i) := ed_of h (.int i)
theorem ed_evS {x : Str} (h : Ev te σ H (.str x)) : Ed K te σ H (.str x) := ed_of h (.str x)
theorem ed_nil : EdA K tNil σ H [] := fun H1 _ _ q => q [] H1 (Ex.refl _) .nil
theorem ed_mono (e : Ex H H') (h : Ed K te σ H d) : Ed K te σ H' d := fun H1 e1 Q q => h H1 (e.trans e1) Q q
theorem eda_mono (e : Ex H H') (h : EdA K ta σ H ds) : EdA K ta σ H' ds := fun H1 e1 Q q => h H1 (e.trans e1) Q q
theorem edl_mono (e : Ex H H') (h : EdL K te σ H ds) : EdL K te σ H' ds := fun H1 e1 Q q => h H1 (e.trans e1) Q q
theorem ed_cons (h : Ed K te σ H d) (t : EdA K ta σ H ds) : EdA K (tCons te ta) σ H (d :: ds) := fun H1 e Q q =>
  h H1 e _ fun v H2 e2 k => t H2 (e.trans e2) _ fun vs H3 e3 ks => q (v :: vs) H3 (e2.trans e3) (.cons (dp_mono e3 k) ks)
theorem ed_tup (t : EdA K ta σ H ds) (hl : ds.length ≤ 100000) : Ed K (tTup ta) σ H (.tuple ds) := fun H1 e Q q =>
  t H1 e _ fun vs H2 e2 ks => ⟨sz_of (by rw [dpa_len ks]; exact hl), fun p hp => q _ _ (e2.trans (Ex.new hp)) (.tup (st_of upd_same) (dpa_mono (Ex.new hp) ks))⟩
theorem edl_lst (t : EdA K ta σ H ds) (hl : ds.length ≤ 100000) : EdL K (tLst ta) σ H ds := fun H1 e Q q =>
  t H1 e _ fun vs H2 e2 ks => ⟨sz_of (by rw [dpa_len ks]; exact hl), fun p hp => q p vs _ (e2.trans (Ex.new hp)) upd_same (dpa_mono (Ex.new hp) ks)⟩
theorem edl_of (h : EdL K te σ H ds) : Ed K te σ H (.list ds) := fun H1 e Q q => h H1 e Q fun p xs H2 e2 hp k => q _ H2 e2 (.lst (sq_of hp) k)
theorem ed_lst (t : EdA K ta σ H ds) (hl : ds.length ≤ 100000) : Ed K (tLst ta) σ H (.list ds) := edl_of (edl_lst t hl)
theorem edl_var {i : Nat} {p : Addr} {xs : List V} (h : σ[i]? = some (some (.ref p))) (hp : H p = some (.lst xs)) (k : DpAll K H xs ds) : EdL K (tVar i) σ H ds := fun H1 e Q q =>
  ⟨_, h, q p xs H1 (Ex.refl _) (e _ _ hp) (dpa_mono e k)⟩
theorem edl_cat (h : EdL K te σ H ds) (k : EdL K tb σ H es) (hl : ds.length + es.length ≤ 100000) : EdL K (tOp rCat te tb) σ H (ds ++ es) := fun H1 e Q q =>
  h H1 e _ fun p xs H2 e2 hp kp => k H2 (e.trans e2) _ fun r ys H3 e3 hr kr =>
    ⟨p, r, xs, ys, rfl, rfl, e3 _ _ hp, hr, sz_of (by rw [dpa_len kp, dpa_len kr]; exact hl), fun n hn =>
      q n (xs ++ ys) _ ((e2.trans e3).trans (Ex.new hn)) upd_same (dpa_mono (Ex.new hn) (dpa_app (dpa_mono e3 kp) kr))⟩
variable {D : Ends} {tz : TS}
theorem qd_asg {i : Nat} (h : Ed K te σ H d) (k : ∀ v H1, Ex H H1 → Dp K H1 v d → tz D (σ.set i (some v)) H1) : tSeq (tAsg te (gName i)) tz D σ H := h H (Ex.refl H) _ fun v H1 e q => k v H1 e q
theorem qd_asgL {i : Nat} (h : EdL K te σ H ds) (k : ∀ p xs H1, Ex H H1 → H1 p = some (.lst xs) → DpAll K H1 xs ds → tz D (σ.set i (some (.ref p))) H1) : tSeq (tAsg te (gName i)) tz D σ H := h H (Ex.refl H) _ fun p xs H1 e q r => k p xs H1 e q r
end
/-- all but one address stands -/
def Kp (b : Addr) (H H' : Hp) : Prop := ∀ a o, H a = some o → a ≠ b → H' a = some o
theorem Kp.refl (b : Addr) (H : Hp) : Kp b H H := fun _ _ e _ => e
theorem Kp.trans {b : Addr} {H H1 H2 : Hp} (x : Kp b H H1) (y : Kp b H1 H2) : Kp b H H2 := fun a o e n => y a o (x a o e n) n
theorem Kp.of {b : Addr} {H H1 : Hp} (x : Ex H H1) : Kp b H H1 := fun a o e _ => x a o e
theorem Kp.upd (b : Addr) (H : Hp) (o : HO) : Kp b H (upd H b o) := fun a u e n => by rw [upd_ne n]; exact e
theorem Kp.ex {b : Addr} {Hm H H1 : Hp} (x : Kp b H H1) (e : Ex Hm H) (hb : Hm b = none) : Ex Hm H1 := fun a o q => x a o (e a o q) (ne_of_none q hb)
theorem Kp.seq {b a : Addr} {H H1 : Hp} {K : PySem.W.Frag} {xs : List V} (x : Kp b H H1) (h : SqL K H a xs) (hn : a ≠ b) : SqL K H1 a xs := by
  rcases h with (h | ⟨o, h⟩) | h
  · exact Or.inl (Or.inl (x _ _ h hn))
  · exact Or.inl (Or.inr ⟨o, x _ _ h hn⟩)
  · exact Or.inr h

/-! ## texts as lists: what the rules give -/
section
variable {K : PySem.W.Frag} {σ : L2.St} {H : Hp} {te ta tb : TE} {l a b : List Nat}
theorem sz24 {n : Nat} (h : n ≤ 16000000) : n ≤ sizeLine := by rw [sizeLine_eq]; omega
theorem rc_lenS (h : l.length ≤ 16000000) : RC (fun xs H Q => ∃ z, xs = [V.str z] ∧ z.length ≤ sizeLine ∧ Q (.int z.length) H) [.str (S l)] H (.int l.length) := fun H1 _ Q q =>
  ⟨S l, rfl, by rw [S_len]; exact sz24 h, by rw [S_len]; exact q H1 (Ex.refl _)⟩
theorem rv_ixSn {j : Nat} {c : Nat} (h : l.length ≤ 16000000) (ha : l[j]? = some c) : RV rIxS (.str (S l)) (.int (j : Int)) H (.str (S [c])) := fun H1 _ Q q =>
  ⟨S l, j, c, rfl, rfl, by rw [S_len]; exact sz24 h, atI_nat ha, q H1 (Ex.refl _)⟩
theorem rv_inS {c : Nat} {z : Str} : RV (fun x y H Q => ∃ (c : Nat) (z : Str), x = .str ⟨#[c]⟩ ∧ y = .str z ∧ Q (.bl (decide (c ∈ z.cps.toList))) H) (.str (S [c])) (.str z) H (.bl (decide (c ∈ z.cps.toList))) := fun H1 _ Q q =>
  ⟨c, z, rfl, rfl, q H1 (Ex.refl _)⟩
theorem rv_notInS {c : Nat} {z : Str} : RV (fun x y H Q => ∃ (c : Nat) (z : Str), x = .str ⟨#[c]⟩ ∧ y = .str z ∧ Q (.bl (!decide (c ∈ z.cps.toList))) H) (.str (S [c])) (.str z) H (.bl (!decide (c ∈ z.cps.toList))) := fun H1 _ Q q =>
  ⟨c, z, rfl, rfl, q H1 (Ex.refl _)⟩
theorem rv_addS (h : a.length + b.length ≤ 16000000) : RV (fun x y H Q => ∃ i j, x = V.str i ∧ y = V.str j ∧ i.length + j.length ≤ sizeLine ∧ Q (.str (i ++ j)) H) (.str (S a)) (.str (S b)) H (.str (S (a ++ b))) := fun H1 _ Q q =>
  ⟨S a, S b, rfl, rfl, by rw [S_len, S_len]; exact sz24 h, by rw [S_app]; exact q H1 (Ex.refl _)⟩
theorem rv_mulS {n : Int} (hn : n ≤ 100000) (hlo : -1000000 ≤ n) (h : a.length * n.toNat ≤ 16777216) : RV rMulS (.str (S a)) (.int n) H (.str (S (List.replicate n.toNat a).flatten)) := fun H1 _ Q q =>
  ⟨S a, n, rfl, rfl, hn, hlo, by rw [S_len]; exact h, by
    have e : Txt.mul (S a) n = S (List.replicate n.toNat a).flatten := str_ext (mul_list _ _)
    rw [e]
    exact q H1 (Ex.refl _)⟩
/-- the part of a list that a slice cuts out -/
def cut (l : List Nat) (lo hi : Option Int) : List Nat := (l.drop (HT.sIx l.length 0 lo)).take (HT.sIx l.length l.length hi - HT.sIx l.length 0 lo)
theorem cutS_S (l : List Nat) (lo hi : Option Int) : cutS (S l) lo hi = S (cut l lo hi) := by
  apply str_ext
  unfold cutS cut
  rw [S_len]
  rfl
theorem cut_nn {l : List Nat} {i j : Nat} : cut l (some (i : Int)) (some (j : Int)) = (l.drop i).take (j - i) := by
  unfold cut
  rw [HT.sIx_nat, HT.sIx_nat]
  by_cases hi : i ≤ l.length
  · rw [Nat.min_eq_left hi]
    by_cases hj : j ≤ l.length
    · rw [Nat.min_eq_left hj]
    · have h1 : min j l.length = l.length := Nat.min_eq_right (by omega)
      rw [h1, List.take_of_length_le (by rw [List.length_drop]; omega), List.take_of_length_le (by rw [List.length_drop]; omega)]
  · have h1 : min i l.length = l.length := Nat.min_eq_right (by omega)
    rw [h1, List.drop_of_length_le (Nat.le_refl _), List.drop_of_length_le (by omega)]
    simp
theorem cut_n {l : List Nat} {i : Nat} : cut l (some (i : Int)) none = l.drop i := by
  unfold cut
  rw [HT.sIx_nat, HT.sIx_none]
  by_cases hi : i ≤ l.length
  · rw [Nat.min_eq_left hi, List.take_of_length_le (by rw [List.length_drop]; omega)]
  · have h1 : min i l.length = l.length := Nat.min_eq_right (by omega)
    rw [h1, List.drop_of_length_le (Nat.le_refl _), List.drop_of_length_le (by omega)]
    simp
theorem cut_to {l : List Nat} {j : Nat} : cut l none (some (j : Int)) = l.take j := by
  unfold cut
  rw [HT.sIx_nat, HT.sIx_none, Nat.sub_zero, List.drop_zero]
  by_cases hj : j ≤ l.length
  · rw [Nat.min_eq_left hj]
  · have h1 : min j l.length = l.length := Nat.min_eq_right (by omega)
    rw [h1, List.take_of_length_le (Nat.le_refl _), List.take_of_length_le (by omega)]
theorem cut_le (l : List Nat) (lo hi : Option Int) : (cut l lo hi).length ≤ l.length := by
  unfold cut
  rw [List.length_take, List.length_drop]
  omega
theorem ev_slS {tl th : TO} {lo hi : Option Int} (h : Ev te σ H (.str (S l))) (h1 : EvO tl σ H lo) (h2 : EvO th σ H hi) (hl : l.length ≤ 16000000) : Ev (tSl rSlS te tl th) σ H (.str (S (cut l lo hi))) := fun H1 e Q q =>
  h H1 e _ fun H2 e2 => h1 H2 (e.trans e2) _ fun H3 e3 => h2 H3 ((e.trans e2).trans e3) _ fun H4 e4 =>
    ⟨S l, rfl, by rw [S_len]; exact sz24 hl, by rw [cutS_S]; exact q H4 ((e2.trans e3).trans e4)⟩
theorem rv_eqS : RV rEq (.str (S a)) (.str (S b)) H (.bl (decide (a = b))) := fun H1 _ Q q => ⟨rfl, by
  have e : decide (V.str (S a) = V.str (S b)) = decide (a = b) := by
    by_cases h : a = b
    · subst h; simp
    · have h2 : ¬ V.str (S a) = V.str (S b) := fun z => h (S_inj (V.str.inj z))
      rw [decide_eq_false h, decide_eq_false h2]
  rw [e]
  exact q H1 (Ex.refl _)⟩
theorem rv_neS : RV rNe (.str (S a)) (.str (S b)) H (.bl (!decide (a = b))) := fun H1 _ Q q => ⟨rfl, by
  have e : decide (V.str (S a) = V.str (S b)) = decide (a = b) := by
    by_cases h : a = b
    · subst h; simp
    · have h2 : ¬ V.str (S a) = V.str (S b) := fun z => h (S_inj (V.str.inj z))
      rw [decide_eq_false h, decide_eq_false h2]
  rw [e]
  exact q H1 (Ex.refl _)⟩
theorem rv_eqI {i j : Int} : RV rEq (.int i) (.int j) H (.bl (decide (i = j))) := fun H1 _ Q q => ⟨rfl, by
  have e : decide (V.int i = V.int j) = decide (i = j) := by
    by_cases h : i = j
    · subst h; simp
    · rw [decide_eq_false h, decide_eq_false (fun z => h (V.int.inj z))]
  rw [e]
  exact q H1 (Ex.refl _)⟩
theorem rv_neI {i j : Int} : RV rNe (.int i) (.int j) H (.bl (!decide (i = j))) := fun H1 _ Q q => ⟨rfl, by
  have e : decide (V.int i = V.int j) = decide (i = j) := by
    by_cases h : i = j
    · subst h; simp
    · rw [decide_eq_false h, decide_eq_false (fun z => h (V.int.inj z))]
  rw [e]
  exact q H1 (Ex.refl _)⟩
/-- a written text, as a list -/
theorem ev_cS {x : Str} (h : x.cps.toList = l) : Ev (tC (.str x)) σ H (.str (S l)) := by
  have e : x = S l := str_ext h
  rw [e]
  exact ev_c
end
end Kt

set_option Elab.async false
set_option linter.all false
set_option maxRecDepth 100000
set_option maxHeartbeats 2000000
namespace Kt
open PySem PySem.Spec PyProof.Rows L2 Evl
/-! ## comprehensions that change nothing, and loops, over what is walked -/
theorem take_more {α : Type} {ys : List α} {i : Nat} {x : α} (h : ys[i]? = some x) : ys.take (i + 1) = ys.take i ++ [x] := by
  have hi := (List.getElem?_eq_some_iff.mp h)
  obtain ⟨h1, h2⟩ := hi
  rw [List.take_succ, List.getElem?_eq_getElem h1, h2]
  rfl
theorem mem_of_at {α : Type} {ys : List α} {i : Nat} {x : α} (h : ys[i]? = some x) : x ∈ ys := List.mem_of_getElem? h
section
variable {K : PySem.W.Frag} {σ : L2.St} {H : Hp} {t : TT} {te tl : TE} {j : Nat} {vs : List Nat} {J : It} {G : Hp → Prop} {Y : Nat → Hp → V → Hp → Prop} {ys : List V} {Qd : Hp → Prop}
theorem lcG (w : Walk J ys.length G Y) (hy : ∀ i H x H', i < ys.length → Y i H x H' → H' = H ∧ ys[i]? = some x) (f : V → Bool) (g : V → V) (hz : ys.length ≤ 90000)
    (hw : ∀ x, wipe ((wipe σ vs).set j (some x)) vs = wipe σ vs) (hG : ∀ H', Ex H H' → G H')
    (ht : ∀ x, x ∈ ys → ∀ H1, Ex H H1 → EvT t ((wipe σ vs).set j (some x)) H1 (f x)) (he : ∀ x, x ∈ ys → f x = true → ∀ H1, Ex H H1 → Ev te ((wipe σ vs).set j (some x)) H1 (g x))
    {Dl : Addr} (hD : H Dl = none) (q : ∀ H', Ex H H' → H' Dl = some (.lst ((ys.filter f).map g)) → Qd H') :
    ∃ W : Nat → Nat → Hp → Prop, (∃ m, W 0 m (upd H Dl (.lst []))) ∧ ∀ i m H, W i m H →
      (J.stop i H ∧ Qd H) ∨ (J.go i H ∧ ∃ Nx : Hp → Prop, (∀ H', Nx H' → ∃ m', m' < m ∧ W (i + 1) m' H') ∧ ∀ x H', J.yld i H x H' → gName j x (wipe σ vs) H' fun σ2 H2 => wipe σ2 vs = wipe σ vs ∧ t σ2 H2 fun b H3 =>
        if b = true then te σ2 H3 fun y H4 => ∃ acc, H4 Dl = some (.lst acc) ∧ acc.length < sizeLine ∧ Nx (upd H4 Dl (.lst (acc ++ [y]))) else Nx H3) := by
  refine lc_it w (Pv := fun i H' => Ex H H' ∧ H' Dl = some (.lst (((ys.take i).filter f).map g))) ⟨Ex.new hD, upd_same⟩ (fun i H' _ p => hG H' p.1) ?_ (fun H' p => ?_)
  · rintro i x H1 H2 hi ⟨e, hd⟩ y
    obtain ⟨rfl, hx⟩ := hy i H1 x H2 hi y
    refine ⟨hw x, ht x (mem_of_at hx) H2 e H2 (Ex.refl _) _ fun H3 e3 => ?_⟩
    have hl : (((ys.take i).filter f).map g).length < 100000 := by
      rw [List.length_map]
      have h1 := List.length_filter_le f (ys.take i)
      rw [List.length_take] at h1
      omega
    cases hf : f x with
    | true =>
      rw [if_pos rfl]
      refine he x (mem_of_at hx) hf H3 (e.trans e3) H3 (Ex.refl _) _ fun H4 e4 => ⟨_, e4 _ _ (e3 _ _ hd), sz_lt hl, Ex.mut ((e.trans e3).trans e4) hD, ?_⟩
      rw [upd_same, take_more hx, List.filter_append, List.map_append]
      simp [hf]
    | false =>
      rw [if_neg Bool.false_ne_true]
      refine ⟨e.trans e3, ?_⟩
      rw [take_more hx, List.filter_append]
      simp [hf]
      have := e3 _ _ hd
      simpa using this
  · obtain ⟨e, hd⟩ := p
    rw [List.take_length] at hd
    exact q H' e hd
/-- [e for c in s if t], s a text -/
theorem el_lcS {z : Str} (f : V → Bool) (g : V → V) (h : Ev tl σ H (.str z)) (hz : z.cps.size ≤ 90000) (hw : ∀ x, wipe ((wipe σ vs).set j (some x)) vs = wipe σ vs)
    (ht : ∀ c, c ∈ z.cps.toList → ∀ H1, Ex H H1 → EvT t ((wipe σ vs).set j (some (.str (S [c])))) H1 (f (.str (S [c])))) (he : ∀ c, c ∈ z.cps.toList → f (.str (S [c])) = true → ∀ H1, Ex H H1 → Ev te ((wipe σ vs).set j (some (.str (S [c])))) H1 (g (.str (S [c])))) :
    EvL (tLc (iStr tl) (gName j) t te vs) σ H (((z.cps.toList.map fun c => V.str (S [c])).filter f).map g) := fun H0 e Q q => h H0 e _ fun H1 e1 => by
  refine ⟨z, rfl, fun Dl hD => ?_⟩
  have w := walk_str (z := z)
  have hlen : z.cps.size = (z.cps.toList.map fun c => V.str (S [c])).length := by simp
  rw [hlen] at w
  refine lcG (H := H1) (Qd := fun H' => Q (.ref Dl) H') w ?_ f g (by rw [← hlen]; exact hz) hw (fun _ _ => trivial) ?_ ?_ hD (fun H' e' hd => q Dl H' (fresh_back e1 hD) (e1.trans e') hd)
  · rintro i H2 x H3 hi ⟨rfl, c, hc, rfl⟩
    refine ⟨rfl, ?_⟩
    rw [List.getElem?_map, Array.getElem?_toList, hc]
    rfl
  · intro x hx H2 e2
    obtain ⟨c, hc, rfl⟩ := List.mem_map.mp hx
    exact ht c hc H2 ((e.trans e1).trans e2)
  · intro x hx hf H2 e2
    obtain ⟨c, hc, rfl⟩ := List.mem_map.mp hx
    exact he c hc hf H2 ((e.trans e1).trans e2)
/-- the same over a list, a tuple that is read -/
theorem el_lcL' {a : Addr} {xs : List V} (f : V → Bool) (g : V → V) (h : Ev tl σ H (.ref a)) (hx : SqL K H a xs) (hz : xs.length ≤ 90000) (hw : ∀ x, wipe ((wipe σ vs).set j (some x)) vs = wipe σ vs)
    (ht : ∀ x, x ∈ xs → ∀ H1, Ex H H1 → EvT t ((wipe σ vs).set j (some x)) H1 (f x)) (he : ∀ x, x ∈ xs → f x = true → ∀ H1, Ex H H1 → Ev te ((wipe σ vs).set j (some x)) H1 (g x)) :
    EvL (tLc (iList K tl) (gName j) t te vs) σ H ((xs.filter f).map g) := fun H0 e Q q => h H0 e _ fun H1 e1 => by
  refine ⟨a, rfl, ⟨xs, ex_l (e.trans e1) hx⟩, fun Dl hD => ?_⟩
  exact lcG (H := H1) (Qd := fun H' => Q (.ref Dl) H') walk_list (fun i H2 x H3 hi y => y) f g hz hw (fun H' e' => ex_l ((e.trans e1).trans e') hx) (fun x hx' H2 e2 => ht x hx' H2 ((e.trans e1).trans e2))
    (fun x hx' hf H2 e2 => he x hx' hf H2 ((e.trans e1).trans e2)) hD (fun H' e' hd => q Dl H' (fresh_back e1 hD) (e1.trans e') hd)
theorem el_lcT' {a : Addr} {xs : List V} (f : V → Bool) (g : V → V) (h : Ev tl σ H (.ref a)) (hx : SqT K H a xs) (hz : xs.length ≤ 90000) (hw : ∀ x, wipe ((wipe σ vs).set j (some x)) vs = wipe σ vs)
    (ht : ∀ x, x ∈ xs → ∀ H1, Ex H H1 → EvT t ((wipe σ vs).set j (some x)) H1 (f x)) (he : ∀ x, x ∈ xs → f x = true → ∀ H1, Ex H H1 → Ev te ((wipe σ vs).set j (some x)) H1 (g x)) :
    EvL (tLc (iTup K tl) (gName j) t te vs) σ H ((xs.filter f).map g) := fun H0 e Q q => h H0 e _ fun H1 e1 => by
  refine ⟨a, rfl, ⟨xs, ex_t (e.trans e1) hx⟩, fun Dl hD => ?_⟩
  exact lcG (H := H1) (Qd := fun H' => Q (.ref Dl) H') walk_tup (fun i H2 x H3 hi y => y) f g hz hw (fun H' e' => ex_t ((e.trans e1).trans e') hx) (fun x hx' H2 e2 => ht x hx' H2 ((e.trans e1).trans e2))
    (fun x hx' hf H2 e2 => he x hx' hf H2 ((e.trans e1).trans e2)) hD (fun H' e' hd => q Dl H' (fresh_back e1 hD) (e1.trans e') hd)
/-- over a list that is made there -/
theorem el_lcN' {xs : List V} (f : V → Bool) (g : V → V) (h : EvL tl σ H xs) (hz : xs.length ≤ 90000) (hw : ∀ x, wipe ((wipe σ vs).set j (some x)) vs = wipe σ vs)
    (ht : ∀ x, x ∈ xs → ∀ H1, Ex H H1 → EvT t ((wipe σ vs).set j (some x)) H1 (f x)) (he : ∀ x, x ∈ xs → f x = true → ∀ H1, Ex H H1 → Ev te ((wipe σ vs).set j (some x)) H1 (g x)) :
    EvL (tLc (iList K tl) (gName j) t te vs) σ H ((xs.filter f).map g) := fun H0 e Q q => h H0 e _ fun a H1 ha e1 hx => by
  refine ⟨a, rfl, ⟨xs, sq_of hx⟩, fun Dl hD => ?_⟩
  exact lcG (H := H1) (Qd := fun H' => Q (.ref Dl) H') (walk_list (K := K)) (fun i H2 x H3 hi y => y) f g hz hw (fun H' e' => sq_of (e' _ _ hx)) (fun x hx' H2 e2 => ht x hx' H2 ((e.trans e1).trans e2))
    (fun x hx' hf H2 e2 => he x hx' hf H2 ((e.trans e1).trans e2)) hD (fun H' e' hd => q Dl H' (fresh_back e1 hD) (e1.trans e') hd)
theorem et_yes : EvT tYes σ H true := fun H1 _ _ q => q H1 (Ex.refl _)
theorem filt_yes {α : Type} (l : List α) : l.filter (fun _ => true) = l := List.filter_eq_self.mpr fun _ _ => rfl
/-- all(list of bools), any(..) -/
theorem ev_allN {bs : List Bool} (h : EvL te σ H (bs.map V.bl)) : Ev (tCB (rAll K) (tCons te tNil)) σ H (.bl (bs.all id)) := fun H1 e Q q => h H1 e _ fun p H2 hp e2 h2 => ⟨p, bs, rfl, sq_of h2, q H2 e2⟩
theorem ev_anyN {bs : List Bool} (h : EvL te σ H (bs.map V.bl)) : Ev (tCB (rAny K) (tCons te tNil)) σ H (.bl (bs.any id)) := fun H1 e Q q => h H1 e _ fun p H2 hp e2 h2 => ⟨p, bs, rfl, sq_of h2, q H2 e2⟩
end
/-! ## values that are only looked at by their class -/
/-- a sign that a text may have -/
def okC (c : Nat) : Bool := decide (c = 9 ∨ c = 10 ∨ (32 ≤ c ∧ c < 127 ∧ c ≠ 37))
theorem okC_lt {c : Nat} (h : okC c = true) : c < 128 := by
  have := of_decide_eq_true h
  omega
inductive AnyV (H : Hp) : V → Prop
  | non : AnyV H .non
  | bl (b : Bool) : AnyV H (.bl b)
  | int (i : Int) : AnyV H (.int i)
  | str (x : Str) (h : x.length ≤ 50000) (a : ∀ c ∈ x.cps.toList, okC c = true) : AnyV H (.str x)
  | lst {p : Addr} {xs : List V} (h : H p = some (.lst xs)) : AnyV H (.ref p)
  | tup {p : Addr} {xs : List V} (h : H p = some (.tup xs)) : AnyV H (.ref p)
theorem AnyV.mono {H H' : Hp} {v : V} (h : AnyV H v) (e : Ex H H') : AnyV H' v := by
  cases h with
  | non => exact .non
  | bl b => exact .bl b
  | int i => exact .int i
  | str x h a => exact .str x h a
  | lst h => exact .lst (e _ _ h)
  | tup h => exact .tup (e _ _ h)
def isStr : V → Bool
  | .str _ => true
  | _ => false
def isInt : V → Bool
  | .int _ => true
  | _ => false
def isBool : V → Bool
  | .bl _ => true
  | _ => false
section
variable {K : PySem.W.Frag} {H : Hp} {v : V}
theorem rc_isi {t : String} {T : String} {b : Bool} (h : ∀ H1, Ex H H1 → TyX K H1 v (.type t)) (hk : kitB t T = some b) : RC (rIsi K) [v, .ty T] H (.bl b) := fun H1 e Q q =>
  ⟨v, .ty T, _, _, b, rfl, ClsV.ty T, h H1 e, kit_ty hk, q H1 (Ex.refl _)⟩
theorem rc_isStr (h : AnyV H v) : RC (rIsi K) [v, .ty "str"] H (.bl (isStr v)) := by
  cases h with
  | non => exact rc_isi (fun _ _ => .base .non) (show kitB "NoneType" "str" = some false by decide +kernel)
  | bl b => exact rc_isi (fun _ _ => .base (.bl b)) (show kitB "bool" "str" = some false by decide +kernel)
  | int i => exact rc_isi (fun _ _ => .base (.int i)) (show kitB "int" "str" = some false by decide +kernel)
  | str x h a => exact rc_isi (fun _ _ => .base (.str x)) (show kitB "str" "str" = some true by decide +kernel)
  | lst h => exact rc_isi (fun _ e => .base (.lst (e _ _ h))) (show kitB "list" "str" = some false by decide +kernel)
  | tup h => exact rc_isi (fun _ e => .base (.tup (e _ _ h))) (show kitB "tuple" "str" = some false by decide +kernel)
end

theorem AnyV.short {H : Hp} {x : Str} (h : AnyV H (.str x)) : x.length ≤ 50000 := by cases h; assumption
theorem AnyV.okc {H : Hp} {x : Str} (h : AnyV H (.str x)) : ∀ c ∈ x.cps.toList, okC c = true := by cases h; assumption
theorem AnyV.asc {H : Hp} {x : Str} (h : AnyV H (.str x)) : ∀ c ∈ x.cps.toList, c < 128 := fun c hc => okC_lt (h.okc c hc)
theorem AnyV.kp {b : Addr} {H H' : Hp} {v : V} {xs : List V} (h : AnyV H v) (k : Kp b H H') (hb : H' b = some (.lst xs)) : AnyV H' v := by
  cases h with
  | non => exact .non
  | bl b => exact .bl b
  | int i => exact .int i
  | str x h a => exact .str x h a
  | @lst p ys h =>
    by_cases e : p = b
    · subst e; exact .lst hb
    · exact .lst (k _ _ h e)
  | @tup p ys h =>
    by_cases e : p = b
    · subst e; exact .lst hb
    · exact .tup (k _ _ h e)
/-- what evaluates to some such value | a new list of such | arguments -/
def En (te : TE) (σ : L2.St) (H : Hp) : Prop := ∀ H1, Ex H H1 → ∀ Q : VK, (∀ v H2, Ex H1 H2 → AnyV H2 v → Q v H2) → te σ H1 Q
def EnL (te : TE) (σ : L2.St) (H : Hp) (n : Nat) : Prop := ∀ H1, Ex H H1 → ∀ Q : VK, (∀ p xs H2, H1 p = none → Ex H1 H2 → H2 p = some (.lst xs) → xs.length = n → (∀ v ∈ xs, AnyV H2 v) → Q (.ref p) H2) → te σ H1 Q
def EnA (ta : TA) (σ : L2.St) (H : Hp) (n : Nat) : Prop := ∀ H1, Ex H H1 → ∀ Q : List V → Hp → Prop, (∀ vs H2, Ex H1 H2 → vs.length = n → (∀ v ∈ vs, AnyV H2 v) → Q vs H2) → ta σ H1 Q
section
variable {σ : L2.St} {H H' : Hp} {te tb : TE} {ta : TA} {v : V} {n m : Nat}
theorem en_of (h : Ev te σ H v) (k : AnyV H v) : En te σ H := fun H1 e Q q => h H1 e Q fun H2 e2 => q v H2 e2 (k.mono (e.trans e2))
theorem en_c (k : AnyV H v) : En (tC v) σ H := en_of ev_c k
theorem ena_nil : EnA tNil σ H 0 := fun H1 _ _ q => q [] H1 (Ex.refl _) rfl (fun _ h => absurd h List.not_mem_nil)
theorem ena_cons (h : En te σ H) (t : EnA ta σ H n) : EnA (tCons te ta) σ H (n + 1) := fun H1 e Q q =>
  h H1 e _ fun v H2 e2 k => t H2 (e.trans e2) _ fun vs H3 e3 l ks => q (v :: vs) H3 (e2.trans e3) (by simp [l]) fun w hw => by
    rcases List.mem_cons.mp hw with r | r
    · rw [r]; exact k.mono e3
    · exact ks w r
theorem en_tup (t : EnA ta σ H n) (hl : n ≤ 100000) : En (tTup ta) σ H := fun H1 e Q q =>
  t H1 e _ fun vs H2 e2 l ks => ⟨sz_of (by rw [l]; exact hl), fun p hp => q _ _ (e2.trans (Ex.new hp)) (.tup upd_same)⟩
theorem enl_lst (t : EnA ta σ H n) (hl : n ≤ 100000) : EnL (tLst ta) σ H n := fun H1 e Q q =>
  t H1 e _ fun vs H2 e2 l ks => ⟨sz_of (by rw [l]; exact hl), fun p hp => q p vs _ (fresh_back e2 hp) (e2.trans (Ex.new hp)) upd_same l fun w hw => (ks w hw).mono (Ex.new hp)⟩
theorem en_ofL (h : EnL te σ H n) : En te σ H := fun H1 e Q q => h H1 e Q fun p xs H2 _ e2 hp _ _ => q _ H2 e2 (.lst hp)
theorem en_lst (t : EnA ta σ H n) (hl : n ≤ 100000) : En (tLst ta) σ H := en_ofL (enl_lst t hl)
theorem enl_cat (h : EnL te σ H n) (k : EnL tb σ H m) (hl : n + m ≤ 100000) : EnL (tOp rCat te tb) σ H (n + m) := fun H1 e Q q =>
  h H1 e _ fun p xs H2 _ e2 hp lp kp => k H2 (e.trans e2) _ fun r ys H3 _ e3 hr lr kr =>
    ⟨p, r, xs, ys, rfl, rfl, e3 _ _ hp, hr, sz_of (by rw [lp, lr]; exact hl), fun x hx =>
      q x (xs ++ ys) _ (fresh_back (e2.trans e3) hx) ((e2.trans e3).trans (Ex.new hx)) upd_same (by rw [List.length_append, lp, lr]) fun w hw => by
        rcases List.mem_append.mp hw with z | z
        · exact (kp w z).mono (e3.trans (Ex.new hx))
        · exact (kr w z).mono (Ex.new hx)⟩
/-- a local list that is read (not new): as the left or the right of + -/
theorem enl_cat1 {i : Nat} {p : Addr} {xs : List V} (h : σ[i]? = some (some (.ref p))) (hp : H p = some (.lst xs)) (hx : ∀ v ∈ xs, AnyV H v) (k : EnL tb σ H m) (ln : xs.length = n) (hl : n + m ≤ 100000) : EnL (tOp rCat (tVar i) tb) σ H (n + m) := fun H1 e Q q =>
  ⟨_, h, k H1 e _ fun r ys H3 _ e3 hr lr kr => ⟨p, r, xs, ys, rfl, rfl, e3 _ _ (e _ _ hp), hr, sz_of (by rw [lr, ln]; exact hl), fun x hn =>
    q x (xs ++ ys) _ (fresh_back e3 hn) (e3.trans (Ex.new hn)) upd_same (by rw [List.length_append, lr, ln]) fun w hw => by
      rcases List.mem_append.mp hw with z | z
      · exact (hx w z).mono ((e.trans e3).trans (Ex.new hn))
      · exact (kr w z).mono (Ex.new hn)⟩⟩
theorem enl_cat2 {i : Nat} {p : Addr} {xs : List V} (k : EnL tb σ H m) (h : σ[i]? = some (some (.ref p))) (hp : H p = some (.lst xs)) (hx : ∀ v ∈ xs, AnyV H v) (ln : xs.length = n) (hl : m + n ≤ 100000) : EnL (tOp rCat tb (tVar i)) σ H (m + n) := fun H1 e Q q =>
  k H1 e _ fun r ys H3 _ e3 hr lr kr => ⟨_, h, r, p, ys, xs, rfl, rfl, hr, e3 _ _ (e _ _ hp), sz_of (by rw [lr, ln]; exact hl), fun x hn =>
    q x (ys ++ xs) _ (fresh_back e3 hn) (e3.trans (Ex.new hn)) upd_same (by rw [List.length_append, lr, ln]) fun w hw => by
      rcases List.mem_append.mp hw with z | z
      · exact (kr w z).mono (Ex.new hn)
      · exact (hx w z).mono ((e.trans e3).trans (Ex.new hn))⟩
variable {D : Ends} {tz : TS}
theorem qn_asgL {i : Nat} (h : EnL te σ H n) (k : ∀ p xs H1, H p = none → Ex H H1 → H1 p = some (.lst xs) → xs.length = n → (∀ v ∈ xs, AnyV H1 v) → tz D (σ.set i (some (.ref p))) H1) : tSeq (tAsg te (gName i)) tz D σ H :=
  h H (Ex.refl H) _ fun p xs H1 a b c d e => k p xs H1 a b c d e
end
/-! texts and their methods -/
section
variable {K : PySem.W.Frag} {σ : L2.St} {H : Hp} {te to : TE}
theorem el_split {a b : Str} (h : Ev to σ H (.str a)) (k : Ev te σ H (.str b)) (hb : (b.length == 0) = false) (ha : a.length + 2 ≤ 16000000) :
    EvL (tM1 (fun x xs H Q => ∃ a b, x = V.str a ∧ xs = [.str b] ∧ (b.length == 0) = false ∧ a.length + 2 ≤ sizeLine ∧ rNewStrs (Txt.split a b) H Q) to te) σ H ((Txt.split a b).map V.str) := fun H1 e Q q =>
  h H1 e _ fun H2 e2 => ⟨⟨a, rfl⟩, k H2 (e.trans e2) _ fun H3 e3 => ⟨a, b, rfl, rfl, hb, sz24 ha, fun p hp => q p _ (fresh_back (e2.trans e3) hp) ((e2.trans e3).trans (Ex.new hp)) upd_same⟩⟩
theorem rv_isBl {a b : Bool} : RV (fun x y H Q => ∃ a b, x = V.bl a ∧ y = .bl b ∧ Q (.bl (decide (a = b))) H) (.bl a) (.bl b) H (.bl (decide (a = b))) := fun H1 _ Q q => ⟨a, b, rfl, rfl, q H1 (Ex.refl _)⟩
theorem rv_isnotBl {a b : Bool} : RV (fun x y H Q => ∃ a b, x = V.bl a ∧ y = .bl b ∧ Q (.bl (!decide (a = b))) H) (.bl a) (.bl b) H (.bl (!decide (a = b))) := fun H1 _ Q q => ⟨a, b, rfl, rfl, q H1 (Ex.refl _)⟩
end
end Kt

set_option Elab.async false
set_option linter.all false
set_option maxRecDepth 100000
set_option maxHeartbeats 2000000
namespace Kt
open PySem PySem.Spec PyProof.Rows L2 Evl
/-! ## the bag of numbers that a law draws from -/
structure BgOk (d m c : Int) : Prop where
  d0 : 0 ≤ d
  m0 : 0 ≤ m
  m1 : m < 2147483647
  c0 : 0 ≤ c
abbrev bgo (d m c : Int) : HO := .lst [.int d, .int m, .int c]
theorem mod_lt (x : Int) {n : Int} (h : 0 < n) : 0 ≤ x % n ∧ x % n < n := ⟨Int.emod_nonneg _ (by omega), Int.emod_lt_of_pos _ h⟩
theorem nat64 {x : Int} (h : 0 ≤ x) (h2 : x < 18446744073709551616) : x.natAbs < 2 ^ 64 := by omega
/-- the bag at b is a bag, from which no more than c have been drawn -/
def Bag (H : Hp) (b : Addr) (c : Int) : Prop := ∃ d m c', H b = some (bgo d m c') ∧ BgOk d m c' ∧ c' ≤ c
theorem Bag.mono {H : Hp} {b : Addr} {c c' : Int} (h : Bag H b c) (hc : c ≤ c') : Bag H b c' := by
  obtain ⟨d, m, x, h1, h2, h3⟩ := h
  exact ⟨d, m, x, h1, h2, by omega⟩
theorem Bag.ex {H H' : Hp} {b : Addr} {c : Int} (h : Bag H b c) (e : Ex H H') : Bag H' b c := by
  obtain ⟨d, m, x, h1, h2, h3⟩ := h
  exact ⟨d, m, x, e _ _ h1, h2, h3⟩
theorem Bag.lst {H : Hp} {b : Addr} {c : Int} (h : Bag H b c) : ∃ xs, H b = some (.lst xs) := by
  obtain ⟨d, m, x, h1, h2, h3⟩ := h
  exact ⟨_, h1⟩
theorem Bag.upd {H : Hp} {b p : Addr} {c : Int} {o : HO} (h : Bag H b c) (hp : b ≠ p) : Bag (upd H p o) b c := by
  obtain ⟨d, m, x, h1, h2, h3⟩ := h
  exact ⟨d, m, x, by rw [upd_ne hp]; exact h1, h2, h3⟩
theorem Bag.ne {H : Hp} {b p : Addr} {c : Int} (h : Bag H b c) (hp : H p = none) : b ≠ p := by
  obtain ⟨d, m, x, h1, h2, h3⟩ := h
  exact ne_of_none h1 hp
theorem join0 : ∀ ys : List (List Nat), Txt.join (S []) (ys.map S) = S ys.flatten := fun ys => by
  rw [TL.join_eq]
  induction ys with
  | nil => rfl
  | cons y r ih =>
    cases r with
    | nil => show S y = _; simp
    | cons z r =>
      show S y ++ S [] ++ Str.join (S []) ((z :: r).map S) = _
      rw [ih, S_app, S_app]
      simp
theorem sum_len_flat : ∀ ys : List (List Nat), (ys.map (·.length)).sum = ys.flatten.length
  | [] => rfl
  | y :: r => by rw [List.map_cons, List.sum_cons, sum_len_flat r, List.flatten_cons, List.length_append]
section
variable {K : PySem.W.Frag} {σ : L2.St} {H : Hp} {te : TE} {ta : TA} {j n : Nat} {vs : List Nat} {b : Addr} {c0 : Int} {Q : VK}
/-- [e for k in range(n)], where e draws up to s numbers from the bag at b, and gives what PV tells -/
theorem lcB {s : Int} (PV : V → Prop) (hn : n ≤ 90000) (hw : ∀ x, wipe ((wipe σ vs).set j (some x)) vs = wipe σ vs) (hb : Bag H b c0)
    (he : ∀ (i : Nat) (c : Int) (H1 : Hp), i < n → c ≤ c0 + i * s → Kp b H H1 → Bag H1 b c → ∀ Q : VK, (∀ v H2, Kp b H1 H2 → Bag H2 b (c + s) → PV v → Q v H2) → te ((wipe σ vs).set j (some (.int i))) H1 Q)
    (q : ∀ (D : Addr) (xs : List V) (H' : Hp), H D = none → Kp b H H' → Bag H' b (c0 + n * s) → H' D = some (.lst xs) → xs.length = n → (∀ v ∈ xs, PV v) → Q (.ref D) H') :
    ∀ D, H D = none → ∃ W : Nat → Nat → Hp → Prop, (∃ m, W 0 m (upd H D (.lst []))) ∧ ∀ i m H, W i m H →
      ((Itr 0 n).stop i H ∧ Q (.ref D) H) ∨ ((Itr 0 n).go i H ∧ ∃ Nx : Hp → Prop, (∀ H', Nx H' → ∃ m', m' < m ∧ W (i + 1) m' H') ∧ ∀ x H', (Itr 0 n).yld i H x H' → gName j x (wipe σ vs) H' fun σ2 H2 => wipe σ2 vs = wipe σ vs ∧ tYes σ2 H2 fun b H3 =>
        if b = true then te σ2 H3 fun y H4 => ∃ acc, H4 D = some (.lst acc) ∧ acc.length < sizeLine ∧ Nx (upd H4 D (.lst (acc ++ [y]))) else Nx H3) := by
  intro D hD
  have bD := hb.ne hD
  refine lc_range (lo := 0) (n := n) (fun i H' => ∃ xs, Kp b H H' ∧ Bag H' b (c0 + i * s) ∧ H' D = some (.lst xs) ∧ xs.length = i ∧ ∀ v ∈ xs, PV v) ⟨[], Kp.of (Ex.new hD), ?_, upd_same, rfl, fun _ h => absurd h List.not_mem_nil⟩ ?_ (fun H' p => ?_)
  · refine (hb.upd bD).mono ?_
    simp
  · rintro i H1 hi ⟨xs, kp, bg, hd, hl, hv⟩
    have e0 : (0 : Int) + (i : Int) = (i : Int) := Int.zero_add _
    show wipe ((wipe σ vs).set j (some (.int (0 + (i : Int))))) vs = wipe σ vs ∧ te ((wipe σ vs).set j (some (.int (0 + (i : Int))))) H1 fun y H4 => ∃ acc, H4 D = some (.lst acc) ∧ acc.length < sizeLine ∧ _
    rw [e0]
    refine ⟨hw _, he i _ H1 hi (Int.le_refl _) kp bg _ fun v H2 k2 b2 pv => ⟨xs, k2 _ _ hd (Ne.symm bD), sz_lt (by omega), xs ++ [v], ?_, ?_, upd_same, by simp [hl], fun w hw' => ?_⟩⟩
    · intro a o e ne
      rw [upd_ne (ne_of_none e hD)]
      exact (kp.trans k2) a o e ne
    · refine (b2.upd bD).mono ?_
      have : ((i + 1 : Nat) : Int) * s = i * s + s := by
        rw [Int.natCast_add, Int.add_mul]
        simp
      omega
    · rcases List.mem_append.mp hw' with z | z
      · exact hv w z
      · rw [List.mem_singleton.mp z]; exact pv
  · obtain ⟨xs, kp, bg, hd, hl, hv⟩ := p
    exact q D xs H' hD kp bg hd hl hv
end

/-- a number from 0 to below n, drawn from the bag at b -/
def spTake : Sp := fun vs H Q _ => ∃ (b : Addr) (n c : Int), vs = [.ref b, .int n] ∧ Bag H b c ∧ c ≤ 1000000000 ∧ 0 < n ∧ n ≤ 1000000 ∧
  ∀ (r : Int) (H' : Hp), 0 ≤ r → r < n → Kp b H H' → Bag H' b (c + 1) → Q (.int r) H'
/-- a list of numbers at s, a place i: a bag, new -/
def spBag (K : PySem.W.Frag) : Sp := fun vs H Q _ => ∃ (s : Addr) (i : Int) (ns : List Int), vs = [.ref s, .int i] ∧ SqL K H s (ns.map V.int) ∧ 0 ≤ i ∧ i ≤ 1000 ∧
  ∀ (p : Addr) (H' : Hp), H p = none → Ex H H' → Bag H' p 0 → Q (.ref p) H'
section
variable {K : PySem.W.Frag} {σ : L2.St} {H : Hp} {t1 t2 : TE} {b : Addr} {c n : Int} {Q : VK} {E : XK}
theorem Kp.exx {b : Addr} {H H1 H2 : Hp} (x : Ex H H1) (y : Kp b H1 H2) : Kp b H H2 := (Kp.of x).trans y
theorem rd_take (h1 : Ev t1 σ H (.ref b)) (h2 : Ev t2 σ H (.int n)) (hb : Bag H b c) (hc : c ≤ 1000000000) (n0 : 0 < n) (n1 : n ≤ 1000000)
    (k : ∀ (r : Int) (H' : Hp), 0 ≤ r → r < n → Kp b H H' → Bag H' b (c + 1) → Q (.int r) H') : tCall spTake [] E (tCons t1 (tCons t2 tNil)) σ H Q :=
  h1 H (Ex.refl _) _ fun H1 e1 => h2 H1 e1 _ fun H2 e2 => ⟨b, n, c, rfl, hb.ex (e1.trans e2), hc, n0, n1, fun r H' r0 r1 kp bg => k r H' r0 r1 (Kp.exx (e1.trans e2) kp) bg⟩
/-- xs[take(bag, n)], xs a list of n items or more -/
theorem rd_pick {tl : TE} {p : Addr} {xs : List V} (h0 : Ev tl σ H (.ref p)) (h1 : Ev t1 σ H (.ref b)) (h2 : Ev t2 σ H (.int n)) (hp : SqL K H p xs) (nb : p ≠ b) (hb : Bag H b c) (hc : c ≤ 1000000000) (n0 : 0 < n) (n1 : n ≤ 1000000) (hn : n ≤ xs.length)
    (k : ∀ (v : V) (H' : Hp), v ∈ xs → Kp b H H' → Bag H' b (c + 1) → Q v H') : tOp (rIxL K) tl (tCall spTake [] E (tCons t1 (tCons t2 tNil))) σ H Q :=
  h0 H (Ex.refl _) _ fun H1 e1 => by
    refine rd_take (fun H' e' => h1 H' (e1.trans e')) (fun H' e' => h2 H' (e1.trans e')) (hb.ex e1) hc n0 n1 fun r H' r0 r1 kp bg => ?_
    have hr : r.toNat < xs.length := by omega
    have ha : atI xs r = some xs[r.toNat] := by
      have := atI_nat (List.getElem?_eq_getElem hr)
      rw [Int.toNat_of_nonneg r0] at this
      exact this
    exact ⟨p, xs, r, _, rfl, rfl, kp.seq (ex_l e1 hp) nb, ha, k _ H' (List.getElem_mem hr) (Kp.exx e1 kp) bg⟩
/-- [..][take(bag, n)], the list made there -/
theorem rd_pickN {tl : TE} {xs : List V} (h0 : EvL tl σ H xs) (h1 : Ev t1 σ H (.ref b)) (h2 : Ev t2 σ H (.int n)) (hb : Bag H b c) (hc : c ≤ 1000000000) (n0 : 0 < n) (n1 : n ≤ 1000000) (hn : n ≤ xs.length)
    (k : ∀ (v : V) (H' : Hp), v ∈ xs → Kp b H H' → Bag H' b (c + 1) → Q v H') : tOp (rIxL K) tl (tCall spTake [] E (tCons t1 (tCons t2 tNil))) σ H Q :=
  h0 H (Ex.refl _) _ fun p H1 hp e1 hx => by
    refine rd_take (fun H' e' => h1 H' (e1.trans e')) (fun H' e' => h2 H' (e1.trans e')) (hb.ex e1) hc n0 n1 fun r H' r0 r1 kp bg => ?_
    have hr : r.toNat < xs.length := by omega
    have ha : atI xs r = some xs[r.toNat] := by
      have := atI_nat (List.getElem?_eq_getElem hr)
      rw [Int.toNat_of_nonneg r0] at this
      exact this
    exact ⟨p, xs, r, _, rfl, rfl, SqL.of (kp _ _ hx (hb.ne hp).symm), ha, k _ H' (List.getElem_mem hr) (Kp.exx e1 kp) bg⟩
theorem strs_of {P : List Nat → Prop} : ∀ {xs : List V}, (∀ v ∈ xs, ∃ z, v = .str (S z) ∧ P z) → ∃ zs : List (List Nat), xs = zs.map (fun z => V.str (S z)) ∧ ∀ z ∈ zs, P z
  | [], _ => ⟨[], rfl, fun _ h => absurd h List.not_mem_nil⟩
  | v :: r, h => by
    obtain ⟨z, hz, pz⟩ := h v List.mem_cons_self
    obtain ⟨zs, h1, h2⟩ := strs_of (xs := r) fun w hw => h w (List.mem_cons_of_mem _ hw)
    refine ⟨z :: zs, by rw [hz, h1]; rfl, fun w hw => ?_⟩
    rcases List.mem_cons.mp hw with e | e
    · rw [e]; exact pz
    · exact h2 w e
theorem flat_len {m : Nat} : ∀ {zs : List (List Nat)}, (∀ z ∈ zs, z.length ≤ m) → zs.flatten.length ≤ zs.length * m
  | [], _ => by simp
  | z :: r, h => by
    have h1 := h z List.mem_cons_self
    have h2 := flat_len (zs := r) fun w hw => h w (List.mem_cons_of_mem _ hw)
    rw [List.flatten_cons, List.length_append, List.length_cons, Nat.add_mul]
    omega
abbrev rJoin (K : PySem.W.Frag) : V → List V → Hp → VK → Prop := fun x xs H Q => ∃ a p, ∃ ys : List Str, x = .str a ∧ xs = [.ref p] ∧ (SqL K H p (ys.map V.str) ∨ SqT K H p (ys.map V.str)) ∧ (ys.map (·.length)).sum + ys.length * a.length ≤ 16777216 ∧ Q (.str (Txt.join a ys)) H
theorem rd_join0 {zs : List (List Nat)} {D : Addr} {a : Str} (ha : a.cps.toList = []) (h : H D = some (.lst (zs.map fun z => V.str (S z)))) (hl : zs.flatten.length ≤ 16000000) (k : Q (.str (S zs.flatten)) H) : rJoin K (.str a) [.ref D] H Q := by
  have e : a = S [] := str_ext ha
  subst e
  refine ⟨S [], D, zs.map S, rfl, rfl, Or.inl (SqL.of ?_), ?_, ?_⟩
  · rw [h, List.map_map]; rfl
  · have e : ((zs.map S).map (·.length)) = zs.map (·.length) := by
      rw [List.map_map]
      exact List.map_congr_left fun z _ => S_len z
    rw [e, sum_len_flat, S_len, show ([] : List Nat).length = 0 from rfl, Nat.mul_zero]
    omega
  · rw [join0]; exact k
/-- ''.join([e for k in range(take(bag, n))]), where e draws one text -/
theorem rd_joined {te : TE} {j m : Nat} {vs : List Nat} {a : Str} (P : List Nat → Prop) (hP : ∀ z, P z → z.length ≤ m) (ha : a.cps.toList = []) (h1 : Ev t1 σ H (.ref b)) (h2 : Ev t2 σ H (.int n)) (hb : Bag H b c) (hc : c ≤ 900000000) (n0 : 0 < n) (n1 : n ≤ 1000) (hm : m ≤ 10000)
    (hw : ∀ x, wipe ((wipe σ vs).set j (some x)) vs = wipe σ vs) {s : Int} (s0 : 0 ≤ s) (s1 : s ≤ 1000)
    (he : ∀ (i : Nat) (c' : Int) (H1 : Hp), (i : Int) < n → c' ≤ c + 1 + n * s → Kp b H H1 → Bag H1 b c' → ∀ Q : VK, (∀ z H2, Kp b H1 H2 → Bag H2 b (c' + s) → P z → Q (.str (S z)) H2) → te ((wipe σ vs).set j (some (.int i))) H1 Q)
    (k : ∀ (zs : List (List Nat)) (H' : Hp), (zs.length : Int) < n → (∀ z ∈ zs, P z) → Kp b H H' → Bag H' b (c + 1 + n * s) → Q (.str (S zs.flatten)) H') :
    tM1 (rJoin K) (tC (.str a)) (tLc (iRng1 (tCons (tCall spTake [] E (tCons t1 (tCons t2 tNil))) tNil)) (gName j) tYes te vs) σ H Q := by
  refine ⟨⟨_, rfl⟩, rd_take h1 h2 hb (by omega) n0 (by omega) fun r H1 r0 r1 kp bg => ⟨r, rfl, by omega, by omega, ?_⟩⟩
  have mono : ∀ i : Nat, (i : Int) ≤ n → (i : Int) * s ≤ n * s := fun i hi => Int.mul_le_mul_of_nonneg_right hi s0
  refine lcB (n := r.toNat) (s := s) (c0 := c + 1) (Q := fun y H2 => rJoin K (.str a) [y] H2 Q) (fun v => ∃ z, v = .str (S z) ∧ P z) (by omega) hw bg (fun i c' H2 hi hc' kp2 bg2 Q' q' => ?_) (fun D xs H2 hD kp2 bg2 hd hl hv => ?_)
  · exact he i c' H2 (by omega) (by have := mono i (by omega); omega) (kp.trans kp2) bg2 Q' fun z H3 kp3 bg3 pz => q' _ H3 kp3 bg3 ⟨z, rfl, pz⟩
  · obtain ⟨zs, rfl, hz⟩ := strs_of hv
    rw [List.length_map] at hl
    have hf := flat_len (m := m) fun z hz' => hP z (hz z hz')
    have : zs.length * m ≤ 1000 * 10000 := Nat.mul_le_mul (by omega) hm
    exact rd_join0 ha hd (by omega) (k zs H2 (by omega) hz (kp.trans kp2) (bg2.mono (by have := mono r.toNat (by omega); omega)))
end
/-- repr of data -/
theorem ev_repr {K : PySem.W.Frag} {σ : L2.St} {H : Hp} {te : TE} {d : PyData} (h : Ed K te σ H d) (hs : d.showable = true) (hd : d.depth ≤ 60) (hl : d.shown.length ≤ sizeLine) : Ev (tCB (rReprD K) (tCons te tNil)) σ H (.str d.shown) := fun H1 e Q q =>
  h H1 e _ fun v H2 e2 k => ⟨v, d, rfl, k, hs, hd, hl, q H2 e2⟩
theorem ev_callK {sp : Sp} {gV : List V → List V → List V} {E : XK} {tk : TA} {zs : List V} {z : V} {σ : L2.St} {H : Hp} (h : EvA tk σ H zs) (hs : SpV sp (gV [] zs) H z) : Ev (tCallK sp gV E tNil tk) σ H z := fun H1 e Q q =>
  h H1 e _ fun H2 e2 => hs H2 (e.trans e2) Q (fun H3 e3 => q H3 (e2.trans e3)) E
theorem kb1 {K : PySem.W.Frag} {fd : FuncData} {p : Str} (h1 : ∀ w, bindArgs fd ⟨[], [(p, w)]⟩ = pure [(p, w)]) (h2 : ∀ u, bindArgs fd ⟨[u], []⟩ = pure [(p, u)]) : KBinds K fd [p] [p] (fun us ws => us ++ ws) (fun us ws => us ++ ws) where
  to := fun s us ws _ h => by
    rcases us with _ | ⟨u, us⟩
    · rcases ws with _ | ⟨w, ws⟩
      · simp at h
      · rcases ws with _ | ⟨x, ws⟩
        · exact .of_eq (h1 w)
        · simp at h
    · rcases us with _ | ⟨x, us⟩
      · rcases ws with _ | ⟨w, ws⟩
        · exact .of_eq (h2 u)
        · simp at h
      · simp at h
  rel := fun r z => r.append z

theorem ena_go {σ : L2.St} {H : Hp} {ta : TA} {n : Nat} {Q : List V → Hp → Prop} (h : EnA ta σ H n) (k : ∀ vs H2, Ex H H2 → vs.length = n → (∀ v ∈ vs, AnyV H2 v) → Q vs H2) : ta σ H Q := h H (Ex.refl _) Q k
theorem AnyV.upd {H : Hp} {p : Addr} {v : V} {xs ys : List V} (h : AnyV H v) : AnyV (L2.upd H p (.lst ys)) v := h.kp (Kp.upd p H _) upd_same
end Kt

set_option Elab.async false
set_option linter.all false
set_option maxRecDepth 100000
set_option maxHeartbeats 2000000
namespace Kt
open PySem PySem.Spec PyProof.Rows L2 Evl
/-! ## texts: where a sign stands first; lower, upper; min of a list; comprehensions over a text that draw -/
section
open PySem.StrLaws PySem.Builtin PySem.Builtin.Str
theorem occ_full (s sub : Str) (hi : Nat) (x : Array Nat) (hx : 1 ≤ x.size) : ∀ (l : List Nat) (f : Nat), (forIn l (x, f) (occBody s sub hi 1)).run.fst = x
  | [], _ => rfl
  | a :: l, f => by
    rw [List.forIn_cons]
    unfold occBody
    rw [if_neg (fun h => absurd h.1.1.1 (by show ¬ x.size < 1; omega))]
    exact occ_full s sub hi x hx l f
theorem occ_found (s sub : Str) (hi : Nat) : ∀ (l : List Nat) (f : Nat), (∀ i ∈ l, f ≤ i) → (forIn l ((#[] : Array Nat), f) (occBody s sub hi 1)).run.fst.toList = (l.find? fun i => decide (i + sub.length ≤ hi ∧ subAt s sub i = true)).toList
  | [], _, _ => rfl
  | a :: l, f, hf => by
    rw [List.forIn_cons]
    have ha : f ≤ a := hf a List.mem_cons_self
    by_cases hc : a + sub.length ≤ hi ∧ subAt s sub a = true
    · rw [List.find?_cons_of_pos (p := fun i => decide (i + sub.length ≤ hi ∧ subAt s sub i = true)) (decide_eq_true hc)]
      unfold occBody
      rw [if_pos ⟨⟨⟨Nat.zero_lt_one, ha⟩, hc.1⟩, hc.2⟩]
      show (forIn l (#[a], a + sub.length) (occBody s sub hi 1)).run.fst.toList = [a]
      rw [occ_full s sub hi #[a] (Nat.le_refl _)]
    · rw [List.find?_cons_of_neg (p := fun i => decide (i + sub.length ≤ hi ∧ subAt s sub i = true)) (by show ¬ decide _ = true; rw [decide_eq_false hc]; exact Bool.false_ne_true)]
      unfold occBody
      rw [if_neg (fun h => hc ⟨h.1.2, h.2⟩)]
      exact occ_found s sub hi l f fun i hi' => hf i (List.mem_cons_of_mem _ hi')
theorem occ_first {l : List Nat} {c j : Nat} (h : l[j]? = some c) (hno : ∀ k, k < j → l[k]? ≠ some c) : occurrences (S l) (S [c]) 0 (S l).length 1 = [j] := by
  rw [occ_eq, occ_found _ _ _ _ _ fun _ _ => Nat.zero_le _]
  have e : (List.range' 0 ((S l).length + 1 - 0)).find? (fun i => decide (i + (S [c]).length ≤ (S l).length ∧ subAt (S l) (S [c]) i = true)) = some j := by
    rw [List.find?_range'_eq_some]
    refine ⟨decide_eq_true ((subAt_one (S l) c j).mpr h), ?_, fun k _ hk => ?_⟩
    · have := (List.getElem?_eq_some_iff.mp h).1
      rw [List.mem_range'_1, S_len]
      omega
    · have : ¬ (k + (S [c]).length ≤ (S l).length ∧ subAt (S l) (S [c]) k = true) := fun z => hno k hk ((subAt_one (S l) c k).mp z)
      rw [decide_eq_false this]
      rfl
  rw [e]
  rfl
end
section
variable {K : PySem.W.Frag} {σ : L2.St} {H : Hp} {te ta tb to : TE} {l : List Nat}
theorem ev_index {c j : Nat} (h : Ev to σ H (.str (S l))) (k : Ev te σ H (.str (S [c]))) (hj : l[j]? = some c) (hno : ∀ k, k < j → l[k]? ≠ some c) :
    Ev (tM1 (fun x xs H Q => ∃ a b i rest, x = V.str a ∧ xs = [.str b] ∧ Builtin.Str.occurrences a b 0 a.length 1 = i :: rest ∧ Q (.int (i : Nat)) H) to te) σ H (.int (j : Int)) := fun H1 e Q q =>
  h H1 e _ fun H2 e2 => ⟨⟨_, rfl⟩, k H2 (e.trans e2) _ fun H3 e3 => ⟨S l, S [c], j, [], rfl, rfl, occ_first hj hno, q H3 (e2.trans e3)⟩⟩
/-- text[n:n + m] | text[n:] | text[:n] | sign * m -/
theorem ev_slNN {n : Nat} (m : Nat) (h : Ev te σ H (.str (S l))) (h1 : Ev ta σ H (.int (n : Int))) (h2 : Ev tb σ H (.int ((n : Int) + (m : Int)))) (hl : l.length ≤ 16000000) : Ev (tSl rSlS te (tPart ta) (tPart tb)) σ H (.str (S ((l.drop n).take m))) := by
  have q := ev_slS h (eo_some h1) (eo_some h2) hl
  have e : ((n : Int) + (m : Int)) = ((n + m : Nat) : Int) := by omega
  rw [e, cut_nn, Nat.add_sub_cancel_left] at q
  exact q
theorem ev_slN {n : Nat} (h : Ev te σ H (.str (S l))) (h1 : Ev ta σ H (.int (n : Int))) (hl : l.length ≤ 16000000) : Ev (tSl rSlS te (tPart ta) tNoPart) σ H (.str (S (l.drop n))) := by
  have q := ev_slS h (eo_some h1) eo_none hl
  rw [cut_n] at q
  exact q
theorem ev_slTo {n : Nat} (h : Ev te σ H (.str (S l))) (h1 : Ev ta σ H (.int (n : Int))) (hl : l.length ≤ 16000000) : Ev (tSl rSlS te tNoPart (tPart ta)) σ H (.str (S (l.take n))) := by
  have q := ev_slS h eo_none (eo_some h1) hl
  rw [cut_to] at q
  exact q
theorem rep1 (q k : Nat) : (List.replicate k [q]).flatten = List.replicate k q := by
  induction k with
  | zero => rfl
  | succ k ih => rw [List.replicate_succ, List.flatten_cons, ih]; rfl
theorem ev_mulC {q : Nat} (m : Nat) (h : Ev te σ H (.str (S [q]))) (hm : m ≤ 100000) : Ev (tOp rMulS te (tC (.int (m : Int)))) σ H (.str (S (List.replicate m q))) := by
  have h := ev_op h (ev_c (v := V.int (m : Int))) (rv_mulS (a := [q]) (n := (m : Int)) (by omega) (by omega) (by simp; omega))
  rw [Int.toNat_natCast, rep1] at h
  exact h
theorem lower_S (h : ∀ c ∈ l, c < 128) : Txt.lower (S l) = S (l.map lo1) := by
  rw [lower_ascii (x := S l) h]
  apply str_ext
  show ((S l).cps.map lo1).toList = _
  simp [S]
theorem upper_S (h : ∀ c ∈ l, c < 128) : Txt.upper (S l) = S (l.map up1) := by
  rw [upper_ascii (x := S l) h]
  apply str_ext
  show ((S l).cps.map up1).toList = _
  simp [S]
theorem ev_lower (h : Ev to σ H (.str (S l))) (ha : ∀ c ∈ l, c < 128) (hl : l.length ≤ 5000000) : Ev (tM0 (fun x xs H Q => ∃ a, x = V.str a ∧ xs = [] ∧ a.length ≤ 5592405 ∧ Q (.str (Txt.lower a)) H) to) σ H (.str (S (l.map lo1))) := fun H1 e Q q =>
  h H1 e _ fun H2 e2 => ⟨⟨_, rfl⟩, S l, rfl, rfl, by rw [S_len]; omega, by rw [lower_S ha]; exact q H2 e2⟩
theorem ev_upper (h : Ev to σ H (.str (S l))) (ha : ∀ c ∈ l, c < 128) (hl : l.length ≤ 5000000) : Ev (tM0 (fun x xs H Q => ∃ a, x = V.str a ∧ xs = [] ∧ a.length ≤ 5592405 ∧ Q (.str (Txt.upper a)) H) to) σ H (.str (S (l.map up1))) := fun H1 e Q q =>
  h H1 e _ fun H2 e2 => ⟨⟨_, rfl⟩, S l, rfl, rfl, by rw [S_len]; omega, by rw [upper_S ha]; exact q H2 e2⟩
theorem up1_lt {c : Nat} (h : c < 128) : up1 c < 128 := by unfold up1; split <;> omega
theorem lo1_lt {c : Nat} (h : c < 128) : lo1 c < 128 := by unfold lo1; split <;> omega
theorem ev_min {p : Addr} {ns : List Int} {m : Int} (h : Ev te σ H (.ref p)) (hs : SqL K H p (ns.map V.int)) (hm : m ∈ ns) (ht : ∀ y ∈ ns, m ≤ y) : Ev (tCB (rMin K) (tCons te tNil)) σ H (.int m) := fun H1 e Q q =>
  h H1 e _ fun H2 e2 => ⟨p, ns, rfl, ex_l (e.trans e2) hs, List.length_pos_of_mem hm, fun m' h1 h2 => by
    have : m' = m := by have := h2 m hm; have := ht m' h1; omega
    rw [this]
    exact q H2 e2⟩
theorem ev_eqD {d e : PyData} (h : Ed K ta σ H d) (k : Ed K tb σ H e) (sd : SeqAt.shaped d = true) (se : SeqAt.shaped e = true) : Ev (tOp (rEqD K) ta tb) σ H (.bl (PyData.eqv d e)) := fun H1 e1 Q q =>
  h H1 e1 _ fun v H2 e2 r1 => k H2 (e1.trans e2) _ fun w H3 e3 r2 => ⟨d, e, dp_mono e3 r1, r2, sd, se, q H3 (e2.trans e3)⟩
theorem ev_neD {d e : PyData} (h : Ed K ta σ H d) (k : Ed K tb σ H e) (sd : SeqAt.shaped d = true) (se : SeqAt.shaped e = true) : Ev (tOp (rNeD K) ta tb) σ H (.bl (!PyData.eqv d e)) := fun H1 e1 Q q =>
  h H1 e1 _ fun v H2 e2 r1 => k H2 (e1.trans e2) _ fun w H3 e3 r2 => ⟨d, e, dp_mono e3 r1, r2, sd, se, q H3 (e2.trans e3)⟩
theorem ev_intB {b : Bool} (h : Ev te σ H (.bl b)) : Ev (tCB (fun xs H Q => (∃ i, xs = [V.int i] ∧ Q (.int i) H) ∨ ∃ k, xs = [.bl k] ∧ Q (.int (if k then 1 else 0)) H) (tCons te tNil)) σ H (.int (if b then 1 else 0)) := fun H1 e Q q =>
  h H1 e _ fun H2 e2 => Or.inr ⟨b, rfl, q H2 e2⟩
theorem s_par {D : Ends} {i j : Nat} {v w : V} (h1 : Ev ta σ H v) (h2 : Ev tb σ H w) (k : ∀ H1, Ex H H1 → D.nx ((σ.set i (some v)).set j (some w)) H1) : tPar i j (tCons ta (tCons tb tNil)) D σ H :=
  ea_cons h1 (ea_cons h2 ea_nil) H (Ex.refl _) _ fun H1 e => ⟨v, w, rfl, k H1 e⟩
theorem q_par {D : Ends} {tz : TS} {i j : Nat} {v w : V} (h1 : Ev ta σ H v) (h2 : Ev tb σ H w) (k : ∀ H1, Ex H H1 → tz D ((σ.set i (some v)).set j (some w)) H1) : tSeq (tPar i j (tCons ta (tCons tb tNil))) tz D σ H :=
  s_par (D := { D with nx := tz D }) h1 h2 k
variable {t : TT} {j : Nat} {vs : List Nat} {tl : TE}
/-- over a tuple that is made there -/
theorem el_lcU {xs : List V} (f : V → Bool) (g : V → V) (h : EvU tl σ H xs) (hz : xs.length ≤ 90000) (hw : ∀ x, wipe ((wipe σ vs).set j (some x)) vs = wipe σ vs)
    (ht : ∀ x, x ∈ xs → ∀ H1, Ex H H1 → EvT t ((wipe σ vs).set j (some x)) H1 (f x)) (he : ∀ x, x ∈ xs → f x = true → ∀ H1, Ex H H1 → Ev te ((wipe σ vs).set j (some x)) H1 (g x)) :
    EvL (tLc (iTup K tl) (gName j) t te vs) σ H ((xs.filter f).map g) := fun H0 e Q q => h H0 e _ fun a H1 ha e1 hx => by
  refine ⟨a, rfl, ⟨xs, st_of hx⟩, fun Dl hD => ?_⟩
  exact lcG (H := H1) (Qd := fun H' => Q (.ref Dl) H') (walk_tup (K := K)) (fun i H2 x H3 hi y => y) f g hz hw (fun H' e' => st_of (e' _ _ hx)) (fun x hx' H2 e2 => ht x hx' H2 ((e.trans e1).trans e2))
    (fun x hx' hf H2 e2 => he x hx' hf H2 ((e.trans e1).trans e2)) hD (fun H' e' hd => q Dl H' (fresh_back e1 hD) (e1.trans e') hd)
variable {b : Addr} {c0 : Int} {Q : VK}
/-- [e for c in text], where e draws up to s numbers from the bag at b -/
theorem lcBS {s : Int} (s0 : 0 ≤ s) (PV : V → Prop) (h : Ev tl σ H (.str (S l))) (hn : l.length ≤ 90000) (hw : ∀ x, wipe ((wipe σ vs).set j (some x)) vs = wipe σ vs) (hb : Bag H b c0)
    (he : ∀ (x : Nat) (c : Int) (H1 : Hp), x ∈ l → c ≤ c0 + l.length * s → Kp b H H1 → Bag H1 b c → ∀ Q : VK, (∀ v H2, Kp b H1 H2 → Bag H2 b (c + s) → PV v → Q v H2) → te ((wipe σ vs).set j (some (.str (S [x])))) H1 Q)
    (q : ∀ (D : Addr) (xs : List V) (H' : Hp), H D = none → Kp b H H' → Bag H' b (c0 + l.length * s) → H' D = some (.lst xs) → xs.length = l.length → (∀ v ∈ xs, PV v) → Q (.ref D) H') :
    tLc (iStr tl) (gName j) tYes te vs σ H Q := h H (Ex.refl _) _ fun H0 e0 => by
  refine ⟨S l, rfl, fun D hD => ?_⟩
  have bD := (hb.ex e0).ne hD
  have w := walk_str (z := S l)
  have hlen : (S l).cps.size = l.length := by simp [S]
  rw [hlen] at w
  refine lc_it w (Pv := fun i H' => ∃ xs, Kp b H H' ∧ Bag H' b (c0 + i * s) ∧ H' D = some (.lst xs) ∧ xs.length = i ∧ ∀ v ∈ xs, PV v) ⟨[], (Kp.of e0).trans (Kp.of (Ex.new hD)), ?_, upd_same, rfl, fun _ h => absurd h List.not_mem_nil⟩ (fun _ _ _ _ => trivial) ?_ (fun H' p => ?_)
  · refine ((hb.ex e0).upd bD).mono ?_
    simp
  · rintro i x H1 H2 hi ⟨xs, kp, bg, hd, hl, hv⟩ ⟨rfl, c, hc, rfl⟩
    have hc' : c ∈ l := by
      have : l[i]? = some c := by
        have := hc
        simpa [S] using this
      exact List.mem_of_getElem? this
    have m1 : (i : Int) * s ≤ l.length * s := Int.mul_le_mul_of_nonneg_right (by omega) s0
    refine ⟨hw _, he c _ H2 hc' (by omega) kp bg _ fun v H3 k2 b2 pv => ⟨xs, k2 _ _ hd (Ne.symm bD), sz_lt (by omega), xs ++ [v], ?_, ?_, upd_same, by simp [hl], fun w hw' => ?_⟩⟩
    · intro a o e ne
      by_cases z : a = D
      · subst z
        exact absurd (e0 _ _ e) (by rw [hD]; exact fun y => nomatch y)
      · rw [upd_ne z]
        exact (kp.trans k2) a o e ne
    · refine (b2.upd bD).mono ?_
      have : ((i + 1 : Nat) : Int) * s = i * s + s := by
        rw [Int.natCast_add, Int.add_mul]
        simp
      omega
    · rcases List.mem_append.mp hw' with z | z
      · exact hv w z
      · rw [List.mem_singleton.mp z]; exact pv
  · obtain ⟨xs, kp, bg, hd, hl, hv⟩ := p
    exact q D xs H' (fresh_back e0 hD) kp bg hd hl hv
end
/-! ## runs of signs -/
theorem tw_lt {α : Type} {p : α → Bool} : ∀ {l : List α} {i : Nat}, i < (l.takeWhile p).length → ∃ c, l[i]? = some c ∧ p c = true
  | [], _, h => absurd h (by simp)
  | c :: r, i, h => by
    rw [List.takeWhile_cons] at h
    cases hc : p c with
    | false => rw [hc, if_neg Bool.false_ne_true] at h; exact absurd h (by simp)
    | true =>
      rw [hc, if_pos rfl] at h
      cases i with
      | zero => exact ⟨c, rfl, hc⟩
      | succ k => exact tw_lt (l := r) (i := k) (by simpa using h)
theorem tw_stop {α : Type} {p : α → Bool} : ∀ {l : List α} {c : α}, l[(l.takeWhile p).length]? = some c → p c = false
  | [], c, h => by simp at h
  | d :: r, c, h => by
    rw [List.takeWhile_cons] at h
    cases hc : p d with
    | false =>
      rw [hc, if_neg Bool.false_ne_true] at h
      have : d = c := by simpa using h
      rw [← this]; exact hc
    | true =>
      rw [hc, if_pos rfl] at h
      exact tw_stop (l := r) (by simpa using h)
theorem tw_eq {α : Type} {p : α → Bool} {l : List α} {k : Nat} {c : α} (h : ∀ i, i < k → ∃ d, l[i]? = some d ∧ p d = true) (hc : l[k]? = some c) (pc : p c = false) : (l.takeWhile p).length = k := by
  rcases Nat.lt_trichotomy (l.takeWhile p).length k with z | z | z
  · obtain ⟨d, h1, h2⟩ := h _ z
    rw [tw_stop h1] at h2
    cases h2
  · exact z
  · obtain ⟨d, h1, h2⟩ := tw_lt z
    rw [hc] at h1
    cases h1
    rw [pc] at h2
    cases h2
theorem tw_le {α : Type} (p : α → Bool) (l : List α) : (l.takeWhile p).length ≤ l.length := (List.takeWhile_prefix p).length_le
theorem take_at {α : Type} {l : List α} {n : Nat} {c : α} (h : c ∈ l.take n) : ∃ i, i < n ∧ l[i]? = some c := by
  obtain ⟨i, hi⟩ := List.mem_iff_getElem?.mp h
  rw [List.getElem?_take] at hi
  split at hi
  · exact ⟨i, ‹_›, hi⟩
  · cases hi
/-- ints as data -/
theorem dpa_ints {K : PySem.W.Frag} {H : Hp} : ∀ ns : List Int, DpAll K H (ns.map V.int) (ns.map PyData.int)
  | [] => .nil
  | n :: r => .cons (.int n) (dpa_ints r)
/-! ## drawn texts: no longer than n, of ASCII signs -/
def Asc (z : List Nat) : Prop := ∀ c ∈ z, c < 128
def Tz (n : Nat) (v : V) : Prop := ∃ z, v = .str (S z) ∧ z.length ≤ n ∧ Asc z
def tzB (n : Nat) : V → Bool
  | .str x => decide (x.cps.toList.length ≤ n) && x.cps.toList.all fun c => decide (c < 128)
  | _ => false
theorem tz_of {n : Nat} {v : V} (h : tzB n v = true) : Tz n v := by
  cases v with
  | str x =>
    obtain ⟨h1, h2⟩ := Bool.and_eq_true_iff.mp (show (decide (x.cps.toList.length ≤ n) && x.cps.toList.all fun c => decide (c < 128)) = true from h)
    exact ⟨x.cps.toList, by rw [S_of], of_decide_eq_true h1, fun c hc => of_decide_eq_true (List.all_eq_true.mp h2 c hc)⟩
  | _ => cases h
theorem tz_all {n : Nat} {xs : List V} (h : xs.all (tzB n) = true) : ∀ v ∈ xs, Tz n v := fun v hv => tz_of (List.all_eq_true.mp h v hv)
theorem Asc.app {a b : List Nat} (h : Asc a) (k : Asc b) : Asc (a ++ b) := fun c hc => by
  rcases List.mem_append.mp hc with z | z
  · exact h c z
  · exact k c z
theorem Asc.flat {zs : List (List Nat)} (h : ∀ z ∈ zs, Asc z) : Asc zs.flatten := fun c hc => by
  obtain ⟨z, hz, h2⟩ := List.mem_flatten.mp hc
  exact h z hz c h2
theorem Asc.take {a : List Nat} (h : Asc a) (n : Nat) : Asc (a.take n) := fun c hc => h c (List.mem_of_mem_take hc)
/-- drawn texts of the signs that a text may have -/
def Txc (z : List Nat) : Prop := ∀ c ∈ z, okC c = true
def Tx (n : Nat) (v : V) : Prop := ∃ z, v = .str (S z) ∧ z.length ≤ n ∧ Txc z
def txB (n : Nat) : V → Bool
  | .str x => decide (x.length ≤ n) && x.cps.toList.all okC
  | _ => false
theorem tx_of {n : Nat} {v : V} (h : txB n v = true) : Tx n v := by
  unfold txB at h
  split at h
  · rename_i x
    simp only [Bool.and_eq_true, decide_eq_true_eq, List.all_eq_true] at h
    exact ⟨x.cps.toList, by rw [S_of], by rw [← len_cps]; exact h.1, h.2⟩
  · cases h
theorem tx_all {n : Nat} {xs : List V} (h : xs.all (txB n) = true) : ∀ v ∈ xs, Tx n v := fun v hv => tx_of (List.all_eq_true.mp h v hv)
theorem Txc.asc {a : List Nat} (h : Txc a) : Asc a := fun c hc => okC_lt (h c hc)
theorem Txc.app {a b : List Nat} (h : Txc a) (k : Txc b) : Txc (a ++ b) := fun c hc => by
  rcases List.mem_append.mp hc with z | z
  · exact h c z
  · exact k c z
theorem Txc.flat {zs : List (List Nat)} (h : ∀ z ∈ zs, Txc z) : Txc zs.flatten := fun c hc => by
  obtain ⟨z, hz, hc⟩ := List.mem_flatten.mp hc
  exact h z hz c hc
theorem Txc.take {a : List Nat} (h : Txc a) (n : Nat) : Txc (a.take n) := fun c hc => h c (List.mem_of_mem_take hc)
theorem Txc.drop {a : List Nat} (h : Txc a) (n : Nat) : Txc (a.drop n) := fun c hc => h c (List.mem_of_mem_drop hc)
theorem any_of {H : Hp} {z : List Nat} (h : z.length ≤ 50000) (ha : Txc z) : AnyV H (.str (S z)) := .str _ (by rw [S_len]; exact h) ha
theorem Tx.any {H : Hp} {n : Nat} {v : V} (h : Tx n v) (hn : n ≤ 50000) : AnyV H v := by
  obtain ⟨z, rfl, h1, h2⟩ := h
  exact any_of (by omega) h2
section
variable {K : PySem.W.Frag} {σ : L2.St} {H : Hp} {ta tb te : TE} {x v : V} {r : R2} {Q : VK}
theorem op_l (h : Ev ta σ H x) (k : ∀ H1, Ex H H1 → tb σ H1 fun y H2 => r x y H2 Q) : tOp r ta tb σ H Q := h H (Ex.refl _) _ k
theorem ea_l {tr : TA} {Q : List V → Hp → Prop} (h : Ev te σ H x) (k : ∀ H1, Ex H H1 → tr σ H1 fun vs H2 => Q (x :: vs) H2) : tCons te tr σ H Q := h H (Ex.refl _) _ k
theorem rc_isBool (h : AnyV H v) : RC (rIsi K) [v, .ty "bool"] H (.bl (isBool v)) := by
  cases h with
  | non => exact rc_isi (fun _ _ => .base .non) (show kitB "NoneType" "bool" = some false by decide +kernel)
  | bl b => exact rc_isi (fun _ _ => .base (.bl b)) (show kitB "bool" "bool" = some true by decide +kernel)
  | int i => exact rc_isi (fun _ _ => .base (.int i)) (show kitB "int" "bool" = some false by decide +kernel)
  | str x h a => exact rc_isi (fun _ _ => .base (.str x)) (show kitB "str" "bool" = some false by decide +kernel)
  | lst h => exact rc_isi (fun _ e => .base (.lst (e _ _ h))) (show kitB "list" "bool" = some false by decide +kernel)
  | tup h => exact rc_isi (fun _ e => .base (.tup (e _ _ h))) (show kitB "tuple" "bool" = some false by decide +kernel)
theorem rc_isInt (h : AnyV H v) : RC (rIsi K) [v, .ty "int"] H (.bl (isInt v || isBool v)) := by
  cases h with
  | non => exact rc_isi (fun _ _ => .base .non) (show kitB "NoneType" "int" = some false by decide +kernel)
  | bl b => exact rc_isi (fun _ _ => .base (.bl b)) (show kitB "bool" "int" = some true by decide +kernel)
  | int i => exact rc_isi (fun _ _ => .base (.int i)) (show kitB "int" "int" = some true by decide +kernel)
  | str x h a => exact rc_isi (fun _ _ => .base (.str x)) (show kitB "str" "int" = some false by decide +kernel)
  | lst h => exact rc_isi (fun _ e => .base (.lst (e _ _ h))) (show kitB "list" "int" = some false by decide +kernel)
  | tup h => exact rc_isi (fun _ e => .base (.tup (e _ _ h))) (show kitB "tuple" "int" = some false by decide +kernel)
end
/-! ## raw steps, for what draws: the shape of what is left stays plain -/
section
variable {K : PySem.W.Frag} {σ : L2.St} {H : Hp} {ta tb te : TE} {ts tr : TA} {x v : V} {r : R2} {Q : VK} {D : Ends} {tz tu tw : TS} {t : TT} {i : Nat} {sp : Sp} {dvs : List V} {E : XK}
theorem q_asgQ (h : te σ H fun v H1 => tz D (σ.set i (some v)) H1) : tSeq (tAsg te (gName i)) tz D σ H := h
theorem s_asgQ (h : te σ H fun v H1 => D.nx (σ.set i (some v)) H1) : tAsg te (gName i) D σ H := h
theorem s_retQ (h : te σ H D.rt) : tRet te D σ H := h
theorem call_Q (h : ts σ H fun vs H1 => sp (vs ++ dvs) H1 Q E) : tCall sp dvs E ts σ H Q := h
theorem cb_Q {r : List V → Hp → VK → Prop} (h : ts σ H fun vs H1 => r vs H1 Q) : tCB r ts σ H Q := h
theorem ea_q {Q : List V → Hp → Prop} (h : te σ H fun v H1 => tr σ H1 fun vs H2 => Q (v :: vs) H2) : tCons te tr σ H Q := h
theorem ea_Q {vs : List V} {Q : List V → Hp → Prop} (h : EvA ts σ H vs) (k : ∀ H1, Ex H H1 → Q vs H1) : ts σ H Q := h H (Ex.refl _) Q k
theorem ev_Q (h : Ev te σ H v) (k : ∀ H1, Ex H H1 → Q v H1) : te σ H Q := h H (Ex.refl _) Q k
theorem ea_n {Q : List V → Hp → Prop} (h : Q [] H) : tNil σ H Q := h
theorem op_q (h : ta σ H fun x H1 => tb σ H1 fun y H2 => r x y H2 Q) : tOp r ta tb σ H Q := h
theorem lst_Q (h : ts σ H fun vs H1 => vs.length ≤ sizeLine ∧ ∀ p, H1 p = none → Q (.ref p) (upd H1 p (.lst vs))) : tLst ts σ H Q := h
theorem tup_Q (h : ts σ H fun vs H1 => vs.length ≤ sizeLine ∧ ∀ p, H1 p = none → Q (.ref p) (upd H1 p (.tup vs))) : tTup ts σ H Q := h
theorem if_Q (h : t σ H fun c H1 => if c = true then ta σ H1 Q else tb σ H1 Q) : tIf t ta tb σ H Q := h
theorem app_Q {a : TE} (h : a σ H fun l H1 => tyV K "list" l H1 ∧ te σ H1 fun v H2 => rAppend l [v] H2 fun _ H3 => tz D σ H3) : tSeq (tDrop (tBM K "list" rAppend a (tCons te tNil))) tz D σ H := h
theorem sapp_Q {a : TE} (h : a σ H fun l H1 => tyV K "list" l H1 ∧ te σ H1 fun v H2 => rAppend l [v] H2 fun _ H3 => D.nx σ H3) : tDrop (tBM K "list" rAppend a (tCons te tNil)) D σ H := h
theorem m1_Q {r : V → List V → Hp → VK → Prop} {a : TE} (h : a σ H fun x H1 => (∃ z, x = .str z) ∧ te σ H1 fun y H2 => r x [y] H2 Q) : tM1 r a te σ H Q := h
end
end Kt

set_option Elab.async false
set_option linter.all false
set_option maxRecDepth 100000
set_option maxHeartbeats 2000000
namespace Kt
open PySem PySem.Spec PyProof.Rows L2 Evl
/-! ## del xs[-k:] -/
def sel (start stop step : Int) (i : Nat) : Bool :=
  if step > 0 then start ≤ i && i < stop && (i - start) % step == 0
  else stop < i && i ≤ start && (start - i) % (-step) == 0
theorem sel_one {a n k : Nat} (hk : k < n) : sel (a : Int) (n : Int) 1 k = decide (a ≤ k) := by
  unfold sel
  rw [if_pos (by decide)]
  have h3 : (((k : Int) - (a : Int)) % 1 == 0) = true := by rw [Int.emod_one]; rfl
  rw [h3, Bool.and_true, decide_eq_true (show (k : Int) < (n : Int) by omega), Bool.and_true]
  exact decide_eq_decide.mpr (by omega)
theorem keep_take (n a : Nat) : ∀ (l : List Value) (i : Nat), i + l.length ≤ n → ((l.zipIdx i).filterMap fun (x, k) => if sel (a : Int) (n : Int) 1 k then none else some x) = l.take (a - i)
  | [], _, _ => by simp
  | x :: l, i, h => by
    rw [List.length_cons] at h
    have ih := keep_take n a l (i + 1) (by omega)
    rw [List.zipIdx_cons]
    by_cases h2 : a ≤ i
    · rw [List.filterMap_cons_none (by show (if sel (a : Int) (n : Int) 1 i = true then none else some x) = none; rw [sel_one (by omega), if_pos (decide_eq_true h2)]), ih]
      have e1 : a - i = 0 := by omega
      have e2 : a - (i + 1) = 0 := by omega
      rw [e1, e2]
      simp
    · rw [List.filterMap_cons_some (b := x) (by show (if sel (a : Int) (n : Int) 1 i = true then none else some x) = some x; rw [sel_one (by omega), if_neg (by rw [decide_eq_false h2]; exact Bool.false_ne_true)]), ih]
      have e1 : a - i = (a - (i + 1)) + 1 := by omega
      rw [e1, List.take_succ_cons]
theorem bounds_tail {k n : Nat} (hk : k ≤ n) (h0 : 0 < k) : sliceBounds (some (-(k : Int))) none none n = (((n - k : Nat) : Int), (n : Int), 1) := by
  simp only [sliceBounds, Option.getD_none]
  have h1 : (-(k : Int) < 0) := by omega
  simp only [h1, if_true, show (1 : Int) > 0 by decide]
  congr 1
  omega
section
variable {prog : Program} {w : World} {A : Around} {E : Value → Shared → Prop} {s : Shared}
set_option maxRecDepth 100000 in
theorem delItem_tail {l sl : Addr} {its : List Value} {n : Nat} {vl : Value} {k : Nat} {Q : Unit → Shared → Prop}
    (e : s.heap.get? l = some { cls := .type "list", data := .seq its.toArray n })
    (hs : s.heap.IsSliceOf sl vl .none .none) (pl : IsPart vl (some (-(k : Int)))) (h0 : 0 < k) (hk : k ≤ its.length) (hsz : its.length ≤ sizeLine)
    (h : Q () { s with heap := s.heap.update l (Obj.mapSeq fun xs => (xs.toList.zipIdx.filterMap fun (x, j) => if sel ((its.length - k : Nat) : Int) (its.length : Int) 1 j then none else some x).toArray) }) :
    wpAny (model prog w) A (delItem (.ref l) (.ref sl)) Q E s := by
  have hl : s.heap.IsList l its.toArray := PySem.IsL.isList e
  obtain ⟨os, hos, hcs, hds⟩ := id hs
  have hTs : s.TypeIs (.ref sl) "slice" := ⟨os, hos, hcs⟩
  have hstep : ¬ ((rawPart none == rawInt 0) = true) := Bool.false_ne_true
  have hz' : ((fun xs : Array Value => (xs.toList.zipIdx.filterMap fun (x, j) => if sel ((its.length - k : Nat) : Int) (its.length : Int) 1 j then none else some x).toArray) its.toArray).size ≤ sizeLine + 1 := by
    show ((its.zipIdx 0).filterMap _).toArray.size ≤ _
    rw [keep_take its.length (its.length - k) its 0 (by omega), List.size_toArray, List.length_take]
    omega
  refine wpAny_delItem_slot hl.typeIs (by decide) F.slot_list_delitem ?_
  refine wpAny_call_entry F.slot_list_delitem hl.typeIs F.entry_list_delitem ?_ (F.args_list_delitem_2 _ _)
  show wpAny _ _ (Builtin.List.listSubscript? (.ref sl) >>= _) _ _ s
  refine wpAny_bind ?_
  unfold Builtin.List.listSubscript?
  refine wpAny_bind (wpAny_specialOf hTs slice_no_index ?_)
  simp only [Option.isNone_none, if_true]
  refine wpAny_pure ?_
  show wpAny _ _ (typeOf (.ref sl) >>= _) _ _ s
  refine wpAny_bind (wpAny_typeOf hTs ?_)
  first
    | rw [if_neg (by decide)]
    | refine PySem.W.KFB.if_not (by decide) ?_
  rw [listSliceParts_eq]
  refine wpAny_bind (wpAny_bind (wpAny_field hos hds (x := .none) rfl (wpAny_bind (wpAny_listPart .none ?_))))
  rw [if_neg hstep]
  refine wpAny_bind (wpAny_field hos hds (x := vl) rfl (wpAny_bind (wpAny_listPart pl ?_)))
  refine wpAny_bind (wpAny_field hos hds (x := .none) rfl (wpAny_bind (wpAny_listPart .none (wpAny_pure ?_))))
  refine wpAny_bind ?_
  unfold Builtin.List.listItems
  refine wpAny_bind (wpAny_seqItems e rfl (wpAny_pure ?_))
  refine wpAny_bind (wpAny_of_eq ((sliceIndices_raw (some (-(k : Int))) none none its.toArray.size (by simp)).trans (congrArg (pure : Int × Int × Int → Sem (Int × Int × Int)) (bounds_tail (k := k) (n := its.toArray.size) (by rw [List.size_toArray]; exact hk) h0))) ?_)
  refine wpAny_bind (wpAny_rule ?_)
  rw [List.size_toArray]
  show wpAny _ _ (updateSeq l (fun xs => (xs.toList.zipIdx.filterMap fun (x, j) => if sel ((its.length - k : Nat) : Int) (its.length : Int) 1 j then none else some x).toArray) >>= _) _ _ s
  refine wpAny_bind (wpAny_updateSeq (hz := by rw [List.size_toArray]; exact hsz) (_hz' := hz') e rfl ?_)
  refine wpAny_bind (wpAny_letGo ?_)
  first
    | exact wpAny_pure ⟨.none, rfl, h⟩
    | exact wpAny_pure h
    | exact wpAny_bind (wpAny_pure (wpAny_pure ⟨.none, rfl, wpAny_pure h⟩))
    | exact wpAny_pure ⟨.none, rfl, wpAny_pure h⟩
end
section
variable {X : Cx} {o e : Expr} {to te : TE} {p tpos pos : Pos}
/-- del xs[-k:] -/
def tDelTail (to te : TE) : TS := fun D σ H => to σ H fun x H1 => te σ H1 fun y H2 => ∃ (l : Addr) (xs : List V) (k : Nat), x = .ref l ∧ y = .int (-(k : Int)) ∧ H2 l = some (.lst xs) ∧ 0 < k ∧ k ≤ xs.length ∧ D.nx σ (upd H2 l (.lst (xs.take (xs.length - k))))
theorem ps_delTail (ho : PE X o to) (he : PE X e te) : PS X (.Delete [.Subscript o (.Slice (some e) none none p) tpos] pos) (tDelTail to te) := by
  refine ⟨fun pins s σ H D I h => ?_⟩
  refine wpAny_Delete (wpAny_deleteEach_cons (wpAny_delete_Subscript (thn (ho.run pins s σ H _ I h) fun u s1 ⟨x, H1, I1, rx, q1⟩ => ?_)))
  refine wpAny_Slice (by
    rw [evalPart_some]
    refine thn (he.run pins s1 σ H1 _ I1 q1) fun vl s2 ⟨y, H2, I2, ry, q2⟩ => ?_
    rw [evalPart_none]
    refine wpAny_pure (wpAny_pure ?_)
    obtain ⟨l, xs, k, ex, ey, hH, h0, hk, q2⟩ := q2
    subst ex
    subst ey
    cases (show u = Value.ref l from rx)
    obtain ⟨t, rfl⟩ := (show ∃ t, vl = Value.int (-(k : Int)) t from ry)
    have I3 : Inv X pins σ H2 { s2 with heap := s2.heap.push { cls := .type "slice", data := .fields #[.int (-(k : Int)) t, .none, .none] } } := I2.kept (t' := s2.toks) fun b ob q => Heap.get?_push_of_some _ q
    obtain ⟨z, its, n, r, hl, e'⟩ := I3.lstM hH
    have hsl := sizeLine_eq
    refine delItem_tail (k := k) e' (Heap.IsSliceOf.new ..) (.int _ _) h0 (by omega) (by omega) (wpAny_deleteEach_nil ⟨σ, _, ?_, q2⟩)
    refine I3.lset (its' := its.take (its.length - k)) (t' := s2.toks) hH e' ?_ (by rw [show xs.length = its.length from r.length]; exact r.take _) ?_
    · show ((its.zipIdx 0).filterMap _).toArray = _
      rw [keep_take its.length (its.length - k) its 0 (by omega), Nat.sub_zero]
    · rw [List.length_take]; omega)
end
/-! ## tests that store; keys of a table; attributes within a comprehension -/
theorem u65 {k : Nat} {A : Around} (r : Room k A) : A.units + 65 < cLine := by have := r.un; omega
section
variable {X : Cx} {a b e : Expr} {tA : TT} {tw : TTw} {pos : Pos} {ta te : TE}
def wAnd (t : TT) (u : TTw) : TTw := fun σ H Q => t σ H fun c H1 => if c = true then u σ H1 Q else Q false σ H1
theorem ptw_and2 (ha : PT X a tA) (hb : PTw X b tw) : PTw X (.BoolOp .And [a, b] pos) (wAnd tA tw) := by
  refine ⟨fun pins s σ H Q I h => ?_⟩
  refine isTrue_and (thn (ha.run pins s σ H (fun c H1 => if c = true then tw σ H1 Q else Q false σ H1) I h) fun c s1 ⟨H1, I1, q1⟩ => ?_)
  cases c with
  | true =>
    refine isTrue_and (thn (hb.run pins s1 σ H1 Q I1 q1) fun c2 s2 q2 => ?_)
    cases c2 with
    | true => exact isTrue_and_nil q2
    | false => exact q2
  | false => exact ⟨σ, H1, I1, q1⟩
def rInKD (K : PySem.W.Frag) (w : World) : R2 := fun x y H Q => ∃ (z : Str) (d : Addr) (r : Option Value), x = .str z ∧ y = .ref d ∧ (∃ es n, KDict K w d es n) ∧ PySem.W.nsIn K d z = some r ∧ Q (.bl r.isSome) H
theorem op_inKD : OpR X (compareOp .In) (rInKD X.K X.w) := by
  intro pins s σ H x y v u Q I rx ry h
  obtain ⟨z, d, r, e1, e2, ⟨es, n, D⟩, e, q⟩ := h
  exact op_in_kd D pins s σ H x y v u Q I rx ry ⟨z, r, e1, e2, e, q⟩
theorem pe_fldK {K : PySem.W.Frag} {f : Str} (hK : X.K = K) (he : PE X e ta) (hb : attributeBase e f X.env (eval e X.env) = eval e X.env) : PE X (.Attribute e f pos) (tFld K ta f) := by
  subst hK
  exact pe_fld he hb
end
section
variable {K : PySem.W.Frag} {σ : L2.St} {H : Hp} {ta tb te : TE} {x C dx : Addr} {fs : List (Str × V)} {f : Str} {v : V} {D : Ends} {tz : TS}
theorem ev_fld (h : Ev ta σ H (.ref x)) (hx : H x = some (.ins C dx fs)) (c : Cls K C) (n : NoAttr K C f) (l : fs.lookup f = some v) : Ev (tFld K ta f) σ H v := fun H1 e Q q =>
  h H1 e _ fun H2 e2 => ⟨x, C, dx, fs, v, rfl, e2 _ _ (e _ _ hx), c, n, l, q H2 e2⟩
theorem s_fld (hv : Ev te σ H v) (ho : Ev ta σ H (.ref x)) (hx : H x = some (.ins C dx fs)) (c : Cls K C) (n : NoAttr K C f) (hl : fs.length < 1000) (k : ∀ H1, Ex H H1 → D.nx σ (upd H1 x (.ins C dx (putF f v fs)))) : sFld K ta te f D σ H :=
  hv H (Ex.refl _) _ fun H1 e1 => ho H1 e1 _ fun H2 e2 => ⟨x, C, dx, fs, rfl, e2 _ _ (e1 _ _ hx), c, n, hl, k H2 (e1.trans e2)⟩
theorem q_fld (hv : Ev te σ H v) (ho : Ev ta σ H (.ref x)) (hx : H x = some (.ins C dx fs)) (c : Cls K C) (n : NoAttr K C f) (hl : fs.length < 1000) (k : ∀ H1, Ex H H1 → tz D σ (upd H1 x (.ins C dx (putF f v fs)))) : tSeq (sFld K ta te f) tz D σ H :=
  s_fld (D := { D with nx := tz D }) hv ho hx c n hl k
theorem s_delL {l : Addr} {xs : List V} {i : Int} {k : Nat} (ho : Ev ta σ H (.ref l)) (hi : Ev te σ H (.int i)) (hl : H l = some (.lst xs)) (h1 : -(2 ^ 63) ≤ i) (h2 : i < 2 ^ 63) (hk : seqIndex? i xs.length = some k) (q : ∀ H1, Ex H H1 → D.nx σ (upd H1 l (.lst (xs.eraseIdx k)))) : tDelL ta te D σ H :=
  ho H (Ex.refl _) _ fun H1 e1 => hi H1 e1 _ fun H2 e2 => ⟨l, xs, i, k, rfl, rfl, e2 _ _ (e1 _ _ hl), h1, h2, hk, q H2 (e1.trans e2)⟩
theorem q_delL {l : Addr} {xs : List V} {i : Int} {k : Nat} (ho : Ev ta σ H (.ref l)) (hi : Ev te σ H (.int i)) (hl : H l = some (.lst xs)) (h1 : -(2 ^ 63) ≤ i) (h2 : i < 2 ^ 63) (hk : seqIndex? i xs.length = some k) (q : ∀ H1, Ex H H1 → tz D σ (upd H1 l (.lst (xs.eraseIdx k)))) : tSeq (tDelL ta te) tz D σ H :=
  s_delL (D := { D with nx := tz D }) ho hi hl h1 h2 hk q
theorem q_delTail {l : Addr} {xs : List V} {k : Nat} (ho : Ev ta σ H (.ref l)) (hi : Ev te σ H (.int (-(k : Int)))) (hl : H l = some (.lst xs)) (h0 : 0 < k) (hk : k ≤ xs.length) (q : ∀ H1, Ex H H1 → tz D σ (upd H1 l (.lst (xs.take (xs.length - k))))) : tSeq (tDelTail ta te) tz D σ H :=
  ho H (Ex.refl _) _ fun H1 e1 => hi H1 e1 _ fun H2 e2 => ⟨l, xs, k, rfl, rfl, e2 _ _ (e1 _ _ hl), h0, hk, q H2 (e1.trans e2)⟩
theorem q_par3 {i j l : Nat} {v w u : V} (h1 : Ev ta σ H v) (h2 : Ev tb σ H w) (h3 : Ev te σ H u) (k : ∀ H1, Ex H H1 → tz D (((σ.set i (some v)).set j (some w)).set l (some u)) H1) : tSeq (tPar3 i j l (tCons ta (tCons tb (tCons te tNil)))) tz D σ H :=
  (ea_cons h1 (ea_cons h2 (ea_cons h3 ea_nil)) : EvA _ σ H [v, w, u]) H (Ex.refl _) (fun vs H1 => ∃ a b c, vs = [a, b, c] ∧ tz D (((σ.set i (some a)).set j (some b)).set l (some c)) H1) fun H1 e => ⟨v, w, u, rfl, k H1 e⟩
end
/-! ## xs == [], xs != [], whatever the items -/
theorem u00 {k : Nat} {A : Around} (r : Room k A) : A.units < cLine := by have := r.un; omega
section
variable {X : Cx}
def rEqE (K : PySem.W.Frag) : R2 := fun x y H Q => ∃ a b xs, x = .ref a ∧ y = .ref b ∧ SqL K H a xs ∧ SqL K H b [] ∧ Q (.bl (decide (xs = []))) H
def rNeE (K : PySem.W.Frag) : R2 := fun x y H Q => ∃ a b xs, x = .ref a ∧ y = .ref b ∧ SqL K H a xs ∧ SqL K H b [] ∧ Q (.bl (!decide (xs = []))) H
theorem op_eqE (hu : X.A.units < cLine) : OpR X (compareOp .Eq) (rEqE X.K) := by
  intro pins s σ H x y v u Q I rx ry h
  obtain ⟨a, b, xs, rfl, rfl, h1, h2, q⟩ := h
  cases rx; cases ry
  obtain ⟨its, r, pl, _⟩ := I.list h1
  obtain ⟨its2, r2, pl2, _⟩ := I.list h2
  cases r2
  cases r with
  | nil => exact SeqAt.RcAt.lists (e := fun _ => true) pl.isList pl2.isList rfl hu (fun j h1 _ => absurd h1 (by simp)) _ _ _ _ ⟨.bl true, H, I, rfl, q⟩
  | cons r t => exact SeqAt.RcAt.lists_lengths pl.isList pl2.isList (by simp) hu _ _ _ _ ⟨.bl false, H, I, rfl, q⟩
theorem op_neE (hu : X.A.units < cLine) : OpR X (compareOp .NotEq) (rNeE X.K) := by
  intro pins s σ H x y v u Q I rx ry h
  obtain ⟨a, b, xs, rfl, rfl, h1, h2, q⟩ := h
  cases rx; cases ry
  obtain ⟨its, r, pl, _⟩ := I.list h1
  obtain ⟨its2, r2, pl2, _⟩ := I.list h2
  cases r2
  cases r with
  | nil => exact SeqAt.RcNeAt.lists (e := fun _ => true) pl.isList pl2.isList rfl hu (fun j h1 _ => absurd h1 (by simp)) _ _ _ _ ⟨.bl false, H, I, rfl, q⟩
  | cons r t => exact SeqAt.RcNeAt.lists_lengths pl.isList pl2.isList (by simp) hu _ _ _ _ ⟨.bl true, H, I, rfl, q⟩
end
section
variable {K : PySem.W.Frag} {σ : L2.St} {H : Hp} {ta : TE} {a : Addr} {xs : List V}
theorem ev_eqE (h : Ev ta σ H (.ref a)) (hx : SqL K H a xs) : Ev (tOp (rEqE K) ta (tLst tNil)) σ H (.bl (decide (xs = []))) :=
  ev_opL h (el_lst ea_nil (by simp)) fun p H1 hp e1 => fun H2 e2 Q q => ⟨a, p, xs, rfl, rfl, ex_l (e1.trans e2) hx, sq_of (e2 _ _ hp), q H2 (Ex.refl _)⟩
theorem ev_neE (h : Ev ta σ H (.ref a)) (hx : SqL K H a xs) : Ev (tOp (rNeE K) ta (tLst tNil)) σ H (.bl (!decide (xs = []))) :=
  ev_opL h (el_lst ea_nil (by simp)) fun p H1 hp e1 => fun H2 e2 Q q => ⟨a, p, xs, rfl, rfl, ex_l (e1.trans e2) hx, sq_of (e2 _ _ hp), q H2 (Ex.refl _)⟩
end
end Kt

set_option Elab.async false
set_option linter.all false
set_option maxRecDepth 100000
set_option maxHeartbeats 2000000
namespace Kt
open PySem PySem.Spec PyProof.Rows L2 Evl
/-! ## what the program's functions compute, as plain functions on lists of signs -/
/-! ### names -/
def kLET : List Nat := ("abcdefghijklmnopqrstuvwxyzABCDEFGHIJKLMNOPQRSTUVWXYZ_" : Str).cps.toList
def kDIG : List Nat := ("0123456789" : Str).cps.toList
def isW (c : Nat) : Bool := decide (c ∈ kLET) || decide (c ∈ kDIG)
def isG (c : Nat) : Bool := decide (c ∈ ([32, 9] : List Nat))
def isQ (c : Nat) : Bool := decide (c ∈ ([39, 34] : List Nat))
/-- where the run of such signs that begins at n ends -/
def runEnd (p : Nat → Bool) (l : List Nat) (n : Nat) : Nat := n + ((l.drop n).takeWhile p).length
theorem runEnd_more {p : Nat → Bool} {l : List Nat} {j c : Nat} (h : l[j]? = some c) (hc : p c = true) : runEnd p l j = runEnd p l (j + 1) := by
  obtain ⟨h1, h2⟩ := List.getElem?_eq_some_iff.mp h
  unfold runEnd
  rw [List.drop_eq_getElem_cons h1, h2, List.takeWhile_cons, if_pos hc]
  simp only [List.length_cons]
  omega
theorem runEnd_stop {p : Nat → Bool} {l : List Nat} {j c : Nat} (h : l[j]? = some c) (hc : p c = false) : runEnd p l j = j := by
  obtain ⟨h1, h2⟩ := List.getElem?_eq_some_iff.mp h
  unfold runEnd
  rw [List.drop_eq_getElem_cons h1, h2, List.takeWhile_cons, if_neg (by rw [hc]; exact Bool.false_ne_true)]
  rfl
theorem runEnd_end {p : Nat → Bool} {l : List Nat} {j : Nat} (h : l.length ≤ j) : runEnd p l j = j := by
  unfold runEnd
  rw [List.drop_of_length_le h]
  rfl
theorem runEnd_le {p : Nat → Bool} {l : List Nat} {j : Nat} (h : j ≤ l.length) : runEnd p l j ≤ l.length := by
  unfold runEnd
  have h1 := tw_le p (l.drop j)
  rw [List.length_drop] at h1
  omega
theorem runEnd_ge {p : Nat → Bool} {l : List Nat} {j : Nat} : j ≤ runEnd p l j := by unfold runEnd; omega
theorem runEnd_at {p : Nat → Bool} {l : List Nat} {j i : Nat} (h : j ≤ i) (hi : i < runEnd p l j) : ∃ c, l[i]? = some c ∧ p c = true := by
  unfold runEnd at hi
  obtain ⟨c, h1, h2⟩ := tw_lt (l := l.drop j) (p := p) (i := i - j) (by omega)
  rw [List.getElem?_drop] at h1
  exact ⟨c, by rw [← h1]; congr 1; omega, h2⟩
theorem runEnd_next {p : Nat → Bool} {l : List Nat} {j c : Nat} (h : l[runEnd p l j]? = some c) : p c = false := by
  unfold runEnd at h
  refine tw_stop (l := l.drop j) (p := p) ?_
  rw [List.getElem?_drop]
  exact h
abbrev nameEnd (l : List Nat) (n : Nat) : Nat := runEnd isW l n
/-! ### quotes -/
def quoteAt (l : List Nat) (n : Nat) (fin : Bool) : List Nat :=
  match l.drop n with
  | [] => []
  | q :: r => if (q :: r).take 3 = [q, q, q] then [q, q, q] else if !fin && (decide (r = []) || decide (q :: r = [q, q])) then [] else [q]
def strEnd (q : List Nat) (fin : Bool) : List Nat → Nat → Int
  | [], _ => if fin then -2 else -1
  | c :: r, n =>
    if c = 92 then match r with
      | [] => if fin then -2 else -1
      | _ :: r' => strEnd q fin r' (n + 2)
    else if (c :: r).take q.length = q then n + q.length
    else if c = 10 ∧ q.length = 1 then -2
    else strEnd q fin r (n + 1)
theorem strEnd_cons {q : List Nat} {fin : Bool} {c n : Nat} {r : List Nat} : strEnd q fin (c :: r) n =
    if c = 92 then strEnd q fin (r.drop 1) (n + 2) else if (c :: r).take q.length = q then n + q.length else if c = 10 ∧ q.length = 1 then -2 else strEnd q fin r (n + 1) := by
  cases r <;> rfl
/-- where a string ends that goes on at n -/
def stringEnd (l : List Nat) (n : Nat) (q : List Nat) (fin : Bool) : Int := strEnd q fin (l.drop n) n
theorem drop_at {l : List Nat} {n c : Nat} (h : l[n]? = some c) : l.drop n = c :: l.drop (n + 1) := by
  obtain ⟨h1, h2⟩ := List.getElem?_eq_some_iff.mp h
  rw [List.drop_eq_getElem_cons h1, h2]
theorem stringEnd_end {l : List Nat} {n : Nat} {q : List Nat} {fin : Bool} (h : l.length ≤ n) : stringEnd l n q fin = if fin then -2 else -1 := by
  unfold stringEnd
  rw [List.drop_of_length_le h]
  rfl
theorem stringEnd_at {l : List Nat} {n c : Nat} {q : List Nat} {fin : Bool} (h : l[n]? = some c) : stringEnd l n q fin =
    if c = 92 then stringEnd l (n + 2) q fin else if (l.drop n).take q.length = q then n + q.length else if c = 10 ∧ q.length = 1 then -2 else stringEnd l (n + 1) q fin := by
  have e := drop_at h
  have e2 : l.drop (n + 2) = (l.drop (n + 1)).drop 1 := by rw [List.drop_drop]
  unfold stringEnd
  rw [e, e2]
  exact strEnd_cons
theorem quoteAt_at {l : List Nat} {n q : Nat} {fin : Bool} (h : l[n]? = some q) : quoteAt l n fin =
    if (l.drop n).take 3 = [q, q, q] then [q, q, q] else if !fin && (decide (n + 1 = l.length) || decide (l.drop n = [q, q])) then [] else [q] := by
  obtain ⟨h1, _⟩ := List.getElem?_eq_some_iff.mp h
  have e := drop_at h
  have e3 : decide (l.drop (n + 1) = []) = decide (n + 1 = l.length) := decide_eq_decide.mpr (by rw [List.drop_eq_nil_iff]; omega)
  unfold quoteAt
  rw [e]
  show (if _ then _ else if (!fin && (decide (l.drop (n + 1) = []) || _)) = true then _ else _) = _
  rw [e3]
theorem quoteAt_len (l : List Nat) (n : Nat) (fin : Bool) : (quoteAt l n fin).length ≤ 3 := by
  unfold quoteAt
  split
  · simp
  · split
    · simp
    · split <;> simp
/-- a string's end lies behind where it goes on, within the text -/
theorem stringEnd_le {l : List Nat} {q : List Nat} {fin : Bool} (hq : q ≠ []) : ∀ (k n : Nat), l.length - n = k → stringEnd l n q fin < 0 ∨ ∃ e : Nat, stringEnd l n q fin = e ∧ n < e ∧ e ≤ l.length := by
  intro k
  induction k using Nat.strongRecOn with
  | ind k ih =>
    intro n hk
    have hq1 : 0 < q.length := List.length_pos_iff.mpr hq
    cases h : l[n]? with
    | none =>
      rw [stringEnd_end (List.getElem?_eq_none_iff.mp h)]
      left
      split <;> decide
    | some c =>
      have hlt := (List.getElem?_eq_some_iff.mp h).1
      rw [stringEnd_at h]
      split
      · rcases ih (l.length - (n + 2)) (by omega) (n + 2) rfl with z | ⟨e, z1, z2, z3⟩
        · exact Or.inl z
        · exact Or.inr ⟨e, z1, by omega, z3⟩
      · split
        · rename_i h3
          refine Or.inr ⟨n + q.length, by omega, by omega, ?_⟩
          have := congrArg List.length h3
          rw [List.length_take, List.length_drop] at this
          omega
        · split
          · exact Or.inl (by decide)
          · rcases ih (l.length - (n + 1)) (by omega) (n + 1) rfl with z | ⟨e, z1, z2, z3⟩
            · exact Or.inl z
            · exact Or.inr ⟨e, z1, by omega, z3⟩
/-! ### numbers -/
def stepsT : List (Str × List (Str × Str)) := [
  ("begin", [("0", "zero"), ("123456789", "whole"), (".", "point")]),
  ("zero", [("0", "zeros"), ("_", "zeros_"), ("123456789", "padded"), (".", "pointed"), ("eE", "exponent"), ("jJ", "imaginary"), ("xX", "hex"), ("oO", "octal"), ("bB", "binary")]),
  ("zeros", [("0", "zeros"), ("_", "zeros_"), ("123456789", "padded"), (".", "pointed"), ("eE", "exponent"), ("jJ", "imaginary")]),
  ("zeros_", [("0", "zeros"), ("123456789", "padded")]),
  ("padded", [("0123456789", "padded"), ("_", "padded_"), (".", "pointed"), ("eE", "exponent"), ("jJ", "imaginary")]),
  ("padded_", [("0123456789", "padded")]),
  ("whole", [("0123456789", "whole"), ("_", "whole_"), (".", "pointed"), ("eE", "exponent"), ("jJ", "imaginary")]),
  ("whole_", [("0123456789", "whole")]),
  ("pointed", [("0123456789", "fraction"), ("eE", "exponent"), ("jJ", "imaginary")]),
  ("point", [("0123456789", "fraction")]),
  ("fraction", [("0123456789", "fraction"), ("_", "fraction_"), ("eE", "exponent"), ("jJ", "imaginary")]),
  ("fraction_", [("0123456789", "fraction")]),
  ("exponent", [("0123456789", "power"), ("+-", "sign")]),
  ("sign", [("0123456789", "power")]),
  ("power", [("0123456789", "power"), ("_", "power_"), ("jJ", "imaginary")]),
  ("power_", [("0123456789", "power")]),
  ("hex", [("0123456789abcdefABCDEF", "hexes"), ("_", "hex_")]),
  ("hex_", [("0123456789abcdefABCDEF", "hexes")]),
  ("hexes", [("0123456789abcdefABCDEF", "hexes"), ("_", "hex_")]),
  ("octal", [("01234567", "octals"), ("_", "octal_")]),
  ("octal_", [("01234567", "octals")]),
  ("octals", [("01234567", "octals"), ("_", "octal_")]),
  ("binary", [("01", "binaries"), ("_", "binary_")]),
  ("binary_", [("01", "binaries")]),
  ("binaries", [("01", "binaries"), ("_", "binary_")]),
  ("imaginary", [])]
def endsT : List Str := ["zero", "zeros", "whole", "pointed", "fraction", "power", "hexes", "octals", "binaries", "imaginary"]

def opsT : List Str := (["**=", "//=", ">>=", "<<=", "...", "!=", "->", ":=", "**", "//", ">>", "<<", "<=", ">=", "==", "+=", "-=", "*=", "/=", "&=", "|=", "^=", "@=", "+", "-", "*", "/", "@", "&", "|", "^", "~", "<", ">", "(", ")", "[", "]", "{", "}", ",", ":", ".", ";", "="] : List String).map Str.ofString
def nextState (st : Str) (c : Nat) : Str := match stepsT.lookup st with
  | none => ""
  | some rows => match rows.find? (fun r => decide (c ∈ r.1.cps.toList)) with
    | some r => r.2
    | none => ""
def numGo : List Nat → Str → Nat → Nat → Nat × Nat
  | [], _, n, e => (n, e)
  | c :: r, st, n, e => if nextState st c = "" then (n, e) else numGo r (nextState st c) (n + 1) (if nextState st c ∈ endsT then n + 1 else e)
def numberEnd (l : List Nat) (n : Nat) (fin : Bool) : Int :=
  if (numGo (l.drop n) "begin" n n).1 = l.length ∧ fin = false then -1
  else match l[(numGo (l.drop n) "begin" n n).2]? with
    | some c => if isW c then -2 else (numGo (l.drop n) "begin" n n).2
    | none => (numGo (l.drop n) "begin" n n).2
def keyed (st : Str) : Bool := (stepsT.lookup st).isSome
theorem lookup_in {α β : Type} [BEq α] [LawfulBEq α] : ∀ {l : List (α × β)} {k : α} {v : β}, l.lookup k = some v → (k, v) ∈ l
  | [], _, _, h => by cases h
  | (a, b) :: r, k, v, h => by
    rw [List.lookup_cons] at h
    split at h
    · rename_i z
      cases h
      rw [eq_of_beq z]
      exact List.mem_cons_self
    · exact List.mem_cons_of_mem _ (lookup_in h)
theorem steps_closed : stepsT.all (fun p => p.2.all fun r => keyed r.2 && !decide (r.2 = "")) = true := by decide +kernel
theorem keyed_next {st : Str} {c : Nat} (h : nextState st c ≠ "") : keyed (nextState st c) = true := by
  unfold nextState at h ⊢
  cases h1 : stepsT.lookup st with
  | none => rw [h1] at h; exact absurd rfl h
  | some rows =>
    rw [h1] at h
    cases h2 : rows.find? (fun r => decide (c ∈ r.1.cps.toList)) with
    | none => simp only [h2] at h; exact absurd rfl h
    | some r =>
      show keyed (match rows.find? _ with | some r => r.2 | none => "") = true
      rw [h2]
      have hm : (st, rows) ∈ stepsT := lookup_in h1
      have h3 := List.all_eq_true.mp (List.all_eq_true.mp steps_closed _ hm) r (List.mem_of_find?_eq_some h2)
      exact (Bool.and_eq_true_iff.mp h3).1
theorem numGo_le : ∀ (s : List Nat) (st : Str) (n e : Nat), e ≤ n → (numGo s st n e).2 ≤ (numGo s st n e).1 ∧ n ≤ (numGo s st n e).1 ∧ e ≤ (numGo s st n e).2 ∧ (numGo s st n e).1 ≤ n + s.length
  | [], _, n, e, h => ⟨h, Nat.le_refl _, Nat.le_refl _, Nat.le_refl _⟩
  | c :: r, st, n, e, h => by
    rw [numGo]
    split
    · exact ⟨h, Nat.le_refl _, Nat.le_refl _, by simp⟩
    · have h1 := numGo_le r (nextState st c) (n + 1) (if nextState st c ∈ endsT then n + 1 else e) (by split <;> omega)
      obtain ⟨a, b, d, f⟩ := h1
      refine ⟨a, by omega, ?_, by simp only [List.length_cons]; omega⟩
      have : e ≤ (if nextState st c ∈ endsT then n + 1 else e) := by split <;> omega
      omega
theorem numberEnd_le {l : List Nat} {n : Nat} {fin : Bool} (hn : n ≤ l.length) : numberEnd l n fin < 0 ∨ ∃ e : Nat, numberEnd l n fin = e ∧ n ≤ e ∧ e ≤ l.length ∧ e = (numGo (l.drop n) "begin" n n).2 := by
  obtain ⟨a, b, d, f⟩ := numGo_le (l.drop n) "begin" n n (Nat.le_refl _)
  rw [List.length_drop] at f
  unfold numberEnd
  split
  · exact Or.inl (by decide)
  · split
    · split
      · exact Or.inl (by decide)
      · exact Or.inr ⟨_, rfl, d, by omega, rfl⟩
    · exact Or.inr ⟨_, rfl, d, by omega, rfl⟩
theorem first_digit : kDIG.all (fun c => decide (nextState "begin" c ∈ endsT) && !decide (nextState "begin" c = "")) = true := by decide +kernel
theorem point_digit : (decide (nextState "begin" 46 = "point") && kDIG.all fun c => decide (nextState "point" c ∈ endsT) && !decide (nextState "point" c = "")) = true := by decide +kernel
/-- a number that begins with a digit, or a point and a digit, is not empty -/
theorem numGo_digit {c : Nat} {r : List Nat} {n : Nat} (h : c ∈ kDIG) : n < (numGo (c :: r) "begin" n n).2 := by
  obtain ⟨h1, h2⟩ := Bool.and_eq_true_iff.mp (List.all_eq_true.mp first_digit c h)
  rw [numGo, if_neg (by simpa using h2), if_pos (of_decide_eq_true h1)]
  obtain ⟨_, _, d, _⟩ := numGo_le r (nextState "begin" c) (n + 1) (n + 1) (Nat.le_refl _)
  omega
theorem numGo_point {c : Nat} {r : List Nat} {n : Nat} (h : c ∈ kDIG) : n < (numGo (46 :: c :: r) "begin" n n).2 := by
  obtain ⟨h1, h2⟩ := Bool.and_eq_true_iff.mp point_digit
  have h1' : nextState "begin" 46 = "point" := of_decide_eq_true h1
  obtain ⟨h3, h4⟩ := Bool.and_eq_true_iff.mp (List.all_eq_true.mp h2 c h)
  rw [numGo, h1', if_neg (by decide +kernel), if_neg (by decide +kernel), numGo, if_neg (by simpa using h4), if_pos (of_decide_eq_true h3)]
  obtain ⟨_, _, d, _⟩ := numGo_le r (nextState "point" c) (n + 1 + 1) (n + 1 + 1) (Nat.le_refl _)
  omega
/-! ### operators -/
def pre (b a : List Nat) : Bool := decide (a.take b.length = b)
theorem starts_S {a b : List Nat} : Txt.startswith (S a) (S b) = pre b a := by
  unfold Txt.startswith pre
  rw [PySem.StrLaws.subAt_eq, S_len, S_len]
  show (decide (0 + b.length ≤ a.length) && (((S a).cps.toList.drop 0).take (S b).length == (S b).cps.toList)) = _
  rw [S_len, S_toList, S_toList, List.drop_zero, Nat.zero_add]
  by_cases h : a.take b.length = b
  · have := congrArg List.length h
    rw [List.length_take] at this
    rw [decide_eq_true h, decide_eq_true (show b.length ≤ a.length by omega), h]
    simp
  · rw [decide_eq_false h, beq_eq_false_iff_ne.mpr h, Bool.and_false]
def opsL : List (List Nat) := opsT.map fun x => x.cps.toList
def opEnd (l : List Nat) (n : Nat) (fin : Bool) : Int :=
  if !fin && opsL.any (fun s => decide (((l.drop n).take 3).length < s.length) && pre ((l.drop n).take 3) s) then -1
  else match opsL.find? (fun s => pre s ((l.drop n).take 3)) with
    | some s => n + s.length
    | none => -2
theorem ops_short : opsL.all (fun s => decide (0 < s.length) && decide (s.length ≤ 3)) = true := by decide +kernel
theorem opEnd_le {l : List Nat} {n : Nat} {fin : Bool} (hn : n ≤ l.length) : opEnd l n fin < 0 ∨ ∃ e : Nat, opEnd l n fin = e ∧ n < e ∧ e ≤ l.length := by
  unfold opEnd
  split
  · exact Or.inl (by decide)
  · split
    · rename_i s hs
      have h1 := List.find?_some hs
      have h2 := List.all_eq_true.mp ops_short s (List.mem_of_find?_eq_some hs)
      obtain ⟨h3, h4⟩ := Bool.and_eq_true_iff.mp h2
      have h5 := of_decide_eq_true h3
      have h6 := congrArg List.length (of_decide_eq_true (show decide (((l.drop n).take 3).take s.length = s) = true from h1))
      rw [List.length_take, List.length_take, List.length_drop] at h6
      exact Or.inr ⟨n + s.length, by omega, by omega, by omega⟩
    · exact Or.inl (by decide)
end Kt

set_option Elab.async false
set_option linter.all false
set_option maxRecDepth 100000
set_option maxHeartbeats 2000000
namespace Kt
open PySem PySem.Spec PyProof.Rows L2 Evl
/-! ## the scanner, as a plain function on its state -/
inductive Mark where
  | par | brk | brc | fld | str | fmt
  deriving DecidableEq
def Mark.txt : Mark → Str
  | .par => "(" | .brk => "[" | .brc => "{" | .fld => "field" | .str => "string" | .fmt => "format"
def Mark.isStr : Mark → Bool
  | .str => true
  | _ => false
/-- the marks that a sign closes -/
def Mark.closer : Mark → Option Nat
  | .par => some 41 | .brk => some 93 | .brc => some 125 | .fld => some 125 | .str => none | .fmt => none
structure Frm where
  mark : Mark
  at_ : Nat
  q : List Nat
structure Tk where
  kind : Str
  s : List Nat
  at_ : Nat
  deriving DecidableEq
/-- the scanner's state; levels and frames with the last one ahead -/
structure Sc where
  text : List Nat
  at_ : Nat
  lv : List (Nat × Nat)
  fr : List Frm
  found : List Tk
  fail : Option (Str × Int)
  fresh : Bool
  begun : Bool
  fin : Bool
  over : Bool
  join : Int
namespace Sc
def part (s : Sc) (n m : Nat) : List Nat := (s.text.drop n).take (m - n)
def add (s : Sc) (k : Str) (e : Nat) : Sc := { s with found := s.found ++ [⟨k, s.part s.at_ e, s.at_⟩], at_ := e, join := -1 }
def lex (s : Sc) (k : Str) (e : Nat) : Sc := add { s with begun := true } k e
def failed (s : Sc) (k : Str) (a : Int) : Sc := { s with fail := some (k, a), over := true }
def dedents : List (Nat × Nat) → Sc → Sc
  | [], s => s
  | _ :: r, s => dedents r (s.add "DEDENT" s.at_)
def finish (s : Sc) : Sc :=
  if 0 ≤ s.join then s.failed "join" s.join
  else match s.fr with
    | f :: _ => s.failed "open" f.at_
    | [] =>
      let s1 := if s.begun then s.add "NEWLINE" s.at_ else s
      let s2 := dedents (s.lv.reverse.drop 1) s1
      { s2.add "ENDMARKER" s2.at_ with over := true }
def readJoin (s : Sc) : Sc × Bool :=
  if s.at_ + 1 = s.text.length ∧ s.fin = false ∧ (s.begun = true ∨ s.fr ≠ []) then (s, false)
  else if (s.text.drop (s.at_ + 1)).take 1 ≠ [10] ∨ (s.begun = false ∧ s.fr = []) then (s.failed "join" s.at_, false)
  else ({ s with join := s.at_, at_ := s.at_ + 2 }, true)
def notLf (c : Nat) : Bool := !decide (c = 10)
def commentEnd (s : Sc) (a : Nat) : Option Nat :=
  if runEnd notLf s.text a < s.text.length then some (runEnd notLf s.text a) else if s.fin then some s.text.length else none
def readComment (s : Sc) : Sc × Bool := match s.commentEnd s.at_ with
  | none => (s, false)
  | some e => (s.add "COMMENT" e, true)
def readLineFeed (s : Sc) : Sc := match s.fr with
  | _ :: _ => s.add "NL" (s.at_ + 1)
  | [] => { s.add "NEWLINE" (s.at_ + 1) with fresh := true, begun := false }
def readLastGap (s : Sc) (e : Nat) : Sc := finish (if s.at_ < e then add { s with at_ := e } "NL" e else s)
def readEmptyLine (s : Sc) (a : Nat) : Sc × Bool := match s.commentEnd a with
  | none => (s, false)
  | some e =>
    let s1 : Sc := { s with at_ := a }
    let s2 := if a < e then s1.add "COMMENT" e else s1
    (s2.add "NL" (min (e + 1) s.text.length), true)
def widthOf (g : List Nat) : Nat := g.foldl (fun w c => if c = 9 then (w / 8 + 1) * 8 else w + 1) 0
def popLv (w : Nat) (e : Nat) : List (Nat × Nat) → Sc → Sc
  | [], s => { s with lv := [] }
  | p :: r, s => if w < p.1 then popLv w e r (add { s with lv := r } "DEDENT" e) else { s with lv := p :: r }
def compare (s : Sc) (g : List Nat) (e : Nat) : Sc × Bool :=
  let w := widthOf g
  let n := g.length
  let t := s.lv.headD (0, 0)
  if t.1 < w ∧ t.2 < n then
    if 12 < s.lv.length then (s.failed "deep" e, false)
    else ({ add { s with lv := (w, n) :: s.lv } "INDENT" e with at_ := e, fresh := false }, true)
  else if w < t.1 then
    if w ∉ s.lv.map (·.1) then (s.failed "dedent" e, false)
    else if (w, n) ∉ s.lv then (s.failed "tabs" e, false)
    else ({ popLv w e s.lv { s with at_ := e } with at_ := e, fresh := false }, true)
  else if (w, n) ≠ t then (s.failed "tabs" e, false)
  else ({ s with at_ := e, fresh := false }, true)
def readIndentation (s : Sc) : Sc × Bool :=
  let e := runEnd isG s.text s.at_
  match s.text[e]? with
  | none => if s.fin then (s.readLastGap e, false) else (s, false)
  | some c => if c = 35 ∨ c = 10 then s.readEmptyLine e else s.compare (s.part s.at_ e) e
def pfP : List (List Nat) := [[], [114], [117], [98], [98, 114], [114, 98]]
def pfF : List (List Nat) := [[102], [102, 114], [114, 102]]
def readString (s : Sc) (a : Nat) : Sc × Bool :=
  let q := quoteAt s.text a s.fin
  if q = [] then (s, false)
  else
    let e := stringEnd s.text (a + q.length) q s.fin
    if e = -2 then (s.failed (if q.length = 1 then "string" else "triple") s.at_, false)
    else if e = -1 then (s, false)
    else (s.lex "STRING" e.toNat, true)
def beginString (s : Sc) (a : Nat) : Sc × Bool :=
  if (s.fr.filter fun f => f.mark.isStr).length = 4 then (s.failed "deep" s.at_, false)
  else
    let q := quoteAt s.text a s.fin
    if q = [] then (s, false)
    else (lex { s with fr := ⟨.str, s.at_, q⟩ :: s.fr } "FSTRING_START" (a + q.length), true)
def readWord (s : Sc) : Sc × Bool :=
  let e := nameEnd s.text s.at_
  if e = s.text.length ∧ s.fin = false then (s, false)
  else
    let p := (s.part s.at_ e).map lo1
    match s.text[e]? with
    | some c =>
      if isQ c = true ∧ p ∈ pfP then s.readString e
      else if isQ c = true ∧ p ∈ pfF then s.beginString e
      else (s.lex "NAME" e, true)
    | none => (s.lex "NAME" e, true)
def openBracket (s : Sc) (m : Mark) (q : List Nat) : Sc × Bool :=
  if (s.fr.filter fun f => f.mark.closer.isSome).length = 20 then (s.failed "deep" s.at_, false)
  else (lex { s with fr := ⟨m, s.at_, q⟩ :: s.fr } "OP" (s.at_ + 1), true)
def opener (c : Nat) : Option Mark := if c = 40 then some .par else if c = 91 then some .brk else if c = 123 then some .brc else none
def isCloser (c : Nat) : Bool := decide (c ∈ ([41, 93, 125] : List Nat))
def topFld (s : Sc) : Option Frm := match s.fr with
  | f :: _ => if f.mark = .fld then some f else none
  | [] => none
def readOperator (s : Sc) (c : Nat) : Sc × Bool :=
  match s.topFld with
  | some f => if c = 58 then (lex { s with fr := ⟨.fmt, f.at_, f.q⟩ :: s.fr } "OP" (s.at_ + 1), true) else rest s c true
  | none => rest s c false
where
  rest (s : Sc) (c : Nat) (own : Bool) : Sc × Bool :=
    let e0 := opEnd s.text s.at_ s.fin
    if e0 = -1 then (s, false)
    else
      let e := if e0 = -2 ∧ own = true ∧ c = 33 then (s.at_ + 1 : Int) else e0
      if e = -2 then (s.failed "character" s.at_, false)
      else match opener c with
        | some m => s.openBracket m []
        | none =>
          if isCloser c = true then
            match s.fr with
            | [] => (s.failed "bracket" s.at_, false)
            | f :: fs => if f.mark.closer = some c then (lex { s with fr := fs } "OP" e.toNat, true) else (s.failed "bracket" s.at_, false)
          else (s.lex "OP" e.toNat, true)
def readLexeme (s : Sc) (c : Nat) : Sc × Bool :=
  if c ∈ kLET then s.readWord
  else if isQ c = true then s.readString s.at_
  else if c ∈ kDIG ∨ (c = 46 ∧ ∃ d, s.text[s.at_ + 1]? = some d ∧ d ∈ kDIG) then
    let e := numberEnd s.text s.at_ s.fin
    if e = -2 then (s.failed "number" s.at_, false)
    else if e = -1 then (s, false)
    else (s.lex "NUMBER" e.toNat, true)
  else s.readOperator c
/-- where a part of a formatted string ends -/
def partGo (q : List Nat) (isS fin : Bool) : List Nat → Nat → Int
  | [], _ => if fin then -2 else -1
  | c :: r, n =>
    if c = 92 ∧ r = [] ∧ fin = false then -1
    else if c = 92 then match r with
      | [] => if fin then -2 else -1
      | d :: r' => if d = 123 ∨ d = 125 then partGo q isS fin (d :: r') (n + 1) else partGo q isS fin r' (n + 2)
    else if (c :: r).take q.length = q then n
    else if c = 10 ∧ q.length = 1 then -2
    else if (c = 123 ∨ c = 125) ∧ isS = true ∧ r.head? = some c then match r with
      | [] => -1
      | _ :: r' => partGo q isS fin r' (n + 2)
    else if (c = 123 ∨ c = 125) ∧ isS = true ∧ r = [] ∧ fin = false then -1
    else if c = 123 ∨ c = 125 then n
    else partGo q isS fin r (n + 1)
def partEnd (s : Sc) (f : Frm) : Int := partGo f.q f.mark.isStr s.fin (s.text.drop s.at_) s.at_
def addPart (s : Sc) (e : Nat) : Sc := if s.at_ < e then s.add "FSTRING_MIDDLE" e else s
def endFormat (s : Sc) (f : Frm) : Sc × Bool :=
  if f.mark = .str then (s.failed "brace" s.at_, false)
  else (add { s with fr := s.fr.drop 2 } "OP" (s.at_ + 1), true)
def begunAt : List Frm → Nat
  | [] => 0
  | f :: fs => if f.mark = .str then f.at_ else begunAt fs
def readPart (s : Sc) (f : Frm) : Sc × Bool :=
  let e := s.partEnd f
  if e = -1 then (s, false)
  else if e = -2 then (s.failed (if f.q.length = 1 then "string" else "triple") (begunAt s.fr), false)
  else
    let s1 := s.addPart e.toNat
    match s.text[e.toNat]? with
    | some 123 => s1.openBracket .fld f.q
    | some 125 => s1.endFormat f
    | _ => if f.mark = .fmt then (s1.failed "open" f.at_, false) else (add { s1 with fr := s1.fr.drop 1 } "FSTRING_END" (e.toNat + f.q.length), true)
def skip (s : Sc) : Sc := if s.at_ < runEnd isG s.text s.at_ then { s with at_ := runEnd isG s.text s.at_, join := -1 } else s
def readOn1 (s : Sc) : Sc × Bool :=
  match s.text[s.at_]? with
  | none => if s.fin then (s.finish, false) else (s, false)
  | some c =>
    if c = 92 then s.readJoin
    else if c = 35 then s.readComment
    else if c = 10 then (s.readLineFeed, true)
    else s.readLexeme c
def topPart (s : Sc) : Option Frm := match s.fr with
  | f :: _ => if f.mark = .str ∨ f.mark = .fmt then some f else none
  | [] => none
def step (s : Sc) : Sc × Bool := match s.topPart with
  | some f => s.readPart f
  | none => if s.fresh = true ∧ s.fr = [] then s.readIndentation else readOn1 s.skip
def run : Nat → Sc → Sc
  | 0, s => s
  | k + 1, s => if s.over then s else if (step s).2 then run k (step s).1 else (step s).1
def word (s : Sc) : Nat := 2 * (s.text.length - s.at_) + (if s.fresh then 1 else 0)
/-- reads on until nothing more can be said -/
def go (s : Sc) : Sc := run (word s + 1) s
def new : Sc := ⟨[], 0, [(0, 0)], [], [], none, true, false, false, false, -1⟩
def feed (s : Sc) (p : List Nat) : Sc := go { s with text := s.text ++ p }
def close (s : Sc) : Sc := go { s with fin := true }
end Sc
/-- the tokens of a text, its error -/
def scanned (l : List Nat) : Sc := (Sc.new.feed l).close
end Kt

set_option Elab.async false
set_option linter.all false
set_option maxRecDepth 100000
set_option maxHeartbeats 2000000
namespace Kt
open PySem PySem.Spec PyProof.Rows L2 Evl
/-! ## the scanner's state in the heap -/
inductive A2 {α : Type} (R : V → α → Prop) : List V → List α → Prop
  | nil : A2 R [] []
  | cons {v : V} {a : α} {vs : List V} {as : List α} : R v a → A2 R vs as → A2 R (v :: vs) (a :: as)
section
variable {α : Type} {R R' : V → α → Prop}
theorem A2.len : ∀ {vs : List V} {as : List α}, A2 R vs as → vs.length = as.length
  | _, _, .nil => rfl
  | _, _, .cons _ t => congrArg (· + 1) (A2.len t)
theorem A2.imp (h : ∀ v a, R v a → R' v a) : ∀ {vs : List V} {as : List α}, A2 R vs as → A2 R' vs as
  | _, _, .nil => .nil
  | _, _, .cons r t => .cons (h _ _ r) (A2.imp h t)
theorem A2.app : ∀ {vs ws : List V} {as bs : List α}, A2 R vs as → A2 R ws bs → A2 R (vs ++ ws) (as ++ bs)
  | _, _, _, _, .nil, k => k
  | _, _, _, _, .cons r t, k => .cons r (A2.app t k)
theorem A2.snoc {vs : List V} {as : List α} {v : V} {a : α} (h : A2 R vs as) (r : R v a) : A2 R (vs ++ [v]) (as ++ [a]) := h.app (.cons r .nil)
theorem A2.rev : ∀ {vs : List V} {as : List α}, A2 R vs as → A2 R vs.reverse as.reverse
  | _, _, .nil => .nil
  | _, _, .cons r t => by rw [List.reverse_cons, List.reverse_cons]; exact (A2.rev t).snoc r
theorem A2.drop : ∀ {vs : List V} {as : List α} (n : Nat), A2 R vs as → A2 R (vs.drop n) (as.drop n)
  | _, _, 0, h => h
  | _, _, _ + 1, .nil => .nil
  | _, _, n + 1, .cons _ t => A2.drop n t
theorem A2.at_ : ∀ {vs : List V} {as : List α} {i : Nat} {v : V}, A2 R vs as → vs[i]? = some v → ∃ a, as[i]? = some a ∧ R v a
  | _, _, _, _, .nil, e => by simp at e
  | _, _, 0, _, .cons r _, e => by simp at e; subst e; exact ⟨_, rfl, r⟩
  | _, _, i + 1, v, .cons _ t, e => by
    obtain ⟨a, h1, h2⟩ := A2.at_ (i := i) (v := v) t (by simpa using e)
    exact ⟨a, by simpa using h1, h2⟩
end
/-- xs[-1], xs[-2] of a list that is kept with its last ahead -/
theorem ix_last {v : V} {vs : List V} : ixN (v :: vs).reverse.length (-1) = some vs.length := by
  have hn : (v :: vs).reverse.length = vs.length + 1 := by simp
  unfold ixN
  rw [hn, if_neg (by decide), if_pos (by omega)]
  congr 1
  omega
theorem at_last {v : V} {vs : List V} : atI (v :: vs).reverse (-1) = some v := by
  unfold atI
  rw [ix_last, List.reverse_cons]
  show (vs.reverse ++ [v])[vs.length]? = some v
  rw [List.getElem?_append_right (by simp)]
  simp
theorem erase_last {v : V} {vs : List V} : (v :: vs).reverse.eraseIdx vs.length = vs.reverse := by
  rw [List.reverse_cons]
  have : vs.length = vs.reverse.length := by simp
  rw [this, List.eraseIdx_append_of_length_le (by omega)]
  simp
theorem seq_last {v : V} {vs : List V} : seqIndex? (-1) (v :: vs).reverse.length = some vs.length := (ixN_seq ix_last).1
theorem take_two {v w : V} {vs : List V} : (v :: w :: vs).reverse.take ((v :: w :: vs).reverse.length - 2) = vs.reverse := by
  rw [List.reverse_cons, List.reverse_cons, List.append_assoc]
  have : ((vs.reverse ++ ([w] ++ [v])).length - 2) = vs.reverse.length := by simp
  rw [this, List.take_left']
  rfl
/-- where the scanner's things stand: the instance, its dict, levels, frames, found -/
structure Own where
  x : Addr
  dx : Addr
  l : Addr
  f : Addr
  g : Addr
def LvV (H : Hp) (v : V) (p : Nat × Nat) : Prop := ∃ q, v = .ref q ∧ H q = some (.tup [.int (p.1 : Int), .int (p.2 : Int)])
def FrV (CF : Addr) (H : Hp) (v : V) (f : Frm) : Prop := ∃ q dq, v = .ref q ∧ H q = some (.ins CF dq [("mark", .str f.mark.txt), ("at", .int (f.at_ : Int)), ("quote", .str (S f.q))])
def TkV (H : Hp) (v : V) (t : Tk) : Prop := ∃ q, v = .ref q ∧ H q = some (.tup [.str t.kind, .str (S t.s), .int (t.at_ : Int)])
def FlV (H : Hp) (v : V) : Option (Str × Int) → Prop
  | none => v = .non
  | some p => ∃ q, v = .ref q ∧ H q = some (.tup [.str p.1, .int p.2])
def fsOf (s : Sc) (o : Own) (fv : V) : List (Str × V) := [("text", .str (S s.text)), ("at", .int (s.at_ : Int)), ("levels", .ref o.l), ("frames", .ref o.f), ("found", .ref o.g), ("failure", fv), ("is_fresh", .bl s.fresh), ("is_begun", .bl s.begun), ("is_final", .bl s.fin), ("is_over", .bl s.over), ("join", .int s.join)]
structure Rp (C CF : Addr) (o : Own) (H : Hp) (s : Sc) : Prop where
  hx : ∃ fv, H o.x = some (.ins C o.dx (fsOf s o fv)) ∧ FlV H fv s.fail
  hl : ∃ vs, H o.l = some (.lst vs.reverse) ∧ A2 (LvV H) vs s.lv
  hf : ∃ vs, H o.f = some (.lst vs.reverse) ∧ A2 (FrV CF H) vs s.fr
  hg : ∃ vs, H o.g = some (.lst vs) ∧ A2 (TkV H) vs s.found
  lf : o.l ≠ o.f
  lg : o.l ≠ o.g
  fg : o.f ≠ o.g
/-- a thing that the scanner never changes -/
def El : HO → Prop
  | .tup _ => True
  | .ins _ _ fs => fs.length = 3
  | _ => False
def Ke (H H' : Hp) : Prop := ∀ q u, H q = some u → El u → H' q = some u
theorem Ke.of {H H' : Hp} (e : Ex H H') : Ke H H' := fun q u h _ => e q u h
theorem Ke.trans {H H' H2 : Hp} (a : Ke H H') (b : Ke H' H2) : Ke H H2 := fun q u h e => b q u (a q u h e) e
theorem Ke.lv {H H' : Hp} (k : Ke H H') {v : V} {p : Nat × Nat} (h : LvV H v p) : LvV H' v p := by
  obtain ⟨q, e, h⟩ := h
  exact ⟨q, e, k _ _ h trivial⟩
theorem Ke.fr {CF : Addr} {H H' : Hp} (k : Ke H H') {v : V} {f : Frm} (h : FrV CF H v f) : FrV CF H' v f := by
  obtain ⟨q, dq, e, h⟩ := h
  exact ⟨q, dq, e, k _ _ h rfl⟩
theorem Ke.tk {H H' : Hp} (k : Ke H H') {v : V} {t : Tk} (h : TkV H v t) : TkV H' v t := by
  obtain ⟨q, e, h⟩ := h
  exact ⟨q, e, k _ _ h trivial⟩
theorem Ke.fl {H H' : Hp} (k : Ke H H') {v : V} {o : Option (Str × Int)} (h : FlV H v o) : FlV H' v o := by
  cases o with
  | none => exact h
  | some p =>
    obtain ⟨q, e, h⟩ := h
    exact ⟨q, e, k _ _ h trivial⟩
/-- an owned thing is written -/
theorem Ke.lst {H : Hp} {a : Addr} {xs : List V} {u : HO} (h : H a = some (.lst xs)) : Ke H (upd H a u) := fun q w hq e => by
  by_cases z : q = a
  · subst z
    rw [h] at hq
    cases hq
    exact False.elim e
  · rw [upd_ne z]; exact hq
theorem Ke.ins {C dx : Addr} {H : Hp} {a : Addr} {fs : List (Str × V)} {u : HO} (h : H a = some (.ins C dx fs)) (hl : fs.length ≠ 3) : Ke H (upd H a u) := fun q w hq e => by
  by_cases z : q = a
  · subst z
    rw [h] at hq
    cases hq
    exact absurd e hl
  · rw [upd_ne z]; exact hq
section
variable {C CF : Addr} {o : Own} {H H' : Hp} {s s' : Sc}
theorem Rp.ex (r : Rp C CF o H s) (e : Ex H H') : Rp C CF o H' s := by
  obtain ⟨⟨fv, h1, h2⟩, ⟨vs, h3, h4⟩, ⟨ws, h5, h6⟩, ⟨us, h7, h8⟩, n1, n2, n3⟩ := r
  have k := Ke.of e
  exact ⟨⟨fv, e _ _ h1, k.fl h2⟩, ⟨vs, e _ _ h3, h4.imp fun _ _ => k.lv⟩, ⟨ws, e _ _ h5, h6.imp fun _ _ => k.fr⟩, ⟨us, e _ _ h7, h8.imp fun _ _ => k.tk⟩, n1, n2, n3⟩
theorem Rp.xl (r : Rp C CF o H s) : o.x ≠ o.l := fun z => by
  obtain ⟨⟨fv, h1, _⟩, ⟨vs, h3, _⟩, _⟩ := r
  rw [z, h3] at h1; cases h1
theorem Rp.xf (r : Rp C CF o H s) : o.x ≠ o.f := fun z => by
  obtain ⟨⟨fv, h1, _⟩, _, ⟨vs, h3, _⟩, _⟩ := r
  rw [z, h3] at h1; cases h1
theorem Rp.xg (r : Rp C CF o H s) : o.x ≠ o.g := fun z => by
  obtain ⟨⟨fv, h1, _⟩, _, _, ⟨vs, h3, _⟩, _⟩ := r
  rw [z, h3] at h1; cases h1
/-- the instance is written: levels, frames and tokens stand -/
theorem Rp.setX (r : Rp C CF o H s) {fv : V} (h : s'.lv = s.lv ∧ s'.fr = s.fr ∧ s'.found = s.found) (hf : FlV H fv s'.fail) : Rp C CF o (upd H o.x (.ins C o.dx (fsOf s' o fv))) s' := by
  obtain ⟨x1, x2, x3⟩ := (⟨r.xl, r.xf, r.xg⟩ : o.x ≠ o.l ∧ o.x ≠ o.f ∧ o.x ≠ o.g)
  obtain ⟨⟨fv0, h1, h2⟩, ⟨vs, h3, h4⟩, ⟨ws, h5, h6⟩, ⟨us, h7, h8⟩, n1, n2, n3⟩ := r
  obtain ⟨e1, e2, e3⟩ := h
  have k : Ke H (upd H o.x (.ins C o.dx (fsOf s' o fv))) := Ke.ins h1 (by show (11 : Nat) ≠ 3; decide)
  exact ⟨⟨fv, upd_same, k.fl hf⟩, ⟨vs, by rw [upd_ne (Ne.symm x1)]; exact h3, by rw [e1]; exact h4.imp fun _ _ => k.lv⟩, ⟨ws, by rw [upd_ne (Ne.symm x2)]; exact h5, by rw [e2]; exact h6.imp fun _ _ => k.fr⟩, ⟨us, by rw [upd_ne (Ne.symm x3)]; exact h7, by rw [e3]; exact h8.imp fun _ _ => k.tk⟩, n1, n2, n3⟩
/-- the levels' list is written -/
theorem Rp.setL (r : Rp C CF o H s) {vs : List V} {lv : List (Nat × Nat)} (h : A2 (LvV H) vs lv) : Rp C CF o (upd H o.l (.lst vs.reverse)) { s with lv := lv } := by
  have x1 := r.xl
  obtain ⟨⟨fv0, h1, h2⟩, ⟨vs0, h3, h4⟩, ⟨ws, h5, h6⟩, ⟨us, h7, h8⟩, n1, n2, n3⟩ := r
  have k : Ke H (upd H o.l (.lst vs.reverse)) := Ke.lst h3
  exact ⟨⟨fv0, by rw [upd_ne x1]; exact h1, k.fl h2⟩, ⟨vs, upd_same, h.imp fun _ _ => k.lv⟩, ⟨ws, by rw [upd_ne (Ne.symm n1)]; exact h5, h6.imp fun _ _ => k.fr⟩, ⟨us, by rw [upd_ne (Ne.symm n2)]; exact h7, h8.imp fun _ _ => k.tk⟩, n1, n2, n3⟩
theorem Rp.setF (r : Rp C CF o H s) {vs : List V} {fr : List Frm} (h : A2 (FrV CF H) vs fr) : Rp C CF o (upd H o.f (.lst vs.reverse)) { s with fr := fr } := by
  have x1 := r.xf
  obtain ⟨⟨fv0, h1, h2⟩, ⟨vs0, h3, h4⟩, ⟨ws, h5, h6⟩, ⟨us, h7, h8⟩, n1, n2, n3⟩ := r
  have k : Ke H (upd H o.f (.lst vs.reverse)) := Ke.lst h5
  exact ⟨⟨fv0, by rw [upd_ne x1]; exact h1, k.fl h2⟩, ⟨vs0, by rw [upd_ne n1]; exact h3, h4.imp fun _ _ => k.lv⟩, ⟨vs, upd_same, h.imp fun _ _ => k.fr⟩, ⟨us, by rw [upd_ne (Ne.symm n3)]; exact h7, h8.imp fun _ _ => k.tk⟩, n1, n2, n3⟩
theorem Rp.setG (r : Rp C CF o H s) {vs : List V} {ts : List Tk} (h : A2 (TkV H) vs ts) : Rp C CF o (upd H o.g (.lst vs)) { s with found := ts } := by
  have x1 := r.xg
  obtain ⟨⟨fv0, h1, h2⟩, ⟨vs0, h3, h4⟩, ⟨ws, h5, h6⟩, ⟨us, h7, h8⟩, n1, n2, n3⟩ := r
  have k : Ke H (upd H o.g (.lst vs)) := Ke.lst h7
  exact ⟨⟨fv0, by rw [upd_ne x1]; exact h1, k.fl h2⟩, ⟨vs0, by rw [upd_ne n2]; exact h3, h4.imp fun _ _ => k.lv⟩, ⟨ws, by rw [upd_ne n3]; exact h5, h6.imp fun _ _ => k.fr⟩, ⟨vs, upd_same, h.imp fun _ _ => k.tk⟩, n1, n2, n3⟩
/-- all but the scanner's own stands -/
def KO (o : Own) (H H' : Hp) : Prop := ∀ a u, H a = some u → a ≠ o.x → a ≠ o.l → a ≠ o.f → a ≠ o.g → H' a = some u
theorem KO.of (e : Ex H H') : KO o H H' := fun a u h _ _ _ _ => e a u h
theorem KO.refl : KO o H H := fun a u h _ _ _ _ => h
theorem KO.trans {H2 : Hp} (a : KO o H H') (b : KO o H' H2) : KO o H H2 := fun c u h n1 n2 n3 n4 => b c u (a c u h n1 n2 n3 n4) n1 n2 n3 n4
theorem KO.x {u : HO} : KO o H (upd H o.x u) := fun a w h n1 _ _ _ => by rw [upd_ne n1]; exact h
theorem KO.l {u : HO} : KO o H (upd H o.l u) := fun a w h _ n1 _ _ => by rw [upd_ne n1]; exact h
theorem KO.f {u : HO} : KO o H (upd H o.f u) := fun a w h _ _ n1 _ => by rw [upd_ne n1]; exact h
theorem KO.g {u : HO} : KO o H (upd H o.g u) := fun a w h _ _ _ n1 => by rw [upd_ne n1]; exact h
/-- what a method promises: it leaves the state s', and the value v -/
def Does (C CF : Addr) (o : Own) (H : Hp) (s' : Sc) (v : V) (Q : VK) : Prop := ∀ H', KO o H H' → Rp C CF o H' s' → Q v H'
end
end Kt

set_option Elab.async false
set_option linter.all false
set_option maxRecDepth 100000
set_option maxHeartbeats 2000000
namespace Kt
open PySem PySem.Spec PyProof.Rows L2 Evl
/-! ## what the scanner keeps, and that it ends -/
def FrOk : List Frm → Prop
  | [] => True
  | f :: fs => FrOk fs ∧ f.q.length ≤ 3 ∧ match f.mark with
    | .str => f.q ≠ []
    | .fld => f.q ≠ [] ∧ ∃ g gs, fs = g :: gs ∧ (g.mark = .str ∨ g.mark = .fmt)
    | .fmt => f.q ≠ [] ∧ ∃ g gs, fs = g :: gs ∧ g.mark = .fld
    | _ => True
structure Ok (s : Sc) : Prop where
  hl : s.text.length ≤ 20000
  ha : s.at_ ≤ s.text.length
  lv : s.lv ≠ []
  lvn : s.lv.length ≤ 13
  fr : FrOk s.fr
  frn : s.fr.length ≤ s.at_
  cnt : s.found.length + s.lv.length ≤ 2 * s.at_ + 1 ∨ (s.over = true ∧ s.found.length ≤ 2 * s.text.length + 2)
namespace Ok
open Sc
variable {s : Sc} {k : Str} {e a : Nat} {z : Int}
theorem cnt' (h : Ok s) (ho : s.over = false) : s.found.length + s.lv.length ≤ 2 * s.at_ + 1 := by
  rcases h.cnt with c | ⟨c, _⟩
  · exact c
  · rw [ho] at c; cases c
theorem found_le (h : Ok s) : s.found.length ≤ 40002 := by
  have := h.hl; have := h.ha
  rcases h.cnt with c | ⟨_, c⟩ <;> omega
theorem add (h : Ok s) (ho : s.over = false) (h1 : s.at_ < e) (h2 : e ≤ s.text.length) : Ok (s.add k e) :=
  ⟨h.hl, h2, h.lv, h.lvn, h.fr, by have := h.frn; show s.fr.length ≤ e; omega, Or.inl (by
    have := h.cnt' ho
    show (s.found ++ [_]).length + s.lv.length ≤ 2 * e + 1
    rw [List.length_append, List.length_singleton]
    omega)⟩
theorem lex (h : Ok s) (ho : s.over = false) (h1 : s.at_ < e) (h2 : e ≤ s.text.length) : Ok (s.lex k e) :=
  Ok.add (s := { s with begun := true }) ⟨h.hl, h.ha, h.lv, h.lvn, h.fr, h.frn, h.cnt⟩ ho h1 h2
theorem failed (h : Ok s) (ho : s.over = false) : Ok (s.failed k z) := ⟨h.hl, h.ha, h.lv, h.lvn, h.fr, h.frn, Or.inl (h.cnt' ho)⟩
theorem lift {s' : Sc} (h : Ok s) (ho : s.over = false) (e1 : s'.text = s.text) (e2 : s'.lv = s.lv) (e3 : s'.fr = s.fr) (e4 : s'.found = s.found) (h1 : s.at_ ≤ s'.at_) (h2 : s'.at_ ≤ s.text.length) : Ok s' :=
  ⟨by rw [e1]; exact h.hl, by rw [e1]; exact h2, by rw [e2]; exact h.lv, by rw [e2]; exact h.lvn, by rw [e3]; exact h.fr, by rw [e3]; have := h.frn; omega, Or.inl (by rw [e4, e2]; have := h.cnt' ho; omega)⟩
end Ok
namespace Sc
theorem dedents_eq : ∀ (r : List (Nat × Nat)) (s : Sc), (dedents r s).found.length = s.found.length + r.length ∧ (dedents r s).at_ = s.at_ ∧ (dedents r s).text = s.text ∧ (dedents r s).lv = s.lv ∧ (dedents r s).fr = s.fr ∧ (dedents r s).over = s.over
  | [], s => ⟨rfl, rfl, rfl, rfl, rfl, rfl⟩
  | _ :: r, s => by
    obtain ⟨a, b, c, d, e, f⟩ := dedents_eq r (s.add "DEDENT" s.at_)
    refine ⟨?_, b, c, d, e, f⟩
    show (dedents r (s.add "DEDENT" s.at_)).found.length = _
    rw [a]
    show (s.found ++ [_]).length + r.length = _
    simp only [List.length_append, List.length_cons, List.length_nil]
    omega
end Sc
section
open Sc
variable {s : Sc}
theorem finish_ok (h : Ok s) (ho : s.over = false) : Ok s.finish ∧ s.finish.over = true := by
  unfold Sc.finish
  split
  · exact ⟨h.failed ho, rfl⟩
  · cases hf : s.fr with
    | cons f fs => exact ⟨h.failed ho, rfl⟩
    | nil =>
      dsimp only
      obtain ⟨s1, e1, a1, a2, a3, a4, a5⟩ : ∃ s1, s1 = (if s.begun = true then s.add "NEWLINE" s.at_ else s) ∧ s1.found.length ≤ s.found.length + 1 ∧ s1.at_ = s.at_ ∧ s1.text = s.text ∧ s1.lv = s.lv ∧ s1.fr = s.fr := by
        refine ⟨_, rfl, ?_⟩
        split
        · exact ⟨by show (s.found ++ [_]).length ≤ _; simp, rfl, rfl, rfl, rfl⟩
        · exact ⟨by omega, rfl, rfl, rfl, rfl⟩
      rw [← e1]
      obtain ⟨b1, b2, b3, b4, b5, b6⟩ := dedents_eq (s.lv.reverse.drop 1) s1
      have c := h.cnt' ho
      have hlv : 0 < s.lv.length := List.length_pos_iff.mpr h.lv
      have hd : (s.lv.reverse.drop 1).length = s.lv.length - 1 := by simp
      refine ⟨⟨?_, ?_, ?_, ?_, ?_, ?_, Or.inr ⟨rfl, ?_⟩⟩, rfl⟩
      · show (dedents _ s1).text.length ≤ _; rw [b3, a3]; exact h.hl
      · show (dedents _ s1).at_ ≤ (dedents _ s1).text.length; rw [b2, b3, a2, a3]; exact h.ha
      · show (dedents _ s1).lv ≠ []; rw [b4, a4]; exact h.lv
      · show (dedents _ s1).lv.length ≤ _; rw [b4, a4]; exact h.lvn
      · show FrOk (dedents _ s1).fr; rw [b5, a5]; exact h.fr
      · show (dedents _ s1).fr.length ≤ (dedents _ s1).at_; rw [b5, a5, b2, a2]; exact h.frn
      · show ((dedents _ s1).found ++ [_]).length ≤ 2 * (dedents _ s1).text.length + 2
        rw [List.length_append, b1, b3, a3, hd, List.length_singleton]
        have := h.ha
        omega
/-- what a step promises: it keeps Ok, and falls where it goes on -/
def Goes (s : Sc) (r : Sc × Bool) : Prop := Ok r.1 ∧ (r.2 = true → word r.1 < word s ∧ r.1.over = false)
theorem word_lt {s' : Sc} (e1 : s'.text = s.text) (h1 : s.at_ < s'.at_) (h2 : s'.at_ ≤ s.text.length) : word s' < word s := by
  unfold word
  rw [e1]
  split <;> split <;> omega
theorem goes_stop {s' : Sc} (h : Ok s') : Goes s (s', false) := ⟨h, fun z => nomatch z⟩
theorem goes_on {s' : Sc} (h : Ok s') (ho : s'.over = false) (e1 : s'.text = s.text) (h1 : s.at_ < s'.at_) (h2 : s'.at_ ≤ s.text.length) : Goes s (s', true) := ⟨h, fun _ => ⟨word_lt e1 h1 h2, ho⟩⟩
theorem readJoin_ok (h : Ok s) (ho : s.over = false) : Goes s s.readJoin := by
  unfold Sc.readJoin
  split
  · exact goes_stop h
  · split
    · exact goes_stop (h.failed ho)
    · rename_i h1 h2
      have hq : (s.text.drop (s.at_ + 1)).take 1 = [10] := Classical.byContradiction fun z => h2 (Or.inl z)
      have hl : s.at_ + 2 ≤ s.text.length := by
        have := congrArg List.length hq
        rw [List.length_take, List.length_drop] at this
        simp only [List.length_cons, List.length_nil] at this
        omega
      exact goes_on (h.lift ho rfl rfl rfl rfl (by show s.at_ ≤ s.at_ + 2; omega) hl) ho rfl (by show s.at_ < s.at_ + 2; omega) hl
theorem commentEnd_le {a e : Nat} (h : s.commentEnd a = some e) (ha : a ≤ s.text.length) : a ≤ e ∧ e ≤ s.text.length := by
  unfold Sc.commentEnd at h
  have h1 := runEnd_ge (p := notLf) (l := s.text) (j := a)
  have h2 := runEnd_le (p := notLf) ha
  split at h
  · cases h; exact ⟨h1, h2⟩
  · split at h
    · cases h; exact ⟨by omega, Nat.le_refl _⟩
    · cases h
theorem commentEnd_lt {a e : Nat} (h : s.commentEnd a = some e) (ha : s.text[a]? = some 35) : a < e := by
  unfold Sc.commentEnd at h
  have hlt := (List.getElem?_eq_some_iff.mp ha).1
  have h1 := runEnd_more (p := notLf) ha (by decide)
  have h2 := runEnd_ge (p := notLf) (l := s.text) (j := a + 1)
  split at h
  · cases h; omega
  · split at h
    · cases h; exact hlt
    · cases h
theorem readComment_ok (h : Ok s) (ho : s.over = false) (hc : s.text[s.at_]? = some 35) : Goes s s.readComment := by
  unfold Sc.readComment
  cases he : s.commentEnd s.at_ with
  | none => exact goes_stop h
  | some e =>
    have h1 := commentEnd_lt he hc
    have h2 := (commentEnd_le he h.ha).2
    exact goes_on (h.add ho h1 h2) ho rfl h1 h2
theorem readLineFeed_ok (h : Ok s) (ho : s.over = false) (hc : s.text[s.at_]? = some 10) (hf : s.fresh = true → s.fr ≠ []) : Goes s (s.readLineFeed, true) := by
  have hlt := (List.getElem?_eq_some_iff.mp hc).1
  unfold Sc.readLineFeed
  cases e : s.fr with
  | cons f fs => exact goes_on (h.add ho (Nat.lt_succ_self _) hlt) ho rfl (Nat.lt_succ_self _) hlt
  | nil =>
    have hfr : s.fresh = false := by
      cases z : s.fresh with
      | false => rfl
      | true => exact absurd e (hf z)
    refine ⟨(h.add (k := "NEWLINE") ho (Nat.lt_succ_self _) hlt).lift ho rfl rfl rfl rfl (Nat.le_refl _) hlt, fun _ => ⟨?_, ho⟩⟩
    unfold word
    rw [hfr]
    show 2 * (s.text.length - (s.at_ + 1)) + 1 < 2 * (s.text.length - s.at_) + 0
    omega
theorem readLastGap_ok {e : Nat} (h : Ok s) (ho : s.over = false) (h1 : s.at_ ≤ e) (h2 : e = s.text.length) : Ok (s.readLastGap e) := by
  unfold Sc.readLastGap
  refine (finish_ok ?_ ?_).1
  · split
    · rename_i h3
      have g := h.lift (s' := { s with at_ := e }) ho rfl rfl rfl rfl h1 (Nat.le_of_eq h2)
      refine ⟨g.hl, g.ha, g.lv, g.lvn, g.fr, g.frn, Or.inl ?_⟩
      have := h.cnt' ho
      show (s.found ++ [_]).length + s.lv.length ≤ 2 * e + 1
      rw [List.length_append, List.length_singleton]
      omega
    · exact h
  · split
    · exact ho
    · exact ho
theorem readEmptyLine_ok {a : Nat} (h : Ok s) (ho : s.over = false) (h1 : s.at_ ≤ a) (hc : s.text[a]? = some 35 ∨ s.text[a]? = some 10) : Goes s (s.readEmptyLine a) := by
  have hlt : a < s.text.length := by rcases hc with z | z <;> exact (List.getElem?_eq_some_iff.mp z).1
  unfold Sc.readEmptyLine
  cases he : s.commentEnd a with
  | none => exact goes_stop h
  | some e =>
    obtain ⟨h3, h4⟩ := commentEnd_le he (Nat.le_of_lt hlt)
    have g := h.lift (s' := { s with at_ := a }) ho rfl rfl rfl rfl h1 (Nat.le_of_lt hlt)
    have hm : a < min (e + 1) s.text.length := by omega
    dsimp only
    split
    · rename_i h5
      have g2 := g.add (k := "COMMENT") ho h5 h4
      have c := h.cnt' ho
      have hm2 : e ≤ min (e + 1) s.text.length := by omega
      refine goes_on ⟨h.hl, Nat.min_le_right _ _, h.lv, h.lvn, h.fr, ?_, Or.inl ?_⟩ ho rfl (by show s.at_ < min (e + 1) s.text.length; omega) (Nat.min_le_right _ _)
      · show s.fr.length ≤ min (e + 1) s.text.length
        have := h.frn
        omega
      · show ((s.found ++ [_]) ++ [_]).length + s.lv.length ≤ 2 * (min (e + 1) s.text.length) + 1
        rw [List.length_append, List.length_append, List.length_singleton, List.length_singleton]
        omega
    · exact goes_on (g.add ho hm (Nat.min_le_right _ _)) ho rfl (by show s.at_ < min (e + 1) s.text.length; omega) (Nat.min_le_right _ _)
theorem popLv_eq {w e : Nat} : ∀ (lv : List (Nat × Nat)) (s : Sc), s.lv = lv → (∃ p ∈ lv, p.1 = w) → (popLv w e lv s).found.length + (popLv w e lv s).lv.length = s.found.length + lv.length ∧ (popLv w e lv s).lv ≠ [] ∧ (popLv w e lv s).lv.length ≤ lv.length ∧
    (popLv w e lv s).text = s.text ∧ (popLv w e lv s).fr = s.fr ∧ (popLv w e lv s).over = s.over
  | [], s, _, h => by obtain ⟨p, hp, _⟩ := h; cases hp
  | p :: r, s, e0, h => by
    rw [popLv]
    split
    · rename_i h1
      have h2 : ∃ p ∈ r, p.1 = w := by
        obtain ⟨p', hp, hw⟩ := h
        rcases List.mem_cons.mp hp with z | z
        · rw [z] at hw; omega
        · exact ⟨p', z, hw⟩
      obtain ⟨a, b, c, d, f, g⟩ := popLv_eq (w := w) (e := e) r (Sc.add { s with lv := r } "DEDENT" e) rfl h2
      refine ⟨?_, b, ?_, d, f, g⟩
      · rw [a]
        show (s.found ++ [_]).length + r.length = _
        rw [List.length_append, List.length_singleton, List.length_cons]
        omega
      · rw [List.length_cons]; omega
    · exact ⟨rfl, List.cons_ne_nil _ _, Nat.le_refl _, rfl, rfl, rfl⟩
theorem compare_ok {g : List Nat} {e : Nat} (h : Ok s) (ho : s.over = false) (hf : s.fresh = true) (h1 : e = s.at_ + g.length) (h2 : e ≤ s.text.length) : Goes s (s.compare g e) := by
  have c := h.cnt' ho
  have fall : ∀ s' : Sc, s'.text = s.text → s'.at_ = e → s'.fresh = false → word s' < word s := fun s' a b d => by
    unfold word
    rw [a, b, d, hf]
    show 2 * (s.text.length - e) + 0 < 2 * (s.text.length - s.at_) + 1
    omega
  unfold Sc.compare
  dsimp only
  split
  · rename_i h3
    split
    · exact goes_stop (h.failed ho)
    · rename_i h4
      refine ⟨⟨h.hl, h2, List.cons_ne_nil _ _, ?_, h.fr, ?_, Or.inl ?_⟩, fun _ => ⟨fall _ rfl rfl rfl, ho⟩⟩
      · show (_ :: s.lv).length ≤ 13
        rw [List.length_cons]; omega
      · show s.fr.length ≤ e
        have := h.frn; omega
      · show (s.found ++ [_]).length + (_ :: s.lv).length ≤ 2 * e + 1
        rw [List.length_append, List.length_singleton, List.length_cons]
        omega
  · split
    · split
      · exact goes_stop (h.failed ho)
      · split
        · exact goes_stop (h.failed ho)
        · rename_i h5 h6
          have hw : ∃ p ∈ s.lv, p.1 = widthOf g := ⟨_, Classical.byContradiction fun z => h6 z, rfl⟩
          obtain ⟨a, b, c', d, f, g'⟩ := popLv_eq (e := e) s.lv { s with at_ := e } rfl hw
          refine ⟨⟨?_, ?_, b, ?_, ?_, ?_, Or.inl ?_⟩, fun _ => ⟨fall _ d rfl rfl, by show (popLv _ e s.lv _).over = false; rw [g']; exact ho⟩⟩
          · show (popLv _ e s.lv _).text.length ≤ _; rw [d]; exact h.hl
          · show e ≤ (popLv _ e s.lv _).text.length; rw [d]; exact h2
          · show (popLv _ e s.lv _).lv.length ≤ _; exact Nat.le_trans c' h.lvn
          · show FrOk (popLv _ e s.lv _).fr; rw [f]; exact h.fr
          · show (popLv _ e s.lv _).fr.length ≤ e; rw [f]; have := h.frn; show s.fr.length ≤ e; omega
          · show (popLv _ e s.lv _).found.length + (popLv _ e s.lv _).lv.length ≤ 2 * e + 1
            rw [a]
            show s.found.length + s.lv.length ≤ _
            omega
    · split
      · exact goes_stop (h.failed ho)
      · exact ⟨h.lift ho rfl rfl rfl rfl (by show s.at_ ≤ e; omega) h2, fun _ => ⟨fall _ rfl rfl rfl, ho⟩⟩
theorem part_len (h1 : a ≤ e) (h2 : e ≤ s.text.length) : (s.part a e).length = e - a := by
  unfold Sc.part
  rw [List.length_take, List.length_drop]
  omega
theorem readIndentation_ok (h : Ok s) (ho : s.over = false) (hf : s.fresh = true) : Goes s s.readIndentation := by
  have h1 := runEnd_ge (p := isG) (l := s.text) (j := s.at_)
  have h2 := runEnd_le (p := isG) h.ha
  unfold Sc.readIndentation
  dsimp only
  cases hc : s.text[runEnd isG s.text s.at_]? with
  | none =>
    have h3 := List.getElem?_eq_none_iff.mp hc
    dsimp only
    split
    · exact goes_stop (readLastGap_ok h ho h1 (by omega))
    · exact goes_stop h
  | some c =>
    dsimp only
    split
    · rename_i z
      refine readEmptyLine_ok h ho h1 ?_
      rcases z with z | z
      · exact Or.inl (by rw [hc, z])
      · exact Or.inr (by rw [hc, z])
    · exact compare_ok h ho hf (by rw [part_len h1 h2]; omega) h2
theorem neg_cases {i : Int} {n : Nat} {l : Nat} (h : i < 0 ∨ ∃ e : Nat, i = e ∧ n < e ∧ e ≤ l) (h1 : i ≠ -2) (h2 : i ≠ -1) (h3 : i < 0 → i = -2 ∨ i = -1) : n < i.toNat ∧ i.toNat ≤ l := by
  rcases h with z | ⟨e, rfl, z1, z2⟩
  · rcases h3 z with y | y
    · exact absurd y h1
    · exact absurd y h2
  · rw [Int.toNat_natCast]; exact ⟨z1, z2⟩
theorem stringEnd_neg {l q : List Nat} {fin : Bool} : ∀ (k n : Nat), l.length - n = k → stringEnd l n q fin < 0 → stringEnd l n q fin = -2 ∨ stringEnd l n q fin = -1 := by
  intro k
  induction k using Nat.strongRecOn with
  | ind k ih =>
    intro n hk
    cases h : l[n]? with
    | none =>
      rw [stringEnd_end (List.getElem?_eq_none_iff.mp h)]
      cases fin <;> simp
    | some c =>
      have hlt := (List.getElem?_eq_some_iff.mp h).1
      rw [stringEnd_at h]
      split
      · exact ih (l.length - (n + 2)) (by omega) (n + 2) rfl
      · split
        · intro z; omega
        · split
          · exact fun _ => Or.inl rfl
          · exact ih (l.length - (n + 1)) (by omega) (n + 1) rfl
theorem quoteAt_ne {l : List Nat} {n : Nat} {fin : Bool} (h : quoteAt l n fin ≠ []) : n + (quoteAt l n fin).length ≤ l.length ∧ 0 < (quoteAt l n fin).length := by
  have hp := List.length_pos_iff.mpr h
  refine ⟨?_, hp⟩
  cases hq : l[n]? with
  | none =>
    have := List.getElem?_eq_none_iff.mp hq
    unfold quoteAt at h
    rw [List.drop_of_length_le this] at h
    exact absurd rfl h
  | some q =>
    have hlt := (List.getElem?_eq_some_iff.mp hq).1
    rw [quoteAt_at hq]
    split
    · rename_i h3
      have := congrArg List.length h3
      rw [List.length_take, List.length_drop] at this
      simp only [List.length_cons, List.length_nil] at this ⊢
      omega
    · split
      · simp only [List.length_nil]; omega
      · simp only [List.length_cons, List.length_nil]; omega
theorem readString_ok {a : Nat} (h : Ok s) (ho : s.over = false) (h1 : s.at_ ≤ a) : Goes s (s.readString a) := by
  unfold Sc.readString
  dsimp only
  split
  · exact goes_stop h
  · rename_i hq
    obtain ⟨q1, q2⟩ := quoteAt_ne hq
    split
    · exact goes_stop (h.failed ho)
    · split
      · exact goes_stop h
      · rename_i h2 h3
        obtain ⟨z1, z2⟩ := neg_cases (stringEnd_le (l := s.text) (fin := s.fin) hq _ (a + (quoteAt s.text a s.fin).length) rfl) h2 h3 (stringEnd_neg _ _ rfl)
        exact goes_on (h.lex ho (by omega) z2) ho rfl (by show s.at_ < Int.toNat _; omega) z2
theorem beginString_ok {a : Nat} (h : Ok s) (ho : s.over = false) (h1 : s.at_ ≤ a) : Goes s (s.beginString a) := by
  unfold Sc.beginString
  dsimp only
  split
  · exact goes_stop (h.failed ho)
  · split
    · exact goes_stop h
    · rename_i hq
      obtain ⟨q1, q2⟩ := quoteAt_ne hq
      have c := h.cnt' ho
      refine goes_on ⟨h.hl, q1, h.lv, h.lvn, ⟨h.fr, quoteAt_len _ _ _, hq⟩, ?_, Or.inl ?_⟩ ho rfl (by show s.at_ < a + _; omega) q1
      · show (_ :: s.fr).length ≤ a + _
        have := h.frn
        rw [List.length_cons]; omega
      · show (s.found ++ [_]).length + s.lv.length ≤ 2 * (a + _) + 1
        rw [List.length_append, List.length_singleton]; omega
theorem let_word : ∀ c ∈ kLET, isW c = true := fun c h => by unfold isW; rw [decide_eq_true h]; rfl
theorem readWord_ok {c : Nat} (h : Ok s) (ho : s.over = false) (hc : s.text[s.at_]? = some c) (hl : c ∈ kLET) : Goes s s.readWord := by
  have h1 : s.at_ < nameEnd s.text s.at_ := by
    have h2 := runEnd_more (p := isW) hc (let_word c hl)
    have h3 := runEnd_ge (p := isW) (l := s.text) (j := s.at_ + 1)
    show s.at_ < runEnd isW s.text s.at_
    omega
  have h2 : nameEnd s.text s.at_ ≤ s.text.length := runEnd_le h.ha
  have hn : Goes s (s.lex "NAME" (nameEnd s.text s.at_), true) := goes_on (h.lex ho h1 h2) ho rfl h1 h2
  unfold Sc.readWord
  dsimp only
  split
  · exact goes_stop h
  · split
    · split
      · exact readString_ok h ho (Nat.le_of_lt h1)
      · split
        · exact beginString_ok h ho (Nat.le_of_lt h1)
        · exact hn
    · exact hn
theorem openBracket_ok {s0 : Sc} {m : Mark} {q : List Nat} (h : Ok s) (ho : s.over = false) (hlt : s.at_ < s.text.length) (h0 : s0.text = s.text) (h1 : s0.at_ ≤ s.at_) (hf : FrOk (⟨m, s.at_, q⟩ :: s.fr)) : Goes s0 (s.openBracket m q) := by
  unfold Sc.openBracket
  split
  · exact goes_stop (h.failed ho)
  · have c := h.cnt' ho
    refine goes_on ⟨h.hl, hlt, h.lv, h.lvn, hf, ?_, Or.inl ?_⟩ ho h0.symm (by show s0.at_ < s.at_ + 1; omega) (by rw [h0]; exact hlt)
    · show (_ :: s.fr).length ≤ s.at_ + 1
      have := h.frn
      rw [List.length_cons]; omega
    · show (s.found ++ [_]).length + s.lv.length ≤ 2 * (s.at_ + 1) + 1
      rw [List.length_append, List.length_singleton]; omega
theorem opEnd_neg {l : List Nat} {n : Nat} {fin : Bool} : opEnd l n fin < 0 → opEnd l n fin = -2 ∨ opEnd l n fin = -1 := by
  unfold opEnd
  split
  · exact fun _ => Or.inr rfl
  · split
    · intro z; omega
    · exact fun _ => Or.inl rfl
theorem opener_ok {c : Nat} {m : Mark} (h : Sc.opener c = some m) : m = .par ∨ m = .brk ∨ m = .brc := by
  unfold Sc.opener at h
  split at h
  · cases h; exact Or.inl rfl
  · split at h
    · cases h; exact Or.inr (Or.inl rfl)
    · split at h
      · cases h; exact Or.inr (Or.inr rfl)
      · cases h
theorem fr_bra {m : Mark} (h : m = .par ∨ m = .brk ∨ m = .brc) {fs : List Frm} {a : Nat} (hf : FrOk fs) : FrOk (⟨m, a, []⟩ :: fs) := by
  refine ⟨hf, by simp, ?_⟩
  rcases h with rfl | rfl | rfl <;> trivial
theorem fr_tail {f : Frm} {fs : List Frm} (h : FrOk (f :: fs)) : FrOk fs := h.1
theorem readOperator_rest_ok {c : Nat} {own : Bool} (h : Ok s) (ho : s.over = false) (hc : s.text[s.at_]? = some c) : Goes s (Sc.readOperator.rest s c own) := by
  have hlt := (List.getElem?_eq_some_iff.mp hc).1
  unfold Sc.readOperator.rest
  dsimp only
  split
  · exact goes_stop h
  · rename_i h0
    generalize he : (if opEnd s.text s.at_ s.fin = -2 ∧ own = true ∧ c = 33 then (s.at_ + 1 : Int) else opEnd s.text s.at_ s.fin) = e
    split
    · exact goes_stop (h.failed ho)
    · rename_i h2
      have hb : s.at_ < e.toNat ∧ e.toNat ≤ s.text.length := by
        rw [← he] at h2 ⊢
        split at h2
        · rename_i z
          rw [if_pos z]
          have : ((s.at_ : Int) + 1).toNat = s.at_ + 1 := by omega
          rw [this]
          exact ⟨Nat.lt_succ_self _, hlt⟩
        · rename_i z
          rw [if_neg z]
          exact neg_cases (opEnd_le h.ha) h2 h0 opEnd_neg
      split
      · rename_i m hm
        exact openBracket_ok h ho hlt rfl (Nat.le_refl _) (fr_bra (opener_ok hm) h.fr)
      · split
        · split
          · exact goes_stop (h.failed ho)
          · rename_i f fs hfs
            split
            · have c := h.cnt' ho
              have hf := h.fr
              have hn := h.frn
              rw [hfs] at hf hn
              refine goes_on ⟨h.hl, hb.2, h.lv, h.lvn, fr_tail hf, ?_, Or.inl ?_⟩ ho rfl hb.1 hb.2
              · show fs.length ≤ e.toNat
                rw [List.length_cons] at hn; omega
              · show (s.found ++ [_]).length + s.lv.length ≤ 2 * e.toNat + 1
                rw [List.length_append, List.length_singleton]; omega
            · exact goes_stop (h.failed ho)
        · exact goes_on (h.lex ho hb.1 hb.2) ho rfl hb.1 hb.2
theorem topFld_some {f : Frm} (h : s.topFld = some f) : ∃ fs, s.fr = f :: fs ∧ f.mark = .fld := by
  unfold Sc.topFld at h
  split at h
  · rename_i g gs e
    split at h
    · cases h; exact ⟨gs, e, ‹_›⟩
    · cases h
  · cases h
theorem readOperator_ok {c : Nat} (h : Ok s) (ho : s.over = false) (hc : s.text[s.at_]? = some c) : Goes s (s.readOperator c) := by
  have hlt := (List.getElem?_eq_some_iff.mp hc).1
  unfold Sc.readOperator
  split
  · rename_i f hf
    split
    · obtain ⟨fs, e1, e2⟩ := topFld_some hf
      have c := h.cnt' ho
      have hq : f.q.length ≤ 3 ∧ f.q ≠ [] := by
        have z := h.fr
        rw [e1] at z
        refine ⟨z.2.1, ?_⟩
        have z2 := z.2.2
        rw [e2] at z2
        exact z2.1
      refine goes_on ⟨h.hl, hlt, h.lv, h.lvn, ⟨h.fr, hq.1, hq.2, f, fs, e1, e2⟩, ?_, Or.inl ?_⟩ ho rfl (Nat.lt_succ_self _) hlt
      · show (_ :: s.fr).length ≤ s.at_ + 1
        have := h.frn
        rw [List.length_cons]; omega
      · show (s.found ++ [_]).length + s.lv.length ≤ 2 * (s.at_ + 1) + 1
        rw [List.length_append, List.length_singleton]; omega
    · exact readOperator_rest_ok h ho hc
  · exact readOperator_rest_ok h ho hc
theorem numberEnd_neg {l : List Nat} {n : Nat} {fin : Bool} : numberEnd l n fin < 0 → numberEnd l n fin = -2 ∨ numberEnd l n fin = -1 := by
  unfold numberEnd
  split
  · exact fun _ => Or.inr rfl
  · split
    · split
      · exact fun _ => Or.inl rfl
      · intro z; omega
    · intro z; omega
theorem readLexeme_ok {c : Nat} (h : Ok s) (ho : s.over = false) (hc : s.text[s.at_]? = some c) : Goes s (s.readLexeme c) := by
  unfold Sc.readLexeme
  split
  · rename_i hl
    exact readWord_ok h ho hc hl
  · split
    · exact readString_ok h ho (Nat.le_refl _)
    · split
      · rename_i hd
        dsimp only
        split
        · exact goes_stop (h.failed ho)
        · split
          · exact goes_stop h
          · rename_i h2 h3
            have hb : s.at_ < (numberEnd s.text s.at_ s.fin).toNat ∧ (numberEnd s.text s.at_ s.fin).toNat ≤ s.text.length := by
              rcases numberEnd_le (l := s.text) (fin := s.fin) h.ha with z | ⟨e, z1, z2, z3, z4⟩
              · rcases numberEnd_neg z with y | y
                · exact absurd y h2
                · exact absurd y h3
              · rw [z1, Int.toNat_natCast]
                refine ⟨?_, z3⟩
                rw [z4, drop_at hc]
                rcases hd with y | ⟨y, d, hd1, hd2⟩
                · exact numGo_digit y
                · rw [y, drop_at hd1]
                  exact numGo_point hd2
            exact goes_on (h.lex ho hb.1 hb.2) ho rfl hb.1 hb.2
      · exact readOperator_ok h ho hc
/-! formatted strings -/
theorem partGo_le (q : List Nat) (isS fin : Bool) : ∀ (k : Nat) (r : List Nat) (n : Nat), r.length = k → (partGo q isS fin r n = -2 ∨ partGo q isS fin r n = -1) ∨ ∃ e : Nat, partGo q isS fin r n = e ∧ n ≤ e ∧ e < n + r.length := by
  intro k
  induction k using Nat.strongRecOn with
  | ind k ih =>
    intro r n hk
    cases r with
    | nil =>
      rw [partGo]
      left
      cases fin <;> simp
    | cons c r =>
      have more : ∀ (t : List Nat) (j : Nat), t.length + j = r.length + 1 → 0 < j → (partGo q isS fin t (n + j) = -2 ∨ partGo q isS fin t (n + j) = -1) ∨ ∃ e : Nat, partGo q isS fin t (n + j) = e ∧ n ≤ e ∧ e < n + (c :: r).length := fun t j ht hj => by
        rw [List.length_cons] at hk
        rcases ih t.length (by omega) t (n + j) rfl with z | ⟨e, z1, z2, z3⟩
        · exact Or.inl z
        · exact Or.inr ⟨e, z1, by omega, by rw [List.length_cons]; omega⟩
      have here : ((n : Int) = -2 ∨ (n : Int) = -1) ∨ ∃ e : Nat, (n : Int) = e ∧ n ≤ e ∧ e < n + (c :: r).length := Or.inr ⟨n, rfl, Nat.le_refl _, by rw [List.length_cons]; omega⟩
      unfold partGo
      split
      · exact Or.inl (Or.inr rfl)
      · split
        · cases r with
          | nil => left; cases fin <;> simp
          | cons d r' =>
            dsimp only
            split
            · exact more (d :: r') 1 (by simp) (by decide)
            · exact more r' 2 (by simp) (by decide)
        · split
          · exact here
          · split
            · exact Or.inl (Or.inl rfl)
            · split
              · cases r with
                | nil => exact Or.inl (Or.inr rfl)
                | cons d r' => exact more r' 2 (by simp) (by decide)
              · split
                · exact Or.inl (Or.inr rfl)
                · split
                  · exact here
                  · exact more r 1 (by simp) (by decide)
theorem partEnd_le {f : Frm} (h : Ok s) : (s.partEnd f = -2 ∨ s.partEnd f = -1) ∨ ∃ e : Nat, s.partEnd f = e ∧ s.at_ ≤ e ∧ e < s.text.length := by
  rcases partGo_le f.q f.mark.isStr s.fin _ (s.text.drop s.at_) s.at_ rfl with z | ⟨e, z1, z2, z3⟩
  · exact Or.inl z
  · exact Or.inr ⟨e, z1, z2, by rw [List.length_drop] at z3; omega⟩
/-- a part is added: what stands, what moves -/
theorem addPart_eq {e : Nat} (h : Ok s) (ho : s.over = false) (h1 : s.at_ ≤ e) (h2 : e ≤ s.text.length) : Ok (s.addPart e) ∧ (s.addPart e).over = false ∧ (s.addPart e).text = s.text ∧ (s.addPart e).at_ = e ∧ (s.addPart e).fr = s.fr ∧ (s.addPart e).fin = s.fin := by
  unfold Sc.addPart
  split
  · rename_i h3
    exact ⟨h.add ho h3 h2, ho, rfl, rfl, rfl, rfl⟩
  · have : e = s.at_ := by omega
    exact ⟨h, ho, rfl, this.symm, rfl, rfl⟩
theorem readPart_ok {f : Frm} {fs : List Frm} (h : Ok s) (ho : s.over = false) (hf : s.fr = f :: fs) (hm : f.mark = .str ∨ f.mark = .fmt) : Goes s (s.readPart f) := by
  have hq : f.q.length ≤ 3 ∧ f.q ≠ [] := by
    have z := h.fr
    rw [hf] at z
    refine ⟨z.2.1, ?_⟩
    have z2 := z.2.2
    rcases hm with e | e <;> rw [e] at z2
    · exact z2
    · exact z2.1
  unfold Sc.readPart
  dsimp only
  split
  · exact goes_stop h
  · split
    · exact goes_stop (h.failed ho)
    · rename_i h1 h2
      rcases partEnd_le (f := f) h with (z | z) | ⟨e, z1, z2, z3⟩
      · exact absurd z h2
      · exact absurd z h1
      · rw [z1, Int.toNat_natCast]
        obtain ⟨g, go, gt, ga, gf, _⟩ := addPart_eq (e := e) h ho z2 (Nat.le_of_lt z3)
        have c := g.cnt' go
        rw [ga] at c
        split
        · refine openBracket_ok g go (by rw [ga, gt]; exact z3) gt.symm (by rw [ga]; exact z2) ?_
          have gfr := g.fr
          rw [gf, hf] at gfr ⊢
          exact ⟨gfr, hq.1, hq.2, f, fs, rfl, hm⟩
        · unfold Sc.endFormat
          split
          · exact goes_stop (g.failed go)
          · rename_i hns
            have gfr := g.fr
            have gn := g.frn
            rw [ga] at gn
            refine goes_on ⟨g.hl, ?_, g.lv, g.lvn, ?_, ?_, Or.inl ?_⟩ go gt (by show s.at_ < (s.addPart e).at_ + 1; rw [ga]; omega) (by show (s.addPart e).at_ + 1 ≤ _; rw [ga]; exact z3)
            · show (s.addPart e).at_ + 1 ≤ (s.addPart e).text.length; rw [ga, gt]; exact z3
            · show FrOk ((s.addPart e).fr.drop 2)
              cases hh : (s.addPart e).fr with
              | nil => trivial
              | cons a t =>
                rw [hh] at gfr
                cases t with
                | nil => trivial
                | cons b t => exact gfr.1.1
            · show ((s.addPart e).fr.drop 2).length ≤ (s.addPart e).at_ + 1
              rw [List.length_drop, ga]; omega
            · show ((s.addPart e).found ++ [_]).length + (s.addPart e).lv.length ≤ 2 * ((s.addPart e).at_ + 1) + 1
              rw [List.length_append, List.length_singleton, ga]; omega
        · split
          · exact goes_stop (g.failed go)
          · rename_i hc1 hc2 hnf
            have hms : f.mark = .str := hm.resolve_right hnf
            have hle : e + f.q.length ≤ s.text.length := by
              -- the part ends at its quote
              have hpe := z1
              unfold Sc.partEnd at hpe
              rw [hms] at hpe
              have key : ∀ (k : Nat) (r : List Nat) (n : Nat), r.length = k → n + r.length ≤ s.text.length → partGo f.q Mark.str.isStr s.fin r n = (e : Int) → e + f.q.length ≤ s.text.length ∨ (r[e - n]? = some 123 ∨ r[e - n]? = some 125) := by
                intro k
                induction k using Nat.strongRecOn with
                | ind k ih =>
                  intro r n hk hn hp
                  cases r with
                  | nil => rw [partGo] at hp; split at hp <;> omega
                  | cons c r =>
                    have more : ∀ (t : List Nat) (j : Nat), t = (c :: r).drop j → 0 < j → j ≤ r.length + 1 → partGo f.q Mark.str.isStr s.fin t (n + j) = (e : Int) → e + f.q.length ≤ s.text.length ∨ ((c :: r)[e - n]? = some 123 ∨ (c :: r)[e - n]? = some 125) := fun t j ht hj hj2 hp => by
                      have hl : t.length = r.length + 1 - j := by rw [ht, List.length_drop, List.length_cons]
                      rw [List.length_cons] at hk hn
                      rcases partGo_le f.q Mark.str.isStr s.fin _ t (n + j) rfl with (y | y) | ⟨e', y1, y2, y3⟩
                      · omega
                      · omega
                      · have ee : e' = e := by omega
                        rcases ih t.length (by omega) t (n + j) rfl (by omega) hp with y | y
                        · exact Or.inl y
                        · right
                          rw [ht, List.getElem?_drop] at y
                          have : j + (e - (n + j)) = e - n := by omega
                          rw [this] at y
                          exact y
                    unfold partGo at hp
                    split at hp
                    · omega
                    · split at hp
                      · cases r with
                        | nil => dsimp only at hp; split at hp <;> omega
                        | cons d r' =>
                          dsimp only at hp
                          split at hp
                          · exact more _ 1 rfl (by decide) (by simp) hp
                          · exact more _ 2 rfl (by decide) (by simp) hp
                      · split at hp
                        · rename_i hh
                          have := congrArg List.length hh
                          rw [List.length_take] at this
                          left
                          omega
                        · split at hp
                          · omega
                          · split at hp
                            · cases r with
                              | nil => exact absurd hp (by show ¬ (-1 : Int) = e; omega)
                              | cons d r' => exact more _ 2 rfl (by decide) (by simp) hp
                            · split at hp
                              · omega
                              · split at hp
                                · rename_i hh
                                  right
                                  have : e - n = 0 := by omega
                                  rw [this]
                                  rcases hh with y | y
                                  · left; rw [y]; rfl
                                  · right; rw [y]; rfl
                                · exact more _ 1 rfl (by decide) (by simp) hp
              rcases key _ (s.text.drop s.at_) s.at_ rfl (by rw [List.length_drop]; have := h.ha; omega) hpe with y | y
              · exact y
              · exfalso
                rw [List.getElem?_drop] at y
                have : s.at_ + (e - s.at_) = e := by omega
                rw [this] at y
                rcases y with y | y
                · exact hc1 y
                · exact hc2 y
            have hqp := List.length_pos_iff.mpr hq.2
            have gfr := g.fr
            have gn := g.frn
            rw [ga] at gn
            refine goes_on ⟨g.hl, ?_, g.lv, g.lvn, ?_, ?_, Or.inl ?_⟩ go gt (by show s.at_ < e + f.q.length; omega) hle
            · show e + f.q.length ≤ (s.addPart e).text.length; rw [gt]; exact hle
            · show FrOk ((s.addPart e).fr.drop 1)
              rw [gf, hf] at gfr ⊢
              exact gfr.1
            · show ((s.addPart e).fr.drop 1).length ≤ e + f.q.length
              rw [List.length_drop]; omega
            · show ((s.addPart e).found ++ [_]).length + (s.addPart e).lv.length ≤ 2 * (e + f.q.length) + 1
              rw [List.length_append, List.length_singleton]; omega
theorem skip_eq (h : Ok s) (ho : s.over = false) : Ok s.skip ∧ s.skip.over = false ∧ s.skip.text = s.text ∧ s.at_ ≤ s.skip.at_ ∧ s.skip.fr = s.fr ∧ s.skip.fresh = s.fresh ∧ s.skip.at_ = runEnd isG s.text s.at_ := by
  have h1 := runEnd_ge (p := isG) (l := s.text) (j := s.at_)
  have h2 := runEnd_le (p := isG) h.ha
  unfold Sc.skip
  split
  · exact ⟨h.lift ho rfl rfl rfl rfl h1 h2, ho, rfl, h1, rfl, rfl, rfl⟩
  · exact ⟨h, ho, rfl, Nat.le_refl _, rfl, rfl, by omega⟩
theorem Goes.from {s1 : Sc} {r : Sc × Bool} (g : Goes s1 r) (h : word s1 ≤ word s) : Goes s r := ⟨g.1, fun z => ⟨Nat.lt_of_lt_of_le (g.2 z).1 h, (g.2 z).2⟩⟩
theorem readOn1_ok (h : Ok s) (ho : s.over = false) (hf : s.fresh = true → s.fr ≠ []) : Goes s s.readOn1 := by
  unfold Sc.readOn1
  cases hc : s.text[s.at_]? with
  | none =>
    dsimp only
    split
    · exact goes_stop (finish_ok h ho).1
    · exact goes_stop h
  | some c =>
    dsimp only
    split
    · exact readJoin_ok h ho
    · split
      · rename_i z
        exact readComment_ok h ho (by rw [hc, z])
      · split
        · rename_i z
          exact readLineFeed_ok h ho (by rw [hc, z]) hf
        · exact readLexeme_ok h ho hc
theorem topPart_some {f : Frm} (h : s.topPart = some f) : ∃ fs, s.fr = f :: fs ∧ (f.mark = .str ∨ f.mark = .fmt) := by
  unfold Sc.topPart at h
  split at h
  · rename_i g gs e
    split at h
    · cases h; exact ⟨gs, e, ‹_›⟩
    · cases h
  · cases h
theorem step_ok (h : Ok s) (ho : s.over = false) : Goes s (step s) := by
  unfold Sc.step
  split
  · rename_i f hf
    obtain ⟨fs, e1, e2⟩ := topPart_some hf
    exact readPart_ok h ho e1 e2
  · split
    · rename_i hh
      exact readIndentation_ok h ho hh.1
    · rename_i hh
      obtain ⟨a, b, c, d, e, f, _⟩ := skip_eq h ho
      refine (readOn1_ok a b (fun z y => hh ⟨by rw [← f]; exact z, by rw [← e]; exact y⟩)).from ?_
      unfold word
      rw [c, f]
      omega
/-! the loop -/
theorem run_ok : ∀ (k : Nat) {s : Sc}, Ok s → Ok (run k s)
  | 0, _, h => h
  | k + 1, s, h => by
    rw [Sc.run]
    cases ho : s.over with
    | true => rw [if_pos rfl]; exact h
    | false =>
      rw [if_neg Bool.false_ne_true]
      have g := step_ok h ho
      split
      · exact run_ok k g.1
      · exact g.1
theorem run_go (k : Nat) (ho : s.over = false) : Sc.run (k + 1) s = if (step s).2 = true then Sc.run k (step s).1 else (step s).1 := by
  rw [Sc.run, if_neg (by rw [ho]; exact Bool.false_ne_true)]
theorem run_more : ∀ (k : Nat) {s : Sc}, Ok s → word s < k → Sc.run k s = Sc.run (word s + 1) s
  | 0, _, _, h => absurd h (by omega)
  | k + 1, s, h, hk => by
    cases ho : s.over with
    | true => rw [Sc.run, Sc.run, if_pos ho, if_pos ho]
    | false =>
      have g := step_ok h ho
      rw [run_go k ho, run_go (word s) ho]
      cases hb : (step s).2 with
      | false => rfl
      | true =>
        obtain ⟨g1, _⟩ := g.2 hb
        rw [if_pos rfl, if_pos rfl, run_more k g.1 (by omega), ← run_more (word s) g.1 g1]
/-- one turn of the loop -/
theorem go_turn (h : Ok s) (ho : s.over = false) (hb : (step s).2 = true) : s.go = (step s).1.go := by
  have g := step_ok h ho
  obtain ⟨g1, _⟩ := g.2 hb
  unfold Sc.go
  rw [Sc.run, if_neg (by rw [ho]; exact Bool.false_ne_true), if_pos hb]
  exact run_more _ g.1 g1
theorem go_stop (ho : s.over = false) (hb : (step s).2 = false) : s.go = (step s).1 := by
  unfold Sc.go
  rw [Sc.run, if_neg (by rw [ho]; exact Bool.false_ne_true), if_neg (by rw [hb]; exact Bool.false_ne_true)]
theorem go_over (ho : s.over = true) : s.go = s := by
  unfold Sc.go
  rw [Sc.run, if_pos ho]
theorem go_ok (h : Ok s) : Ok s.go := run_ok _ h
theorem new_ok : Ok Sc.new := ⟨by decide, by decide, by decide, by decide, trivial, by decide, Or.inl (by decide)⟩
theorem feed_ok {p : List Nat} (h : Ok s) (hp : s.text.length + p.length ≤ 20000) : Ok (s.feed p) := by
  refine go_ok ⟨by show (s.text ++ p).length ≤ _; rw [List.length_append]; exact hp, by show s.at_ ≤ (s.text ++ p).length; rw [List.length_append]; have := h.ha; omega, h.lv, h.lvn, h.fr, h.frn, ?_⟩
  rcases h.cnt with c | ⟨c, d⟩
  · exact Or.inl c
  · refine Or.inr ⟨c, ?_⟩
    show s.found.length ≤ 2 * (s.text ++ p).length + 2
    rw [List.length_append]; omega
theorem close_ok (h : Ok s) : Ok s.close := go_ok ⟨h.hl, h.ha, h.lv, h.lvn, h.fr, h.frn, h.cnt⟩
end
end Kt

set_option Elab.async false
set_option linter.all false
set_option maxRecDepth 100000
set_option maxHeartbeats 2000000
namespace Kt
open PySem PySem.Spec PyProof.Rows L2 Evl
/-! ## the scanner's attributes read and written -/
structure ScT (K : PySem.W.Frag) (C CF : Addr) : Prop where
  c : Cls K C
  cF : Cls K CF
  text : NoAttr K C "text"
  at_ : NoAttr K C "at"
  levels : NoAttr K C "levels"
  frames : NoAttr K C "frames"
  found : NoAttr K C "found"
  failure : NoAttr K C "failure"
  fresh : NoAttr K C "is_fresh"
  begun : NoAttr K C "is_begun"
  fin : NoAttr K C "is_final"
  over : NoAttr K C "is_over"
  join : NoAttr K C "join"
  mark : NoAttr K CF "mark"
  fat : NoAttr K CF "at"
  quote : NoAttr K CF "quote"
section
variable {K : PySem.W.Frag} {C CF : Addr} {o : Own} {H : Hp} {s s' : Sc} {σ : L2.St} {ta te tb : TE} {ts : TA} {v : V} {D : Ends} {tz : TS}
theorem ev_at' (t : ScT K C CF) (r : Rp C CF o H s) (h : Ev ta σ H (.ref o.x)) {f : Str} (n : NoAttr K C f) (hl : ∀ fv, (fsOf s o fv).lookup f = some v) : Ev (tFld K ta f) σ H v := by
  obtain ⟨⟨fv, h1, _⟩, _⟩ := r
  exact ev_fld h h1 t.c n (hl fv)
theorem ev_text (t : ScT K C CF) (r : Rp C CF o H s) (h : Ev ta σ H (.ref o.x)) : Ev (tFld K ta "text") σ H (.str (S s.text)) := ev_at' t r h t.text fun _ => rfl
theorem ev_pos (t : ScT K C CF) (r : Rp C CF o H s) (h : Ev ta σ H (.ref o.x)) : Ev (tFld K ta "at") σ H (.int (s.at_ : Int)) := ev_at' t r h t.at_ fun _ => rfl
theorem ev_lvs (t : ScT K C CF) (r : Rp C CF o H s) (h : Ev ta σ H (.ref o.x)) : Ev (tFld K ta "levels") σ H (.ref o.l) := ev_at' t r h t.levels fun _ => rfl
theorem ev_frs (t : ScT K C CF) (r : Rp C CF o H s) (h : Ev ta σ H (.ref o.x)) : Ev (tFld K ta "frames") σ H (.ref o.f) := ev_at' t r h t.frames fun _ => rfl
theorem ev_fnd (t : ScT K C CF) (r : Rp C CF o H s) (h : Ev ta σ H (.ref o.x)) : Ev (tFld K ta "found") σ H (.ref o.g) := ev_at' t r h t.found fun _ => rfl
theorem ev_fresh (t : ScT K C CF) (r : Rp C CF o H s) (h : Ev ta σ H (.ref o.x)) : Ev (tFld K ta "is_fresh") σ H (.bl s.fresh) := ev_at' t r h t.fresh fun _ => rfl
theorem ev_begun (t : ScT K C CF) (r : Rp C CF o H s) (h : Ev ta σ H (.ref o.x)) : Ev (tFld K ta "is_begun") σ H (.bl s.begun) := ev_at' t r h t.begun fun _ => rfl
theorem ev_fin (t : ScT K C CF) (r : Rp C CF o H s) (h : Ev ta σ H (.ref o.x)) : Ev (tFld K ta "is_final") σ H (.bl s.fin) := ev_at' t r h t.fin fun _ => rfl
theorem ev_over (t : ScT K C CF) (r : Rp C CF o H s) (h : Ev ta σ H (.ref o.x)) : Ev (tFld K ta "is_over") σ H (.bl s.over) := ev_at' t r h t.over fun _ => rfl
theorem ev_join (t : ScT K C CF) (r : Rp C CF o H s) (h : Ev ta σ H (.ref o.x)) : Ev (tFld K ta "join") σ H (.int s.join) := ev_at' t r h t.join fun _ => rfl
/-- len(self.text) -/
theorem ev_len (t : ScT K C CF) (r : Rp C CF o H s) (h : Ev ta σ H (.ref o.x)) (hl : s.text.length ≤ 20000) : Ev (tCB (fun xs H Q => ∃ z, xs = [V.str z] ∧ z.length ≤ sizeLine ∧ Q (.int z.length) H) (tCons (tFld K ta "text") tNil)) σ H (.int (s.text.length : Int)) :=
  ev_cb (ea_cons (ev_text t r h) ea_nil) (rc_lenS (by omega))
/-- self.text[n] -/
theorem ev_sign (t : ScT K C CF) (r : Rp C CF o H s) (h : Ev ta σ H (.ref o.x)) (hl : s.text.length ≤ 20000) {n c : Nat} (hn : Ev tb σ H (.int (n : Int))) (hc : s.text[n]? = some c) : Ev (tOp rIxS (tFld K ta "text") tb) σ H (.str (S [c])) :=
  ev_op (ev_text t r h) hn (rv_ixSn (by omega) hc)
/-- self.frames == [], != [] -/
theorem seqF (r : Rp C CF o H s) : ∃ vs, SqL K H o.f vs ∧ decide (vs = []) = decide (s.fr = []) := by
  obtain ⟨_, _, ⟨vs, h1, h2⟩, _⟩ := r
  refine ⟨_, sq_of h1, decide_eq_decide.mpr ?_⟩
  rw [List.reverse_eq_nil_iff, ← List.length_eq_zero_iff, ← List.length_eq_zero_iff, h2.len]
theorem ev_frNe (t : ScT K C CF) (r : Rp C CF o H s) (h : Ev ta σ H (.ref o.x)) : Ev (tOp (rNeE K) (tFld K ta "frames") (tLst tNil)) σ H (.bl (!decide (s.fr = []))) := by
  obtain ⟨vs, h1, h2⟩ := seqF (K := K) r
  rw [← h2]
  exact ev_neE (ev_frs t r h) h1
theorem ev_frEq (t : ScT K C CF) (r : Rp C CF o H s) (h : Ev ta σ H (.ref o.x)) : Ev (tOp (rEqE K) (tFld K ta "frames") (tLst tNil)) σ H (.bl (decide (s.fr = []))) := by
  obtain ⟨vs, h1, h2⟩ := seqF (K := K) r
  rw [← h2]
  exact ev_eqE (ev_frs t r h) h1
/-- self.frames[-1] -/
theorem ev_top (t : ScT K C CF) (r : Rp C CF o H s) (h : Ev ta σ H (.ref o.x)) {f : Frm} {fs : List Frm} (hf : s.fr = f :: fs) : ∃ v, FrV CF H v f ∧ Ev (tOp (rIxL K) (tFld K ta "frames") (tUn (rU fun i => .int (-i)) (tC (.int 1)))) σ H v := by
  have r0 := r
  obtain ⟨_, _, ⟨vs, h1, h2⟩, _⟩ := r
  rw [hf] at h2
  cases h2 with
  | cons h3 h4 => exact ⟨_, h3, ev_op (ev_frs t r0 h) (ev_un ev_c ru_neg) (rv_ixL (sq_of h1) at_last)⟩
/-- a frame's attributes -/
theorem ev_mark (t : ScT K C CF) {f : Frm} (hv : FrV CF H v f) (h : Ev ta σ H v) : Ev (tFld K ta "mark") σ H (.str f.mark.txt) := by
  obtain ⟨q, dq, rfl, h1⟩ := hv
  exact ev_fld h h1 t.cF t.mark rfl
theorem ev_fat (t : ScT K C CF) {f : Frm} (hv : FrV CF H v f) (h : Ev ta σ H v) : Ev (tFld K ta "at") σ H (.int (f.at_ : Int)) := by
  obtain ⟨q, dq, rfl, h1⟩ := hv
  exact ev_fld h h1 t.cF t.fat rfl
theorem ev_quote (t : ScT K C CF) {f : Frm} (hv : FrV CF H v f) (h : Ev ta σ H v) : Ev (tFld K ta "quote") σ H (.str (S f.q)) := by
  obtain ⟨q, dq, rfl, h1⟩ := hv
  exact ev_fld h h1 t.cF t.quote rfl
/-- self.f = v -/
theorem s_setX (t : ScT K C CF) (r : Rp C CF o H s) (s' : Sc) {f : Str} (n : NoAttr K C f) (hv : Ev te σ H v) (ho : Ev ta σ H (.ref o.x)) (hs : ∀ fv, putF f v (fsOf s o fv) = fsOf s' o fv) (hk : s'.lv = s.lv ∧ s'.fr = s.fr ∧ s'.found = s.found ∧ s'.fail = s.fail)
    (k : ∀ H1, KO o H H1 → Rp C CF o H1 s' → D.nx σ H1) : sFld K ta te f D σ H := by
  have r0 := r
  obtain ⟨⟨fv, h1, h2⟩, _⟩ := r
  refine s_fld hv ho h1 t.c n (by show (11 : Nat) < 1000; decide) fun H1 e1 => ?_
  rw [hs fv]
  exact k _ ((KO.of e1).trans KO.x) ((r0.ex e1).setX ⟨hk.1, hk.2.1, hk.2.2.1⟩ (by rw [hk.2.2.2]; exact (Ke.of e1).fl h2))
theorem q_setX (t : ScT K C CF) (r : Rp C CF o H s) (s' : Sc) {f : Str} (n : NoAttr K C f) (hv : Ev te σ H v) (ho : Ev ta σ H (.ref o.x)) (hs : ∀ fv, putF f v (fsOf s o fv) = fsOf s' o fv) (hk : s'.lv = s.lv ∧ s'.fr = s.fr ∧ s'.found = s.found ∧ s'.fail = s.fail)
    (k : ∀ H1, KO o H H1 → Rp C CF o H1 s' → tz D σ H1) : tSeq (sFld K ta te f) tz D σ H := s_setX (D := { D with nx := tz D }) t r s' n hv ho hs hk k
/-- self.failure = (kind, at) -/
theorem q_setFail (t : ScT K C CF) (r : Rp C CF o H s) {kd : Str} {z : Int} (hv : EvU te σ H [.str kd, .int z]) (ho : Ev ta σ H (.ref o.x)) (k : ∀ H1, KO o H H1 → Rp C CF o H1 { s with fail := some (kd, z) } → tz D σ H1) : tSeq (sFld K ta te "failure") tz D σ H := by
  have r0 := r
  obtain ⟨⟨fv, h1, h2⟩, _⟩ := r
  refine hv H (Ex.refl _) _ fun p H1 _ e1 hp => ho H1 e1 _ fun H2 e2 => ⟨o.x, C, o.dx, _, rfl, e2 _ _ (e1 _ _ h1), t.c, t.failure, by show (11 : Nat) < 1000; decide, ?_⟩
  exact k _ ((KO.of (e1.trans e2)).trans KO.x) ((r0.ex (e1.trans e2)).setX (s' := { s with fail := some (kd, z) }) ⟨rfl, rfl, rfl⟩ ⟨p, rfl, e2 _ _ hp⟩)
/-- self.at += n -/
theorem s_augAt (t : ScT K C CF) (r : Rp C CF o H s) {n : Nat} (ho : ∀ H1, Ex H H1 → Ev ta σ H1 (.ref o.x)) (hv : ∀ H1, Ex H H1 → Ev te σ H1 (.int (n : Int))) (k : ∀ H1, KO o H H1 → Rp C CF o H1 { s with at_ := s.at_ + n } → D.nx σ H1) : sFldAug K ta te rAdd "at" D σ H := by
  have r0 := r
  obtain ⟨⟨fv, h1, h2⟩, _⟩ := r
  refine ho H (Ex.refl _) H (Ex.refl _) _ fun H1 e1 => ⟨o.x, C, o.dx, _, _, rfl, e1 _ _ h1, t.c, t.at_, rfl, hv H1 e1 H1 (Ex.refl _) _ fun H2 e2 => ⟨(s.at_ : Int), (n : Int), rfl, rfl, o.dx, _, e2 _ _ (e1 _ _ h1), by show (11 : Nat) < 1000; decide, ?_⟩⟩
  have e : ((s.at_ : Int) + (n : Int)) = ((s.at_ + n : Nat) : Int) := by omega
  rw [e]
  exact k _ ((KO.of (e1.trans e2)).trans KO.x) ((r0.ex (e1.trans e2)).setX (s' := { s with at_ := s.at_ + n }) ⟨rfl, rfl, rfl⟩ ((Ke.of (e1.trans e2)).fl h2))
theorem q_augAt (t : ScT K C CF) (r : Rp C CF o H s) {n : Nat} (ho : ∀ H1, Ex H H1 → Ev ta σ H1 (.ref o.x)) (hv : ∀ H1, Ex H H1 → Ev te σ H1 (.int (n : Int))) (k : ∀ H1, KO o H H1 → Rp C CF o H1 { s with at_ := s.at_ + n } → tz D σ H1) : tSeq (sFldAug K ta te rAdd "at") tz D σ H :=
  s_augAt (D := { D with nx := tz D }) t r ho hv k
/-- self.found.append((kind, text, at)) -/
theorem q_appTk (t : ScT K C CF) (r : Rp C CF o H s) (hn : s.found.length < 90000) {k : Str} {z : List Nat} {n : Nat} (ho : Ev ta σ H (.ref o.x)) (hv : EvU te σ H [.str k, .str (S z), .int (n : Int)]) (kk : ∀ H1, KO o H H1 → Rp C CF o H1 { s with found := s.found ++ [⟨k, z, n⟩] } → tz D σ H1) :
    tSeq (tDrop (tBM K "list" rAppend (tFld K ta "found") (tCons te tNil))) tz D σ H := by
  have r0 := r
  obtain ⟨_, _, _, ⟨vs, h1, h2⟩, _⟩ := r
  refine q_appU h1 (ev_fnd t r0 ho) hv (by rw [h2.len]; omega) fun p H1 hp e1 h3 => ?_
  exact kk _ ((KO.of e1).trans KO.g) ((r0.ex e1).setG ((h2.imp fun _ _ => (Ke.of e1).tk).snoc ⟨p, rfl, h3⟩))
/-- self.levels.append((w, n)) -/
theorem q_appLv (t : ScT K C CF) (r : Rp C CF o H s) (hn : s.lv.length < 90000) {w n : Nat} (ho : Ev ta σ H (.ref o.x)) (hv : EvU te σ H [.int (w : Int), .int (n : Int)]) (kk : ∀ H1, KO o H H1 → Rp C CF o H1 { s with lv := (w, n) :: s.lv } → tz D σ H1) :
    tSeq (tDrop (tBM K "list" rAppend (tFld K ta "levels") (tCons te tNil))) tz D σ H := by
  have r0 := r
  obtain ⟨_, ⟨vs, h1, h2⟩, _⟩ := r
  refine q_appU h1 (ev_lvs t r0 ho) hv (by rw [List.length_reverse, h2.len]; omega) fun p H1 hp e1 h3 => ?_
  rw [← List.reverse_cons]
  exact kk _ ((KO.of e1).trans KO.l) ((r0.ex e1).setL (.cons ⟨p, rfl, h3⟩ (h2.imp fun _ _ => (Ke.of e1).lv)))
/-- self.frames.append(Frame(..)) : te makes the frame -/
theorem q_appFr (t : ScT K C CF) (r : Rp C CF o H s) (hn : s.fr.length < 90000) {f : Frm} (ho : Ev ta σ H (.ref o.x)) (hv : ∀ H1, Ex H H1 → ∀ Q : VK, (∀ v H2, Ex H1 H2 → FrV CF H2 v f → Q v H2) → te σ H1 Q) (kk : ∀ H1, KO o H H1 → Rp C CF o H1 { s with fr := f :: s.fr } → tz D σ H1) :
    tSeq (tDrop (tBM K "list" rAppend (tFld K ta "frames") (tCons te tNil))) tz D σ H := by
  have r0 := r
  obtain ⟨_, _, ⟨vs, h1, h2⟩, _⟩ := r
  refine ev_frs t r0 ho H (Ex.refl _) _ fun H1 e1 => ⟨Or.inl ⟨rfl, _, sq_of (e1 _ _ h1)⟩, hv H1 e1 _ fun v H2 e2 fv => ⟨o.f, _, v, rfl, rfl, e2 _ _ (e1 _ _ h1), sz_lt (by rw [List.length_reverse, h2.len]; omega), ?_⟩⟩
  rw [← List.reverse_cons]
  exact kk _ ((KO.of (e1.trans e2)).trans KO.f) ((r0.ex (e1.trans e2)).setF (.cons fv (h2.imp fun _ _ => (Ke.of (e1.trans e2)).fr)))
/-- del self.levels[-1] | del self.frames[-1] | del self.frames[-2:] -/
theorem q_delLv (t : ScT K C CF) (r : Rp C CF o H s) {p : Nat × Nat} {ps : List (Nat × Nat)} (hl : s.lv = p :: ps) (ho : Ev ta σ H (.ref o.x)) (hi : Ev te σ H (.int (-1))) (kk : ∀ H1, KO o H H1 → Rp C CF o H1 { s with lv := ps } → tz D σ H1) : tSeq (tDelL (tFld K ta "levels") te) tz D σ H := by
  have r0 := r
  obtain ⟨_, ⟨vs, h1, h2⟩, _⟩ := r
  rw [hl] at h2
  cases h2 with
  | cons h3 h4 =>
    refine q_delL (ev_lvs t r0 ho) hi h1 (by decide) (by decide) seq_last fun H1 e1 => ?_
    rw [erase_last]
    exact kk _ ((KO.of e1).trans KO.l) ((r0.ex e1).setL (h4.imp fun _ _ => (Ke.of e1).lv))
theorem q_delFr (t : ScT K C CF) (r : Rp C CF o H s) {f : Frm} {fs : List Frm} (hf : s.fr = f :: fs) (ho : Ev ta σ H (.ref o.x)) (hi : Ev te σ H (.int (-1))) (kk : ∀ H1, KO o H H1 → Rp C CF o H1 { s with fr := fs } → tz D σ H1) : tSeq (tDelL (tFld K ta "frames") te) tz D σ H := by
  have r0 := r
  obtain ⟨_, _, ⟨vs, h1, h2⟩, _⟩ := r
  rw [hf] at h2
  cases h2 with
  | cons h3 h4 =>
    refine q_delL (ev_frs t r0 ho) hi h1 (by decide) (by decide) seq_last fun H1 e1 => ?_
    rw [erase_last]
    exact kk _ ((KO.of e1).trans KO.f) ((r0.ex e1).setF (h4.imp fun _ _ => (Ke.of e1).fr))
theorem s_delFr (t : ScT K C CF) (r : Rp C CF o H s) {f : Frm} {fs : List Frm} (hf : s.fr = f :: fs) (ho : Ev ta σ H (.ref o.x)) (hi : Ev te σ H (.int (-1))) (kk : ∀ H1, KO o H H1 → Rp C CF o H1 { s with fr := fs } → D.nx σ H1) : tDelL (tFld K ta "frames") te D σ H := by
  have r0 := r
  obtain ⟨_, _, ⟨vs, h1, h2⟩, _⟩ := r
  rw [hf] at h2
  cases h2 with
  | cons h3 h4 =>
    refine s_delL (ev_frs t r0 ho) hi h1 (by decide) (by decide) seq_last fun H1 e1 => ?_
    rw [erase_last]
    exact kk _ ((KO.of e1).trans KO.f) ((r0.ex e1).setF (h4.imp fun _ _ => (Ke.of e1).fr))
theorem q_delFr2 (t : ScT K C CF) (r : Rp C CF o H s) {f g : Frm} {fs : List Frm} (hf : s.fr = f :: g :: fs) (ho : Ev ta σ H (.ref o.x)) (hi : Ev te σ H (.int (-2))) (kk : ∀ H1, KO o H H1 → Rp C CF o H1 { s with fr := fs } → tz D σ H1) : tSeq (tDelTail (tFld K ta "frames") te) tz D σ H := by
  have r0 := r
  obtain ⟨_, _, ⟨vs, h1, h2⟩, _⟩ := r
  rw [hf] at h2
  cases h2 with
  | cons h3 h4 =>
    cases h4 with
    | cons h5 h6 =>
      refine q_delTail (k := 2) (ev_frs t r0 ho) hi h1 (by decide) (by simp) fun H1 e1 => ?_
      rw [take_two]
      exact kk _ ((KO.of e1).trans KO.f) ((r0.ex e1).setF (h6.imp fun _ _ => (Ke.of e1).fr))
/-- self.m(..), as a statement, as what is returned -/
theorem q_meth {sp : Sp} {E : XK} {m : Str} {vs : List V} (r : Rp C CF o H s) (ho : Ev ta σ H (.ref o.x)) (hm : ∀ fv, (fsOf s o fv).lookup m = none) (ha : EvA ts σ H vs) (h : ∀ H1, Ex H H1 → Rp C CF o H1 s → sp (.ref o.x :: (vs ++ [])) H1 (fun _ H2 => tz D σ H2) E) : tSeq (tDrop (tMeth C m sp [] E ta ts)) tz D σ H := by
  have r0 := r
  obtain ⟨⟨fv, h1, _⟩, _⟩ := r
  exact ho H (Ex.refl _) _ fun H1 e1 => ⟨o.x, o.dx, _, rfl, e1 _ _ h1, hm fv, ha H1 e1 _ fun H2 e2 => h H2 (e1.trans e2) (r0.ex (e1.trans e2))⟩
theorem s_meth {sp : Sp} {E : XK} {m : Str} {vs : List V} (r : Rp C CF o H s) (ho : Ev ta σ H (.ref o.x)) (hm : ∀ fv, (fsOf s o fv).lookup m = none) (ha : EvA ts σ H vs) (h : ∀ H1, Ex H H1 → Rp C CF o H1 s → sp (.ref o.x :: (vs ++ [])) H1 (fun _ H2 => D.nx σ H2) E) : tDrop (tMeth C m sp [] E ta ts) D σ H := by
  have r0 := r
  obtain ⟨⟨fv, h1, _⟩, _⟩ := r
  exact ho H (Ex.refl _) _ fun H1 e1 => ⟨o.x, o.dx, _, rfl, e1 _ _ h1, hm fv, ha H1 e1 _ fun H2 e2 => h H2 (e1.trans e2) (r0.ex (e1.trans e2))⟩
theorem te_meth {sp : Sp} {E : XK} {m : Str} {vs : List V} {Q : VK} (r : Rp C CF o H s) (ho : Ev ta σ H (.ref o.x)) (hm : ∀ fv, (fsOf s o fv).lookup m = none) (ha : EvA ts σ H vs) (h : ∀ H1, Ex H H1 → Rp C CF o H1 s → sp (.ref o.x :: (vs ++ [])) H1 Q E) : tMeth C m sp [] E ta ts σ H Q := by
  have r0 := r
  obtain ⟨⟨fv, h1, _⟩, _⟩ := r
  exact ho H (Ex.refl _) _ fun H1 e1 => ⟨o.x, o.dx, _, rfl, e1 _ _ h1, hm fv, ha H1 e1 _ fun H2 e2 => h H2 (e1.trans e2) (r0.ex (e1.trans e2))⟩
theorem r_meth {sp : Sp} {E : XK} {m : Str} {vs : List V} (r : Rp C CF o H s) (ho : Ev ta σ H (.ref o.x)) (hm : ∀ fv, (fsOf s o fv).lookup m = none) (ha : EvA ts σ H vs) (h : ∀ H1, Ex H H1 → Rp C CF o H1 s → sp (.ref o.x :: (vs ++ [])) H1 D.rt E) : tRet (tMeth C m sp [] E ta ts) D σ H := te_meth r ho hm ha h
/-- one that changes nothing -/
theorem ev_meth {sp : Sp} {E : XK} {m : Str} {vs : List V} (r : Rp C CF o H s) (ho : Ev ta σ H (.ref o.x)) (hm : ∀ fv, (fsOf s o fv).lookup m = none) (ha : EvA ts σ H vs) (h : SpV sp (.ref o.x :: (vs ++ [])) H v) : Ev (tMeth C m sp [] E ta ts) σ H v := fun H0 e0 Q q => by
  obtain ⟨⟨fv, h1, _⟩, _⟩ := r
  exact ho H0 e0 _ fun H1 e1 => ⟨o.x, o.dx, _, rfl, e1 _ _ (e0 _ _ h1), hm fv, ha H1 (e0.trans e1) _ fun H2 e2 => h H2 ((e0.trans e1).trans e2) Q (fun H3 e3 => q H3 ((e1.trans e2).trans e3)) E⟩
theorem Does.go {C CF : Addr} {o : Own} {H H1 : Hp} {s' : Sc} {v : V} {Q : VK} (d : Does C CF o H s' v Q) (k : KO o H H1) : Does C CF o H1 s' v Q := fun H' k' r => d H' (k.trans k') r
end
theorem ev_starts {σ : L2.St} {H : Hp} {to te : TE} {x y : List Nat} (h : Ev to σ H (.str (S x))) (k : Ev te σ H (.str (S y))) : Ev (tM1 (fun x xs H Q => ∃ a b, x = V.str a ∧ xs = [.str b] ∧ Q (.bl (Txt.startswith a b)) H) to te) σ H (.bl (pre y x)) := fun H1 e Q q =>
  h H1 e _ fun H2 e2 => ⟨⟨_, rfl⟩, k H2 (e.trans e2) _ fun H3 e3 => ⟨S x, S y, rfl, rfl, by rw [starts_S]; exact q H3 (e2.trans e3)⟩⟩
theorem drop_at' {α : Type} {l : List α} {n : Nat} {c : α} (h : l[n]? = some c) : l.drop n = c :: l.drop (n + 1) := by
  obtain ⟨h1, h2⟩ := List.getElem?_eq_some_iff.mp h
  rw [List.drop_eq_getElem_cons h1, h2]
/-- for c in text -/
theorem s_forS {D : Ends} {σ : L2.St} {H : Hp} {te : TE} {tu : TS} {j : Nat} {l : List Nat} (h : Ev te σ H (.str (S l))) (Pv : Nat → L2.St → Hp → Prop) (h0 : ∀ H1, Ex H H1 → Pv 0 σ H1)
    (hs : ∀ i c σ' H', l[i]? = some c → Pv i σ' H' → tu { D with nx := Pv (i + 1), ct := Pv (i + 1), bk := D.nx } (σ'.set j (some (.str (S [c])))) H') (hd : ∀ σ' H', Pv l.length σ' H' → D.nx σ' H') : tFor (iStr te) (gName j) tu D σ H :=
  h H (Ex.refl _) _ fun H1 e1 => ⟨S l, rfl, by
    have w := walk_str (z := S l)
    have hlen : (S l).cps.size = l.length := by simp [S]
    rw [hlen] at w
    refine for_it w Pv (h0 H1 e1) (fun _ _ _ _ _ => trivial) ?_ hd
    rintro i x σ2 H2 H3 hi p ⟨rfl, c, hc, rfl⟩
    have hc' : l[i]? = some c := by simpa [S] using hc
    exact hs i c σ2 H3 hc' p⟩
theorem q_forS {D : Ends} {tz : TS} {σ : L2.St} {H : Hp} {te : TE} {tu : TS} {j : Nat} {l : List Nat} (h : Ev te σ H (.str (S l))) (Pv : Nat → L2.St → Hp → Prop) (h0 : ∀ H1, Ex H H1 → Pv 0 σ H1)
    (hs : ∀ i c σ' H', l[i]? = some c → Pv i σ' H' → tu { D with nx := Pv (i + 1), ct := Pv (i + 1), bk := tz D } (σ'.set j (some (.str (S [c])))) H') (hd : ∀ σ' H', Pv l.length σ' H' → tz D σ' H') : tSeq (tFor (iStr te) (gName j) tu) tz D σ H :=
  s_forS (D := { D with nx := tz D }) h Pv h0 hs hd
/-! ## a new instance gets its attributes -/
section
variable {K : PySem.W.Frag} {C CF x dx : Addr} {H : Hp} {σ : L2.St} {te : TE} {fs : List (Str × V)} {f : Str} {v : V} {D : Ends} {tz : TS} {xs : List V}
theorem kp_own (H : Hp) {H1 : Hp} {o : HO} (e : Ex H H1) : Kp x H (L2.upd H1 x o) := (Kp.of e).trans (Kp.upd x H1 o)
theorem s_fldI (hx : H x = some (.ins C dx fs)) (c : Cls K C) (n : NoAttr K C f) (hl : fs.length < 100) (h0 : σ[0]? = some (some (.ref x))) (hv : Ev te σ H v) (k : ∀ H1, Kp x H H1 → H1 x = some (.ins C dx (putF f v fs)) → D.nx σ H1) : sFld K (tVar 0) te f D σ H :=
  s_fld hv (ev_var h0) hx c n (by omega) fun H1 e1 => k _ (kp_own H e1) upd_same
theorem q_fldI (hx : H x = some (.ins C dx fs)) (c : Cls K C) (n : NoAttr K C f) (hl : fs.length < 100) (h0 : σ[0]? = some (some (.ref x))) (hv : Ev te σ H v) (k : ∀ H1, Kp x H H1 → H1 x = some (.ins C dx (putF f v fs)) → tz D σ H1) : tSeq (sFld K (tVar 0) te f) tz D σ H :=
  s_fldI (D := { D with nx := tz D }) hx c n hl h0 hv k
theorem q_fldL (hx : H x = some (.ins C dx fs)) (c : Cls K C) (n : NoAttr K C f) (hl : fs.length < 100) (h0 : σ[0]? = some (some (.ref x))) (hv : EvL te σ H xs) (k : ∀ p H1, H p = none → Kp x H H1 → H1 p = some (.lst xs) → H1 x = some (.ins C dx (putF f (.ref p) fs)) → tz D σ H1) : tSeq (sFld K (tVar 0) te f) tz D σ H :=
  hv H (Ex.refl _) _ fun p H1 hp e1 h1 => ⟨_, h0, x, C, dx, fs, rfl, e1 _ _ hx, c, n, by omega, k p _ hp (kp_own H e1) (by rw [upd_ne (Ne.symm (ne_of_none hx hp))]; exact h1) upd_same⟩
end
/-- self.f = [(..)] : a new list of one new tuple -/
theorem q_fldLU {K : PySem.W.Frag} {C x dx : Addr} {H : Hp} {σ : L2.St} {te : TE} {fs : List (Str × V)} {f : Str} {D : Ends} {tz : TS} {xs : List V} (hx : H x = some (.ins C dx fs)) (c : Cls K C) (n : NoAttr K C f) (hl : fs.length < 100) (h0 : σ[0]? = some (some (.ref x))) (hv : EvU te σ H xs)
    (k : ∀ p q H1, H p = none → H q = none → p ≠ q → Kp x H H1 → H1 p = some (.lst [.ref q]) → H1 q = some (.tup xs) → H1 x = some (.ins C dx (putF f (.ref p) fs)) → tz D σ H1) : tSeq (sFld K (tVar 0) (tLst (tCons te tNil)) f) tz D σ H :=
  hv H (Ex.refl _) _ fun q H1 hq e1 h1 => ⟨sz_of (by simp), fun p hp => by
    have hpq : p ≠ q := fun z => by rw [z, h1] at hp; cases hp
    have e2 : Ex H1 (upd H1 p (.lst [.ref q])) := Ex.new hp
    refine ⟨_, h0, x, C, dx, fs, rfl, e2 _ _ (e1 _ _ hx), c, n, by omega, k p q _ (fresh_back e1 hp) hq hpq (kp_own H (e1.trans e2)) ?_ ?_ upd_same⟩
    · rw [upd_ne (Ne.symm (ne_of_none (e1 _ _ hx) hp))]; exact upd_same
    · rw [upd_ne (Ne.symm (ne_of_none hx hq))]; exact e2 _ _ h1⟩
/-- what making an instance leaves: all that stood stands -/
theorem made_ex {H H2 : Hp} {x dx : Addr} {u w : HO} (hx : H x = none) (hdx : H dx = none) (k : Kp x (upd (upd H dx u) x w) H2) : Ex H H2 := fun a o h => by
  have n1 := ne_of_none h hx
  have n2 := ne_of_none h hdx
  exact k a o (by rw [upd_ne n1, upd_ne n2]; exact h) n1
/-- text[a:b] -/
theorem ev_slAB {K : PySem.W.Frag} {σ : L2.St} {H : Hp} {te ta tb : TE} {l : List Nat} {i j : Nat} (h : Ev te σ H (.str (S l))) (h1 : Ev ta σ H (.int (i : Int))) (h2 : Ev tb σ H (.int (j : Int))) (hl : l.length ≤ 16000000) : Ev (tSl rSlS te (tPart ta) (tPart tb)) σ H (.str (S ((l.drop i).take (j - i)))) := by
  have q := ev_slS h (eo_some h1) (eo_some h2) hl
  rw [cut_nn] at q
  exact q
theorem Does.rp {C CF : Addr} {o : Own} {H H1 : Hp} {s' : Sc} {v : V} {Q : VK} (d : Does C CF o H s' v Q) (k : KO o H H1) (r : Rp C CF o H1 s') : Q v H1 := d H1 k r
/-! ## text.find('\n', n) -/
section
open PySem.StrLaws PySem.Builtin PySem.Builtin.Str
theorem find_lf {l : List Nat} {n : Nat} (hn : n ≤ l.length) : Txt.find3 (S l) "\n" (n : Int) = if runEnd Sc.notLf l n < l.length then (runEnd Sc.notLf l n : Int) else -1 := by
  have e0 : ("\n" : Str) = S [10] := str_ext rfl
  have e1 : fromIndex (S l).length (n : Int) = n := by unfold fromIndex; rw [if_neg (by omega)]; omega
  have e2 : occurrences (S l) (S [10]) n (S l).length 1 = if runEnd Sc.notLf l n < l.length then [runEnd Sc.notLf l n] else [] := by
    rw [occ_eq, occ_found _ _ _ _ _ (fun i hi => (List.mem_range'_1.mp hi).1)]
    have hiff : ∀ k, (k + (S [10]).length ≤ (S l).length ∧ subAt (S l) (S [10]) k = true) ↔ l[k]? = some 10 := fun k => subAt_one (S l) 10 k
    by_cases h : runEnd Sc.notLf l n < l.length
    · rw [if_pos h]
      obtain ⟨c, hc⟩ : ∃ c, l[runEnd Sc.notLf l n]? = some c := ⟨_, List.getElem?_eq_getElem h⟩
      have hc10 : c = 10 := by
        have := runEnd_next hc
        unfold Sc.notLf at this
        simpa using this
      have hge := runEnd_ge (p := Sc.notLf) (l := l) (j := n)
      have e : (List.range' n ((S l).length + 1 - n)).find? (fun i => decide (i + (S [10]).length ≤ (S l).length ∧ subAt (S l) (S [10]) i = true)) = some (runEnd Sc.notLf l n) := by
        rw [List.find?_range'_eq_some]
        refine ⟨decide_eq_true ((hiff _).mpr (by rw [hc, hc10])), ?_, fun k hk1 hk2 => ?_⟩
        · rw [List.mem_range'_1, S_len]; omega
        · obtain ⟨d, hd, hp⟩ := runEnd_at hk1 hk2
          have hne : ¬ l[k]? = some 10 := fun z => by
            rw [hd] at z
            cases z
            exact absurd hp (by decide)
          rw [decide_eq_false fun z => hne ((hiff k).mp z)]
          rfl
      rw [e]
      rfl
    · rw [if_neg h]
      have e : (List.range' n ((S l).length + 1 - n)).find? (fun i => decide (i + (S [10]).length ≤ (S l).length ∧ subAt (S l) (S [10]) i = true)) = none := by
        rw [List.find?_eq_none]
        intro k hk z
        have z2 := (hiff k).mp (of_decide_eq_true z)
        have hkl := (List.getElem?_eq_some_iff.mp z2).1
        obtain ⟨d, hd, hp⟩ := runEnd_at (p := Sc.notLf) (l := l) (j := n) (i := k) (List.mem_range'_1.mp hk).1 (by omega)
        rw [z2] at hd
        cases hd
        exact absurd hp (by decide)
      rw [e]
      rfl
  unfold Txt.find3
  rw [e0, e1, e2]
  by_cases h : runEnd Sc.notLf l n < l.length
  · rw [if_pos h, if_pos h]
  · rw [if_neg h, if_neg h]
theorem ev_findLf {K : PySem.W.Frag} {σ : L2.St} {H : Hp} {te tc tn : TE} {l : List Nat} {n : Nat} (h : Ev te σ H (.str (S l))) (hc : Ev tc σ H (.str "\n")) (h1 : Ev tn σ H (.int (n : Int))) (hn : n ≤ l.length) :
    Ev (tBM K "str" (fun x xs H Q => ∃ (a b : Str) (i : Int), x = .str a ∧ xs = [.str b, .int i] ∧ Q (.int (Txt.find3 a b i)) H) te (tCons tc (tCons tn tNil))) σ H (.int (if runEnd Sc.notLf l n < l.length then (runEnd Sc.notLf l n : Int) else -1)) := fun H0 e0 Q q =>
  h H0 e0 _ fun H1 e1 => ⟨rfl, hc H1 (e0.trans e1) _ fun H2 e2 => h1 H2 ((e0.trans e1).trans e2) _ fun H3 e3 => ⟨S l, "\n", (n : Int), rfl, rfl, by rw [find_lf hn]; exact q H3 ((e1.trans e2).trans e3)⟩⟩
end
/-- if c: .., then the rest, shown once from M -/
theorem q_ifM {D : Ends} {tz tu : TS} {t : TT} {σ : L2.St} {H : Hp} {b : Bool} (M : L2.St → Hp → Prop) (h : EvT t σ H b) (h1 : (∀ σ' H', M σ' H' → tz D σ' H') → b = true → ∀ H1, Ex H H1 → tu { D with nx := tz D } σ H1) (h2 : b = false → ∀ H1, Ex H H1 → M σ H1)
    (k : ∀ σ' H', M σ' H' → tz D σ' H') : tSeq (tIfS t tu tNext) tz D σ H := q_when h (h1 k) fun hb H1 e => k _ _ (h2 hb H1 e)
theorem q_if2M {D : Ends} {tz tu tw : TS} {t : TT} {σ : L2.St} {H : Hp} {b : Bool} (M : L2.St → Hp → Prop) (h : EvT t σ H b) (h1 : (∀ σ' H', M σ' H' → tz D σ' H') → b = true → ∀ H1, Ex H H1 → tu { D with nx := tz D } σ H1) (h2 : (∀ σ' H', M σ' H' → tz D σ' H') → b = false → ∀ H1, Ex H H1 → tw { D with nx := tz D } σ H1)
    (k : ∀ σ' H', M σ' H' → tz D σ' H') : tSeq (tIfS t tu tw) tz D σ H := q_if h (h1 k) (h2 k)
theorem cutV_n {xs : List V} {i : Nat} : cutV xs (some (i : Int)) none = xs.drop i := by
  unfold cutV
  rw [HT.sIx_nat, HT.sIx_none]
  by_cases hi : i ≤ xs.length
  · rw [Nat.min_eq_left hi, List.take_of_length_le (by rw [List.length_drop]; omega)]
  · have h1 : min i xs.length = xs.length := Nat.min_eq_right (by omega)
    rw [h1, List.drop_of_length_le (Nat.le_refl _), List.drop_of_length_le (by omega)]
    simp
/-- what a KO leaves of a thing that is not the scanner's -/
theorem KO.keep {o : Own} {H H' : Hp} {p : Addr} {u : HO} {C CF : Addr} {s : Sc} (k : KO o H H') (r : Rp C CF o H s) (h : H p = some u) (n : p ≠ o.x ∧ p ≠ o.l ∧ p ≠ o.f ∧ p ≠ o.g) : H' p = some u := k p u h n.1 n.2.1 n.2.2.1 n.2.2.2
theorem Rp.fresh {C CF : Addr} {o : Own} {H : Hp} {s : Sc} {p : Addr} (r : Rp C CF o H s) (hp : H p = none) : p ≠ o.x ∧ p ≠ o.l ∧ p ≠ o.f ∧ p ≠ o.g := by
  obtain ⟨⟨fv, h1, _⟩, ⟨vs, h3, _⟩, ⟨ws, h5, _⟩, ⟨us, h7, _⟩, _⟩ := r
  exact ⟨Ne.symm (ne_of_none h1 hp), Ne.symm (ne_of_none h3 hp), Ne.symm (ne_of_none h5 hp), Ne.symm (ne_of_none h7 hp)⟩
/-! ## data of one shape -/
theorem lay_all : ∀ {ds : List PyData}, (∀ d ∈ ds, d.canLay0 = true) → PyData.canLayAll0 ds = true
  | [], _ => rfl
  | d :: r, h => by
    show (d.canLay0 && PyData.canLayAll0 r) = true
    rw [h d List.mem_cons_self, lay_all fun x hx => h x (List.mem_cons_of_mem _ hx)]
    rfl
theorem depth_all {k : Nat} : ∀ {ds : List PyData}, (∀ d ∈ ds, d.depth ≤ k) → PyData.depthAll ds ≤ k
  | [], _ => Nat.zero_le _
  | d :: r, h => by
    show max d.depth (PyData.depthAll r) ≤ k
    have h1 := h d List.mem_cons_self
    have h2 := depth_all fun x hx => h x (List.mem_cons_of_mem _ hx)
    omega
theorem shaped_list {ds : List PyData} {k : Nat} (h : ∀ d ∈ ds, d.canLay0 = true ∧ d.depth ≤ k) (hk : k ≤ 60) : SeqAt.shaped (.list ds) = true := by
  have h1 : (PyData.list ds).canLay0 = true := lay_all fun d hd => (h d hd).1
  have h2 : (PyData.list ds).depth ≤ 64 := by
    have := depth_all (k := k) fun d hd => (h d hd).2
    show PyData.depthAll ds + 1 ≤ 64
    omega
  show ((PyData.list ds).canLay0 && decide ((PyData.list ds).depth ≤ 64)) = true
  rw [h1, decide_eq_true h2]
  rfl
theorem shaped_tup {ds : List PyData} {k : Nat} (h : ∀ d ∈ ds, d.canLay0 = true ∧ d.depth ≤ k) (hk : k ≤ 60) : SeqAt.shaped (.tuple ds) = true := by
  have h1 : (PyData.tuple ds).canLay0 = true := lay_all fun d hd => (h d hd).1
  have h2 : (PyData.tuple ds).depth ≤ 64 := by
    have := depth_all (k := k) fun d hd => (h d hd).2
    show PyData.depthAll ds + 1 ≤ 64
    omega
  show ((PyData.tuple ds).canLay0 && decide ((PyData.tuple ds).depth ≤ 64)) = true
  rw [h1, decide_eq_true h2]
  rfl
/-! ## levels -/
def pairD (p : Nat × Nat) : PyData := .tuple [.int (p.1 : Int), .int (p.2 : Int)]
theorem pair_shape (p : Nat × Nat) : (pairD p).canLay0 = true ∧ (pairD p).depth ≤ 1 := ⟨rfl, by show max 0 (max 0 0) + 1 ≤ 1; decide⟩
theorem pair_shaped (p : Nat × Nat) : SeqAt.shaped (pairD p) = true := shaped_tup (k := 0) (fun d hd => by
  simp only [List.mem_cons, List.not_mem_nil, or_false] at hd
  rcases hd with rfl | rfl <;> exact ⟨rfl, Nat.le_refl _⟩) (by decide)
theorem pair_eqv (p q : Nat × Nat) : PyData.eqv (pairD p) (pairD q) = decide (p = q) := by
  show (((p.1 : Int) == (q.1 : Int)) && (((p.2 : Int) == (q.2 : Int)) && true)) = _
  rw [Bool.and_true]
  by_cases h : p = q
  · subst h; simp
  · rw [decide_eq_false h]
    by_cases h1 : p.1 = q.1
    · have h2 : ¬ p.2 = q.2 := fun z => h (Prod.ext h1 z)
      have : ((p.2 : Int) == (q.2 : Int)) = false := beq_eq_false_iff_ne.mpr (by omega)
      rw [this, Bool.and_false]
    · have : ((p.1 : Int) == (q.1 : Int)) = false := beq_eq_false_iff_ne.mpr (by omega)
      rw [this, Bool.false_and]
theorem lv_dp {K : PySem.W.Frag} {H : Hp} {v : V} {p : Nat × Nat} (h : LvV H v p) : Dp K H v (pairD p) := by
  obtain ⟨q, rfl, h1⟩ := h
  exact .tup (st_of h1) (.cons (.int _) (.cons (.int _) .nil))
theorem lv_dpa {K : PySem.W.Frag} {H : Hp} : ∀ {vs : List V} {ps : List (Nat × Nat)}, A2 (LvV H) vs ps → DpAll K H vs (ps.map pairD)
  | _, _, .nil => .nil
  | _, _, .cons r t => .cons (lv_dp r) (lv_dpa t)
theorem any_pair (p : Nat × Nat) (ps : List (Nat × Nat)) : ((ps.map pairD).any fun z => PyData.eqv z (pairD p)) = decide (p ∈ ps) := by
  induction ps with
  | nil => rfl
  | cons q r ih =>
    rw [List.map_cons, List.any_cons, ih, pair_eqv]
    by_cases h : q = p
    · subst h; simp
    · have h2 : ¬ p = q := fun z => h z.symm
      rw [decide_eq_false h, Bool.false_or]
      exact decide_eq_decide.mpr (by simp [h2])
def fstOf (H : Hp) : V → V
  | .ref q => match H q with
    | some (.tup (x :: _)) => x
    | _ => .non
  | _ => .non
theorem fst_map {H : Hp} : ∀ {vs : List V} {ps : List (Nat × Nat)}, A2 (LvV H) vs ps → vs.map (fstOf H) = ps.map fun p => V.int (p.1 : Int)
  | _, _, .nil => rfl
  | _, _, .cons r t => by
    obtain ⟨q, rfl, h⟩ := r
    rw [List.map_cons, List.map_cons, fst_map t]
    congr 1
    show (match H q with | some (.tup (x :: _)) => x | _ => .non) = _
    rw [h]
theorem in_ints (w : Int) (ns : List Int) : inV (.int w) (ns.map V.int) = decide (w ∈ ns) := by
  unfold inV
  induction ns with
  | nil => rfl
  | cons n r ih =>
    rw [List.map_cons, List.any_cons, ih]
    show (decide (n = w) || _) = _
    by_cases h : n = w
    · subst h; simp
    · have h2 : ¬ w = n := fun z => h z.symm
      rw [decide_eq_false h, Bool.false_or]
      exact decide_eq_decide.mpr (by simp [h2])
theorem flat_ints (ns : List Int) : (ns.map V.int).all flatV = true := by rw [List.all_map]; exact List.all_eq_true.mpr fun _ _ => rfl
section
variable {K : PySem.W.Frag} {C CF : Addr} {o : Own} {H : Hp} {s : Sc} {σ : L2.St} {ta tb te : TE}
/-- self.levels[-1][0], [1] -/
theorem ev_topLv (t : ScT K C CF) (r : Rp C CF o H s) (h : Ev ta σ H (.ref o.x)) {p : Nat × Nat} {ps : List (Nat × Nat)} (hl : s.lv = p :: ps) : ∃ v, LvV H v p ∧ Ev (tOp (rIxL K) (tFld K ta "levels") (tUn (rU fun i => .int (-i)) (tC (.int 1)))) σ H v := by
  have r0 := r
  obtain ⟨_, ⟨vs, h1, h2⟩, _⟩ := r
  rw [hl] at h2
  cases h2 with
  | cons h3 h4 => exact ⟨_, h3, ev_op (ev_lvs t r0 h) (ev_un ev_c ru_neg) (rv_ixL (sq_of h1) at_last)⟩
theorem ev_lv0 (t : ScT K C CF) (r : Rp C CF o H s) (h : Ev ta σ H (.ref o.x)) {p : Nat × Nat} {ps : List (Nat × Nat)} (hl : s.lv = p :: ps) : Ev (tOp (rIxT K) (tOp (rIxL K) (tFld K ta "levels") (tUn (rU fun i => .int (-i)) (tC (.int 1)))) (tC (.int 0))) σ H (.int (p.1 : Int)) := by
  obtain ⟨v, ⟨q, rfl, h1⟩, ev⟩ := ev_topLv (K := K) t r h hl
  exact ev_op ev ev_c (rv_ixT (st_of h1) rfl)
theorem ev_lv1 (t : ScT K C CF) (r : Rp C CF o H s) (h : Ev ta σ H (.ref o.x)) {p : Nat × Nat} {ps : List (Nat × Nat)} (hl : s.lv = p :: ps) : Ev (tOp (rIxT K) (tOp (rIxL K) (tFld K ta "levels") (tUn (rU fun i => .int (-i)) (tC (.int 1)))) (tC (.int 1))) σ H (.int (p.2 : Int)) := by
  obtain ⟨v, ⟨q, rfl, h1⟩, ev⟩ := ev_topLv (K := K) t r h hl
  exact ev_op ev ev_c (rv_ixT (st_of h1) rfl)
theorem ev_lvLen (t : ScT K C CF) (r : Rp C CF o H s) (h : Ev ta σ H (.ref o.x)) : Ev (tCB (fun xs H Q => ∃ p ys, xs = [V.ref p] ∧ (SqL K H p ys ∨ SqT K H p ys) ∧ Q (.int ys.length) H) (tCons (tFld K ta "levels") tNil)) σ H (.int (s.lv.length : Int)) := by
  have r0 := r
  obtain ⟨_, ⟨vs, h1, h2⟩, _⟩ := r
  have e : (s.lv.length : Int) = (vs.reverse.length : Int) := by rw [List.length_reverse, h2.len]
  rw [e]
  exact ev_cb (ea_cons (ev_lvs t r0 h) ea_nil) fun H1 e1 Q q => ⟨o.l, _, rfl, Or.inl (sq_of (e1 _ _ h1)), q H1 (Ex.refl _)⟩
/-- (w, n) not in self.levels -/
theorem ev_notLv (t : ScT K C CF) (r : Rp C CF o H s) (h : Ev ta σ H (.ref o.x)) {p : Nat × Nat} (hp : EvU te σ H [.int (p.1 : Int), .int (p.2 : Int)]) : Ev (tOp (rNotInD K) te (tFld K ta "levels")) σ H (.bl (!decide (p ∈ s.lv))) := by
  have r0 := r
  obtain ⟨_, ⟨vs, h1, h2⟩, _⟩ := r
  intro H1 e1 Q q
  refine hp H1 e1 _ fun u H2 _ e2 hu => ev_lvs t r0 h H2 (e1.trans e2) _ fun H3 e3 => ?_
  have hx : Dp K H3 (.ref u) (pairD p) := .tup (st_of (e3 _ _ hu)) (.cons (.int _) (.cons (.int _) .nil))
  have hy : Dp K H3 (.ref o.l) (.list (s.lv.reverse.map pairD)) := .lst (sq_of (e3 _ _ (e2 _ _ (e1 _ _ h1)))) (dpa_mono ((e1.trans e2).trans e3) (lv_dpa h2.rev))
  refine ⟨_, _, hx, hy, pair_shaped p, shaped_list (k := 1) (fun d hd => ?_) (by decide), ?_⟩
  · obtain ⟨q, _, rfl⟩ := List.mem_map.mp hd
    exact pair_shape q
  · rw [any_pair]
    have e : decide (p ∈ s.lv.reverse) = decide (p ∈ s.lv) := decide_eq_decide.mpr List.mem_reverse
    rw [e]
    exact q H3 (e2.trans e3)
/-- (w, n) != self.levels[-1] -/
theorem ev_neTop (t : ScT K C CF) (r : Rp C CF o H s) (h : Ev ta σ H (.ref o.x)) {p p' : Nat × Nat} {ps : List (Nat × Nat)} (hl : s.lv = p' :: ps) (hp : EvU te σ H [.int (p.1 : Int), .int (p.2 : Int)]) : Ev (tOp (rNeD K) te (tOp (rIxL K) (tFld K ta "levels") (tUn (rU fun i => .int (-i)) (tC (.int 1))))) σ H (.bl (!decide (p = p'))) := by
  obtain ⟨v, hv, ev⟩ := ev_topLv (K := K) t r h hl
  intro H1 e1 Q q
  refine hp H1 e1 _ fun u H2 _ e2 hu => ev H2 (e1.trans e2) _ fun H3 e3 => ?_
  have hx : Dp K H3 (.ref u) (pairD p) := .tup (st_of (e3 _ _ hu)) (.cons (.int _) (.cons (.int _) .nil))
  have hy : Dp K H3 v (pairD p') := lv_dp ((Ke.of ((e1.trans e2).trans e3)).lv hv)
  refine ⟨_, _, hx, hy, pair_shaped p, pair_shaped p', ?_⟩
  rw [pair_eqv]
  exact q H3 (e2.trans e3)
/-- w not in [level[0] for level in self.levels] -/
theorem ev_notW (t : ScT K C CF) (r : Rp C CF o H s) (h : Ev ta σ H (.ref o.x)) (hn : s.lv.length ≤ 1000) {w : Nat} {j : Nat} {vs0 : List Nat} (hw : Ev te σ H (.int (w : Int))) (hj : ∀ x, ((wipe σ vs0).set j (some x))[j]? = some (some x)) (hwi : ∀ x, wipe ((wipe σ vs0).set j (some x)) vs0 = wipe σ vs0) :
    Ev (tOp (rIn K true) te (tLc (iList K (tFld K ta "levels")) (gName j) tYes (tOp (rIxT K) (tVar j) (tC (.int 0))) vs0)) σ H (.bl (!decide (w ∈ s.lv.map (·.1)))) := by
  have r0 := r
  obtain ⟨_, ⟨vs, h1, h2⟩, _⟩ := r
  have lc := el_lcL' (K := K) (te := tOp (rIxT K) (tVar j) (tC (.int 0))) (vs := vs0) (j := j) (t := tYes) (fun _ => true) (fstOf H) (ev_lvs t r0 h) (sq_of h1) (by rw [List.length_reverse, h2.len]; omega) hwi (fun _ _ _ _ => et_yes) (fun x hx _ H1 e1 => ?_)
  · have e : ((vs.reverse.filter fun _ => true).map (fstOf H)) = ((s.lv.reverse.map fun p => (p.1 : Int))).map V.int := by
      rw [filt_yes, fst_map h2.rev, List.map_map]; rfl
    rw [e] at lc
    have q := ev_opL (r := rIn K true) hw lc fun p H1 hp _ => rv_niL (K := K) (x := .int (w : Int)) (sq_of hp) rfl (flat_ints _)
    refine ev_is q (congrArg V.bl (congrArg not ?_))
    rw [in_ints]
    refine decide_eq_decide.mpr ?_
    simp only [List.mem_map, List.mem_reverse]
    constructor
    · rintro ⟨p, hp, e⟩
      exact ⟨p, hp, by omega⟩
    · rintro ⟨p, hp, e⟩
      exact ⟨p, hp, by omega⟩
  · obtain ⟨i, hi⟩ := List.mem_iff_getElem?.mp hx
    obtain ⟨p, _, ⟨q, rfl, hq⟩⟩ := h2.rev.at_ hi
    have e : fstOf H (.ref q) = .int (p.1 : Int) := by
      show (match H q with | some (.tup (x :: _)) => x | _ => .non) = _
      rw [hq]
    rw [e]
    exact ev_op (ev_var (hj _)) ev_c (rv_ixT (st_of (e1 _ _ hq)) rfl)
end
/-! ## frames -/
theorem a2_filter {α : Type} {R : V → α → Prop} {f : V → Bool} {g : α → Bool} (h : ∀ v a, R v a → f v = g a) : ∀ {vs : List V} {as : List α}, A2 R vs as → (vs.filter f).length = (as.filter g).length
  | _, _, .nil => rfl
  | _, _, .cons (v := v) (a := a) r t => by
    have e := h v a r
    rw [List.filter_cons, List.filter_cons, e]
    split
    · rw [List.length_cons, List.length_cons, a2_filter h t]
    · exact a2_filter h t
def mkOf (H : Hp) : V → Str
  | .ref q => match H q with
    | some (.ins _ _ ((_, .str m) :: _)) => m
    | _ => ""
  | _ => ""
theorem mkOf_fr {CF : Addr} {H : Hp} {v : V} {f : Frm} (h : FrV CF H v f) : mkOf H v = f.mark.txt := by
  obtain ⟨q, dq, rfl, h1⟩ := h
  show (match H q with | some (.ins _ _ ((_, .str m) :: _)) => m | _ => "") = _
  rw [h1]
theorem mark_S (m : Mark) : decide (V.str m.txt = V.str "string") = m.isStr := by cases m <;> decide +kernel
theorem mark_str (m : Mark) : decide (V.str m.txt = V.str "string") = decide (m = .str) := by cases m <;> decide +kernel
theorem mark_fmt (m : Mark) : decide (V.str m.txt = V.str "format") = decide (m = .fmt) := by cases m <;> decide +kernel
theorem mark_fld (m : Mark) : decide (V.str m.txt = V.str "field") = decide (m = .fld) := by cases m <;> decide +kernel
theorem mark_part (m : Mark) : inV (.str m.txt) [.str "string", .str "format"] = decide (m = .str ∨ m = .fmt) := by cases m <;> decide +kernel
theorem ev_lenL {σ : L2.St} {H : Hp} {K : PySem.W.Frag} {te : TE} {xs : List V} (h : EvL te σ H xs) : Ev (tCB (fun xs H Q => ∃ p ys, xs = [V.ref p] ∧ (SqL K H p ys ∨ SqT K H p ys) ∧ Q (.int ys.length) H) (tCons te tNil)) σ H (.int (xs.length : Int)) := fun H1 e Q q =>
  h H1 e _ fun p H2 _ e2 hp => ⟨p, xs, rfl, Or.inl (sq_of hp), q H2 e2⟩
section
variable {K : PySem.W.Frag} {C CF : Addr} {o : Own} {H : Hp} {s : Sc} {σ : L2.St} {ta tb te : TE}
/-- len([frame for frame in self.frames if ..]) -/
theorem ev_countF (t : ScT K C CF) (r : Rp C CF o H s) (h : Ev ta σ H (.ref o.x)) (hn : s.fr.length ≤ 50000) {g : Mark → Bool} {f : V → Bool} {j : Nat} {vs0 : List Nat} {tt : TT} (hf : ∀ v a, FrV CF H v a → f v = g a.mark) (hj : ∀ x, ((wipe σ vs0).set j (some x))[j]? = some (some x)) (hwi : ∀ x, wipe ((wipe σ vs0).set j (some x)) vs0 = wipe σ vs0)
    (ht : ∀ v a, FrV CF H v a → ∀ H1, Ex H H1 → EvT tt ((wipe σ vs0).set j (some v)) H1 (g a.mark)) :
    Ev (tCB (fun xs H Q => ∃ p ys, xs = [V.ref p] ∧ (SqL K H p ys ∨ SqT K H p ys) ∧ Q (.int ys.length) H) (tCons (tLc (iList K (tFld K ta "frames")) (gName j) tt (tVar j) vs0) tNil)) σ H (.int ((s.fr.filter fun a => g a.mark).length : Int)) := by
  have r0 := r
  obtain ⟨_, _, ⟨vs, h1, h2⟩, _⟩ := r
  have lc := el_lcL' (K := K) (te := tVar j) (vs := vs0) (j := j) (t := tt) f id (ev_frs t r0 h) (sq_of h1) (by rw [List.length_reverse, h2.len]; omega) hwi (fun x hx H1 e1 => ?_) (fun x hx _ H1 e1 => ev_var (hj _))
  · have e : (((vs.reverse.filter f).map id).length : Int) = ((s.fr.filter fun a => g a.mark).length : Int) := by
      rw [List.map_id, List.filter_reverse, List.length_reverse, a2_filter hf h2]
    rw [← e]
    exact ev_lenL lc
  · obtain ⟨i, hi⟩ := List.mem_iff_getElem?.mp (List.mem_reverse.mp hx)
    obtain ⟨a, _, ha⟩ := h2.at_ hi
    rw [hf x a ha]
    exact ht x a ha H1 e1
end
/-! ## parts of formatted strings -/
theorem partGo_cons {q : List Nat} {isS fin : Bool} {c n : Nat} {r : List Nat} : Sc.partGo q isS fin (c :: r) n =
    if c = 92 ∧ r = [] ∧ fin = false then -1
    else if c = 92 then (if r.head? = some 123 ∨ r.head? = some 125 then Sc.partGo q isS fin r (n + 1) else Sc.partGo q isS fin (r.drop 1) (n + 2))
    else if (c :: r).take q.length = q then n
    else if c = 10 ∧ q.length = 1 then -2
    else if (c = 123 ∨ c = 125) ∧ isS = true ∧ r.head? = some c then Sc.partGo q isS fin (r.drop 1) (n + 2)
    else if (c = 123 ∨ c = 125) ∧ isS = true ∧ r = [] ∧ fin = false then -1
    else if c = 123 ∨ c = 125 then n
    else Sc.partGo q isS fin r (n + 1) := by
  cases r with
  | nil =>
    have e : Sc.partGo q isS fin [c] n = (if c = 92 ∧ ([] : List Nat) = [] ∧ fin = false then -1 else if c = 92 then (if fin then -2 else -1) else if [c].take q.length = q then (n : Int) else if c = 10 ∧ q.length = 1 then -2
      else if (c = 123 ∨ c = 125) ∧ isS = true ∧ ([] : List Nat).head? = some c then -1 else if (c = 123 ∨ c = 125) ∧ isS = true ∧ ([] : List Nat) = [] ∧ fin = false then -1 else if c = 123 ∨ c = 125 then (n : Int) else (if fin then -2 else -1)) := rfl
    rw [e]
    have e2 : ∀ m, Sc.partGo q isS fin [] m = (if fin then (-2 : Int) else -1) := fun _ => rfl
    simp only [List.drop_nil, e2, List.head?_nil, reduceCtorEq, or_self, and_false, if_false]
  | cons d r' =>
    have e : Sc.partGo q isS fin (c :: d :: r') n = (if c = 92 ∧ (d :: r') = [] ∧ fin = false then -1 else if c = 92 then (if d = 123 ∨ d = 125 then Sc.partGo q isS fin (d :: r') (n + 1) else Sc.partGo q isS fin r' (n + 2)) else if (c :: d :: r').take q.length = q then (n : Int) else if c = 10 ∧ q.length = 1 then -2
      else if (c = 123 ∨ c = 125) ∧ isS = true ∧ (d :: r').head? = some c then Sc.partGo q isS fin r' (n + 2) else if (c = 123 ∨ c = 125) ∧ isS = true ∧ (d :: r') = [] ∧ fin = false then -1 else if c = 123 ∨ c = 125 then (n : Int) else Sc.partGo q isS fin (d :: r') (n + 1)) := rfl
    rw [e]
    simp only [List.head?_cons, Option.some.injEq, List.drop_succ_cons, List.drop_zero]
theorem KO.fr {C CF : Addr} {o : Own} {H H' : Hp} {s : Sc} {v : V} {f : Frm} (k : KO o H H') (r : Rp C CF o H s) (h : FrV CF H v f) : FrV CF H' v f := by
  obtain ⟨q, dq, rfl, h1⟩ := h
  obtain ⟨⟨fv, g1, _⟩, ⟨vs, g3, _⟩, ⟨ws, g5, _⟩, ⟨us, g7, _⟩, _⟩ := r
  refine ⟨q, dq, rfl, k q _ h1 (fun z => ?_) (fun z => ?_) (fun z => ?_) (fun z => ?_)⟩
  · rw [z, g1] at h1
    have e := HO.ins.inj (Option.some.inj h1)
    exact absurd (congrArg List.length e.2.2) (by show ¬ (11 : Nat) = 3; decide)
  · rw [z, g3] at h1; cases h1
  · rw [z, g5] at h1; cases h1
  · rw [z, g7] at h1; cases h1
theorem fr_has_str : ∀ (n : Nat) {f : Frm} {fs : List Frm}, fs.length ≤ n → FrOk (f :: fs) → f.mark = .str ∨ f.mark = .fmt → ∃ g ∈ f :: fs, g.mark = .str := by
  intro n
  induction n using Nat.strongRecOn with
  | ind n ih =>
    intro f fs hn h hm
    rcases hm with e | e
    · exact ⟨f, List.mem_cons_self, e⟩
    · obtain ⟨h1, h2, h3⟩ := h
      rw [e] at h3
      obtain ⟨_, g, gs, rfl, hg⟩ := h3
      obtain ⟨g1, g2, g3⟩ := h1
      rw [hg] at g3
      obtain ⟨_, k, ks, rfl, hk⟩ := g3
      rw [List.length_cons, List.length_cons] at hn
      obtain ⟨z, hz, hz2⟩ := ih ks.length (by omega) (Nat.le_refl _) g1 hk
      exact ⟨z, List.mem_cons_of_mem _ (List.mem_cons_of_mem _ hz), hz2⟩
theorem begun_first {CF : Addr} {H : Hp} {f : V → Bool} (hf : ∀ v a, FrV CF H v a → f v = a.mark.isStr) : ∀ {vs : List V} {fr : List Frm}, A2 (FrV CF H) vs fr → (∃ g ∈ fr, g.mark = .str) → ∃ v g ws, vs.filter f = v :: ws ∧ FrV CF H v g ∧ g.at_ = Sc.begunAt fr
  | _, _, .nil, h => by obtain ⟨g, hg, _⟩ := h; cases hg
  | _, _, .cons (v := v) (a := a) r t, h => by
    rw [List.filter_cons, hf v a r]
    by_cases e : a.mark = .str
    · rw [if_pos (by rw [e]; rfl)]
      exact ⟨v, a, _, rfl, r, by rw [Sc.begunAt, if_pos e]⟩
    · have e2 : a.mark.isStr = false := by cases z : a.mark <;> first | rfl | exact absurd z e
      rw [if_neg (by rw [e2]; exact Bool.false_ne_true)]
      obtain ⟨v', g, ws, h1, h2, h3⟩ := begun_first hf t (by
        obtain ⟨g, hg, hm⟩ := h
        rcases List.mem_cons.mp hg with z | z
        · rw [z] at hm; exact absurd hm e
        · exact ⟨g, z, hm⟩)
      exact ⟨v', g, ws, h1, h2, by rw [Sc.begunAt, if_neg e]; exact h3⟩
section
variable {K : PySem.W.Frag} {C CF : Addr} {o : Own} {H : Hp} {s : Sc} {σ : L2.St} {ta te : TE}
/-- [other for other in self.frames if other.mark == 'string'][-1] -/
theorem ev_begunF (t : ScT K C CF) (r : Rp C CF o H s) (h : Ev ta σ H (.ref o.x)) (hn : s.fr.length ≤ 50000) (hs : ∃ g ∈ s.fr, g.mark = .str) {j : Nat} {vs0 : List Nat} (hj : ∀ x, ((wipe σ vs0).set j (some x))[j]? = some (some x)) (hwi : ∀ x, wipe ((wipe σ vs0).set j (some x)) vs0 = wipe σ vs0) :
    ∃ v g, FrV CF H v g ∧ g.at_ = Sc.begunAt s.fr ∧ Ev (tOp (rIxL K) (tLc (iList K (tFld K ta "frames")) (gName j) (tTest (tOp rEq (tFld K (tVar j) "mark") (tC (.str "string")))) (tVar j) vs0) (tUn (rU fun i => .int (-i)) (tC (.int 1)))) σ H v := by
  have r0 := r
  obtain ⟨_, _, ⟨vs, h1, h2⟩, _⟩ := r
  have hf : ∀ v a, FrV CF H v a → (fun v => decide (V.str (mkOf H v) = .str "string")) v = a.mark.isStr := fun v a hv => by
    show decide (V.str (mkOf H v) = .str "string") = _
    rw [mkOf_fr hv]; exact mark_S _
  obtain ⟨v, g, ws, e1, e2, e3⟩ := begun_first hf h2 hs
  refine ⟨v, g, e2, e3, ?_⟩
  have lc := el_lcL' (K := K) (te := tVar j) (vs := vs0) (j := j) (t := tTest (tOp rEq (tFld K (tVar j) "mark") (tC (.str "string")))) (fun v => decide (V.str (mkOf H v) = .str "string")) id (ev_frs t r0 h) (sq_of h1) (by rw [List.length_reverse, h2.len]; omega) hwi (fun x hx H1 e1 => ?_) (fun x hx _ H1 e1 => ev_var (hj _))
  · rw [List.map_id, List.filter_reverse, e1] at lc
    exact ev_opL1 lc (fun H1 e => ev_un ev_c ru_neg) fun p H1 hp e => rv_ixL (sq_of hp) at_last
  · obtain ⟨i, hi⟩ := List.mem_iff_getElem?.mp (List.mem_reverse.mp hx)
    obtain ⟨a, _, ha⟩ := h2.at_ hi
    have := hf x a ha
    dsimp only at this
    rw [this]
    exact et_is (et_test (ev_op (ev_mark t ((Ke.of e1).fr ha) (ev_var (hj _))) ev_c (rv_eq rfl))) (mark_S _)
end
theorem and_Q {t u : TT} {σ : L2.St} {H : Hp} {Q : Bool → Hp → Prop} {a : Bool} (h : EvT t σ H a) (k : ∀ H1, Ex H H1 → if a = true then u σ H1 Q else Q false H1) : tAnd t u σ H Q := h H (Ex.refl _) _ k
theorem tB_Q {te : TE} {σ : L2.St} {H : Hp} {Q : Bool → Hp → Prop} (h : te σ H fun x H1 => ∃ c, x = .bl c ∧ Q c H1) : tB te σ H Q := h
end Kt

set_option Elab.async false
set_option linter.all false
set_option maxRecDepth 100000
set_option maxHeartbeats 2000000
namespace Kt
open PySem PySem.Spec PyProof.Rows L2 Evl
/-! ## tokens are only added -/
abbrev Pf (s s' : Sc) : Prop := s.found <+: s'.found
section
open Sc
variable {s s' : Sc} {k : Str} {e : Nat} {z : Int}
theorem pf_refl : Pf s s := List.prefix_refl _
theorem pf_add (h : Pf s s') : Pf s (s'.add k e) := h.trans (List.prefix_append _ _)
theorem pf_lex (h : Pf s s') : Pf s (s'.lex k e) := h.trans (List.prefix_append _ _)
theorem pf_of (h : Pf s s') {s2 : Sc} (e : s2.found = s'.found) : Pf s s2 := by show s.found <+: s2.found; rw [e]; exact h
theorem pf_dedents : ∀ (r : List (Nat × Nat)) {s' : Sc}, Pf s s' → Pf s (dedents r s')
  | [], _, h => h
  | _ :: r, _, h => pf_dedents r (pf_add h)
theorem pf_pop {w : Nat} : ∀ (lv : List (Nat × Nat)) {s' : Sc}, Pf s s' → Pf s (popLv w e lv s')
  | [], _, h => h
  | p :: r, s', h => by
    rw [popLv]
    split
    · exact pf_pop r (pf_add (s' := { s' with lv := r }) h)
    · exact h
theorem pf_finish (h : Pf s s') : Pf s s'.finish := by
  unfold Sc.finish
  split
  · exact h
  · split
    · exact h
    · refine pf_add (k := "ENDMARKER") (pf_dedents _ ?_)
      split
      · exact pf_add h
      · exact h
theorem pf_readString {a : Nat} (h : Pf s s') : Pf s (s'.readString a).1 := by
  unfold Sc.readString
  dsimp only
  repeat' split
  all_goals first | exact h | exact pf_lex h
theorem pf_beginString {a : Nat} (h : Pf s s') : Pf s (s'.beginString a).1 := by
  unfold Sc.beginString
  dsimp only
  repeat' split
  all_goals first | exact h | exact pf_lex (s' := { s' with fr := _ }) h
theorem pf_openBracket {m : Mark} {q : List Nat} (h : Pf s s') : Pf s (s'.openBracket m q).1 := by
  unfold Sc.openBracket
  split
  · exact h
  · exact pf_lex (s' := { s' with fr := _ }) h
theorem pf_readWord (h : Pf s s') : Pf s s'.readWord.1 := by
  unfold Sc.readWord
  dsimp only
  repeat' split
  all_goals first | exact h | exact pf_lex h | exact pf_readString h | exact pf_beginString h
theorem pf_rest {c : Nat} {own : Bool} (h : Pf s s') : Pf s (Sc.readOperator.rest s' c own).1 := by
  unfold Sc.readOperator.rest
  dsimp only
  generalize (if opEnd s'.text s'.at_ s'.fin = -2 ∧ own = true ∧ c = 33 then (s'.at_ + 1 : Int) else opEnd s'.text s'.at_ s'.fin) = e
  split
  · exact h
  · split
    · exact h
    · split
      · exact pf_openBracket h
      · split
        · split
          · exact h
          · split
            · exact pf_lex (s' := { s' with fr := _ }) h
            · exact h
        · exact pf_lex h
theorem pf_readOperator {c : Nat} (h : Pf s s') : Pf s (s'.readOperator c).1 := by
  unfold Sc.readOperator
  split
  · split
    · exact pf_lex (s' := { s' with fr := _ }) h
    · exact pf_rest h
  · exact pf_rest h
theorem pf_readLexeme {c : Nat} (h : Pf s s') : Pf s (s'.readLexeme c).1 := by
  unfold Sc.readLexeme
  split
  · exact pf_readWord h
  · split
    · exact pf_readString h
    · split
      · dsimp only
        split
        · exact h
        · split
          · exact h
          · exact pf_lex h
      · exact pf_readOperator h
theorem pf_addPart (h : Pf s s') : Pf s (s'.addPart e) := by
  unfold Sc.addPart
  split
  · exact pf_add h
  · exact h
theorem pf_endFormat {f : Frm} (h : Pf s s') : Pf s (s'.endFormat f).1 := by
  unfold Sc.endFormat
  split
  · exact h
  · exact pf_add (s' := { s' with fr := _ }) h
theorem pf_readPart {f : Frm} (h : Pf s s') : Pf s (s'.readPart f).1 := by
  unfold Sc.readPart
  dsimp only
  split
  · exact h
  · split
    · exact h
    · split
      · exact pf_openBracket (pf_addPart h)
      · exact pf_endFormat (pf_addPart h)
      · split
        · exact pf_addPart h
        · exact pf_add (s' := { s'.addPart _ with fr := _ }) (pf_addPart h)
theorem pf_readEmpty {a : Nat} (h : Pf s s') : Pf s (s'.readEmptyLine a).1 := by
  unfold Sc.readEmptyLine
  split
  · exact h
  · dsimp only
    refine pf_add ?_
    split
    · exact pf_add (s' := { s' with at_ := a }) h
    · exact h
theorem pf_compare {g : List Nat} (h : Pf s s') : Pf s (s'.compare g e).1 := by
  unfold Sc.compare
  dsimp only
  split
  · split
    · exact h
    · exact pf_add (s' := { s' with lv := _ }) (k := "INDENT") (e := e) h
  · split
    · split
      · exact h
      · split
        · exact h
        · exact pf_pop (s' := { s' with at_ := e }) _ h
    · split
      · exact h
      · exact h
theorem pf_indent (h : Pf s s') : Pf s s'.readIndentation.1 := by
  unfold Sc.readIndentation
  dsimp only
  split
  · split
    · unfold Sc.readLastGap
      refine pf_finish ?_
      split
      · exact pf_add (s' := { s' with at_ := _ }) h
      · exact h
    · exact h
  · split
    · exact pf_readEmpty h
    · exact pf_compare h
theorem pf_readOn1 (h : Pf s s') : Pf s s'.readOn1.1 := by
  unfold Sc.readOn1
  split
  · split
    · exact pf_finish h
    · exact h
  · split
    · unfold Sc.readJoin
      split
      · exact h
      · split
        · exact h
        · exact h
    · split
      · unfold Sc.readComment
        split
        · exact h
        · exact pf_add h
      · split
        · unfold Sc.readLineFeed
          split
          · exact pf_add h
          · exact pf_add (k := "NEWLINE") h
        · exact pf_readLexeme h
theorem pf_step (h : Pf s s') : Pf s (Sc.step s').1 := by
  unfold Sc.step
  split
  · exact pf_readPart h
  · split
    · exact pf_indent h
    · refine pf_readOn1 ?_
      unfold Sc.skip
      split
      · exact h
      · exact h
theorem pf_run : ∀ (n : Nat) {s' : Sc}, Pf s s' → Pf s (Sc.run n s')
  | 0, _, h => h
  | n + 1, s', h => by
    rw [Sc.run]
    split
    · exact h
    · split
      · exact pf_run n (pf_step h)
      · exact pf_step h
theorem pf_feed {l : List Nat} : Pf s (s.feed l) := pf_run _ (s' := { s with text := s.text ++ l }) pf_refl
theorem pf_close : Pf s s.close := pf_run _ (s' := { s with fin := true }) pf_refl
/-- what was there, and what was added -/
theorem pf_parts (h : Pf s s') : s.found ++ s'.found.drop s.found.length = s'.found := by
  obtain ⟨t, ht⟩ := h
  rw [← ht, List.drop_left]
end
end Kt

set_option Elab.async false
set_option linter.all false
set_option maxRecDepth 100000
set_option maxHeartbeats 2000000
namespace Kt
open PySem PySem.Spec PyProof.Rows L2 Evl
/-! ## what stands ahead of a text shifts all, and changes nothing else -/
def shI (n : Nat) (i : Int) : Int := if i < 0 then i else i + n
theorem shI_neg {n : Nat} {i : Int} (h : i < 0) : shI n i = i := if_pos h
theorem shI_nat {n m : Nat} : shI n (m : Int) = ((n + m : Nat) : Int) := by unfold shI; rw [if_neg (by omega)]; omega
theorem shI_lt {n : Nat} {i : Int} : shI n i < 0 ↔ i < 0 := by unfold shI; split <;> omega
theorem shI_ge {n : Nat} {i : Int} : 0 ≤ shI n i ↔ 0 ≤ i := by unfold shI; split <;> omega
theorem shI_eq {n : Nat} {i k : Int} (hk : k < 0) : shI n i = k ↔ i = k := by unfold shI; split <;> omega
theorem shI_toNat {n : Nat} {i : Int} (h : 0 ≤ i) : (shI n i).toNat = n + i.toNat := by unfold shI; rw [if_neg (by omega)]; omega
theorem shI_ite {n : Nat} {c : Prop} [Decidable c] {i j : Int} : shI n (if c then i else j) = if c then shI n i else shI n j := by split <;> rfl
section
variable {p t : List Nat} {n m : Nat}
theorem sh_get : (p ++ t)[p.length + n]? = t[n]? := by rw [List.getElem?_append_right (by omega)]; congr 1; omega
theorem sh_drop : (p ++ t).drop (p.length + n) = t.drop n := by rw [List.drop_append, List.drop_of_length_le (by omega)]; simp
theorem runEnd_sh {q : Nat → Bool} : runEnd q (p ++ t) (p.length + n) = p.length + runEnd q t n := by unfold runEnd; rw [sh_drop]; omega
theorem quoteAt_sh {fin : Bool} : quoteAt (p ++ t) (p.length + n) fin = quoteAt t n fin := by unfold quoteAt; rw [sh_drop]
theorem strEnd_sh {q : List Nat} {fin : Bool} {N : Nat} : ∀ (k : Nat) (r : List Nat) (n : Nat), r.length = k → strEnd q fin r (N + n) = shI N (strEnd q fin r n) := by
  intro k
  induction k using Nat.strongRecOn with
  | ind k ih =>
    intro r n hk
    cases r with
    | nil => unfold strEnd; cases fin <;> rfl
    | cons c r =>
      simp only [List.length_cons] at hk
      rw [strEnd_cons, strEnd_cons, shI_ite, shI_ite, shI_ite, show N + n + 2 = N + (n + 2) by omega, show N + n + 1 = N + (n + 1) by omega, ih (r.drop 1).length (by rw [List.length_drop]; omega) _ (n + 2) rfl, ih r.length (by omega) _ (n + 1) rfl]
      congr 2
      · unfold shI; rw [if_neg (by omega)]; omega
theorem stringEnd_sh {q : List Nat} {fin : Bool} : stringEnd (p ++ t) (p.length + n) q fin = shI p.length (stringEnd t n q fin) := by
  unfold stringEnd
  rw [sh_drop]
  exact strEnd_sh _ _ _ rfl
theorem numGo_sh {N : Nat} : ∀ (r : List Nat) (st : Str) (n e : Nat), numGo r st (N + n) (N + e) = (N + (numGo r st n e).1, N + (numGo r st n e).2)
  | [], _, _, _ => rfl
  | c :: r, st, n, e => by
    rw [numGo, numGo]
    by_cases h : nextState st c = ""
    · rw [if_pos h, if_pos h]
    · rw [if_neg h, if_neg h]
      have h2 : (if nextState st c ∈ endsT then N + n + 1 else N + e) = N + (if nextState st c ∈ endsT then n + 1 else e) := by split <;> omega
      rw [h2, show N + n + 1 = N + (n + 1) by omega]
      exact numGo_sh r _ _ _
theorem numberEnd_sh {fin : Bool} : numberEnd (p ++ t) (p.length + n) fin = shI p.length (numberEnd t n fin) := by
  unfold numberEnd
  rw [sh_drop, numGo_sh, sh_get, shI_ite]
  have e : (p.length + (numGo (t.drop n) "begin" n n).1 = (p ++ t).length ∧ fin = false) ↔ ((numGo (t.drop n) "begin" n n).1 = t.length ∧ fin = false) := by rw [List.length_append]; exact and_congr_left fun _ => by omega
  by_cases h : (numGo (t.drop n) "begin" n n).1 = t.length ∧ fin = false
  · rw [if_pos h, if_pos (e.mpr h)]; rfl
  · rw [if_neg h, if_neg (fun z => h (e.mp z))]
    cases t[(numGo (t.drop n) "begin" n n).2]? with
    | none => exact shI_nat.symm
    | some c =>
      show (if isW c then (-2 : Int) else _) = shI _ (if isW c then (-2 : Int) else _)
      rw [shI_ite]
      congr 1
      exact shI_nat.symm
theorem opEnd_sh {fin : Bool} : opEnd (p ++ t) (p.length + n) fin = shI p.length (opEnd t n fin) := by
  unfold opEnd
  rw [sh_drop, shI_ite]
  congr 1
  cases opsL.find? (fun s => pre s ((t.drop n).take 3)) with
  | none => rfl
  | some s => show ((_ : Nat) : Int) + _ = shI _ ((n : Int) + s.length); unfold shI; rw [if_neg (by omega)]; omega
end
namespace Sc
theorem partGo_cons' {q : List Nat} {isS fin : Bool} {c n : Nat} {r : List Nat} : partGo q isS fin (c :: r) n =
    if c = 92 ∧ r = [] ∧ fin = false then -1
    else if c = 92 then (if r.head? = some 123 ∨ r.head? = some 125 then partGo q isS fin r (n + 1) else partGo q isS fin (r.drop 1) (n + 2))
    else if (c :: r).take q.length = q then n
    else if c = 10 ∧ q.length = 1 then -2
    else if (c = 123 ∨ c = 125) ∧ isS = true ∧ r.head? = some c then partGo q isS fin (r.drop 1) (n + 2)
    else if (c = 123 ∨ c = 125) ∧ isS = true ∧ r = [] ∧ fin = false then -1
    else if c = 123 ∨ c = 125 then n
    else partGo q isS fin r (n + 1) := by
  cases r with
  | nil =>
    have e : Sc.partGo q isS fin [c] n = (if c = 92 ∧ ([] : List Nat) = [] ∧ fin = false then -1 else if c = 92 then (if fin then -2 else -1) else if [c].take q.length = q then (n : Int) else if c = 10 ∧ q.length = 1 then -2
      else if (c = 123 ∨ c = 125) ∧ isS = true ∧ ([] : List Nat).head? = some c then -1 else if (c = 123 ∨ c = 125) ∧ isS = true ∧ ([] : List Nat) = [] ∧ fin = false then -1 else if c = 123 ∨ c = 125 then (n : Int) else (if fin then -2 else -1)) := rfl
    rw [e]
    have e2 : ∀ m, Sc.partGo q isS fin [] m = (if fin then (-2 : Int) else -1) := fun _ => rfl
    simp only [List.drop_nil, e2, List.head?_nil, reduceCtorEq, or_self, and_false, if_false]
  | cons d r' =>
    have e : Sc.partGo q isS fin (c :: d :: r') n = (if c = 92 ∧ (d :: r') = [] ∧ fin = false then -1 else if c = 92 then (if d = 123 ∨ d = 125 then Sc.partGo q isS fin (d :: r') (n + 1) else Sc.partGo q isS fin r' (n + 2)) else if (c :: d :: r').take q.length = q then (n : Int) else if c = 10 ∧ q.length = 1 then -2
      else if (c = 123 ∨ c = 125) ∧ isS = true ∧ (d :: r').head? = some c then Sc.partGo q isS fin r' (n + 2) else if (c = 123 ∨ c = 125) ∧ isS = true ∧ (d :: r') = [] ∧ fin = false then -1 else if c = 123 ∨ c = 125 then (n : Int) else Sc.partGo q isS fin (d :: r') (n + 1)) := rfl
    rw [e]
    simp only [List.head?_cons, Option.some.injEq, List.drop_succ_cons, List.drop_zero]
theorem partGo_sh {q : List Nat} {isS fin : Bool} {N : Nat} : ∀ (k : Nat) (r : List Nat) (n : Nat), r.length = k → partGo q isS fin r (N + n) = shI N (partGo q isS fin r n) := by
  intro k
  induction k using Nat.strongRecOn with
  | ind k ih =>
    intro r n hk
    cases r with
    | nil => rw [partGo, partGo]; cases fin <;> rfl
    | cons c r =>
      simp only [List.length_cons] at hk
      rw [partGo_cons', partGo_cons']
      simp only [shI_ite]
      rw [show N + n + 2 = N + (n + 2) by omega, show N + n + 1 = N + (n + 1) by omega, ih (r.drop 1).length (by rw [List.length_drop]; omega) _ (n + 2) rfl, ih r.length (by omega) _ (n + 1) rfl, shI_nat]
      rfl
end Sc
def Frm.sh (n : Nat) (f : Frm) : Frm := { f with at_ := n + f.at_ }
def Tk.sh (n : Nat) (t : Tk) : Tk := { t with at_ := n + t.at_ }
namespace Sc
def sh (p : List Nat) (F : List Tk) (s : Sc) : Sc := { s with text := p ++ s.text, at_ := p.length + s.at_, fr := s.fr.map (Frm.sh p.length), found := F ++ s.found.map (Tk.sh p.length), fail := s.fail.map fun e => (e.1, e.2 + p.length), join := shI p.length s.join }
def sh2 (p : List Nat) (F : List Tk) (r : Sc × Bool) : Sc × Bool := (sh p F r.1, r.2)
theorem sh2_ite {p : List Nat} {F : List Tk} {c : Prop} [Decidable c] {a b : Sc × Bool} : sh2 p F (if c then a else b) = if c then sh2 p F a else sh2 p F b := by split <;> rfl
section
variable {p : List Nat} {F : List Tk} {s : Sc} {k : Str} {e a b : Nat} {z : Int}
theorem part_sh : (sh p F s).part (p.length + a) (p.length + b) = s.part a b := by
  unfold part
  show ((p ++ s.text).drop _).take _ = _
  rw [sh_drop]
  congr 1
  omega
theorem add_sh : (sh p F s).add k (p.length + e) = sh p F (s.add k e) := by
  show Sc.mk _ _ _ _ ((F ++ s.found.map (Tk.sh p.length)) ++ [Tk.mk k ((sh p F s).part (p.length + s.at_) (p.length + e)) (p.length + s.at_)]) _ _ _ _ _ _ = Sc.mk _ _ _ _ (F ++ (s.found ++ [Tk.mk k (s.part s.at_ e) s.at_]).map (Tk.sh p.length)) _ _ _ _ _ _
  rw [part_sh, List.map_append, List.append_assoc]
  rfl
theorem lex_sh : (sh p F s).lex k (p.length + e) = sh p F (s.lex k e) := add_sh (s := { s with begun := true })
theorem failed_sh : (sh p F s).failed k (z + p.length) = sh p F (s.failed k z) := rfl
theorem failed_shN : (sh p F s).failed k ((p.length + a : Nat) : Int) = sh p F (s.failed k a) := by rw [show ((p.length + a : Nat) : Int) = (a : Int) + p.length by omega]; rfl
theorem dedents_sh : ∀ (r : List (Nat × Nat)) (s : Sc), dedents r (sh p F s) = sh p F (dedents r s)
  | [], _ => rfl
  | _ :: r, s => by
    show dedents r ((sh p F s).add "DEDENT" (p.length + s.at_)) = _
    rw [add_sh]
    exact dedents_sh r _
theorem finish_sh : (sh p F s).finish = sh p F s.finish := by
  unfold finish
  show (if 0 ≤ shI p.length s.join then (sh p F s).failed "join" (shI p.length s.join) else match s.fr.map (Frm.sh p.length) with | f :: _ => _ | [] => _) = _
  by_cases h : 0 ≤ s.join
  · rw [if_pos (shI_ge.mpr h), if_pos h]
    have : shI p.length s.join = s.join + p.length := if_neg (by omega)
    rw [this]
    rfl
  · rw [if_neg (fun z => h (shI_ge.mp z)), if_neg h]
    cases hf : s.fr with
    | cons f fs => exact failed_shN (a := f.at_)
    | nil =>
      show ({ (dedents (s.lv.reverse.drop 1) (if s.begun then (sh p F s).add "NEWLINE" (p.length + s.at_) else sh p F s)).add "ENDMARKER" (dedents (s.lv.reverse.drop 1) (if s.begun then (sh p F s).add "NEWLINE" (p.length + s.at_) else sh p F s)).at_ with over := true } : Sc) = _
      have h1 : (if s.begun then (sh p F s).add "NEWLINE" (p.length + s.at_) else sh p F s) = sh p F (if s.begun then s.add "NEWLINE" s.at_ else s) := by
        rw [add_sh]; split <;> rfl
      rw [h1, dedents_sh]
      show ({ (sh p F (dedents (s.lv.reverse.drop 1) (if s.begun then s.add "NEWLINE" s.at_ else s))).add "ENDMARKER" (p.length + _) with over := true } : Sc) = _
      rw [add_sh]
      rfl
theorem fr_ne : (sh p F s).fr ≠ [] ↔ s.fr ≠ [] := by show s.fr.map _ ≠ [] ↔ _; simp
theorem fr_nil : (sh p F s).fr = [] ↔ s.fr = [] := by show s.fr.map _ = [] ↔ _; simp
theorem len_sh : (sh p F s).text.length = p.length + s.text.length := List.length_append
theorem readJoin_sh : (sh p F s).readJoin = sh2 p F s.readJoin := by
  unfold readJoin
  rw [sh2_ite, sh2_ite]
  have h1 : ((sh p F s).at_ + 1 = (sh p F s).text.length ∧ (sh p F s).fin = false ∧ ((sh p F s).begun = true ∨ (sh p F s).fr ≠ [])) ↔ (s.at_ + 1 = s.text.length ∧ s.fin = false ∧ (s.begun = true ∨ s.fr ≠ [])) := by
    rw [fr_ne, len_sh]
    show (p.length + s.at_ + 1 = _ ∧ s.fin = false ∧ (s.begun = true ∨ _)) ↔ _
    exact and_congr_left fun _ => by omega
  have h2 : (((sh p F s).text.drop ((sh p F s).at_ + 1)).take 1 ≠ [10] ∨ ((sh p F s).begun = false ∧ (sh p F s).fr = [])) ↔ ((s.text.drop (s.at_ + 1)).take 1 ≠ [10] ∨ (s.begun = false ∧ s.fr = [])) := by
    rw [fr_nil]
    show (((p ++ s.text).drop (p.length + s.at_ + 1)).take 1 ≠ [10] ∨ (s.begun = false ∧ _)) ↔ _
    rw [Nat.add_assoc, sh_drop]
  simp only [h1, h2]
  congr 1
  congr 1
  · show ((sh p F s).failed "join" ((p.length + s.at_ : Nat) : Int), false) = _
    rw [failed_shN]
    rfl
  · show (({ sh p F s with join := ((p.length + s.at_ : Nat) : Int), at_ := p.length + s.at_ + 2 } : Sc), true) = (({ sh p F s with join := shI p.length (s.at_ : Int), at_ := p.length + (s.at_ + 2) } : Sc), true)
    rw [shI_nat, Nat.add_assoc]
theorem commentEnd_sh : (sh p F s).commentEnd (p.length + a) = (s.commentEnd a).map (p.length + ·) := by
  unfold commentEnd
  rw [len_sh]
  show (if runEnd notLf (p ++ s.text) _ < _ then some (runEnd notLf (p ++ s.text) _) else if s.fin then _ else _) = _
  rw [runEnd_sh]
  by_cases h : runEnd notLf s.text a < s.text.length
  · rw [if_pos h, if_pos (by omega)]; rfl
  · rw [if_neg h, if_neg (by omega)]; split <;> rfl
theorem readComment_sh : (sh p F s).readComment = sh2 p F s.readComment := by
  unfold readComment
  show (match (sh p F s).commentEnd (p.length + s.at_) with | none => _ | some e => _) = _
  rw [commentEnd_sh]
  cases s.commentEnd s.at_ with
  | none => rfl
  | some e => show ((sh p F s).add _ (p.length + e), true) = _; rw [add_sh]; rfl
theorem readLineFeed_sh : (sh p F s).readLineFeed = sh p F s.readLineFeed := by
  unfold readLineFeed
  show (match s.fr.map (Frm.sh p.length) with | _ :: _ => (sh p F s).add "NL" (p.length + s.at_ + 1) | [] => { (sh p F s).add "NEWLINE" (p.length + s.at_ + 1) with fresh := true, begun := false }) = _
  rw [Nat.add_assoc, add_sh, add_sh]
  cases s.fr <;> rfl
theorem readLastGap_sh : (sh p F s).readLastGap (p.length + e) = sh p F (s.readLastGap e) := by
  unfold readLastGap
  show finish (if p.length + s.at_ < p.length + e then add (sh p F { s with at_ := e }) "NL" (p.length + e) else sh p F s) = _
  rw [add_sh, ← finish_sh]
  congr 1
  by_cases h : s.at_ < e
  · rw [if_pos h, if_pos (by omega)]
  · rw [if_neg h, if_neg (by omega)]
theorem readEmptyLine_sh : (sh p F s).readEmptyLine (p.length + a) = sh2 p F (s.readEmptyLine a) := by
  unfold readEmptyLine
  rw [commentEnd_sh]
  cases s.commentEnd a with
  | none => rfl
  | some e =>
    show ((if p.length + a < p.length + e then (sh p F { s with at_ := a }).add "COMMENT" (p.length + e) else sh p F { s with at_ := a }).add "NL" (min (p.length + e + 1) (p ++ s.text).length), true) = _
    have h1 : (if p.length + a < p.length + e then (sh p F { s with at_ := a }).add "COMMENT" (p.length + e) else sh p F { s with at_ := a }) = sh p F (if a < e then ({ s with at_ := a } : Sc).add "COMMENT" e else { s with at_ := a }) := by
      rw [add_sh]
      by_cases h : a < e
      · rw [if_pos h, if_pos (by omega)]
      · rw [if_neg h, if_neg (by omega)]
    rw [h1, List.length_append, show min (p.length + e + 1) (p.length + s.text.length) = p.length + min (e + 1) s.text.length by omega, add_sh]
    rfl
theorem popLv_sh {w : Nat} : ∀ (l : List (Nat × Nat)) (s : Sc), popLv w (p.length + e) l (sh p F s) = sh p F (popLv w e l s)
  | [], _ => rfl
  | q :: r, s => by
    rw [popLv, popLv]
    by_cases h : w < q.1
    · rw [if_pos h, if_pos h]
      show popLv w (p.length + e) r (add (sh p F { s with lv := r }) "DEDENT" (p.length + e)) = _
      rw [add_sh]
      exact popLv_sh r _
    · rw [if_neg h, if_neg h]; rfl
theorem compare_sh {g : List Nat} : (sh p F s).compare g (p.length + e) = sh2 p F (s.compare g e) := by
  unfold compare
  simp only [failed_shN]
  show (if (s.lv.headD (0, 0)).1 < widthOf g ∧ (s.lv.headD (0, 0)).2 < g.length then (if 12 < s.lv.length then _ else (({ add (sh p F { s with lv := (widthOf g, g.length) :: s.lv }) "INDENT" (p.length + e) with at_ := p.length + e, fresh := false } : Sc), true)) else if widthOf g < (s.lv.headD (0, 0)).1 then (if widthOf g ∉ s.lv.map (·.1) then _ else if (widthOf g, g.length) ∉ s.lv then _ else (({ popLv (widthOf g) (p.length + e) s.lv (sh p F { s with at_ := e }) with at_ := p.length + e, fresh := false } : Sc), true)) else if (widthOf g, g.length) ≠ s.lv.headD (0, 0) then _ else _) = _
  rw [add_sh, popLv_sh]
  simp only [sh2_ite]
  rfl
theorem readIndentation_sh : (sh p F s).readIndentation = sh2 p F s.readIndentation := by
  unfold readIndentation
  show (match (p ++ s.text)[runEnd isG (p ++ s.text) (p.length + s.at_)]? with | none => if s.fin then ((sh p F s).readLastGap (runEnd isG (p ++ s.text) (p.length + s.at_)), false) else (sh p F s, false) | some c => if c = 35 ∨ c = 10 then (sh p F s).readEmptyLine (runEnd isG (p ++ s.text) (p.length + s.at_)) else (sh p F s).compare ((sh p F s).part (p.length + s.at_) (runEnd isG (p ++ s.text) (p.length + s.at_))) (runEnd isG (p ++ s.text) (p.length + s.at_))) = _
  rw [runEnd_sh, sh_get, readLastGap_sh, readEmptyLine_sh, part_sh, compare_sh]
  dsimp only
  cases s.text[runEnd isG s.text s.at_]? with
  | none =>
    show _ = sh2 p F (if s.fin then _ else _)
    rw [sh2_ite]; rfl
  | some c =>
    show _ = sh2 p F (if c = 35 ∨ c = 10 then _ else _)
    rw [sh2_ite]
theorem readString_sh : (sh p F s).readString (p.length + a) = sh2 p F (s.readString a) := by
  unfold readString
  show (if quoteAt (p ++ s.text) (p.length + a) s.fin = [] then (sh p F s, false) else if stringEnd (p ++ s.text) (p.length + a + (quoteAt (p ++ s.text) (p.length + a) s.fin).length) (quoteAt (p ++ s.text) (p.length + a) s.fin) s.fin = -2 then ((sh p F s).failed (if (quoteAt (p ++ s.text) (p.length + a) s.fin).length = 1 then "string" else "triple") ((p.length + s.at_ : Nat) : Int), false) else if stringEnd (p ++ s.text) (p.length + a + (quoteAt (p ++ s.text) (p.length + a) s.fin).length) (quoteAt (p ++ s.text) (p.length + a) s.fin) s.fin = -1 then (sh p F s, false) else ((sh p F s).lex "STRING" (stringEnd (p ++ s.text) (p.length + a + (quoteAt (p ++ s.text) (p.length + a) s.fin).length) (quoteAt (p ++ s.text) (p.length + a) s.fin) s.fin).toNat, true)) = _
  rw [quoteAt_sh, Nat.add_assoc, stringEnd_sh, failed_shN]
  simp only [shI_eq (show (-1 : Int) < 0 by decide), shI_eq (show (-2 : Int) < 0 by decide), sh2_ite]
  split
  · rfl
  · split
    · rfl
    · split
      · rfl
      · rename_i h0 h1 h2
        have h3 : 0 ≤ stringEnd s.text (a + (quoteAt s.text a s.fin).length) (quoteAt s.text a s.fin) s.fin := by
          rcases Int.lt_or_le (stringEnd s.text (a + (quoteAt s.text a s.fin).length) (quoteAt s.text a s.fin) s.fin) 0 with z | z
          · rcases stringEnd_neg _ _ rfl z with z | z
            · exact absurd z h1
            · exact absurd z h2
          · exact z
        rw [shI_toNat h3, lex_sh]
        rfl
theorem cnt_sh {f : Frm → Bool} (hf : ∀ x, f (Frm.sh p.length x) = f x) : ((sh p F s).fr.filter f).length = (s.fr.filter f).length := by
  show ((s.fr.map _).filter f).length = _
  rw [List.filter_map, List.length_map]
  congr 2
  funext x
  exact hf x
theorem beginString_sh : (sh p F s).beginString (p.length + a) = sh2 p F (s.beginString a) := by
  unfold beginString
  rw [cnt_sh (fun _ => rfl)]
  show (if _ then ((sh p F s).failed "deep" ((p.length + s.at_ : Nat) : Int), false) else if quoteAt (p ++ s.text) (p.length + a) s.fin = [] then (sh p F s, false) else (lex (sh p F { s with fr := ⟨.str, s.at_, quoteAt (p ++ s.text) (p.length + a) s.fin⟩ :: s.fr }) "FSTRING_START" (p.length + a + (quoteAt (p ++ s.text) (p.length + a) s.fin).length), true)) = _
  rw [quoteAt_sh, Nat.add_assoc, lex_sh, failed_shN, sh2_ite, sh2_ite]
  rfl
theorem readWord_sh : (sh p F s).readWord = sh2 p F s.readWord := by
  unfold readWord
  show (if runEnd isW (p ++ s.text) (p.length + s.at_) = (p ++ s.text).length ∧ s.fin = false then (sh p F s, false) else match (p ++ s.text)[runEnd isW (p ++ s.text) (p.length + s.at_)]? with
    | some c => if isQ c = true ∧ ((sh p F s).part (p.length + s.at_) (runEnd isW (p ++ s.text) (p.length + s.at_))).map lo1 ∈ pfP then (sh p F s).readString (runEnd isW (p ++ s.text) (p.length + s.at_)) else if isQ c = true ∧ ((sh p F s).part (p.length + s.at_) (runEnd isW (p ++ s.text) (p.length + s.at_))).map lo1 ∈ pfF then (sh p F s).beginString (runEnd isW (p ++ s.text) (p.length + s.at_)) else ((sh p F s).lex "NAME" (runEnd isW (p ++ s.text) (p.length + s.at_)), true)
    | none => ((sh p F s).lex "NAME" (runEnd isW (p ++ s.text) (p.length + s.at_)), true)) = _
  rw [runEnd_sh, part_sh, sh_get, readString_sh, beginString_sh, lex_sh, List.length_append, sh2_ite]
  have h : (p.length + runEnd isW s.text s.at_ = p.length + s.text.length ∧ s.fin = false) ↔ (runEnd isW s.text s.at_ = s.text.length ∧ s.fin = false) := and_congr_left fun _ => by omega
  simp only [h]
  congr 1
  show _ = sh2 p F (match s.text[runEnd isW s.text s.at_]? with | some c => _ | none => _)
  cases s.text[runEnd isW s.text s.at_]? with
  | none => rfl
  | some c =>
    show _ = sh2 p F (if _ then _ else if _ then _ else _)
    rw [sh2_ite, sh2_ite]
    rfl
theorem openBracket_sh {m : Mark} {q : List Nat} : (sh p F s).openBracket m q = sh2 p F (s.openBracket m q) := by
  unfold openBracket
  rw [cnt_sh (fun _ => rfl)]
  show (if _ then ((sh p F s).failed "deep" ((p.length + s.at_ : Nat) : Int), false) else (lex (sh p F { s with fr := ⟨m, s.at_, q⟩ :: s.fr }) "OP" (p.length + s.at_ + 1), true)) = _
  rw [Nat.add_assoc, lex_sh, failed_shN, sh2_ite]
  rfl
theorem rest_sh {c : Nat} {own : Bool} : readOperator.rest (sh p F s) c own = sh2 p F (readOperator.rest s c own) := by
  unfold readOperator.rest
  show (if opEnd (p ++ s.text) (p.length + s.at_) s.fin = -1 then (sh p F s, false) else
    if (if opEnd (p ++ s.text) (p.length + s.at_) s.fin = -2 ∧ own = true ∧ c = 33 then ((p.length + s.at_ : Nat) + 1 : Int) else opEnd (p ++ s.text) (p.length + s.at_) s.fin) = -2 then ((sh p F s).failed "character" ((p.length + s.at_ : Nat) : Int), false)
    else match opener c with
      | some m => (sh p F s).openBracket m []
      | none => if isCloser c = true then
          match s.fr.map (Frm.sh p.length) with
          | [] => ((sh p F s).failed "bracket" ((p.length + s.at_ : Nat) : Int), false)
          | f :: fs => if f.mark.closer = some c then (lex { sh p F s with fr := fs } "OP" (if opEnd (p ++ s.text) (p.length + s.at_) s.fin = -2 ∧ own = true ∧ c = 33 then ((p.length + s.at_ : Nat) + 1 : Int) else opEnd (p ++ s.text) (p.length + s.at_) s.fin).toNat, true) else ((sh p F s).failed "bracket" ((p.length + s.at_ : Nat) : Int), false)
        else ((sh p F s).lex "OP" (if opEnd (p ++ s.text) (p.length + s.at_) s.fin = -2 ∧ own = true ∧ c = 33 then ((p.length + s.at_ : Nat) + 1 : Int) else opEnd (p ++ s.text) (p.length + s.at_) s.fin).toNat, true)) = _
  rw [opEnd_sh]
  simp only [shI_eq (show (-1 : Int) < 0 by decide), shI_eq (show (-2 : Int) < 0 by decide), sh2_ite]
  have h1 : (if opEnd s.text s.at_ s.fin = -2 ∧ own = true ∧ c = 33 then ((p.length + s.at_ : Nat) + 1 : Int) else shI p.length (opEnd s.text s.at_ s.fin)) = shI p.length (if opEnd s.text s.at_ s.fin = -2 ∧ own = true ∧ c = 33 then (s.at_ + 1 : Int) else opEnd s.text s.at_ s.fin) := by
    rw [shI_ite]
    congr 1
    unfold shI
    rw [if_neg (by omega)]
    omega
  rw [h1]
  split
  · rfl
  · rename_i hm
    generalize hk : (if opEnd s.text s.at_ s.fin = -2 ∧ own = true ∧ c = 33 then (s.at_ + 1 : Int) else opEnd s.text s.at_ s.fin) = k
    simp only [shI_eq (show (-2 : Int) < 0 by decide)]
    split
    · rw [failed_shN]; rfl
    · rename_i h2
      have h3 : 0 ≤ k := by
        rcases Int.lt_or_le k 0 with z | z
        · split at hk
          · omega
          · rcases opEnd_neg (by rw [hk]; exact z) with z | z <;> omega
        · exact z
      rw [shI_toNat h3, failed_shN]
      cases opener c with
      | some m => exact openBracket_sh
      | none =>
        dsimp only
        rw [sh2_ite]
        congr 1
        · cases s.fr with
          | nil => rfl
          | cons f fs =>
            show (if f.mark.closer = some c then (lex (sh p F { s with fr := fs }) "OP" (p.length + k.toNat), true) else _) = sh2 p F (if f.mark.closer = some c then _ else _)
            rw [lex_sh, sh2_ite]
            rfl
        · rw [lex_sh]; rfl
theorem topFld_sh : (sh p F s).topFld = s.topFld.map (Frm.sh p.length) := by
  unfold topFld
  show (match s.fr.map (Frm.sh p.length) with | f :: _ => _ | [] => _) = _
  cases s.fr with
  | nil => rfl
  | cons f fs =>
    show (if f.mark = .fld then some (Frm.sh p.length f) else none) = (if f.mark = .fld then some f else none).map _
    split <;> rfl
theorem readOperator_sh {c : Nat} : (sh p F s).readOperator c = sh2 p F (s.readOperator c) := by
  unfold readOperator
  rw [topFld_sh]
  cases s.topFld with
  | none => exact rest_sh
  | some f =>
    show (if c = 58 then (lex (sh p F { s with fr := ⟨.fmt, f.at_, f.q⟩ :: s.fr }) "OP" (p.length + s.at_ + 1), true) else _) = sh2 p F (if c = 58 then _ else _)
    rw [Nat.add_assoc, lex_sh, rest_sh, sh2_ite]
    rfl
theorem readLexeme_sh {c : Nat} : (sh p F s).readLexeme c = sh2 p F (s.readLexeme c) := by
  unfold readLexeme
  simp only [sh2_ite]
  have hd : (c ∈ kDIG ∨ (c = 46 ∧ ∃ d, (sh p F s).text[(sh p F s).at_ + 1]? = some d ∧ d ∈ kDIG)) ↔ (c ∈ kDIG ∨ (c = 46 ∧ ∃ d, s.text[s.at_ + 1]? = some d ∧ d ∈ kDIG)) := by
    show (c ∈ kDIG ∨ (c = 46 ∧ ∃ d, (p ++ s.text)[p.length + s.at_ + 1]? = some d ∧ d ∈ kDIG)) ↔ _
    rw [Nat.add_assoc, sh_get]
  simp only [hd]
  rw [readWord_sh, readOperator_sh]
  show (if _ then _ else if _ then (sh p F s).readString (p.length + s.at_) else if _ then (if numberEnd (p ++ s.text) (p.length + s.at_) s.fin = -2 then ((sh p F s).failed "number" ((p.length + s.at_ : Nat) : Int), false) else if numberEnd (p ++ s.text) (p.length + s.at_) s.fin = -1 then (sh p F s, false) else ((sh p F s).lex "NUMBER" (numberEnd (p ++ s.text) (p.length + s.at_) s.fin).toNat, true)) else _) = _
  rw [numberEnd_sh, failed_shN, readString_sh]
  simp only [shI_eq (show (-1 : Int) < 0 by decide), shI_eq (show (-2 : Int) < 0 by decide)]
  congr 3
  split
  · rfl
  · rename_i h1
    split
    · rfl
    · rename_i h2
      have h3 : 0 ≤ numberEnd s.text s.at_ s.fin := by
        rcases Int.lt_or_le (numberEnd s.text s.at_ s.fin) 0 with z | z
        · rcases numberEnd_neg z with z | z
          · exact absurd z h1
          · exact absurd z h2
        · exact z
      rw [shI_toNat h3, lex_sh]
      rfl
theorem partEnd_sh {f : Frm} : (sh p F s).partEnd (Frm.sh p.length f) = shI p.length (s.partEnd f) := by
  show partGo f.q f.mark.isStr s.fin ((p ++ s.text).drop (p.length + s.at_)) (p.length + s.at_) = _
  rw [sh_drop]
  exact partGo_sh _ _ _ rfl
theorem addPart_sh : (sh p F s).addPart (p.length + e) = sh p F (s.addPart e) := by
  unfold addPart
  rw [add_sh]
  show (if p.length + s.at_ < p.length + e then _ else _) = _
  by_cases h : s.at_ < e
  · rw [if_pos h, if_pos (by omega)]
  · rw [if_neg h, if_neg (by omega)]
theorem endFormat_sh {f : Frm} : (sh p F s).endFormat (Frm.sh p.length f) = sh2 p F (s.endFormat f) := by
  unfold endFormat
  show (if f.mark = .str then ((sh p F s).failed "brace" ((p.length + s.at_ : Nat) : Int), false) else (add { sh p F s with fr := (s.fr.map (Frm.sh p.length)).drop 2 } "OP" (p.length + s.at_ + 1), true)) = _
  rw [← List.map_drop]
  show (if f.mark = .str then ((sh p F s).failed "brace" ((p.length + s.at_ : Nat) : Int), false) else (add (sh p F { s with fr := s.fr.drop 2 }) "OP" (p.length + s.at_ + 1), true)) = _
  rw [Nat.add_assoc, add_sh, failed_shN, sh2_ite]
  rfl
theorem begunAt_sh : ∀ (l : List Frm), (∃ f ∈ l, f.mark = .str) → begunAt (l.map (Frm.sh p.length)) = p.length + begunAt l
  | [], h => by obtain ⟨f, h, _⟩ := h; cases h
  | f :: fs, h => by
    show (if f.mark = .str then p.length + f.at_ else begunAt (fs.map (Frm.sh p.length))) = p.length + (if f.mark = .str then f.at_ else begunAt fs)
    by_cases hf : f.mark = .str
    · rw [if_pos hf, if_pos hf]
    · rw [if_neg hf, if_neg hf]
      obtain ⟨g, h1, h2⟩ := h
      rcases List.mem_cons.mp h1 with z | z
      · subst z; exact absurd h2 hf
      · exact begunAt_sh fs ⟨g, z, h2⟩
theorem has_str : ∀ {fs : List Frm} {f : Frm}, FrOk (f :: fs) → f.mark = .str ∨ f.mark = .fmt → ∃ g ∈ f :: fs, g.mark = .str
  | fs, f, h, hm => by
    rcases hm with z | z
    · exact ⟨f, List.mem_cons_self, z⟩
    · obtain ⟨h1, _, h3⟩ := h
      rw [z] at h3
      obtain ⟨_, g, gs, rfl, hg⟩ := h3
      obtain ⟨h4, _, h6⟩ := h1
      rw [hg] at h6
      obtain ⟨_, g2, gs2, rfl, hg2⟩ := h6
      obtain ⟨x, hx, hx2⟩ := has_str h4 hg2
      exact ⟨x, List.mem_cons_of_mem _ (List.mem_cons_of_mem _ hx), hx2⟩
theorem readPart_sh {f : Frm} (h : Ok s) (hs : ∃ f ∈ s.fr, f.mark = .str) : (sh p F s).readPart (Frm.sh p.length f) = sh2 p F (s.readPart f) := by
  unfold readPart
  rw [partEnd_sh]
  show (if shI p.length (s.partEnd f) = -1 then (sh p F s, false) else if shI p.length (s.partEnd f) = -2 then ((sh p F s).failed (if f.q.length = 1 then "string" else "triple") ((begunAt (s.fr.map (Frm.sh p.length)) : Nat) : Int), false) else
    match (p ++ s.text)[(shI p.length (s.partEnd f)).toNat]? with
    | some 123 => ((sh p F s).addPart (shI p.length (s.partEnd f)).toNat).openBracket .fld f.q
    | some 125 => ((sh p F s).addPart (shI p.length (s.partEnd f)).toNat).endFormat (Frm.sh p.length f)
    | _ => if f.mark = .fmt then (((sh p F s).addPart (shI p.length (s.partEnd f)).toNat).failed "open" ((p.length + f.at_ : Nat) : Int), false) else (add { (sh p F s).addPart (shI p.length (s.partEnd f)).toNat with fr := ((sh p F s).addPart (shI p.length (s.partEnd f)).toNat).fr.drop 1 } "FSTRING_END" ((shI p.length (s.partEnd f)).toNat + f.q.length), true)) = _
  rw [begunAt_sh _ hs, failed_shN, sh2_ite, sh2_ite]
  simp only [shI_eq (show (-1 : Int) < 0 by decide), shI_eq (show (-2 : Int) < 0 by decide)]
  split
  · rfl
  · rename_i h1
    split
    · rfl
    · rename_i h2
      obtain ⟨e, he, h3, h4⟩ := (partEnd_le (f := f) h).resolve_left (fun z => z.elim h2 h1)
      rw [he, shI_nat, Int.toNat_natCast, Int.toNat_natCast, sh_get, addPart_sh, failed_shN]
      have hd : ∀ a : Sc, ({ sh p F a with fr := (sh p F a).fr.drop 1 } : Sc) = sh p F { a with fr := a.fr.drop 1 } := fun a => by
        show ({ sh p F a with fr := (a.fr.map (Frm.sh p.length)).drop 1 } : Sc) = _
        rw [← List.map_drop]
        rfl
      rw [hd, Nat.add_assoc, add_sh, openBracket_sh, endFormat_sh]
      generalize s.text[e]? = x
      have hm : ∀ (A B C : Sc × Bool), (match x with | some 123 => sh2 p F A | some 125 => sh2 p F B | _ => sh2 p F C) = sh2 p F (match x with | some 123 => A | some 125 => B | _ => C) := fun A B C => by
        split
        · rfl
        · rfl
        · rfl
      refine Eq.trans ?_ (hm _ _ _)
      rw [sh2_ite]
      rfl
theorem skip_sh : (sh p F s).skip = sh p F s.skip := by
  unfold skip
  show (if p.length + s.at_ < runEnd isG (p ++ s.text) (p.length + s.at_) then { sh p F s with at_ := runEnd isG (p ++ s.text) (p.length + s.at_), join := -1 } else _) = _
  rw [runEnd_sh]
  by_cases h : s.at_ < runEnd isG s.text s.at_
  · rw [if_pos h, if_pos (by omega)]; rfl
  · rw [if_neg h, if_neg (by omega)]
theorem readOn1_sh : (sh p F s).readOn1 = sh2 p F s.readOn1 := by
  unfold readOn1
  show (match (p ++ s.text)[p.length + s.at_]? with | none => if s.fin then ((sh p F s).finish, false) else (sh p F s, false) | some c => _) = _
  rw [sh_get, finish_sh]
  cases s.text[s.at_]? with
  | none => show _ = sh2 p F (if s.fin then _ else _); rw [sh2_ite]; rfl
  | some c =>
    show (if c = 92 then (sh p F s).readJoin else if c = 35 then (sh p F s).readComment else if c = 10 then ((sh p F s).readLineFeed, true) else (sh p F s).readLexeme c) = sh2 p F (if c = 92 then _ else if c = 35 then _ else if c = 10 then _ else _)
    rw [readJoin_sh, readComment_sh, readLineFeed_sh, readLexeme_sh, sh2_ite, sh2_ite, sh2_ite]
    rfl
theorem topPart_sh : (sh p F s).topPart = s.topPart.map (Frm.sh p.length) := by
  unfold topPart
  show (match s.fr.map (Frm.sh p.length) with | f :: _ => _ | [] => _) = _
  cases s.fr with
  | nil => rfl
  | cons f fs =>
    show (if f.mark = .str ∨ f.mark = .fmt then some (Frm.sh p.length f) else none) = (if f.mark = .str ∨ f.mark = .fmt then some f else none).map _
    split <;> rfl
theorem step_sh (h : Ok s) : step (sh p F s) = sh2 p F (step s) := by
  unfold step
  rw [topPart_sh]
  cases ht : s.topPart with
  | some f =>
    obtain ⟨fs, h1, h2⟩ := topPart_some ht
    exact readPart_sh h (by rw [h1]; exact has_str (h1 ▸ h.fr) h2)
  | none =>
    show (if s.fresh = true ∧ (sh p F s).fr = [] then (sh p F s).readIndentation else readOn1 (sh p F s).skip) = sh2 p F (if _ then _ else _)
    rw [skip_sh, readOn1_sh, readIndentation_sh, sh2_ite]
    simp only [fr_nil]
theorem ok_len (h : Ok s) (hl : (p ++ s.text).length ≤ 20000) : s.text.length ≤ 20000 := h.hl
theorem run_sh : ∀ (n : Nat) {s : Sc}, Ok s → run n (sh p F s) = sh p F (run n s)
  | 0, _, _ => rfl
  | n + 1, s, h => by
    rw [run, run]
    show (if s.over then sh p F s else if (step (sh p F s)).2 then run n (step (sh p F s)).1 else (step (sh p F s)).1) = _
    by_cases ho : s.over = true
    · rw [if_pos ho, if_pos ho]
    · have ho' : s.over = false := by simpa using ho
      have hg := step_ok h ho'
      rw [if_neg ho, if_neg ho, step_sh h]
      show (if (step s).2 then run n (sh p F (step s).1) else sh p F (step s).1) = _
      rw [run_sh n hg.1]
      split <;> rfl
theorem word_sh : word (sh p F s) = word s := by
  unfold word
  rw [len_sh]
  show 2 * (p.length + s.text.length - (p.length + s.at_)) + (if s.fresh then 1 else 0) = _
  rw [Nat.add_sub_add_left]
theorem go_sh (h : Ok s) : (sh p F s).go = sh p F s.go := by
  unfold go
  rw [word_sh]
  exact run_sh _ h
end
end Sc
end Kt

set_option Elab.async false
set_option linter.all false
set_option maxRecDepth 100000
set_option maxHeartbeats 2000000
namespace Kt
open PySem PySem.Spec PyProof.Rows L2 Evl
/-! ## what is certain stays, whatever follows -/
section
variable {p t : List Nat} {n m : Nat} {f : Bool}
theorem ex_get (h : n < t.length) : (t ++ p)[n]? = t[n]? := List.getElem?_append_left h
theorem ex_drop (h : n ≤ t.length) : (t ++ p).drop n = t.drop n ++ p := by rw [List.drop_append, show n - t.length = 0 by omega, List.drop_zero]
theorem tw_ext {q : Nat → Bool} : ∀ {l : List Nat}, (l.takeWhile q).length < l.length → ((l ++ p).takeWhile q).length = (l.takeWhile q).length
  | [], h => by simp at h
  | c :: l, h => by
    rw [List.cons_append, List.takeWhile_cons, List.takeWhile_cons]
    rw [List.takeWhile_cons] at h
    by_cases hc : q c = true
    · rw [if_pos hc] at h ⊢
      rw [if_pos hc]
      simp only [List.length_cons] at h ⊢
      rw [tw_ext (by omega)]
    · rw [if_neg hc, if_neg hc]
theorem runEnd_ext {q : Nat → Bool} (hn : n ≤ t.length) (h : runEnd q t n < t.length) : runEnd q (t ++ p) n = runEnd q t n := by
  unfold runEnd at h ⊢
  rw [ex_drop hn, tw_ext (by rw [List.length_drop]; omega)]
theorem runEnd_twice {q : Nat → Bool} (hn : n ≤ t.length) : runEnd q (t ++ p) (runEnd q t n) = runEnd q (t ++ p) n := by
  by_cases h : runEnd q t n < t.length
  · rw [runEnd_ext hn h]
    cases hg : t[runEnd q t n]? with
    | none => exact absurd (List.getElem?_eq_none_iff.mp hg) (by omega)
    | some c => exact runEnd_stop (by rw [ex_get h]; exact hg) (runEnd_next hg)
  · have h1 : runEnd q t n = t.length := by have := runEnd_le (p := q) hn; omega
    rw [h1]
    unfold runEnd at h1 ⊢
    have hall : (t.drop n).takeWhile q = t.drop n := by
      have := List.takeWhile_prefix q (l := t.drop n)
      exact this.eq_of_length (by rw [List.length_drop]; omega)
    rw [ex_drop (Nat.le_refl _), ex_drop hn, List.drop_length, List.nil_append, List.takeWhile_append, hall, if_pos rfl, List.length_append, List.length_drop]
    omega
/-- a quote: one sign or three -/
def Qu (q : List Nat) : Prop := q = [] ∨ ∃ x, (x = 39 ∨ x = 34) ∧ (q = [x] ∨ q = [x, x, x])
theorem quoteAt_qu {c : Nat} (h : t[n]? = some c) (hc : isQ c = true) {f : Bool} : Qu (quoteAt t n f) := by
  have h1 : c = 39 ∨ c = 34 := by simpa [isQ] using hc
  rw [quoteAt_at h]
  split
  · exact Or.inr ⟨c, h1, Or.inr rfl⟩
  · split
    · exact Or.inl rfl
    · exact Or.inr ⟨c, h1, Or.inl rfl⟩
theorem quoteAt_ext (h : quoteAt t n false ≠ []) : quoteAt (t ++ p) n f = quoteAt t n false := by
  cases hg : t[n]? with
  | none =>
    exfalso
    apply h
    unfold quoteAt
    rw [List.drop_of_length_le (List.getElem?_eq_none_iff.mp hg)]
  | some q =>
    have hlt := (List.getElem?_eq_some_iff.mp hg).1
    rw [quoteAt_at hg] at h ⊢
    rw [quoteAt_at (l := t ++ p) (by rw [ex_get hlt]; exact hg), ex_drop (Nat.le_of_lt hlt)]
    have e := drop_at hg
    rw [e] at h ⊢
    generalize hr : t.drop (n + 1) = r at h ⊢
    have hl : n + 1 + r.length = t.length := by rw [← hr, List.length_drop]; omega
    rcases r with _ | ⟨a, _ | ⟨b, r⟩⟩
    · simp only [List.length_nil] at hl
      simp [hl] at h
    · simp only [List.length_cons, List.length_nil] at hl
      by_cases ha : a = q
      · simp [ha] at h
      · simp [ha, show ¬ n + 1 = t.length by omega]
        intro _ z
        omega
    · simp only [List.length_cons] at hl
      simp [show ¬ n + 1 = t.length by omega, show ¬ n + 1 = t.length + p.length by omega]
theorem qu_tail {q l x : List Nat} (hq : Qu q) (h1 : l ++ x = q) : ∀ c ∈ l, c = 39 ∨ c = 34 := by
  intro c hc
  have hm : c ∈ q := by rw [← h1]; exact List.mem_append_left _ hc
  rcases hq with rfl | ⟨y, hy, rfl | rfl⟩
  · cases hm
  · simp at hm; rw [hm]; exact hy
  · simp at hm; rw [hm]; exact hy
theorem take_ext {q l : List Nat} (h : (l ++ p).take q.length = q) (h2 : l.take q.length ≠ q) : ∃ x, l ++ x = q ∧ x ≠ [] := by
  have hlt : l.length < q.length := by
    rcases Nat.lt_or_ge l.length q.length with z | z
    · exact z
    · rw [List.take_append_of_le_length z] at h
      exact absurd h h2
  rw [List.take_append, List.take_of_length_le (Nat.le_of_lt hlt)] at h
  refine ⟨_, h, fun z => ?_⟩
  rw [z, List.append_nil] at h
  rw [h] at hlt
  exact Nat.lt_irrefl _ hlt
theorem strEnd_short {q : List Nat} : ∀ (l : List Nat) (n : Nat), (∀ c ∈ l, c = 39 ∨ c = 34) → l.length < q.length → strEnd q false l n = -1
  | [], _, _, _ => rfl
  | c :: r, n, h, hl => by
    have hc := h c List.mem_cons_self
    have hne : (c :: r).take q.length ≠ q := fun z => by
      have := congrArg List.length z
      rw [List.length_take] at this
      simp only [List.length_cons] at hl this
      omega
    rw [strEnd_cons, if_neg (by omega), if_neg hne, if_neg (by omega)]
    exact strEnd_short r _ (fun x hx => h x (List.mem_cons_of_mem _ hx)) (by simp only [List.length_cons] at hl; omega)
theorem strEnd_ext {q : List Nat} (hq : Qu q) : ∀ (k : Nat) (r : List Nat) (n : Nat), r.length = k → strEnd q false r n ≠ -1 → strEnd q f (r ++ p) n = strEnd q false r n := by
  intro k
  induction k using Nat.strongRecOn with
  | ind k ih =>
    intro r n hk h
    cases r with
    | nil => exact absurd rfl h
    | cons c r =>
      simp only [List.length_cons] at hk
      rw [strEnd_cons] at h ⊢
      rw [List.cons_append, strEnd_cons]
      by_cases h1 : c = 92
      · rw [if_pos h1] at h ⊢
        rw [if_pos h1]
        have hd : r ≠ [] := fun z => by rw [z] at h; exact h rfl
        have e : (r ++ p).drop 1 = r.drop 1 ++ p := by cases r with | nil => exact absurd rfl hd | cons a r => rfl
        rw [e]
        exact ih _ (by rw [List.length_drop]; omega) _ _ rfl h
      · rw [if_neg h1] at h ⊢
        rw [if_neg h1]
        by_cases h2 : (c :: r).take q.length = q
        · rw [if_pos h2] at h ⊢
          have hle : q.length ≤ (c :: r).length := by
            have := congrArg List.length h2
            rw [List.length_take] at this
            omega
          rw [← List.cons_append, List.take_append_of_le_length hle, if_pos h2]
        · rw [if_neg h2] at h ⊢
          by_cases h3 : (c :: (r ++ p)).take q.length = q
          · exfalso
            obtain ⟨x, hx, hx0⟩ := take_ext (l := c :: r) h3 h2
            have hs := strEnd_short (q := q) (c :: r) n (qu_tail hq hx) (by
              rw [← hx, List.length_append]
              have := List.length_pos_iff.mpr hx0
              omega)
            rw [strEnd_cons, if_neg h1, if_neg h2] at hs
            exact h hs
          · rw [if_neg h3]
            by_cases h4 : c = 10 ∧ q.length = 1
            · rw [if_pos h4, if_pos h4]
            · rw [if_neg h4] at h ⊢
              rw [if_neg h4]
              exact ih _ (by omega) _ _ rfl h
theorem stringEnd_ext {q : List Nat} (hq : Qu q) (hn : n ≤ t.length) (h : stringEnd t n q false ≠ -1) : stringEnd (t ++ p) n q f = stringEnd t n q false := by
  unfold stringEnd at h ⊢
  rw [ex_drop hn]
  exact strEnd_ext hq _ _ _ rfl h
theorem numGo_ext : ∀ (r : List Nat) (st : Str) (n e : Nat), (numGo r st n e).1 ≠ n + r.length → numGo (r ++ p) st n e = numGo r st n e
  | [], _, _, _, h => absurd rfl h
  | c :: r, st, n, e, h => by
    rw [numGo] at h ⊢
    rw [List.cons_append, numGo]
    by_cases h1 : nextState st c = ""
    · rw [if_pos h1, if_pos h1]
    · rw [if_neg h1] at h ⊢
      rw [if_neg h1]
      exact numGo_ext r _ _ _ (by simp only [List.length_cons] at h; omega)
theorem numberEnd_ext (hn : n ≤ t.length) (h : numberEnd t n false ≠ -1) : numberEnd (t ++ p) n f = numberEnd t n false := by
  obtain ⟨a, b, d, g⟩ := numGo_le (t.drop n) "begin" n n (Nat.le_refl _)
  rw [List.length_drop] at g
  unfold numberEnd at h ⊢
  have h1 : ¬ ((numGo (t.drop n) "begin" n n).1 = t.length ∧ false = false) := fun z => by rw [if_pos z] at h; exact h rfl
  have h2 : (numGo (t.drop n) "begin" n n).1 ≠ t.length := fun z => h1 ⟨z, rfl⟩
  have e : numGo (t.drop n ++ p) "begin" n n = numGo (t.drop n) "begin" n n := numGo_ext _ _ _ _ (by rw [List.length_drop]; omega)
  rw [ex_drop hn, e, if_neg h1, if_neg (fun z => by rw [List.length_append] at z; omega), ex_get (by omega)]
theorem opEnd_ext (hn : n ≤ t.length) (h : opEnd t n false ≠ -1) : opEnd (t ++ p) n f = opEnd t n false := by
  unfold opEnd at h ⊢
  rw [ex_drop hn]
  generalize t.drop n = r at h ⊢
  have hany : opsL.any (fun s => decide ((r.take 3).length < s.length) && pre (r.take 3) s) = false := by
    cases z : opsL.any (fun s => decide ((r.take 3).length < s.length) && pre (r.take 3) s) with
    | false => rfl
    | true => rw [z] at h; exact absurd rfl h
  have hpre : ∀ s ∈ opsL, pre s ((r ++ p).take 3) = pre s (r.take 3) := by
    intro s hs
    have hl : s.length ≤ 3 := by
      have := List.all_eq_true.mp ops_short s hs
      simp only [Bool.and_eq_true, decide_eq_true_eq] at this
      exact this.2
    have hno := List.any_eq_false.mp hany s hs
    unfold pre at hno ⊢
    rw [List.take_take, List.take_take, Nat.min_eq_left hl]
    by_cases h3 : s.length ≤ r.length
    · rw [List.take_append_of_le_length h3]
    · have h4 : (r.take 3).length < s.length := by rw [List.length_take]; omega
      refine decide_eq_decide.mpr ⟨fun z => ?_, fun z => ?_⟩
      · exfalso
        apply hno
        rw [decide_eq_true h4, Bool.true_and, decide_eq_true_eq]
        have h5 : r.take 3 = r := List.take_of_length_le (by omega)
        rw [h5, ← z, List.take_take, List.take_append_of_le_length (by omega), List.take_of_length_le (by omega)]
      · exfalso
        have := congrArg List.length z
        rw [List.length_take] at this
        omega
  have hfind : opsL.find? (fun s => pre s ((r ++ p).take 3)) = opsL.find? (fun s => pre s (r.take 3)) := by
    have hgen : ∀ l : List (List Nat), (∀ s ∈ l, pre s ((r ++ p).take 3) = pre s (r.take 3)) → l.find? (fun s => pre s ((r ++ p).take 3)) = l.find? (fun s => pre s (r.take 3)) := by
      intro l hl
      induction l with
      | nil => rfl
      | cons a l ih => rw [List.find?_cons, List.find?_cons, hl a List.mem_cons_self, ih fun s hs => hl s (List.mem_cons_of_mem _ hs)]
    exact hgen _ hpre
  have hany2 : opsL.any (fun s => decide (((r ++ p).take 3).length < s.length) && pre ((r ++ p).take 3) s) = false := by
    refine List.any_eq_false.mpr fun s hs hh => ?_
    have hno := List.any_eq_false.mp hany s hs
    apply hno
    simp only [Bool.and_eq_true, decide_eq_true_eq, pre] at hh ⊢
    obtain ⟨h6, h7⟩ := hh
    have h8 : (r.take 3).length ≤ ((r ++ p).take 3).length := by rw [List.length_take, List.length_take, List.length_append]; omega
    refine ⟨by omega, ?_⟩
    have h9 : (r.take 3).length ≤ 3 := by rw [List.length_take]; omega
    have h10 : ((r ++ p).take 3).take (r.take 3).length = r.take 3 := by
      rw [List.take_take, Nat.min_eq_left h9, List.length_take, List.take_append_of_le_length (by omega)]
      rw [List.take_eq_take_iff]
      omega
    rw [← h7, List.take_take, Nat.min_eq_left h8] at h10
    exact h10
  rw [hfind, hany, hany2]
  simp
namespace Sc
theorem partGo_short {q : List Nat} {isS : Bool} : ∀ (l : List Nat) (n : Nat), (∀ c ∈ l, c = 39 ∨ c = 34) → l.length < q.length → partGo q isS false l n = -1
  | [], _, _, _ => rfl
  | c :: r, n, h, hl => by
    have hc := h c List.mem_cons_self
    have hne : (c :: r).take q.length ≠ q := fun z => by
      have := congrArg List.length z
      rw [List.length_take] at this
      simp only [List.length_cons] at hl this
      omega
    rw [partGo_cons', if_neg (by omega), if_neg (by omega), if_neg hne, if_neg (by omega), if_neg (by omega), if_neg (by omega), if_neg (by omega)]
    exact partGo_short r _ (fun x hx => h x (List.mem_cons_of_mem _ hx)) (by simp only [List.length_cons] at hl; omega)
theorem partGo_ext {q : List Nat} {isS : Bool} (hq : Qu q) : ∀ (k : Nat) (r : List Nat) (n : Nat), r.length = k → partGo q isS false r n ≠ -1 → partGo q isS f (r ++ p) n = partGo q isS false r n := by
  intro k
  induction k using Nat.strongRecOn with
  | ind k ih =>
    intro r n hk h
    cases r with
    | nil => exact absurd rfl h
    | cons c r =>
      simp only [List.length_cons] at hk
      rw [partGo_cons'] at h ⊢
      rw [List.cons_append, partGo_cons']
      by_cases h0 : c = 92 ∧ r = [] ∧ false = false
      · rw [if_pos h0] at h; exact absurd rfl h
      · rw [if_neg h0] at h ⊢
        have h0' : ¬ (c = 92 ∧ r ++ p = [] ∧ f = false) := fun z => h0 ⟨z.1, (List.append_eq_nil_iff.mp z.2.1).1, rfl⟩
        rw [if_neg h0']
        by_cases h1 : c = 92
        · rw [if_pos h1] at h ⊢
          rw [if_pos h1]
          have hd : r ≠ [] := fun z => h0 ⟨h1, z, rfl⟩
          have e : (r ++ p).drop 1 = r.drop 1 ++ p := by cases r with | nil => exact absurd rfl hd | cons a r => rfl
          have e2 : (r ++ p).head? = r.head? := by cases r with | nil => exact absurd rfl hd | cons a r => rfl
          rw [e, e2]
          by_cases h3 : r.head? = some 123 ∨ r.head? = some 125
          · rw [if_pos h3] at h ⊢
            rw [if_pos h3]
            exact ih _ (by omega) _ _ rfl h
          · rw [if_neg h3] at h ⊢
            rw [if_neg h3]
            exact ih _ (by rw [List.length_drop]; omega) _ _ rfl h
        · rw [if_neg h1] at h ⊢
          rw [if_neg h1]
          by_cases h2 : (c :: r).take q.length = q
          · rw [if_pos h2]
            have hle : q.length ≤ (c :: r).length := by
              have := congrArg List.length h2
              rw [List.length_take] at this
              omega
            rw [← List.cons_append, List.take_append_of_le_length hle, if_pos h2]
          · rw [if_neg h2] at h ⊢
            by_cases h3 : (c :: (r ++ p)).take q.length = q
            · exfalso
              obtain ⟨x, hx, hx0⟩ := take_ext (l := c :: r) h3 h2
              have hs := partGo_short (q := q) (isS := isS) (c :: r) n (qu_tail hq hx) (by
                rw [← hx, List.length_append]
                have := List.length_pos_iff.mpr hx0
                omega)
              rw [partGo_cons', if_neg h0, if_neg h1, if_neg h2] at hs
              exact h hs
            · rw [if_neg h3]
              by_cases h4 : c = 10 ∧ q.length = 1
              · rw [if_pos h4, if_pos h4]
              · rw [if_neg h4] at h ⊢
                rw [if_neg h4]
                by_cases h5 : (c = 123 ∨ c = 125) ∧ isS = true ∧ r.head? = some c
                · rw [if_pos h5] at h ⊢
                  have hd : r ≠ [] := fun z => by rw [z] at h5; exact nomatch h5.2.2
                  have e : (r ++ p).drop 1 = r.drop 1 ++ p := by cases r with | nil => exact absurd rfl hd | cons a r => rfl
                  have e2 : (r ++ p).head? = r.head? := by cases r with | nil => exact absurd rfl hd | cons a r => rfl
                  rw [e, e2, if_pos h5]
                  exact ih _ (by rw [List.length_drop]; omega) _ _ rfl h
                · rw [if_neg h5] at h ⊢
                  by_cases h6 : (c = 123 ∨ c = 125) ∧ isS = true ∧ r = [] ∧ false = false
                  · rw [if_pos h6] at h; exact absurd rfl h
                  · rw [if_neg h6] at h ⊢
                    have h5' : ¬ ((c = 123 ∨ c = 125) ∧ isS = true ∧ (r ++ p).head? = some c) := by
                      rintro ⟨z1, z2, z3⟩
                      cases r with
                      | nil => exact h6 ⟨z1, z2, rfl, rfl⟩
                      | cons a r => exact h5 ⟨z1, z2, z3⟩
                    have h6' : ¬ ((c = 123 ∨ c = 125) ∧ isS = true ∧ r ++ p = [] ∧ f = false) := fun z => h6 ⟨z.1, z.2.1, (List.append_eq_nil_iff.mp z.2.2.1).1, rfl⟩
                    rw [if_neg h5', if_neg h6']
                    by_cases h7 : c = 123 ∨ c = 125
                    · rw [if_pos h7, if_pos h7]
                    · rw [if_neg h7] at h ⊢
                      rw [if_neg h7]
                      exact ih _ (by omega) _ _ rfl h
end Sc
end
namespace Sc
/-- the same state, with more text, or told that the text is at its end -/
def ext (p : List Nat) (f : Bool) (s : Sc) : Sc := { s with text := s.text ++ p, fin := f }
def ext2 (p : List Nat) (f : Bool) (r : Sc × Bool) : Sc × Bool := (ext p f r.1, r.2)
theorem ext2_ite {p : List Nat} {f : Bool} {c : Prop} [Decidable c] {a b : Sc × Bool} : ext2 p f (if c then a else b) = if c then ext2 p f a else ext2 p f b := by split <;> rfl
/-- the frames' quotes -/
def FrQ (fr : List Frm) : Prop := ∀ f ∈ fr, Qu f.q
section
variable {p : List Nat} {f : Bool} {s : Sc} {k : Str} {e a b : Nat} {z : Int}
theorem part_ext (h : b ≤ s.text.length) (hab : a ≤ b) : (ext p f s).part a b = s.part a b := by
  show ((s.text ++ p).drop a).take (b - a) = _
  rw [ex_drop (by omega), List.take_append_of_le_length (by rw [List.length_drop]; omega)]
  rfl
theorem add_ext (h : e ≤ s.text.length) (ha : s.at_ ≤ e) : (ext p f s).add k e = ext p f (s.add k e) := by
  show Sc.mk _ _ _ _ (s.found ++ [Tk.mk k ((ext p f s).part s.at_ e) s.at_]) _ _ _ _ _ _ = _
  rw [part_ext h ha]
  rfl
theorem lex_ext (h : e ≤ s.text.length) (ha : s.at_ ≤ e) : (ext p f s).lex k e = ext p f (s.lex k e) := add_ext (s := { s with begun := true }) h ha
theorem failed_ext : (ext p f s).failed k z = ext p f (s.failed k z) := rfl
/-- r: what a step says; r': what it says with more text -/
def Ce (p : List Nat) (f : Bool) (s : Sc) (r r' : Sc × Bool) : Prop := r = (s, false) ∨ r' = ext2 p f r
theorem readJoin_ce (h : s.at_ < s.text.length) (hf : s.fin = false) : Ce p f s s.readJoin (ext p f s).readJoin := by
  unfold readJoin
  by_cases h1 : s.at_ + 1 = s.text.length ∧ s.fin = false ∧ (s.begun = true ∨ s.fr ≠ [])
  · exact Or.inl (if_pos h1)
  · right
    rw [if_neg h1, ext2_ite]
    by_cases hc : s.begun = false ∧ s.fr = []
    · have h1' : ¬ ((ext p f s).at_ + 1 = (ext p f s).text.length ∧ (ext p f s).fin = false ∧ ((ext p f s).begun = true ∨ (ext p f s).fr ≠ [])) := by
        rintro ⟨_, _, z | z⟩
        · exact absurd (hc.1.symm.trans z) (by decide)
        · exact z hc.2
      rw [if_neg h1', if_pos (show _ ∨ ((ext p f s).begun = false ∧ (ext p f s).fr = []) from Or.inr hc), if_pos (Or.inr hc)]
      rfl
    · have h2 : s.at_ + 1 ≠ s.text.length := fun z => by
        refine h1 ⟨z, hf, ?_⟩
        by_cases hb : s.begun = true
        · exact Or.inl hb
        · exact Or.inr fun z => hc ⟨by simpa using hb, z⟩
      have h1' : ¬ ((ext p f s).at_ + 1 = (ext p f s).text.length ∧ (ext p f s).fin = false ∧ ((ext p f s).begun = true ∨ (ext p f s).fr ≠ [])) := by
        rintro ⟨z, _⟩
        have : (s.text ++ p).length = s.text.length + p.length := List.length_append
        have z' : s.at_ + 1 = (s.text ++ p).length := z
        omega
      rw [if_neg h1']
      have h3 : ((s.text ++ p).drop (s.at_ + 1)).take 1 = (s.text.drop (s.at_ + 1)).take 1 := by
        rw [ex_drop (by omega), List.take_append_of_le_length (by rw [List.length_drop]; omega)]
      show (if ((s.text ++ p).drop (s.at_ + 1)).take 1 ≠ [10] ∨ (s.begun = false ∧ s.fr = []) then _ else _) = _
      rw [h3]
      rfl
theorem commentEnd_ce (ha : a ≤ s.text.length) (hf : s.fin = false) : s.commentEnd a = none ∨ ((ext p f s).commentEnd a = s.commentEnd a ∧ ∃ e, s.commentEnd a = some e ∧ e < s.text.length ∧ a ≤ e) := by
  unfold commentEnd
  by_cases h : runEnd notLf s.text a < s.text.length
  · right
    rw [if_pos h]
    show (if runEnd notLf (s.text ++ p) a < (s.text ++ p).length then some (runEnd notLf (s.text ++ p) a) else _) = _ ∧ _
    rw [runEnd_ext ha h, List.length_append, if_pos (by omega)]
    exact ⟨rfl, _, rfl, h, runEnd_ge⟩
  · left
    rw [if_neg h, hf]
    rfl
theorem readComment_ce (h : Ok s) (hf : s.fin = false) : Ce p f s s.readComment (ext p f s).readComment := by
  unfold readComment
  rcases commentEnd_ce (p := p) (f := f) h.ha hf with z | ⟨z, e, z2, z3, z4⟩
  · rw [z]; exact Or.inl rfl
  · right
    show (match (ext p f s).commentEnd s.at_ with | none => _ | some e => _) = _
    rw [z, z2]
    show ((ext p f s).add "COMMENT" e, true) = _
    rw [add_ext (Nat.le_of_lt z3) z4]
    rfl
theorem readLineFeed_ext (h : s.at_ < s.text.length) : (ext p f s).readLineFeed = ext p f s.readLineFeed := by
  unfold readLineFeed
  show (match s.fr with | _ :: _ => (ext p f s).add "NL" (s.at_ + 1) | [] => { (ext p f s).add "NEWLINE" (s.at_ + 1) with fresh := true, begun := false }) = _
  rw [add_ext (e := s.at_ + 1) h (by omega), add_ext (e := s.at_ + 1) h (by omega)]
  cases s.fr <;> rfl
theorem readEmptyLine_ce (h1 : s.at_ ≤ a) (ha : a ≤ s.text.length) (hf : s.fin = false) : Ce p f s (s.readEmptyLine a) ((ext p f s).readEmptyLine a) := by
  unfold readEmptyLine
  rcases commentEnd_ce (p := p) (f := f) ha hf with z | ⟨z, e, z2, z3, z4⟩
  · rw [z]; exact Or.inl rfl
  · right
    rw [z, z2]
    show ((if a < e then (ext p f { s with at_ := a }).add "COMMENT" e else ext p f { s with at_ := a }).add "NL" (min (e + 1) (s.text ++ p).length), true) = ((if a < e then ({ s with at_ := a } : Sc).add "COMMENT" e else { s with at_ := a }).add "NL" (min (e + 1) s.text.length) |> ext p f, true)
    rw [List.length_append, Nat.min_eq_left (by omega), Nat.min_eq_left (by omega)]
    congr 1
    by_cases hae : a < e
    · rw [if_pos hae, if_pos hae, add_ext (s := { s with at_ := a }) (Nat.le_of_lt z3) z4]
      exact add_ext (s := ({ s with at_ := a } : Sc).add "COMMENT" e) z3 (Nat.le_succ e)
    · rw [if_neg hae, if_neg hae]
      exact add_ext (s := { s with at_ := a }) z3 (by show a ≤ e + 1; omega)
theorem popLv_ext {w : Nat} : ∀ (l : List (Nat × Nat)) (s : Sc), e ≤ s.text.length → s.at_ = e → popLv w e l (ext p f s) = ext p f (popLv w e l s)
  | [], _, _, _ => rfl
  | q :: r, s, h1, h2 => by
    rw [popLv, popLv]
    by_cases h : w < q.1
    · rw [if_pos h, if_pos h]
      show popLv w e r (add (ext p f { s with lv := r }) "DEDENT" e) = _
      rw [add_ext (s := { s with lv := r }) h1 (by show s.at_ ≤ e; omega)]
      exact popLv_ext r _ h1 rfl
    · rw [if_neg h, if_neg h]; rfl
theorem compare_ext {g : List Nat} (h1 : e ≤ s.text.length) (h2 : s.at_ ≤ e) : (ext p f s).compare g e = ext2 p f (s.compare g e) := by
  unfold compare
  show (if (s.lv.headD (0, 0)).1 < widthOf g ∧ (s.lv.headD (0, 0)).2 < g.length then (if 12 < s.lv.length then _ else (({ add (ext p f { s with lv := (widthOf g, g.length) :: s.lv }) "INDENT" e with at_ := e, fresh := false } : Sc), true)) else if widthOf g < (s.lv.headD (0, 0)).1 then (if widthOf g ∉ s.lv.map (·.1) then _ else if (widthOf g, g.length) ∉ s.lv then _ else (({ popLv (widthOf g) e s.lv (ext p f { s with at_ := e }) with at_ := e, fresh := false } : Sc), true)) else if (widthOf g, g.length) ≠ s.lv.headD (0, 0) then _ else _) = _
  rw [add_ext (s := { s with lv := (widthOf g, g.length) :: s.lv }) h1 h2, popLv_ext (s := { s with at_ := e }) _ h1 rfl]
  simp only [ext2_ite]
  rfl
theorem readIndentation_ce (h : Ok s) (hf : s.fin = false) : Ce p f s s.readIndentation (ext p f s).readIndentation := by
  unfold readIndentation
  dsimp only
  cases hc : s.text[runEnd isG s.text s.at_]? with
  | none => left; show (if s.fin then _ else _) = _; rw [hf]; rfl
  | some c =>
    have hlt := (List.getElem?_eq_some_iff.mp hc).1
    show Ce p f s _ (match (s.text ++ p)[runEnd isG (s.text ++ p) s.at_]? with | none => _ | some c => if c = 35 ∨ c = 10 then (ext p f s).readEmptyLine (runEnd isG (s.text ++ p) s.at_) else (ext p f s).compare ((ext p f s).part s.at_ (runEnd isG (s.text ++ p) s.at_)) (runEnd isG (s.text ++ p) s.at_))
    rw [runEnd_ext h.ha hlt, ex_get hlt, hc]
    show Ce p f s (if c = 35 ∨ c = 10 then _ else _) (if c = 35 ∨ c = 10 then _ else _)
    by_cases hc2 : c = 35 ∨ c = 10
    · rw [if_pos hc2, if_pos hc2]
      exact readEmptyLine_ce runEnd_ge (Nat.le_of_lt hlt) hf
    · rw [if_neg hc2, if_neg hc2]
      right
      rw [part_ext (Nat.le_of_lt hlt) runEnd_ge, compare_ext (Nat.le_of_lt hlt) runEnd_ge]
theorem readString_ce {c : Nat} (h : Ok s) (hf : s.fin = false) (h1 : s.at_ ≤ a) (hc : s.text[a]? = some c) (hq : isQ c = true) : Ce p f s (s.readString a) ((ext p f s).readString a) := by
  unfold readString
  dsimp only
  rw [hf]
  by_cases h0 : quoteAt s.text a false = []
  · left; rw [if_pos h0]
  · rw [if_neg h0]
    show Ce p f s _ (if quoteAt (s.text ++ p) a f = [] then _ else if stringEnd (s.text ++ p) (a + (quoteAt (s.text ++ p) a f).length) (quoteAt (s.text ++ p) a f) f = -2 then ((ext p f s).failed (if (quoteAt (s.text ++ p) a f).length = 1 then "string" else "triple") (s.at_ : Int), false) else if stringEnd (s.text ++ p) (a + (quoteAt (s.text ++ p) a f).length) (quoteAt (s.text ++ p) a f) f = -1 then _ else ((ext p f s).lex "STRING" (stringEnd (s.text ++ p) (a + (quoteAt (s.text ++ p) a f).length) (quoteAt (s.text ++ p) a f) f).toNat, true))
    rw [quoteAt_ext h0, if_neg h0]
    obtain ⟨q1, q2⟩ := quoteAt_ne h0
    have hqu := quoteAt_qu hc hq (f := false)
    generalize quoteAt s.text a false = q at h0 q1 q2 hqu ⊢
    by_cases h3 : stringEnd s.text (a + q.length) q false = -1
    · left
      rw [h3]
      rfl
    · right
      rw [stringEnd_ext hqu q1 h3, if_neg h3, if_neg h3, ext2_ite]
      by_cases h2 : stringEnd s.text (a + q.length) q false = -2
      · rw [if_pos h2, if_pos h2]; rfl
      · rw [if_neg h2, if_neg h2]
        obtain ⟨z1, z2⟩ := neg_cases (stringEnd_le (l := s.text) (fin := false) h0 _ (a + q.length) rfl) h2 h3 (stringEnd_neg _ _ rfl)
        rw [lex_ext z2 (by omega)]
        rfl
theorem beginString_ce {c : Nat} (h : Ok s) (hf : s.fin = false) (h1 : s.at_ ≤ a) (hc : s.text[a]? = some c) (hq : isQ c = true) : Ce p f s (s.beginString a) ((ext p f s).beginString a) := by
  unfold beginString
  dsimp only
  rw [hf]
  show Ce p f s _ (if (s.fr.filter fun f => f.mark.isStr).length = 4 then ((ext p f s).failed "deep" (s.at_ : Int), false) else if quoteAt (s.text ++ p) a f = [] then _ else (lex (ext p f { s with fr := ⟨.str, s.at_, quoteAt (s.text ++ p) a f⟩ :: s.fr }) "FSTRING_START" (a + (quoteAt (s.text ++ p) a f).length), true))
  by_cases h2 : (s.fr.filter fun f => f.mark.isStr).length = 4
  · right; rw [if_pos h2, if_pos h2]; rfl
  · rw [if_neg h2, if_neg h2]
    by_cases h0 : quoteAt s.text a false = []
    · left; rw [if_pos h0]
    · right
      rw [quoteAt_ext h0, if_neg h0, if_neg h0]
      obtain ⟨q1, q2⟩ := quoteAt_ne h0
      rw [lex_ext (s := { s with fr := ⟨.str, s.at_, quoteAt s.text a false⟩ :: s.fr }) q1 (by show s.at_ ≤ _; omega), ← hf]
      rfl
theorem readWord_ce (h : Ok s) (hf : s.fin = false) : Ce p f s s.readWord (ext p f s).readWord := by
  unfold readWord
  dsimp only
  rw [hf]
  have hle := runEnd_le (p := isW) h.ha
  by_cases h0 : nameEnd s.text s.at_ = s.text.length ∧ false = false
  · left; rw [if_pos h0]
  · rw [if_neg h0]
    have hlt : runEnd isW s.text s.at_ < s.text.length := by
      have : runEnd isW s.text s.at_ ≠ s.text.length := fun z => h0 ⟨z, rfl⟩
      omega
    have hget := List.getElem?_eq_getElem hlt
    show Ce p f s _ (if runEnd isW (s.text ++ p) s.at_ = (s.text ++ p).length ∧ f = false then _ else match (s.text ++ p)[runEnd isW (s.text ++ p) s.at_]? with
      | some c => if isQ c = true ∧ ((ext p f s).part s.at_ (runEnd isW (s.text ++ p) s.at_)).map lo1 ∈ pfP then (ext p f s).readString (runEnd isW (s.text ++ p) s.at_) else if isQ c = true ∧ ((ext p f s).part s.at_ (runEnd isW (s.text ++ p) s.at_)).map lo1 ∈ pfF then (ext p f s).beginString (runEnd isW (s.text ++ p) s.at_) else ((ext p f s).lex "NAME" (runEnd isW (s.text ++ p) s.at_), true)
      | none => ((ext p f s).lex "NAME" (runEnd isW (s.text ++ p) s.at_), true))
    rw [runEnd_ext h.ha hlt, if_neg (by rw [List.length_append]; omega), ex_get hlt, part_ext (Nat.le_of_lt hlt) runEnd_ge, lex_ext (Nat.le_of_lt hlt) runEnd_ge]
    show Ce p f s (match s.text[runEnd isW s.text s.at_]? with
      | some c => if isQ c = true ∧ (s.part s.at_ (runEnd isW s.text s.at_)).map lo1 ∈ pfP then s.readString (runEnd isW s.text s.at_) else if isQ c = true ∧ (s.part s.at_ (runEnd isW s.text s.at_)).map lo1 ∈ pfF then s.beginString (runEnd isW s.text s.at_) else (s.lex "NAME" (runEnd isW s.text s.at_), true)
      | none => (s.lex "NAME" (runEnd isW s.text s.at_), true)) _
    generalize hg : s.text[runEnd isW s.text s.at_]? = x
    rw [hg] at hget
    cases x with
    | none => exact nomatch hget
    | some c =>
      dsimp only
      by_cases h1 : isQ c = true ∧ (s.part s.at_ (runEnd isW s.text s.at_)).map lo1 ∈ pfP
      · rw [if_pos h1, if_pos h1]
        exact readString_ce h hf runEnd_ge hg h1.1
      · rw [if_neg h1, if_neg h1]
        by_cases h2 : isQ c = true ∧ (s.part s.at_ (runEnd isW s.text s.at_)).map lo1 ∈ pfF
        · rw [if_pos h2, if_pos h2]
          exact beginString_ce h hf runEnd_ge hg h2.1
        · rw [if_neg h2, if_neg h2]
          exact Or.inr rfl
theorem openBracket_ext {m : Mark} {q : List Nat} (h : s.at_ < s.text.length) : (ext p f s).openBracket m q = ext2 p f (s.openBracket m q) := by
  unfold openBracket
  show (if (s.fr.filter _).length = 20 then _ else (lex (ext p f { s with fr := ⟨m, s.at_, q⟩ :: s.fr }) "OP" (s.at_ + 1), true)) = _
  rw [lex_ext (e := s.at_ + 1) (s := { s with fr := ⟨m, s.at_, q⟩ :: s.fr }) h (by show s.at_ ≤ s.at_ + 1; omega), ext2_ite]
  rfl
theorem rest_ce {c : Nat} {own : Bool} (h : s.at_ < s.text.length) (hf : s.fin = false) : Ce p f s (readOperator.rest s c own) (readOperator.rest (ext p f s) c own) := by
  unfold readOperator.rest
  dsimp only
  rw [hf]
  by_cases h0 : opEnd s.text s.at_ false = -1
  · left; rw [if_pos h0]
  · right
    show (if opEnd (s.text ++ p) s.at_ f = -1 then (ext p f s, false) else
      if (if opEnd (s.text ++ p) s.at_ f = -2 ∧ own = true ∧ c = 33 then (s.at_ + 1 : Int) else opEnd (s.text ++ p) s.at_ f) = -2 then ((ext p f s).failed "character" (s.at_ : Int), false)
      else match opener c with
        | some m => (ext p f s).openBracket m []
        | none => if isCloser c = true then
            match s.fr with
            | [] => ((ext p f s).failed "bracket" (s.at_ : Int), false)
            | g :: fs => if g.mark.closer = some c then (lex (ext p f { s with fr := fs }) "OP" (if opEnd (s.text ++ p) s.at_ f = -2 ∧ own = true ∧ c = 33 then (s.at_ + 1 : Int) else opEnd (s.text ++ p) s.at_ f).toNat, true) else ((ext p f s).failed "bracket" (s.at_ : Int), false)
          else ((ext p f s).lex "OP" (if opEnd (s.text ++ p) s.at_ f = -2 ∧ own = true ∧ c = 33 then (s.at_ + 1 : Int) else opEnd (s.text ++ p) s.at_ f).toNat, true)) = _
    rw [opEnd_ext (Nat.le_of_lt h) h0, if_neg h0, if_neg h0]
    generalize hk : (if opEnd s.text s.at_ false = -2 ∧ own = true ∧ c = 33 then (s.at_ + 1 : Int) else opEnd s.text s.at_ false) = k
    rw [ext2_ite]
    by_cases h2 : k = -2
    · rw [if_pos h2, if_pos h2]; rfl
    · rw [if_neg h2, if_neg h2]
      have h3 : s.at_ ≤ k.toNat ∧ k.toNat ≤ s.text.length := by
        split at hk
        · omega
        · rcases opEnd_le (fin := false) (Nat.le_of_lt h) with z | ⟨e, z1, z2, z3⟩
          · rcases opEnd_neg z with z | z <;> omega
          · omega
      cases opener c with
      | some m => exact openBracket_ext h
      | none =>
        dsimp only
        rw [ext2_ite]
        congr 1
        · cases s.fr with
          | nil => rfl
          | cons g fs =>
            show (if g.mark.closer = some c then _ else _) = ext2 p f (if g.mark.closer = some c then _ else _)
            rw [lex_ext (s := { s with fr := fs }) h3.2 h3.1, ext2_ite]
            rfl
        · rw [lex_ext h3.2 h3.1]; rfl
theorem readOperator_ce {c : Nat} (h : s.at_ < s.text.length) (hf : s.fin = false) : Ce p f s (s.readOperator c) ((ext p f s).readOperator c) := by
  unfold readOperator
  show Ce p f s _ (match s.topFld with | some g => if c = 58 then (lex (ext p f { s with fr := ⟨.fmt, g.at_, g.q⟩ :: s.fr }) "OP" (s.at_ + 1), true) else _ | none => _)
  cases s.topFld with
  | none => exact rest_ce h hf
  | some g =>
    dsimp only
    by_cases hc : c = 58
    · right
      rw [if_pos hc, if_pos hc, lex_ext (e := s.at_ + 1) (s := { s with fr := ⟨.fmt, g.at_, g.q⟩ :: s.fr }) h (by show s.at_ ≤ s.at_ + 1; omega)]
      rfl
    · rw [if_neg hc, if_neg hc]
      exact rest_ce h hf
theorem point_more (hc : s.text[s.at_]? = some 46) (hl : s.at_ + 1 = s.text.length) (hf : s.fin = false) : s.readOperator 46 = (s, false) := by
  have hd : s.text.drop s.at_ = [46] := by rw [drop_at hc, hl, List.drop_length]
  have h1 : opEnd s.text s.at_ s.fin = -1 := by
    unfold opEnd
    rw [hd, hf, if_pos (by decide +kernel)]
  have h2 : ∀ own, readOperator.rest s 46 own = (s, false) := fun own => by
    unfold readOperator.rest
    dsimp only
    rw [h1]
    rfl
  unfold readOperator
  cases s.topFld with
  | none => exact h2 _
  | some g => dsimp only; rw [if_neg (by decide)]; exact h2 _
theorem readLexeme_ce {c : Nat} (h : Ok s) (hc : s.text[s.at_]? = some c) (hf : s.fin = false) : Ce p f s (s.readLexeme c) ((ext p f s).readLexeme c) := by
  have hlt := (List.getElem?_eq_some_iff.mp hc).1
  by_cases hp : c = 46 ∧ s.at_ + 1 = s.text.length
  · obtain ⟨rfl, hl⟩ := hp
    left
    unfold readLexeme
    have h1 : (46 : Nat) ∉ kLET := by decide +kernel
    have h2 : ¬ isQ 46 = true := by decide +kernel
    have h3 : ¬ ((46 : Nat) ∈ kDIG ∨ ((46 : Nat) = 46 ∧ ∃ d, s.text[s.at_ + 1]? = some d ∧ d ∈ kDIG)) := by
      rintro (z | ⟨_, d, z, _⟩)
      · exact absurd z (by decide +kernel)
      · rw [hl, List.getElem?_eq_none_iff.mpr (Nat.le_refl _)] at z
        exact nomatch z
    rw [if_neg h1, if_neg h2, if_neg h3]
    exact point_more hc hl hf
  · unfold readLexeme
    by_cases h1 : c ∈ kLET
    · rw [if_pos h1, if_pos h1]; exact readWord_ce h hf
    · rw [if_neg h1, if_neg h1]
      by_cases h2 : isQ c = true
      · rw [if_pos h2, if_pos h2]; exact readString_ce h hf (Nat.le_refl _) hc h2
      · rw [if_neg h2, if_neg h2]
        have hd : (c ∈ kDIG ∨ (c = 46 ∧ ∃ d, (ext p f s).text[(ext p f s).at_ + 1]? = some d ∧ d ∈ kDIG)) ↔ (c ∈ kDIG ∨ (c = 46 ∧ ∃ d, s.text[s.at_ + 1]? = some d ∧ d ∈ kDIG)) := by
          by_cases h46 : c = 46
          · have : s.at_ + 1 < s.text.length := by
              have : s.at_ + 1 ≠ s.text.length := fun z => hp ⟨h46, z⟩
              omega
            show (c ∈ kDIG ∨ (c = 46 ∧ ∃ d, (s.text ++ p)[s.at_ + 1]? = some d ∧ d ∈ kDIG)) ↔ _
            rw [ex_get this]
          · simp only [h46, false_and]
        simp only [hd]
        by_cases h3 : c ∈ kDIG ∨ (c = 46 ∧ ∃ d, s.text[s.at_ + 1]? = some d ∧ d ∈ kDIG)
        · rw [if_pos h3, if_pos h3]
          show Ce p f s (if numberEnd s.text s.at_ s.fin = -2 then (s.failed "number" (s.at_ : Int), false) else if numberEnd s.text s.at_ s.fin = -1 then (s, false) else (s.lex "NUMBER" (numberEnd s.text s.at_ s.fin).toNat, true)) (if numberEnd (s.text ++ p) s.at_ f = -2 then ((ext p f s).failed "number" (s.at_ : Int), false) else if numberEnd (s.text ++ p) s.at_ f = -1 then _ else ((ext p f s).lex "NUMBER" (numberEnd (s.text ++ p) s.at_ f).toNat, true))
          rw [hf]
          by_cases h5 : numberEnd s.text s.at_ false = -1
          · left; rw [h5]; rfl
          · right
            rw [numberEnd_ext h.ha h5, if_neg h5, if_neg h5, ext2_ite]
            by_cases h4 : numberEnd s.text s.at_ false = -2
            · rw [if_pos h4, if_pos h4]; rfl
            · rw [if_neg h4, if_neg h4]
              rcases numberEnd_le (fin := false) h.ha with z | ⟨e, z1, z2, z3, _⟩
              · rcases numberEnd_neg z with z | z <;> exact absurd z (by assumption)
              · rw [lex_ext (by omega) (by omega)]; rfl
        · rw [if_neg h3, if_neg h3]
          exact readOperator_ce hlt hf
theorem partEnd_ce {g : Frm} (h : Ok s) (hq : Qu g.q) (hf : s.fin = false) (h1 : s.partEnd g ≠ -1) : (ext p f s).partEnd g = s.partEnd g := by
  show partGo g.q g.mark.isStr f ((s.text ++ p).drop s.at_) s.at_ = partGo g.q g.mark.isStr s.fin (s.text.drop s.at_) s.at_
  have h1' : partGo g.q g.mark.isStr s.fin (s.text.drop s.at_) s.at_ ≠ -1 := h1
  rw [hf] at h1' ⊢
  rw [ex_drop h.ha]
  exact partGo_ext hq _ _ _ rfl h1'
theorem addPart_ext (h : e ≤ s.text.length) : (ext p f s).addPart e = ext p f (s.addPart e) := by
  unfold addPart
  show (if s.at_ < e then _ else _) = _
  by_cases h1 : s.at_ < e
  · rw [if_pos h1, if_pos h1, add_ext h (Nat.le_of_lt h1)]
  · rw [if_neg h1, if_neg h1]
theorem endFormat_ext {g : Frm} (h : s.at_ < s.text.length) : (ext p f s).endFormat g = ext2 p f (s.endFormat g) := by
  unfold endFormat
  show (if g.mark = .str then _ else (add (ext p f { s with fr := s.fr.drop 2 }) "OP" (s.at_ + 1), true)) = _
  rw [add_ext (e := s.at_ + 1) (s := { s with fr := s.fr.drop 2 }) h (by show s.at_ ≤ s.at_ + 1; omega), ext2_ite]
  rfl
theorem ext2_m (x : Option Nat) (A B C : Sc × Bool) : (match x with | some 123 => ext2 p f A | some 125 => ext2 p f B | _ => ext2 p f C) = ext2 p f (match x with | some 123 => A | some 125 => B | _ => C) := by
  split
  · rfl
  · rfl
  · rfl
theorem readPart_ce {g : Frm} {fs : List Frm} (h : Ok s) (ho : s.over = false) (hf : s.fin = false) (hq : Qu g.q) (hfr : s.fr = g :: fs) (hm : g.mark = .str ∨ g.mark = .fmt) : Ce p f s (s.readPart g) ((ext p f s).readPart g) := by
  by_cases h1 : s.partEnd g = -1
  · left
    unfold readPart
    rw [h1]
    rfl
  · right
    have hok := (readPart_ok h ho hfr hm).1.ha
    unfold readPart at hok ⊢
    dsimp only at hok ⊢
    rw [partEnd_ce h hq hf h1, if_neg h1, if_neg h1, ext2_ite]
    rw [if_neg h1] at hok
    by_cases h2 : s.partEnd g = -2
    · rw [if_pos h2, if_pos h2]; rfl
    · rw [if_neg h2] at hok
      rw [if_neg h2, if_neg h2]
      obtain ⟨e, he, h3, h4⟩ := (partEnd_le (f := g) h).resolve_left (fun z => z.elim h2 h1)
      obtain ⟨y1, y2, y3, y4, y5, y6⟩ := addPart_eq h ho h3 (Nat.le_of_lt h4)
      rw [he, Int.toNat_natCast] at hok ⊢
      show (match (s.text ++ p)[e]? with
        | some 123 => ((ext p f s).addPart e).openBracket .fld g.q
        | some 125 => ((ext p f s).addPart e).endFormat g
        | _ => if g.mark = Mark.fmt then (((ext p f s).addPart e).failed "open" g.at_, false) else (add { (ext p f s).addPart e with fr := ((ext p f s).addPart e).fr.drop 1 } "FSTRING_END" (e + g.q.length), true)) = _
      rw [ex_get h4, addPart_ext (Nat.le_of_lt h4), openBracket_ext (by rw [y3, y4]; exact h4), endFormat_ext (by rw [y3, y4]; exact h4)]
      generalize s.text[e]? = x at hok ⊢
      refine Eq.trans ?_ (ext2_m x _ _ _)
      split
      · rfl
      · rfl
      · rename_i n1 n2
        rw [ext2_ite]
        by_cases h5 : g.mark = .fmt
        · rw [if_pos h5, if_pos h5]; rfl
        · rw [if_neg h5, if_neg h5]
          have hle : e + g.q.length ≤ s.text.length := by
            split at hok
            · exact absurd rfl n1
            · exact absurd rfl n2
            · rw [if_neg h5] at hok
              rw [← y3]
              exact hok
          have := add_ext (p := p) (f := f) (k := "FSTRING_END") (e := e + g.q.length) (s := { s.addPart e with fr := (s.addPart e).fr.drop 1 }) (by show _ ≤ (s.addPart e).text.length; rw [y3]; exact hle) (by show (s.addPart e).at_ ≤ _; rw [y4]; omega)
          exact congrArg (·, true) this
theorem skip_more (h : Ok s) : (ext p f s.skip).skip = (ext p f s).skip := by
  have h1 := runEnd_twice (q := isG) (p := p) h.ha
  have hge := runEnd_ge (p := isG) (l := s.text) (j := s.at_)
  have hle := runEnd_le (p := isG) h.ha
  unfold skip
  by_cases h2 : s.at_ < runEnd isG s.text s.at_
  · rw [if_pos h2]
    have h3 : s.at_ < runEnd isG (s.text ++ p) s.at_ := by
      rw [← h1]
      have := runEnd_ge (p := isG) (l := s.text ++ p) (j := runEnd isG s.text s.at_)
      omega
    show (if runEnd isG s.text s.at_ < runEnd isG (s.text ++ p) (runEnd isG s.text s.at_) then _ else _) = (if s.at_ < runEnd isG (s.text ++ p) s.at_ then _ else _)
    rw [if_pos h3, h1]
    split
    · show Sc.mk _ (runEnd isG (s.text ++ p) (runEnd isG s.text s.at_)) _ _ _ _ _ _ _ _ _ = Sc.mk _ (runEnd isG (s.text ++ p) s.at_) _ _ _ _ _ _ _ _ _
      rw [h1]
      rfl
    · rename_i h4
      have h5 : runEnd isG s.text s.at_ = runEnd isG (s.text ++ p) s.at_ := by
        have := runEnd_ge (p := isG) (l := s.text ++ p) (j := runEnd isG s.text s.at_)
        omega
      show Sc.mk _ (runEnd isG s.text s.at_) _ _ _ _ _ _ _ _ _ = Sc.mk _ (runEnd isG (s.text ++ p) s.at_) _ _ _ _ _ _ _ _ _
      rw [h5]
      rfl
  · rw [if_neg h2]
theorem skip_ext (h : Ok s) (hl : runEnd isG s.text s.at_ < s.text.length) : (ext p f s).skip = ext p f s.skip := by
  unfold skip
  show (if s.at_ < runEnd isG (s.text ++ p) s.at_ then { ext p f s with at_ := runEnd isG (s.text ++ p) s.at_, join := -1 } else _) = _
  rw [runEnd_ext h.ha hl]
  split <;> rfl
theorem readOn1_ce (h : Ok s) (hf : s.fin = false) : Ce p f s s.readOn1 (ext p f s).readOn1 := by
  unfold readOn1
  cases hc : s.text[s.at_]? with
  | none => left; dsimp only; rw [hf]; rfl
  | some c =>
    have hlt := (List.getElem?_eq_some_iff.mp hc).1
    show Ce p f s _ (match (s.text ++ p)[s.at_]? with | none => _ | some c => _)
    rw [ex_get hlt, hc]
    dsimp only
    by_cases h1 : c = 92
    · rw [if_pos h1, if_pos h1]; exact readJoin_ce hlt hf
    · rw [if_neg h1, if_neg h1]
      by_cases h2 : c = 35
      · rw [if_pos h2, if_pos h2]; exact readComment_ce h hf
      · rw [if_neg h2, if_neg h2]
        by_cases h3 : c = 10
        · rw [if_pos h3, if_pos h3]; right; rw [readLineFeed_ext hlt]; rfl
        · rw [if_neg h3, if_neg h3]; exact readLexeme_ce h hc hf
theorem step_ce (h : Ok s) (ho : s.over = false) (hf : s.fin = false) (hq : FrQ s.fr) :
    (∃ s1, step s = (s1, false) ∧ s1.over = false ∧ step (ext p f s1) = step (ext p f s)) ∨ step (ext p f s) = ext2 p f (step s) := by
  unfold step
  show (∃ s1 : Sc, _ ∧ _ ∧ (match s1.topPart with | some g => (ext p f s1).readPart g | none => if s1.fresh = true ∧ s1.fr = [] then (ext p f s1).readIndentation else readOn1 (ext p f s1).skip) = (match s.topPart with | some g => (ext p f s).readPart g | none => if s.fresh = true ∧ s.fr = [] then (ext p f s).readIndentation else readOn1 (ext p f s).skip)) ∨ (match s.topPart with | some g => (ext p f s).readPart g | none => if s.fresh = true ∧ s.fr = [] then (ext p f s).readIndentation else readOn1 (ext p f s).skip) = _
  cases ht : s.topPart with
  | some g =>
    obtain ⟨fs, h1, h2⟩ := topPart_some ht
    rcases readPart_ce (p := p) (f := f) h ho hf (hq g (by rw [h1]; exact List.mem_cons_self)) h1 h2 with z | z
    · exact Or.inl ⟨s, z, ho, by rw [ht]⟩
    · exact Or.inr z
  | none =>
    dsimp only
    by_cases hfr : s.fresh = true ∧ s.fr = []
    · rw [if_pos hfr, if_pos hfr]
      rcases readIndentation_ce (p := p) (f := f) h hf with z | z
      · exact Or.inl ⟨s, z, ho, by rw [ht, if_pos hfr]⟩
      · exact Or.inr z
    · rw [if_neg hfr, if_neg hfr]
      obtain ⟨k1, k2, k3, k4, k5, k6, k7⟩ := skip_eq h ho
      have hlast : (∃ s1, s.skip.readOn1 = (s1, false) ∧ s1 = s.skip) → (∃ s1, s.skip.readOn1 = (s1, false) ∧ s1.over = false ∧ (match s1.topPart with | some g => (ext p f s1).readPart g | none => if s1.fresh = true ∧ s1.fr = [] then (ext p f s1).readIndentation else readOn1 (ext p f s1).skip) = (ext p f s).skip.readOn1) := by
        rintro ⟨s1, z, rfl⟩
        refine ⟨_, z, k2, ?_⟩
        have ht1 : s.skip.topPart = none := by unfold topPart at ht ⊢; rw [k5]; exact ht
        rw [ht1]
        show (if s.skip.fresh = true ∧ s.skip.fr = [] then _ else _) = _
        rw [k5, k6, if_neg hfr, skip_more h]
      by_cases hl : runEnd isG s.text s.at_ < s.text.length
      · rcases readOn1_ce (p := p) (f := f) k1 (show s.skip.fin = false by unfold skip; split <;> exact hf) with z | z
        · exact Or.inl (hlast ⟨_, z, rfl⟩)
        · right; rw [skip_ext h hl]; exact z
      · left
        apply hlast
        refine ⟨s.skip, ?_, rfl⟩
        have hn : s.skip.text[s.skip.at_]? = none := List.getElem?_eq_none_iff.mpr (by rw [k3, k7]; omega)
        have hf2 : s.skip.fin = false := by unfold skip; split <;> exact hf
        unfold readOn1
        rw [hn]
        dsimp only
        rw [hf2]
        rfl
/-- what a step keeps -/
def Inv (t : List Nat) (b : Bool) (s : Sc) : Prop := s.text = t ∧ s.fin = b ∧ FrQ s.fr
section
variable {t : List Nat} {b : Bool} {q : List Nat} {m : Mark}
theorem Inv.push (h : Inv t b s) (hq : Qu q) : FrQ (⟨m, a, q⟩ :: s.fr) := fun x hx => by
  rcases List.mem_cons.mp hx with z | z
  · rw [z]; exact hq
  · exact h.2.2 x z
theorem Inv.tail {fs : List Frm} (h : FrQ fs) (n : Nat) : FrQ (fs.drop n) := fun x hx => h x (List.mem_of_mem_drop hx)
theorem iv_add (h : Inv t b s) : Inv t b (s.add k e) := h
theorem iv_lex (h : Inv t b s) : Inv t b (s.lex k e) := h
theorem iv_dedents : ∀ (r : List (Nat × Nat)) {s : Sc}, Inv t b s → Inv t b (dedents r s)
  | [], _, h => h
  | _ :: r, _, h => iv_dedents r (iv_add h)
theorem iv_pop {w : Nat} : ∀ (lv : List (Nat × Nat)) {s : Sc}, Inv t b s → Inv t b (popLv w e lv s)
  | [], _, h => h
  | p :: r, s', h => by
    rw [popLv]
    split
    · exact iv_pop r (iv_add (s := { s' with lv := r }) h)
    · exact h
theorem iv_finish (h : Inv t b s) : Inv t b s.finish := by
  unfold Sc.finish
  split
  · exact h
  · split
    · exact h
    · refine iv_add (k := "ENDMARKER") (e := 0) (iv_dedents _ ?_)
      split
      · exact iv_add h
      · exact h
theorem iv_readString {a : Nat} (h : Inv t b s) : Inv t b (s.readString a).1 := by
  unfold Sc.readString
  dsimp only
  repeat' split
  all_goals first | exact h | exact iv_lex h
theorem iv_beginString {a c : Nat} (h : Inv t b s) (hc : s.text[a]? = some c) (hq : isQ c = true) : Inv t b (s.beginString a).1 := by
  unfold Sc.beginString
  dsimp only
  split
  · exact h
  · split
    · exact h
    · exact ⟨h.1, h.2.1, h.push (quoteAt_qu hc hq)⟩
theorem iv_openBracket (h : Inv t b s) (hq : Qu q) : Inv t b (s.openBracket m q).1 := by
  unfold Sc.openBracket
  split
  · exact h
  · exact ⟨h.1, h.2.1, h.push hq⟩
theorem iv_readWord (h : Inv t b s) : Inv t b s.readWord.1 := by
  unfold Sc.readWord
  dsimp only
  split
  · exact h
  · split
    · rename_i c hc
      split
      · exact iv_readString h
      · split
        · rename_i h2
          exact iv_beginString h hc h2.1
        · exact iv_lex h
    · exact iv_lex h
theorem iv_rest {c : Nat} {own : Bool} (h : Inv t b s) : Inv t b (Sc.readOperator.rest s c own).1 := by
  unfold Sc.readOperator.rest
  dsimp only
  generalize (if opEnd s.text s.at_ s.fin = -2 ∧ own = true ∧ c = 33 then (s.at_ + 1 : Int) else opEnd s.text s.at_ s.fin) = e
  split
  · exact h
  · split
    · exact h
    · split
      · exact iv_openBracket h (Or.inl rfl)
      · split
        · split
          · exact h
          · rename_i g fs hfr
            split
            · exact ⟨h.1, h.2.1, fun x hx => h.2.2 x (by rw [hfr]; exact List.mem_cons_of_mem _ hx)⟩
            · exact h
        · exact iv_lex h
theorem iv_readOperator {c : Nat} (h : Inv t b s) : Inv t b (s.readOperator c).1 := by
  unfold Sc.readOperator
  split
  · rename_i g hg
    split
    · obtain ⟨fs, h1, _⟩ := topFld_some hg
      exact ⟨h.1, h.2.1, h.push (h.2.2 g (by rw [h1]; exact List.mem_cons_self))⟩
    · exact iv_rest h
  · exact iv_rest h
theorem iv_readLexeme {c : Nat} (h : Inv t b s) : Inv t b (s.readLexeme c).1 := by
  unfold Sc.readLexeme
  split
  · exact iv_readWord h
  · split
    · exact iv_readString h
    · split
      · dsimp only
        split
        · exact h
        · split
          · exact h
          · exact iv_lex h
      · exact iv_readOperator h
theorem iv_addPart (h : Inv t b s) : Inv t b (s.addPart e) := by
  unfold Sc.addPart
  split
  · exact iv_add h
  · exact h
theorem iv_endFormat {f : Frm} (h : Inv t b s) : Inv t b (s.endFormat f).1 := by
  unfold Sc.endFormat
  split
  · exact h
  · exact ⟨h.1, h.2.1, Inv.tail h.2.2 2⟩
theorem iv_readPart {f : Frm} (h : Inv t b s) (hq : Qu f.q) : Inv t b (s.readPart f).1 := by
  unfold Sc.readPart
  dsimp only
  split
  · exact h
  · split
    · exact h
    · have h2 := iv_addPart (e := (s.partEnd f).toNat) h
      split
      · exact iv_openBracket h2 hq
      · exact iv_endFormat h2
      · split
        · exact h2
        · exact ⟨h2.1, h2.2.1, Inv.tail h2.2.2 1⟩
theorem iv_readEmpty {a : Nat} (h : Inv t b s) : Inv t b (s.readEmptyLine a).1 := by
  unfold Sc.readEmptyLine
  split
  · exact h
  · dsimp only
    refine iv_add ?_
    split
    · exact iv_add (s := { s with at_ := a }) h
    · exact h
theorem iv_compare {g : List Nat} (h : Inv t b s) : Inv t b (s.compare g e).1 := by
  unfold Sc.compare
  dsimp only
  split
  · split
    · exact h
    · exact iv_add (s := { s with lv := _ }) (k := "INDENT") (e := e) h
  · split
    · split
      · exact h
      · split
        · exact h
        · exact iv_pop (s := { s with at_ := e }) _ h
    · split
      · exact h
      · exact h
theorem iv_indent (h : Inv t b s) : Inv t b s.readIndentation.1 := by
  unfold Sc.readIndentation
  dsimp only
  split
  · split
    · unfold Sc.readLastGap
      refine iv_finish ?_
      split
      · exact iv_add (s := { s with at_ := _ }) h
      · exact h
    · exact h
  · split
    · exact iv_readEmpty h
    · exact iv_compare h
theorem iv_readOn1 (h : Inv t b s) : Inv t b s.readOn1.1 := by
  unfold Sc.readOn1
  split
  · split
    · exact iv_finish h
    · exact h
  · split
    · unfold Sc.readJoin
      split
      · exact h
      · split
        · exact h
        · exact h
    · split
      · unfold Sc.readComment
        split
        · exact h
        · exact iv_add h
      · split
        · unfold Sc.readLineFeed
          split
          · exact iv_add h
          · exact iv_add (k := "NEWLINE") (e := 0) h
        · exact iv_readLexeme h
theorem iv_step (h : Inv t b s) : Inv t b (Sc.step s).1 := by
  unfold Sc.step
  split
  · rename_i f hf
    obtain ⟨fs, h1, _⟩ := topPart_some hf
    exact iv_readPart h (h.2.2 f (by rw [h1]; exact List.mem_cons_self))
  · split
    · exact iv_indent h
    · refine iv_readOn1 ?_
      unfold Sc.skip
      split
      · exact h
      · exact h
theorem iv_run : ∀ (n : Nat) {s : Sc}, Inv t b s → Inv t b (Sc.run n s)
  | 0, _, h => h
  | n + 1, s', h => by
    rw [Sc.run]
    split
    · exact h
    · split
      · exact iv_run n (iv_step h)
      · exact iv_step h
theorem iv_go (h : Inv t b s) : Inv t b s.go := iv_run _ h
end
/-- a step that ends says that all is over, or leaves the state as it was -/
abbrev So (s : Sc) (r : Sc × Bool) : Prop := r.2 = true ∨ r.1.over = true ∨ r.1 = s
theorem so_finish : s.finish.over = true := by
  unfold Sc.finish
  split
  · rfl
  · split <;> rfl
theorem so_readString : So s (s.readString a) := by
  unfold Sc.readString
  dsimp only
  repeat' split
  all_goals first | exact Or.inl rfl | exact Or.inr (Or.inl rfl) | exact Or.inr (Or.inr rfl)
theorem so_beginString : So s (s.beginString a) := by
  unfold Sc.beginString
  dsimp only
  repeat' split
  all_goals first | exact Or.inl rfl | exact Or.inr (Or.inl rfl) | exact Or.inr (Or.inr rfl)
theorem so_openBracket {m : Mark} {q : List Nat} {s0 : Sc} : So s0 (s.openBracket m q) := by
  unfold Sc.openBracket
  split
  · exact Or.inr (Or.inl rfl)
  · exact Or.inl rfl
theorem so_readWord : So s s.readWord := by
  unfold Sc.readWord
  dsimp only
  repeat' split
  all_goals first | exact so_readString | exact so_beginString | exact Or.inl rfl | exact Or.inr (Or.inl rfl) | exact Or.inr (Or.inr rfl)
theorem so_rest {c : Nat} {own : Bool} : So s (Sc.readOperator.rest s c own) := by
  unfold Sc.readOperator.rest
  dsimp only
  generalize (if opEnd s.text s.at_ s.fin = -2 ∧ own = true ∧ c = 33 then (s.at_ + 1 : Int) else opEnd s.text s.at_ s.fin) = e
  repeat' split
  all_goals first | exact so_openBracket | exact Or.inl rfl | exact Or.inr (Or.inl rfl) | exact Or.inr (Or.inr rfl)
theorem so_readOperator {c : Nat} : So s (s.readOperator c) := by
  unfold Sc.readOperator
  repeat' split
  all_goals first | exact so_rest | exact Or.inl rfl
theorem so_readLexeme {c : Nat} : So s (s.readLexeme c) := by
  unfold Sc.readLexeme
  dsimp only
  repeat' split
  all_goals first | exact so_readWord | exact so_readString | exact so_readOperator | exact Or.inl rfl | exact Or.inr (Or.inl rfl) | exact Or.inr (Or.inr rfl)
theorem so_readPart {g : Frm} : So s (s.readPart g) := by
  unfold Sc.readPart
  dsimp only
  repeat' split
  all_goals first | exact so_openBracket | exact Or.inl rfl | exact Or.inr (Or.inl rfl) | exact Or.inr (Or.inr rfl) | skip
  unfold Sc.endFormat
  split
  · exact Or.inr (Or.inl rfl)
  · exact Or.inl rfl
theorem so_indent : So s s.readIndentation := by
  unfold Sc.readIndentation
  dsimp only
  split
  · split
    · exact Or.inr (Or.inl so_finish)
    · exact Or.inr (Or.inr rfl)
  · split
    · unfold Sc.readEmptyLine
      split
      · exact Or.inr (Or.inr rfl)
      · exact Or.inl rfl
    · unfold Sc.compare
      dsimp only
      repeat' split
      all_goals first | exact Or.inl rfl | exact Or.inr (Or.inl rfl)
theorem so_readOn1 : So s s.readOn1 := by
  unfold Sc.readOn1
  split
  · split
    · exact Or.inr (Or.inl so_finish)
    · exact Or.inr (Or.inr rfl)
  · split
    · unfold Sc.readJoin
      repeat' split
      all_goals first | exact Or.inl rfl | exact Or.inr (Or.inl rfl) | exact Or.inr (Or.inr rfl)
    · split
      · unfold Sc.readComment
        split
        · exact Or.inr (Or.inr rfl)
        · exact Or.inl rfl
      · split
        · exact Or.inl rfl
        · exact so_readLexeme
theorem so_step (ho : s.over = false) : (step s).2 = false → (step s).1.over = true ∨ (step s).1 = s ∨ ((step s).1 = s.skip ∧ s.topPart = none ∧ ¬ (s.fresh = true ∧ s.fr = [])) := by
  intro h
  unfold step at h ⊢
  cases ht : s.topPart with
  | some g =>
    rw [ht] at h
    rcases so_readPart (s := s) (g := g) with z | z | z
    · exact absurd (h.symm.trans z) (by decide)
    · exact Or.inl z
    · exact Or.inr (Or.inl z)
  | none =>
    rw [ht] at h
    dsimp only at h ⊢
    by_cases hfr : s.fresh = true ∧ s.fr = []
    · rw [if_pos hfr] at h ⊢
      rcases so_indent (s := s) with z | z | z
      · exact absurd (h.symm.trans z) (by decide)
      · exact Or.inl z
      · exact Or.inr (Or.inl z)
    · rw [if_neg hfr] at h ⊢
      rcases so_readOn1 (s := s.skip) with z | z | z
      · exact absurd (h.symm.trans z) (by decide)
      · exact Or.inl z
      · exact Or.inr (Or.inr ⟨z, rfl, hfr⟩)
theorem step_skip (h : Ok s) (ho : s.over = false) (ht : s.topPart = none) (hfr : ¬ (s.fresh = true ∧ s.fr = [])) : step (ext p f s.skip) = step (ext p f s) := by
  obtain ⟨k1, k2, k3, k4, k5, k6, k7⟩ := skip_eq h ho
  have ht1 : (ext p f s.skip).topPart = none := by unfold topPart at ht ⊢; show (match s.skip.fr with | g :: _ => _ | [] => _) = _; rw [k5]; exact ht
  have ht2 : (ext p f s).topPart = none := ht
  unfold step
  rw [ht1, ht2]
  show (if s.skip.fresh = true ∧ s.skip.fr = [] then _ else _) = (if s.fresh = true ∧ s.fr = [] then _ else _)
  rw [k5, k6, if_neg hfr, if_neg hfr, skip_more h]
theorem ext_ok (h : Ok s) (hl : (s.text ++ p).length ≤ 20000) : Ok (ext p f s) := by
  refine ⟨hl, by show s.at_ ≤ (s.text ++ p).length; rw [List.length_append]; have := h.ha; omega, h.lv, h.lvn, h.fr, h.frn, ?_⟩
  rcases h.cnt with c | ⟨c, d⟩
  · exact Or.inl c
  · exact Or.inr ⟨c, by show s.found.length ≤ 2 * (s.text ++ p).length + 2; rw [List.length_append]; omega⟩
theorem go_eq (h : Ok s) (ho : s.over = false) : s.go = if (step s).2 = true then (step s).1.go else (step s).1 := by
  split
  · rename_i hb; exact go_turn h ho hb
  · rename_i hb; exact go_stop ho (by simpa using hb)
/-- what was read goes on as if all had been there at once -/
theorem go_ext : ∀ (n : Nat) {s : Sc}, word s = n → Ok s → s.fin = false → FrQ s.fr → (s.text ++ p).length ≤ 20000 → (ext p f s).go = (ext p f s.go).go := by
  intro n
  induction n using Nat.strongRecOn with
  | ind n ih =>
    intro s hw h hf hq hl
    cases ho : s.over with
    | true => rw [go_over ho]
    | false =>
      have hx := ext_ok (f := f) h hl
      have ox : (ext p f s).over = false := ho
      rcases step_ce (p := p) (f := f) h ho hf hq with ⟨s1, z1, z2, z3⟩ | z
      · have hs1 : s.go = s1 := by rw [go_eq h ho, z1]; rfl
        have g1 := (step_ok h ho).1
        have i1 := iv_step ⟨rfl, rfl, hq⟩
        rw [z1] at g1 i1
        have hx1 := ext_ok (p := p) (f := f) g1 (by rw [i1.1]; exact hl)
        rw [hs1, go_eq hx ox, go_eq hx1 z2, z3]
      · have g1 := step_ok h ho
        have i1 := iv_step (s := s) ⟨rfl, rfl, hq⟩
        cases hb : (step s).2 with
        | true =>
          rw [go_turn h ho hb, go_eq hx ox, z, if_pos (show (ext2 p f (step s)).2 = true from hb)]
          exact ih _ (by rw [← hw]; exact (g1.2 hb).1) rfl g1.1 (i1.2.1.trans hf) i1.2.2 (by rw [i1.1]; exact hl)
        | false =>
          have e1 : s.go = (step s).1 := go_stop ho hb
          have e2 : (ext p f s).go = ext p f (step s).1 := by rw [go_eq hx ox, z]; exact if_neg (by show ¬ (step s).2 = true; rw [hb]; decide)
          rw [e1, e2]
          rcases so_step ho hb with y | y | ⟨y, y2, y3⟩
          · exact (go_over (s := ext p f (step s).1) y).symm
          · rw [y] at e2 ⊢
            exact e2.symm
          · have hh : step (ext p f s.skip) = ext2 p f (step s) := by rw [step_skip h ho y2 y3]; exact z
            rw [y]
            have o2 : (ext p f s.skip).over = false := (skip_eq h ho).2.1
            rw [go_stop o2 (by rw [hh]; exact hb), hh]
            show _ = ext p f (step s).1
            rw [y]
theorem feed_ext {l : List Nat} : s.feed l = (ext l s.fin s).go := rfl
end
theorem inv_new : Inv [] false Sc.new := ⟨rfl, rfl, fun _ h => nomatch h⟩
/-- the state behind some pieces -/
def Good (s : Sc) : Prop := Ok s ∧ s.fin = false ∧ FrQ s.fr
theorem good_new : Good Sc.new := ⟨new_ok, rfl, fun _ h => nomatch h⟩
theorem good_feed {s : Sc} {l : List Nat} (h : Good s) (hl : (s.text ++ l).length ≤ 20000) : Good (s.feed l) ∧ (s.feed l).text = s.text ++ l := by
  have i := iv_go (s := ext l s.fin s) ⟨rfl, rfl, h.2.2⟩
  refine ⟨⟨feed_ok h.1 (by rw [List.length_append] at hl; exact hl), ?_, i.2.2⟩, i.1⟩
  exact i.2.1.trans h.2.1
/-- one piece behind another -/
theorem feed_feed {s : Sc} {l m : List Nat} (h : Good s) (hl : (s.text ++ l ++ m).length ≤ 20000) : (s.feed l).feed m = s.feed (l ++ m) := by
  obtain ⟨hg, ht⟩ := good_feed (l := l) h (by rw [List.length_append] at hl; omega)
  have hx : Good (ext l s.fin s) := ⟨ext_ok h.1 (by rw [List.length_append] at hl; omega), h.2.1, h.2.2⟩
  have hfin : (ext l s.fin s).go.fin = false := hg.2.1
  rw [feed_ext, feed_ext, feed_ext, hfin, ← go_ext (p := m) (f := false) _ rfl hx.1 hx.2.1 hx.2.2 hl]
  show (ext m false (ext l s.fin s)).go = (ext (l ++ m) s.fin s).go
  rw [h.2.1]
  show Sc.go ⟨s.text ++ l ++ m, _, _, _, _, _, _, _, _, _, _⟩ = Sc.go ⟨s.text ++ (l ++ m), _, _, _, _, _, _, _, _, _, _⟩
  rw [List.append_assoc]
  rfl
/-- the whole at once -/
def whole (l : List Nat) : Sc := { new with text := l, fin := true }
theorem feed_close {s : Sc} {l : List Nat} (h : Good s) (hl : (s.text ++ l).length ≤ 20000) : (s.feed l).close = (ext l true s).go := by
  have hx : Good (ext l s.fin s) := ⟨ext_ok h.1 hl, h.2.1, h.2.2⟩
  have := go_ext (p := []) (f := true) _ rfl hx.1 hx.2.1 hx.2.2 (by rw [List.append_nil]; exact hl)
  have e : ∀ x : Sc, (ext [] true x) = { x with fin := true } := fun x => by
    show Sc.mk (x.text ++ []) _ _ _ _ _ _ _ _ _ _ = _
    rw [List.append_nil]
  rw [e, e] at this
  exact this.symm
theorem scanned_one {l : List Nat} (hl : l.length ≤ 20000) : scanned l = (whole l).go := feed_close good_new hl
end Sc
end Kt

set_option Elab.async false
set_option linter.all false
set_option maxRecDepth 100000
set_option maxHeartbeats 2000000
namespace Kt
open PySem PySem.Spec PyProof.Rows L2 Evl
/-! ## rows: lists of flat tuples -/
def TpV (H : Hp) (v : V) (ws : List V) : Prop := ∃ q, v = .ref q ∧ H q = some (.tup ws)
theorem TpV.mono {H H' : Hp} {v : V} {ws : List V} (e : Ex H H') (h : TpV H v ws) : TpV H' v ws := by
  obtain ⟨q, rfl, h⟩ := h
  exact ⟨q, rfl, e _ _ h⟩
theorem tps_mono {H H' : Hp} {xs : List V} {rows : List (List V)} (e : Ex H H') (h : A2 (TpV H) xs rows) : A2 (TpV H') xs rows := h.imp fun _ _ => TpV.mono e
theorem TpV.upd {H : Hp} {D : Addr} {ys : List V} {u : HO} {v : V} {ws : List V} (hd : H D = some (.lst ys)) (h : TpV H v ws) : TpV (L2.upd H D u) v ws := by
  obtain ⟨q, rfl, h⟩ := h
  refine ⟨q, rfl, ?_⟩
  rw [upd_ne fun z => by rw [z, hd] at h; cases h]
  exact h
def EvR (te : TE) (σ : L2.St) (H : Hp) (rows : List (List V)) : Prop := ∀ H1, Ex H H1 → ∀ Q : VK, (∀ p xs H2, Ex H1 H2 → H2 p = some (.lst xs) → A2 (TpV H2) xs rows → Q (.ref p) H2) → te σ H1 Q
def EvRA (ta : TA) (σ : L2.St) (H : Hp) (rows : List (List V)) : Prop := ∀ H1, Ex H H1 → ∀ Q : List V → Hp → Prop, (∀ xs H2, Ex H1 H2 → A2 (TpV H2) xs rows → Q xs H2) → ta σ H1 Q
section
variable {K : PySem.W.Frag} {σ : L2.St} {H : Hp} {te tl tb : TE} {ta : TA} {tz tu : TS} {D : Ends} {vs : List Nat} {rows rows' : List (List V)} {ws : List V}
theorem era_nil : EvRA tNil σ H [] := fun H1 _ _ q => q [] H1 (Ex.refl _) .nil
theorem era_cons (h : EvU te σ H ws) (t : EvRA ta σ H rows) : EvRA (tCons te ta) σ H (ws :: rows) := fun H1 e Q q =>
  h H1 e _ fun p H2 _ e2 hp => t H2 (e.trans e2) _ fun xs H3 e3 ax => q _ H3 (e2.trans e3) (.cons ⟨p, rfl, e3 _ _ hp⟩ ax)
theorem er_lst (t : EvRA ta σ H rows) (hl : rows.length ≤ 100000) : EvR (tLst ta) σ H rows := fun H1 e Q q =>
  t H1 e _ fun xs H2 e2 ax => ⟨sz_of (by rw [ax.len]; exact hl), fun p hp => q p xs _ (e2.trans (Ex.new hp)) upd_same (tps_mono (Ex.new hp) ax)⟩
theorem er_var {i : Nat} {p : Addr} {xs : List V} (h : σ[i]? = some (some (.ref p))) (hp : H p = some (.lst xs)) (ax : A2 (TpV H) xs rows) : EvR (tVar i) σ H rows := fun H1 e Q q =>
  ev_var h H1 e Q fun H2 e2 => q p xs H2 e2 (e2 _ _ (e _ _ hp)) (tps_mono (e.trans e2) ax)
theorem er_mono {H' : Hp} (e : Ex H H') (h : EvR te σ H rows) : EvR te σ H' rows := fun H1 e1 Q q => h H1 (e.trans e1) Q q
theorem er_cat (h : EvR te σ H rows) (k : EvR tb σ H rows') (hl : rows.length + rows'.length ≤ 100000) : EvR (tOp rCat te tb) σ H (rows ++ rows') := fun H1 e Q q =>
  h H1 e _ fun p xs H2 e2 hp ax => k H2 (e.trans e2) _ fun r ys H3 e3 hr ay => by
    refine ⟨p, r, xs, ys, rfl, rfl, e3 _ _ hp, hr, sz_of (by rw [ax.len, ay.len]; exact hl), fun n hn => ?_⟩
    have en := Ex.new (H := H3) (o := .lst (xs ++ ys)) hn
    exact q n _ _ ((e2.trans e3).trans en) upd_same (tps_mono en ((tps_mono e3 ax).app ay))
theorem qr_asg {i : Nat} (h : EvR te σ H rows) (k : ∀ p xs H1, Ex H H1 → H1 p = some (.lst xs) → A2 (TpV H1) xs rows → tz D (σ.set i (some (.ref p))) H1) : tSeq (tAsg te (gName i)) tz D σ H :=
  h H (Ex.refl H) _ fun p xs H1 e hp ax => k p xs H1 e hp ax
/-- a call that gives rows -/
theorem er_call {sp : Sp} {dvs us : List V} {E : XK} (h : EvA ta σ H us) (hs : ∀ H1, Ex H H1 → ∀ Q : VK, (∀ p xs H2, Ex H1 H2 → H2 p = some (.lst xs) → A2 (TpV H2) xs rows → Q (.ref p) H2) → sp (us ++ dvs) H1 Q E) : EvR (tCall sp dvs E ta) σ H rows := fun H1 e Q q =>
  h H1 e _ fun H2 e2 => hs H2 (e.trans e2) _ fun p xs H3 e3 hp ax => q p xs H3 (e2.trans e3) hp ax
/-- what a def promises that gives rows -/
def RetR (rows : List (List V)) (H : Hp) (Q : VK) : Prop := ∀ p xs H', Ex H H' → H' p = some (.lst xs) → A2 (TpV H') xs rows → Q (.ref p) H'
/-- [a tuple of each row] -/
theorem er_lc {g : TG} (f : List V → List V) (h : EvR tl σ H rows) (hz : rows.length ≤ 90000)
    (he : ∀ ws, ws ∈ rows → ∀ x H1, Ex H H1 → TpV H1 x ws → ∃ σ2, (∀ Q' : L2.St → Hp → Prop, Q' σ2 H1 → g x (wipe σ vs) H1 Q') ∧ wipe σ2 vs = wipe σ vs ∧ EvU te σ2 H1 (f ws)) :
    EvR (tLc (iList K tl) g tYes te vs) σ H (rows.map f) := fun H0 e Q q => h H0 e _ fun a xs H1 e1 hx ax => by
  refine ⟨a, rfl, ⟨xs, sq_of hx⟩, fun Dl hD => ?_⟩
  refine lc_it (walk_list (K := K) (a := a) (xs := xs)) (Pv := fun i H' => Ex H1 H' ∧ ∃ ys, H' Dl = some (.lst ys) ∧ A2 (TpV H') ys ((rows.take i).map f)) ⟨Ex.new hD, [], upd_same, .nil⟩ (fun i H' _ p => sq_of (p.1 _ _ hx)) ?_ (fun H' p => ?_)
  · rintro i x H2 H3 hi ⟨ee, ys, hd, ay⟩ y
    obtain ⟨rfl, hxi⟩ := y
    obtain ⟨ws, hws, tp⟩ := (tps_mono ee ax).at_ hxi
    obtain ⟨σ2, hg, hw, hu⟩ := he ws (mem_of_at hws) x _ ((e.trans e1).trans ee) tp
    refine hg _ ⟨hw, ?_⟩
    refine hu _ (Ex.refl _) _ fun p H4 hp e4 h4 => ?_
    have hl : ys.length < 100000 := by
      rw [ay.len, List.length_map, List.length_take]
      omega
    refine ⟨ys, e4 _ _ hd, sz_lt hl, Ex.mut (ee.trans e4) hD, ys ++ [.ref p], upd_same, ?_⟩
    rw [take_more hws, List.map_append]
    have a4 : A2 (TpV H4) (ys ++ [V.ref p]) ((rows.take i).map f ++ [f ws]) := (tps_mono e4 ay).snoc ⟨p, rfl, h4⟩
    exact a4.imp fun _ _ => TpV.upd (e4 _ _ hd)
  · obtain ⟨ee, ys, hd, ay⟩ := p
    rw [ax.len, List.take_length] at ay
    exact q Dl ys H' (e1.trans ee) hd ay
theorem q_forRw {g : TG} (h : EvR tl σ H rows) (k : ∀ p xs H1, Ex H H1 → H1 p = some (.lst xs) → A2 (TpV H1) xs rows → tSeq (tFor (iList K (tC (.ref p))) g tu) tz D σ H1) : tSeq (tFor (iList K tl) g tu) tz D σ H :=
  h H (Ex.refl H) _ fun p xs H1 e hp ax => k p xs H1 e hp ax
theorem s_forRw {g : TG} (h : EvR tl σ H rows) (k : ∀ p xs H1, Ex H H1 → H1 p = some (.lst xs) → A2 (TpV H1) xs rows → tFor (iList K (tC (.ref p))) g tu D σ H1) : tFor (iList K tl) g tu D σ H :=
  h H (Ex.refl H) _ fun p xs H1 e hp ax => k p xs H1 e hp ax
theorem g_tup2 {x v w : V} {i j : Nat} {Q : L2.St → Hp → Prop} (h : TpV H x [v, w]) (q : Q ((σ.set i (some v)).set j (some w)) H) : gTup K 2 (gCons (gName i) (gCons (gName j) gNil)) x σ H Q := by
  obtain ⟨p, rfl, hp⟩ := h
  exact ⟨p, _, rfl, st_of hp, rfl, _, _, rfl, _, _, rfl, rfl, q⟩
theorem g_tup3 {x v w y : V} {i j k : Nat} {Q : L2.St → Hp → Prop} (h : TpV H x [v, w, y]) (q : Q (((σ.set i (some v)).set j (some w)).set k (some y)) H) : gTup K 3 (gCons (gName i) (gCons (gName j) (gCons (gName k) gNil))) x σ H Q := by
  obtain ⟨p, rfl, hp⟩ := h
  exact ⟨p, _, rfl, st_of hp, rfl, _, _, rfl, _, _, rfl, _, _, rfl, rfl, q⟩
end
/-! ## tokens as values -/
def tkRow (t : Tk) : List V := [.str t.kind, .str (S t.s), .int (t.at_ : Int)]
def tkD (t : Tk) : PyData := .tuple [.str t.kind, .str (S t.s), .int (t.at_ : Int)]
def flD : Option (Str × Int) → PyData
  | none => .none
  | some e => .tuple [.str e.1, .int e.2]
theorem tk_dp {K : PySem.W.Frag} {H : Hp} {v : V} {t : Tk} (h : TkV H v t) : Dp K H v (tkD t) := by
  obtain ⟨q, rfl, h⟩ := h
  exact .tup (st_of h) (.cons (.str _) (.cons (.str _) (.cons (.int _) .nil)))
theorem tks_dp {K : PySem.W.Frag} {H : Hp} : ∀ {vs : List V} {ts : List Tk}, A2 (TkV H) vs ts → DpAll K H vs (ts.map tkD)
  | _, _, .nil => .nil
  | _, _, .cons h t => .cons (tk_dp h) (tks_dp t)
theorem fl_dp {K : PySem.W.Frag} {H : Hp} {v : V} {o : Option (Str × Int)} (h : FlV H v o) : Dp K H v (flD o) := by
  cases o with
  | none => cases h; exact .non
  | some e =>
    obtain ⟨q, rfl, h⟩ := h
    exact .tup (st_of h) (.cons (.str _) (.cons (.int _) .nil))
/-- what a token's value holds -/
def tkK (H : Hp) : V → Str
  | .ref q => match H q with
    | some (.tup [.str k, _, _]) => k
    | _ => ""
  | _ => ""
def tkS (H : Hp) : V → Str
  | .ref q => match H q with
    | some (.tup [_, .str s, _]) => s
    | _ => ""
  | _ => ""
def tkA (H : Hp) : V → Int
  | .ref q => match H q with
    | some (.tup [_, _, .int n]) => n
    | _ => 0
  | _ => 0
theorem tk_of {H : Hp} {v : V} {t : Tk} (h : TkV H v t) : tkK H v = t.kind ∧ tkS H v = S t.s ∧ tkA H v = t.at_ := by
  obtain ⟨q, rfl, h⟩ := h
  unfold tkK tkS tkA
  simp only [h]
  exact ⟨trivial, trivial, trivial⟩
theorem a2_fm {α : Type} {R : V → α → Prop} {f : V → Bool} {g : V → V} {f' : α → Bool} {g' : α → V} (h : ∀ v a, R v a → f v = f' a ∧ g v = g' a) : ∀ {vs : List V} {as : List α}, A2 R vs as → (vs.filter f).map g = (as.filter f').map g'
  | _, _, .nil => rfl
  | v :: vs, a :: as, .cons r t => by
    obtain ⟨h1, h2⟩ := h v a r
    rw [List.filter_cons, List.filter_cons, h1]
    split
    · rw [List.map_cons, List.map_cons, h2, a2_fm h t]
    · exact a2_fm h t
theorem ev_tkI {K : PySem.W.Frag} {σ : L2.St} {H : Hp} {te tb : TE} {v w : V} {t : Tk} {i : Int} (h : Ev te σ H v) (hv : TkV H v t) (hb : Ev tb σ H (.int i)) (hi : atI (tkRow t) i = some w) : Ev (tOp (rIxT K) te tb) σ H w := by
  obtain ⟨q, rfl, hq⟩ := hv
  exact fun H1 e Q qq => h H1 e _ fun H2 e2 => hb H2 (e.trans e2) _ fun H3 e3 => ⟨q, _, i, w, rfl, rfl, st_of (((e.trans e2).trans e3) _ _ hq), hi, qq H3 (e2.trans e3)⟩
/-! ## empty lines ahead -/
namespace Sc
/-- these signs ahead of a text shift it, and add tokens ahead -/
def Ahead (A : List Nat) (F : List Tk) : Prop := (∀ t ∈ F, t.at_ < A.length) ∧ ∀ t, (A ++ t).length ≤ 20000 → scanned (A ++ t) = sh A F (scanned t)
theorem sh_sh {A B : List Nat} {F G : List Tk} {s : Sc} : sh A F (sh B G s) = sh (A ++ B) (F ++ G.map (Tk.sh A.length)) s := by
  unfold sh
  have hj : shI A.length (shI B.length s.join) = shI (A ++ B).length s.join := by
    unfold shI
    rw [List.length_append]
    by_cases h : s.join < 0
    · rw [if_pos h, if_pos h, if_pos h]
    · rw [if_neg h, if_neg h, if_neg (by omega)]
      omega
  have hf : ∀ f : Frm, Frm.sh A.length (Frm.sh B.length f) = Frm.sh (A ++ B).length f := fun f => by unfold Frm.sh; rw [List.length_append, Nat.add_assoc]
  have ht : ∀ t : Tk, Tk.sh A.length (Tk.sh B.length t) = Tk.sh (A ++ B).length t := fun t => by unfold Tk.sh; rw [List.length_append, Nat.add_assoc]
  have he : ∀ o : Option (Str × Int), (o.map fun e => (e.1, e.2 + (B.length : Int))).map (fun e => (e.1, e.2 + (A.length : Int))) = o.map fun e => (e.1, e.2 + ((A ++ B).length : Int)) := fun o => by
    cases o with
    | none => rfl
    | some e => simp only [Option.map_some, List.length_append]; congr 2; omega
  simp only [List.map_append, List.map_map, Function.comp_def, hf, ht, he, hj, List.append_assoc, List.length_append, Nat.add_assoc]
theorem sh_nil {s : Sc} : sh [] [] s = s := by
  unfold sh
  have hj : shI ([] : List Nat).length s.join = s.join := by unfold shI; split <;> simp
  have hf : s.fr.map (Frm.sh ([] : List Nat).length) = s.fr := by
    conv => rhs; rw [← List.map_id s.fr]
    exact List.map_congr_left fun f _ => by unfold Frm.sh; simp
  have ht : s.found.map (Tk.sh ([] : List Nat).length) = s.found := by
    conv => rhs; rw [← List.map_id s.found]
    exact List.map_congr_left fun f _ => by unfold Tk.sh; simp
  have he : s.fail.map (fun e => (e.1, e.2 + (([] : List Nat).length : Int))) = s.fail := by
    cases s.fail with
    | none => rfl
    | some e => simp
  rw [hj, hf, ht, he]
  simp
theorem ahead_nil : Ahead [] [] := ⟨(fun _ h => absurd h List.not_mem_nil), fun t _ => by rw [sh_nil]; rfl⟩
theorem ahead_app {A B : List Nat} {F G : List Tk} (h : Ahead A F) (k : Ahead B G) : Ahead (A ++ B) (F ++ G.map (Tk.sh A.length)) := by
  refine ⟨fun t ht => ?_, fun t hl => ?_⟩
  · rw [List.length_append]
    rcases List.mem_append.mp ht with z | z
    · have := h.1 t z; omega
    · obtain ⟨u, hu, rfl⟩ := List.mem_map.mp z
      have := k.1 u hu
      show A.length + u.at_ < _
      omega
  · rw [List.append_assoc] at hl ⊢
    rw [h.2 _ hl, k.2 t (by rw [List.length_append] at hl; omega), sh_sh]
theorem whole_ok {l : List Nat} (h : l.length ≤ 20000) : Ok (whole l) := ⟨h, Nat.zero_le _, List.cons_ne_nil _ _, by show 1 ≤ 13; decide, trivial, Nat.zero_le _, Or.inl (Nat.le_refl 1)⟩
theorem ahead_of {L : List Nat} {G : List Tk} (h1 : ∀ t ∈ G, t.at_ < L.length) (h : ∀ t, step (whole (L ++ t)) = (sh L G (whole t), true)) : Ahead L G := by
  refine ⟨h1, fun t hl => ?_⟩
  have hok := whole_ok hl
  have ht : t.length ≤ 20000 := by rw [List.length_append] at hl; omega
  rw [scanned_one hl, scanned_one ht, go_turn hok rfl (by rw [h]), h]
  exact go_sh (whole_ok ht)
theorem tw_all {q : Nat → Bool} : ∀ {l : List Nat}, (∀ x ∈ l, q x = true) → l.takeWhile q = l
  | [], _ => rfl
  | a :: l, h => by rw [List.takeWhile_cons, if_pos (h a List.mem_cons_self), tw_all fun x hx => h x (List.mem_cons_of_mem _ hx)]
/-- an empty line: gap, then perhaps a comment -/
theorem ahead_line {g c : List Nat} (hg : ∀ x ∈ g, isG x = true) (hc : c = [] ∨ ∃ r, c = 35 :: r ∧ 10 ∉ r) : ∃ F, Ahead (g ++ c ++ [10]) F ∧ F.length ≤ 2 ∧ ∀ t ∈ F, t.s.length ≤ c.length + 1 ∧ t.kind.length ≤ 7 := by
  have hgl : ∀ (x : Nat) (r : List Nat), isG x = false → runEnd isG (g ++ x :: r) 0 = g.length := fun x r hx => by
    unfold runEnd
    rw [List.drop_zero, Nat.zero_add]
    have : (g ++ x :: r).takeWhile isG = g := by
      rw [List.takeWhile_append]
      have h1 : g.takeWhile isG = g := tw_all hg
      rw [h1, if_pos rfl, List.takeWhile_cons, if_neg (by rw [hx]; decide), List.append_nil]
    rw [this]
  have hn10 : ∀ x ∈ g, x ≠ 10 := fun x hx z => by have := hg x hx; rw [z] at this; exact absurd this (by decide)
  have hcl : ∀ t : List Nat, runEnd notLf ((g ++ c ++ [10]) ++ t) g.length = (g ++ c).length := fun t => by
    unfold runEnd
    have : ((g ++ c ++ [10]) ++ t).drop g.length = c ++ 10 :: t := by simp
    rw [this, List.takeWhile_append]
    have h1 : c.takeWhile notLf = c := by
      rcases hc with rfl | ⟨r, rfl, hr⟩
      · rfl
      · rw [List.takeWhile_cons, if_pos (by decide)]
        congr 1
        refine tw_all fun x hx => ?_
        unfold notLf
        have hne : ¬ x = 10 := fun z => by rw [z] at hx; exact hr hx
        rw [decide_eq_false hne]
        rfl
    rw [h1, if_pos rfl, List.takeWhile_cons, if_neg (by decide), List.append_nil, List.length_append]
  have hce : ∀ t : List Nat, (whole ((g ++ c ++ [10]) ++ t)).commentEnd g.length = some (g ++ c).length := fun t => by
    unfold commentEnd
    show (if runEnd notLf ((g ++ c ++ [10]) ++ t) g.length < ((g ++ c ++ [10]) ++ t).length then some (runEnd notLf ((g ++ c ++ [10]) ++ t) g.length) else _) = _
    rw [hcl, if_pos (by simp only [List.length_append, List.length_cons, List.length_nil]; omega)]
  have hstep : ∀ t : List Nat, step (whole ((g ++ c ++ [10]) ++ t)) = (whole ((g ++ c ++ [10]) ++ t)).readEmptyLine g.length := fun t => by
    have e : ∃ x r, (g ++ c ++ [10]) ++ t = g ++ x :: r ∧ (x = 35 ∨ x = 10) := by
      rcases hc with rfl | ⟨r, rfl, hr⟩
      · exact ⟨10, t, by simp, Or.inr rfl⟩
      · exact ⟨35, r ++ 10 :: t, by simp, Or.inl rfl⟩
    obtain ⟨x, r, e, hx⟩ := e
    have hxg : isG x = false := by rcases hx with rfl | rfl <;> decide
    show (whole ((g ++ c ++ [10]) ++ t)).readIndentation = _
    unfold readIndentation
    show (match ((g ++ c ++ [10]) ++ t)[runEnd isG ((g ++ c ++ [10]) ++ t) 0]? with | none => _ | some z => if z = 35 ∨ z = 10 then (whole ((g ++ c ++ [10]) ++ t)).readEmptyLine (runEnd isG ((g ++ c ++ [10]) ++ t) 0) else _) = _
    have e2 : ((g ++ c ++ [10]) ++ t)[runEnd isG ((g ++ c ++ [10]) ++ t) 0]? = some x := by
      rw [e, hgl _ _ hxg, List.getElem?_append_right (Nat.le_refl _), Nat.sub_self]
      rfl
    have e3 : runEnd isG ((g ++ c ++ [10]) ++ t) 0 = g.length := by rw [e, hgl _ _ hxg]
    rw [e2, e3]
    exact if_pos hx
  have hmin : ∀ t : List Nat, min ((g ++ c).length + 1) ((g ++ c ++ [10]) ++ t).length = (g ++ c ++ [10]).length := fun t => by simp only [List.length_append, List.length_cons, List.length_nil]; omega
  have hpart1 : ∀ (t : List Nat) (s : Sc), s.text = (g ++ c ++ [10]) ++ t → s.part (g ++ c).length (g ++ c ++ [10]).length = [10] := fun t s hs => by
    unfold part
    rw [hs]
    have h1 : (g ++ c ++ [10] ++ t).drop (g ++ c).length = 10 :: t := by rw [List.append_assoc (g ++ c)]; exact List.drop_left
    have h2 : (g ++ c ++ [10]).length - (g ++ c).length = 1 := by rw [List.length_append (as := g ++ c), List.length_singleton]; omega
    rw [h1, h2]
    rfl
  have hpart2 : ∀ (t : List Nat) (s : Sc), s.text = (g ++ c ++ [10]) ++ t → s.part g.length (g ++ c).length = c := fun t s hs => by
    unfold part
    rw [hs]
    have h1 : (g ++ c ++ [10] ++ t).drop g.length = c ++ ([10] ++ t) := by rw [List.append_assoc, List.append_assoc]; exact List.drop_left
    have h2 : (g ++ c).length - g.length = c.length := by rw [List.length_append]; omega
    rw [h1, h2]
    exact List.take_left
  by_cases hc0 : c = []
  · refine ⟨[⟨"NL", [10], g.length⟩], ahead_of (fun t ht => ?_) fun t => ?_, by simp, fun t ht => ?_⟩
    · rw [List.mem_singleton.mp ht]; show g.length < _; simp only [List.length_append, List.length_singleton]; omega
    · rw [hstep]
      unfold readEmptyLine
      rw [hce]
      dsimp only
      rw [if_neg (by rw [hc0]; simp)]
      show (add _ "NL" (min ((g ++ c).length + 1) ((g ++ c ++ [10]) ++ t).length), true) = _
      rw [hmin]
      show (Sc.mk _ _ _ _ ([] ++ [Tk.mk "NL" (part _ g.length _) g.length]) _ _ _ _ _ _, true) = _
      have hg2 : g.length = (g ++ c).length := by rw [hc0]; simp
      have := hpart1 t { whole ((g ++ c ++ [10]) ++ t) with at_ := g.length } rfl
      rw [← hg2] at this
      rw [this]
      rfl
    · rw [List.mem_singleton.mp ht]
      exact ⟨by show 1 ≤ _; omega, by show ("NL" : Str).length ≤ 7; decide +kernel⟩
  · refine ⟨[⟨"COMMENT", c, g.length⟩, ⟨"NL", [10], (g ++ c).length⟩], ahead_of (fun t ht => ?_) fun t => ?_, by simp, fun t ht => ?_⟩
    · simp only [List.mem_cons, List.not_mem_nil, or_false] at ht
      rcases ht with rfl | rfl
      · show g.length < _; simp only [List.length_append, List.length_singleton]; omega
      · show (g ++ c).length < _; simp only [List.length_append, List.length_singleton]; omega
    · rw [hstep]
      unfold readEmptyLine
      rw [hce]
      dsimp only
      rw [if_pos (by rw [List.length_append]; have := List.length_pos_iff.mpr hc0; omega)]
      show (add _ "NL" (min ((g ++ c).length + 1) ((g ++ c ++ [10]) ++ t).length), true) = _
      rw [hmin]
      show (Sc.mk _ _ _ _ (([] ++ [Tk.mk "COMMENT" (part { whole ((g ++ c ++ [10]) ++ t) with at_ := g.length } g.length (g ++ c).length) g.length]) ++ [Tk.mk "NL" (part (add { whole ((g ++ c ++ [10]) ++ t) with at_ := g.length } "COMMENT" (g ++ c).length) (g ++ c).length (g ++ c ++ [10]).length) (g ++ c).length]) _ _ _ _ _ _, true) = _
      rw [hpart2 t _ rfl, hpart1 t _ rfl]
      rfl
    · simp only [List.mem_cons, List.not_mem_nil, or_false] at ht
      rcases ht with rfl | rfl
      · exact ⟨by show c.length ≤ _; omega, by show ("COMMENT" : Str).length ≤ 7; decide +kernel⟩
      · exact ⟨by show 1 ≤ _; omega, by show ("NL" : Str).length ≤ 7; decide +kernel⟩
end Sc
end Kt
namespace Kt
open PySem PySem.Spec PyProof.Rows L2 Evl
theorem rv_addX {H : Hp} {x y : Str} (h : x.length + y.length ≤ 16000000) : RV (fun x y H Q => ∃ i j, x = V.str i ∧ y = V.str j ∧ i.length + j.length ≤ sizeLine ∧ Q (.str (i ++ j)) H) (.str x) (.str y) H (.str (x ++ y)) := fun H1 _ Q q =>
  ⟨x, y, rfl, rfl, sz24 h, q H1 (Ex.refl _)⟩
theorem rv_neX {H : Hp} {x y : Str} : RV rNe (.str x) (.str y) H (.bl (!decide (x = y))) := by
  have h := rv_neS (a := x.cps.toList) (b := y.cps.toList) (H := H)
  rw [S_of, S_of] at h
  have e : decide (x.cps.toList = y.cps.toList) = decide (x = y) := decide_eq_decide.mpr ⟨fun z => str_ext z, fun z => by rw [z]⟩
  rw [e] at h
  exact h
theorem rv_eqX {H : Hp} {x y : Str} : RV rEq (.str x) (.str y) H (.bl (decide (x = y))) := by
  have h := rv_eqS (a := x.cps.toList) (b := y.cps.toList) (H := H)
  rw [S_of, S_of] at h
  have e : decide (x.cps.toList = y.cps.toList) = decide (x = y) := decide_eq_decide.mpr ⟨fun z => str_ext z, fun z => by rw [z]⟩
  rw [e] at h
  exact h
/-! ## the words of tokens -/
def tokS (t : Tk) : Str := t.kind ++ (if t.s = [] then S [] else S [32]) ++ S t.s
def shownS (f : List Tk) (n : Int) : Str := Txt.join " " ((f.filter fun t => decide (n ≤ (t.at_ : Int))).map tokS)
theorem shown_sh {F G : List Tk} {n : Nat} (hF : ∀ t ∈ F, t.at_ < n) : shownS (F ++ G.map (Tk.sh n)) (n : Int) = shownS G 0 := by
  unfold shownS
  have h1 : F.filter (fun t => decide ((n : Int) ≤ (t.at_ : Int))) = [] := List.filter_eq_nil_iff.mpr fun t ht => by
    have := hF t ht
    rw [decide_eq_false (by omega)]
    decide
  have h2 : (G.map (Tk.sh n)).filter (fun t => decide ((n : Int) ≤ (t.at_ : Int))) = G.map (Tk.sh n) := List.filter_eq_self.mpr fun t ht => by
    obtain ⟨u, _, rfl⟩ := List.mem_map.mp ht
    exact decide_eq_true (by show (n : Int) ≤ ((n + u.at_ : Nat) : Int); omega)
  have h3 : G.filter (fun t => decide ((0 : Int) ≤ (t.at_ : Int))) = G := List.filter_eq_self.mpr fun t _ => decide_eq_true (by omega)
  rw [List.filter_append, h1, h2, h3, List.nil_append, List.map_map]
  rfl
end Kt
namespace Kt
open PySem PySem.Spec PyProof.Rows L2 Evl
theorem q_asgG {te : TE} {g : TG} {tz : TS} {D : Ends} {σ : L2.St} {H : Hp} (h : te σ H fun x H1 => g x σ H1 fun σ2 H2 => tz D σ2 H2) : tSeq (tAsg te g) tz D σ H := h
theorem s_asgG {te : TE} {g : TG} {D : Ends} {σ : L2.St} {H : Hp} (h : te σ H fun x H1 => g x σ H1 fun σ2 H2 => D.nx σ2 H2) : tAsg te g D σ H := h
end Kt

set_option Elab.async false
set_option linter.all false
set_option maxRecDepth 100000
set_option maxHeartbeats 2000000
namespace L2
open PySem PySem.Spec PyProof.Rows
/-! ## d.get(k), d.get(k, x) of a written dict with text keys -/
section
variable {X : Cx} {d : Addr} {es : Array DictEntry} {n : Nat} {o e f : Expr} {apos cpos : Pos} {td ty tx : TE}
/-- the value that stands at a key -/
def KAt (K : PySem.W.Frag) (d : Addr) (z : Str) (r : Option V) : Prop := ∃ u : Option Value, PySem.W.nsIn K d z = some u ∧ match r, u with
  | some v, some u => RelV v u
  | none, none => True
  | _, _ => False
def tKGet1 (K : PySem.W.Frag) (d : Addr) (td ty : TE) : TE := fun σ H Q => td σ H fun x H1 => x = .ref d ∧ ty σ H1 fun y H2 => ∃ (z : Str) (r : Option V), y = .str z ∧ KAt K d z r ∧ Q (r.getD .non) H2
def tKGet2 (K : PySem.W.Frag) (d : Addr) (td ty tx : TE) : TE := fun σ H Q => td σ H fun x H1 => x = .ref d ∧ ty σ H1 fun y H2 => tx σ H2 fun w H3 => ∃ (z : Str) (r : Option V), y = .str z ∧ KAt K d z r ∧ Q (r.getD w) H3
theorem kd_attrs {pins : List (Addr × Obj)} {σ : St} {H : Hp} {s : Shared} (D : KDict X.K X.w d es n) (I : Inv X pins σ H s) : ∀ b, Value.ref d = .ref b → ∃ ob, s.heap.get? b = some ob ∧ ob.dict = none := fun b q => by
  cases q
  exact ⟨_, I.kIn _ _ D.at_, rfl⟩
theorem pe_kget1 (D : KDict X.K X.w d es n) (ho : PE X o td) (he : PE X e ty) (m : M1 X o "get" apos e cpos) : PE X (.Call (.Attribute o "get" apos) [e] [] cpos) (tKGet1 X.K d td ty) := by
  refine ⟨fun pins s σ H Q I h => ?_⟩
  refine wpAny_Call_method m.base m.few m.line PySem.F.plainAttrs_dict PySem.F.slot_dict_get PySem.F.type_dict_get (thn (ho.run pins s σ H _ I h) fun u s1 ⟨x, H1, I1, rx, ex, q1⟩ => ?_)
  subst ex
  obtain rfl : u = Value.ref d := rx
  refine ⟨kd_type D I1, kd_attrs D I1, ?_⟩
  rw [m.trees]
  refine Calls.callWith_builtin rfl (Calls.evalArgs_plain (Calls.spliced_cons (thn (he.run pins s1 σ H1 _ I1 q1) fun iv s2 ⟨y, H2, I2, ry, z, r, ey, ⟨u0, hu, hr⟩, q2⟩ => Calls.spliced_nil ?_)))
  subst ey
  obtain ⟨t, rfl⟩ := ry
  refine call_meetsIn PySem.F.slot_dict_get (kd_type D I2) PySem.F.entry_dict_get (PySem.F.args_dict_get_2 _ _) (meets_dict_get (PySem.strKind X.prog X.w) d (PySem.strKind_is X.prog X.w z t) D.low) ⟨_, PySem.W.mapOf_K (prog := X.prog) I2.kIn D.at_ D.lit, ?_⟩
  rw [PySem.W.find_K D.at_ hu]
  refine ⟨r.getD .non, H2, I2.tok _, ?_, q2⟩
  cases r <;> cases u0 <;> first | exact hr.elim | rfl | exact hr
theorem pe_kget2 (D : KDict X.K X.w d es n) (ho : PE X o td) (he : PE X e ty) (hf : PE X f tx) (m : M2 X o "get" apos e f cpos) : PE X (.Call (.Attribute o "get" apos) [e, f] [] cpos) (tKGet2 X.K d td ty tx) := by
  refine ⟨fun pins s σ H Q I h => ?_⟩
  refine wpAny_Call_method m.base m.few m.line PySem.F.plainAttrs_dict PySem.F.slot_dict_get PySem.F.type_dict_get (thn (ho.run pins s σ H _ I h) fun u s1 ⟨x, H1, I1, rx, ex, q1⟩ => ?_)
  subst ex
  obtain rfl : u = Value.ref d := rx
  refine ⟨kd_type D I1, kd_attrs D I1, ?_⟩
  rw [m.trees]
  refine Calls.callWith_builtin rfl (Calls.evalArgs_plain (Calls.spliced_cons (thn (he.run pins s1 σ H1 _ I1 q1) fun iv s2 ⟨y, H2, I2, ry, q2⟩ =>
    Calls.spliced_cons (thn (hf.run pins s2 σ H2 _ I2 q2) fun fv s3 ⟨w, H3, I3, rw', z, r, ey, ⟨u0, hu, hr⟩, q3⟩ => Calls.spliced_nil ?_))))
  subst ey
  obtain ⟨t, rfl⟩ := ry
  refine call_meetsIn PySem.F.slot_dict_get (kd_type D I3) PySem.F.entry_dict_get (PySem.F.args_dict_get_3 _ _ _) (meets_dict_get_default (PySem.strKind X.prog X.w) d (PySem.strKind_is X.prog X.w z t) D.low fv) ⟨_, PySem.W.mapOf_K (prog := X.prog) I3.kIn D.at_ D.lit, ?_⟩
  rw [PySem.W.find_K D.at_ hu]
  refine ⟨r.getD w, H3, I3.tok _, ?_, q3⟩
  cases r <;> cases u0 <;> first | exact hr.elim | exact rw' | exact hr
theorem pe_kget1K {K : PySem.W.Frag} {w : World} (hK : X.K = K) (hw : X.w = w) (D : KDict K w d es n) (ho : PE X o td) (he : PE X e ty) (m : M1 X o "get" apos e cpos) : PE X (.Call (.Attribute o "get" apos) [e] [] cpos) (tKGet1 K d td ty) := by
  subst hK
  subst hw
  exact pe_kget1 D ho he m
theorem pe_kget2K {K : PySem.W.Frag} {w : World} (hK : X.K = K) (hw : X.w = w) (D : KDict K w d es n) (ho : PE X o td) (he : PE X e ty) (hf : PE X f tx) (m : M2 X o "get" apos e f cpos) : PE X (.Call (.Attribute o "get" apos) [e, f] [] cpos) (tKGet2 K d td ty tx) := by
  subst hK
  subst hw
  exact pe_kget2 D ho he hf m
end
end L2
namespace Kt
open PySem PySem.Spec PyProof.Rows L2 Evl
section
variable {K : PySem.W.Frag} {w : World} {d : Addr} {es : Array DictEntry} {n : Nat} {σ : L2.St} {H : Hp} {td ty tx : TE}
theorem kat_some {z : Str} {v : V} (h : KDct K w d z v) : KAt K d z (some v) := by
  obtain ⟨es, n, u, _, _, hn, hr⟩ := h
  exact ⟨some u, hn, hr⟩
theorem kat_none {z : Str} (h : PySem.W.nsIn K d z = some none) : KAt K d z none := ⟨none, h, trivial⟩
theorem ev_kget1 {z : Str} {r : Option V} (h : Ev td σ H (.ref d)) (k : Ev ty σ H (.str z)) (hk : KAt K d z r) : Ev (tKGet1 K d td ty) σ H (r.getD .non) := fun H1 e Q q =>
  h H1 e _ fun H2 e2 => ⟨rfl, k H2 (e.trans e2) _ fun H3 e3 => ⟨z, r, rfl, hk, q H3 (e2.trans e3)⟩⟩
theorem ev_kget2 {z : Str} {r : Option V} {x : V} (h : Ev td σ H (.ref d)) (k : Ev ty σ H (.str z)) (l : Ev tx σ H x) (hk : KAt K d z r) : Ev (tKGet2 K d td ty tx) σ H (r.getD x) := fun H1 e Q q =>
  h H1 e _ fun H2 e2 => ⟨rfl, k H2 (e.trans e2) _ fun H3 e3 => l H3 ((e.trans e2).trans e3) _ fun H4 e4 => ⟨z, r, rfl, hk, q H4 ((e2.trans e3).trans e4)⟩⟩
end
end Kt
namespace L2
open PySem PySem.Spec PyProof.Rows
section
variable {X : Cx} {C : Addr} {bmB : List Value} {B newId initId : String}
/-- X() -/
theorem pmk_own0 {x : Str} {p pos : Pos} (F : ExcBaseFacts B newId initId bmB) (q : PySem.W.excIn X.K C bmB newId = true) (gC : X.mg x = some (.ref C)) (kC : PySem.W.keepIn X.K (.ref C) = true) (r : Raises X (.ref C)) (hg : Gl X x)
    (hdb : (x == ("__debug__" : Str)) = false := by decide) : PMk X (.Call (.Name x p) [] [] pos) (fun _ H Q => Q (.ref C) none H) := by
  intro pins s σ H Q I h
  refine wpAny_Call_Name_kw (ld_glob I hg gC ?_ hdb)
  refine PySem.W.callWith_K0 I.kIn kC ?_
  show wpAny _ _ (call (.ref C) []) _ _ _
  obtain ⟨bm, N, nm, qn, bs, hdct, sn, sub, ab, col, dd, k0, k1, k2, k3, k5, mN, hC, hN, hni, T⟩ := exc_obj I.kIn q
  refine wpAny_call_exc_subT F T hC hN hni (fun h' e hm => ?_) (by show 0 ≤ sizeLine; omega)
  exact mk_of I hm r h (I.hok.gone hm.new)
end
end L2
namespace Kt
open PySem PySem.Spec PyProof.Rows L2 Evl
/-- a call of a def that may raise, where it does not -/
theorem passN {X : Cx} : Passes (L2.CX X.prog X.w) X (fun _ _ _ => False) := passes_call takes0 (fun _ _ _ _ h => h)
end Kt
namespace Kt
open PySem PySem.Spec PyProof.Rows L2 Evl
section
variable {σ : L2.St} {H : Hp} {ta tb : TE} {tz : TS} {D : Ends} {i j : Nat} {xs : List V} {w : V}
/-- a, b = a new list, e -/
theorem q_parL (h1 : EvL ta σ H xs) (h2 : ∀ H1, Ex H H1 → Ev tb σ H1 w) (k : ∀ p H1, H p = none → Ex H H1 → H1 p = some (.lst xs) → tz D ((σ.set i (some (.ref p))).set j (some w)) H1) : tSeq (tPar i j (tCons ta (tCons tb tNil))) tz D σ H :=
  h1 H (Ex.refl _) _ fun p H1 hp e1 hx => h2 H1 e1 H1 (Ex.refl _) _ fun H2 e2 => ⟨.ref p, w, rfl, k p H2 hp (e1.trans e2) (e2 _ _ hx)⟩
/-- a, b = e, f, with all that they do -/
theorem par_Q (h : tCons ta (tCons tb tNil) σ H fun vs H1 => ∃ v w, vs = [v, w] ∧ tz D ((σ.set i (some v)).set j (some w)) H1) : tSeq (tPar i j (tCons ta (tCons tb tNil))) tz D σ H := h
end
theorem flat1 : ∀ acc : List Nat, (acc.map fun c => [c]).flatten = acc
  | [] => rfl
  | c :: r => by show [c] ++ (r.map fun c => [c]).flatten = _; rw [flat1 r]; rfl
end Kt
namespace Kt
open PySem PySem.Spec PyProof.Rows L2 Evl
section
variable {K : PySem.W.Frag} {σ : L2.St} {H : Hp} {t1 t2 : TE} {b : Addr} {c n : Int} {Q : VK} {E : XK}
/-- (..)[take(bag, n)], the tuple made there -/
theorem rd_pickU {tl : TE} {xs : List V} (h0 : EvU tl σ H xs) (h1 : Ev t1 σ H (.ref b)) (h2 : Ev t2 σ H (.int n)) (hb : Bag H b c) (hc : c ≤ 1000000000) (n0 : 0 < n) (n1 : n ≤ 1000000) (hn : n ≤ xs.length)
    (k : ∀ (v : V) (H' : Hp), v ∈ xs → Kp b H H' → Bag H' b (c + 1) → Q v H') : tOp (rIxT K) tl (tCall spTake [] E (tCons t1 (tCons t2 tNil))) σ H Q :=
  h0 H (Ex.refl _) _ fun p H1 hp e1 hx => by
    refine rd_take (fun H' e' => h1 H' (e1.trans e')) (fun H' e' => h2 H' (e1.trans e')) (hb.ex e1) hc n0 n1 fun r H' r0 r1 kp bg => ?_
    have hr : r.toNat < xs.length := by omega
    have ha : atI xs r = some xs[r.toNat] := by
      have := atI_nat (List.getElem?_eq_getElem hr)
      rw [Int.toNat_of_nonneg r0] at this
      exact this
    exact ⟨p, xs, r, _, rfl, rfl, st_of (kp _ _ hx (hb.ne hp).symm), ha, k _ H' (List.getElem_mem hr) (Kp.exx e1 kp) bg⟩
/-- text[take(bag, n)] -/
theorem rd_pickS {tl : TE} {l : List Nat} (h0 : Ev tl σ H (.str (S l))) (h1 : Ev t1 σ H (.ref b)) (h2 : Ev t2 σ H (.int n)) (hb : Bag H b c) (hc : c ≤ 1000000000) (n0 : 0 < n) (n1 : n ≤ 1000000) (hn : n ≤ l.length) (hl : l.length ≤ 16000000)
    (k : ∀ (x : Nat) (H' : Hp), x ∈ l → Kp b H H' → Bag H' b (c + 1) → Q (.str (S [x])) H') : tOp rIxS tl (tCall spTake [] E (tCons t1 (tCons t2 tNil))) σ H Q :=
  h0 H (Ex.refl _) _ fun H1 e1 => by
    refine rd_take (fun H' e' => h1 H' (e1.trans e')) (fun H' e' => h2 H' (e1.trans e')) (hb.ex e1) hc n0 n1 fun r H' r0 r1 kp bg => ?_
    have hr : r.toNat < l.length := by omega
    have e : r = ((r.toNat : Nat) : Int) := (Int.toNat_of_nonneg r0).symm
    rw [e]
    exact rv_ixSn hl (List.getElem?_eq_getElem hr) H' (Ex.refl _) _ fun H2 e2 => k _ H2 (List.getElem_mem hr) ((Kp.exx e1 kp).trans (Kp.of e2)) (bg.ex e2)
/-- xs + [..] -/
theorem el_catV {i : Nat} {p : Addr} {xs ys : List V} {tb : TE} (h : σ[i]? = some (some (.ref p))) (hp : H p = some (.lst xs)) (k : EvL tb σ H ys) (hl : xs.length + ys.length ≤ 100000) : EvL (tOp rCat (tVar i) tb) σ H (xs ++ ys) := fun H1 e Q q =>
  ev_var h H1 e _ fun H2 e2 => k H2 (e.trans e2) _ fun r H3 hr e3 hr3 => ⟨p, r, xs, ys, rfl, rfl, e3 _ _ (e2 _ _ (e _ _ hp)), hr3, sz_of hl, fun m hm => q m _ (fresh_back (e2.trans e3) hm) ((e2.trans e3).trans (Ex.new hm)) upd_same⟩
/-- for turn in range(take(bag, n)) -/
theorem q_forDraw {D : Ends} {tz tu : TS} {j : Nat} (h1 : Ev t1 σ H (.ref b)) (h2 : Ev t2 σ H (.int n)) (hb : Bag H b c) (hc : c ≤ 1000000000) (n0 : 0 < n) (n1 : n ≤ 1000)
    (Pv : Nat → L2.St → Hp → Prop) (h0 : ∀ H1, Kp b H H1 → Bag H1 b (c + 1) → Pv 0 σ H1) (hs : ∀ (i : Nat) σ' H', (i : Int) < n - 1 → Pv i σ' H' → tu { D with nx := Pv (i + 1), ct := Pv (i + 1), bk := tz D } (σ'.set j (some (.int (i : Int)))) H')
    (hd : ∀ (i : Nat) σ' H', (i : Int) < n → Pv i σ' H' → tz D σ' H') : tSeq (tFor (iRng1 (tCons (tCall spTake [] E (tCons t1 (tCons t2 tNil))) tNil)) (gName j) tu) tz D σ H := by
  refine rd_take h1 h2 hb hc n0 (by omega) fun r H1 r0 r1 kp bg => ⟨r, rfl, by omega, by omega, for_range (lo := 0) (n := r.toNat) Pv (h0 H1 kp bg) (fun i σ' H' hi p => ?_) (fun σ' H' p => hd r.toNat σ' H' (by omega) p)⟩
  have e0 : (0 : Int) + (i : Int) = (i : Int) := Int.zero_add _
  show tu { D with nx := Pv (i + 1), ct := Pv (i + 1), bk := tz D } (σ'.set j (some (.int ((0 : Int) + (i : Int))))) H'
  rw [e0]
  exact hs i σ' H' (by omega) p
end
end Kt
namespace Kt
open PySem PySem.Spec PyProof.Rows L2 Evl
/-- for x in e, with all that e does -/
theorem s_forQ {K : PySem.W.Frag} {σ : L2.St} {H : Hp} {tl : TE} {g : TG} {tu : TS} {D : Ends} (h : tl σ H fun v H1 => tFor (iList K (tC v)) g tu D σ H1) : tFor (iList K tl) g tu D σ H := h
theorem q_forQ {K : PySem.W.Frag} {σ : L2.St} {H : Hp} {tl : TE} {g : TG} {tu tz : TS} {D : Ends} (h : tl σ H fun v H1 => tSeq (tFor (iList K (tC v)) g tu) tz D σ H1) : tSeq (tFor (iList K tl) g tu) tz D σ H := h
/-- a short text -/
def shortB : V → Bool
  | .str z => decide ((z.length : Int) < 900)
  | _ => false
theorem eqv_str (x : Str) : PyData.eqv (.str x) (.str x) = true := by show (x == x) = true; simp
end Kt
namespace Kt
open PySem PySem.Spec PyProof.Rows L2 Evl
theorem lay_str {t : List Nat} (h : Asc t) : (PyData.str (S t)).canLay0 = true := by
  show ((S t).cps.all fun c => decide (c < 0x110000)) = true
  rw [Array.all_eq_true_iff_forall_mem]
  intro c hc
  have hc' : c ∈ t := by simpa [S] using hc
  have := h c hc'
  exact decide_eq_true (by omega)
theorem str_shaped {t : List Nat} (h : Asc t) : SeqAt.shaped (.str (S t)) = true := by
  unfold SeqAt.shaped
  rw [lay_str h]
  rfl
end Kt

set_option Elab.async false
set_option linter.all false
set_option maxRecDepth 100000
set_option maxHeartbeats 2000000
namespace Kt
open PySem PySem.Spec PyProof.Rows L2 Evl
/-! ## the tokens' kinds, the signs of their strings; the errors' kinds -/
def kindsL : List Str := (["NAME", "NUMBER", "STRING", "OP", "COMMENT", "NL", "NEWLINE", "INDENT", "DEDENT", "FSTRING_START", "FSTRING_MIDDLE", "FSTRING_END", "ENDMARKER"] : List String).map Str.ofString
def errsL : List Str := (["join", "open", "deep", "dedent", "tabs", "string", "triple", "number", "character", "bracket", "brace"] : List String).map Str.ofString
namespace Sc
structure Tg (T : List Nat) (s : Sc) : Prop where
  tx : s.text = T
  fd : ∀ t ∈ s.found, (∀ c ∈ t.s, c ∈ T) ∧ t.kind ∈ kindsL
  fl : ∀ e, s.fail = some e → e.1 ∈ errsL
section
variable {T : List Nat} {s : Sc} {k : Str} {e a : Nat} {z : Int}
theorem tg_add (h : Tg T s) (hk : k ∈ kindsL) : Tg T (s.add k e) := by
  refine ⟨h.tx, fun t ht => ?_, h.fl⟩
  rcases List.mem_append.mp ht with y | y
  · exact h.fd t y
  · rw [List.mem_singleton.mp y]
    refine ⟨fun c hc => ?_, hk⟩
    have h1 : c ∈ s.text := List.mem_of_mem_drop (List.mem_of_mem_take hc)
    rw [h.tx] at h1
    exact h1
theorem tg_lex (h : Tg T s) (hk : k ∈ kindsL) : Tg T (s.lex k e) := tg_add (s := { s with begun := true }) ⟨h.tx, h.fd, h.fl⟩ hk
theorem tg_failed (h : Tg T s) (hk : k ∈ errsL) : Tg T (s.failed k z) := ⟨h.tx, h.fd, fun e he => by cases he; exact hk⟩
theorem tg_dedents : ∀ (r : List (Nat × Nat)) {s : Sc}, Tg T s → Tg T (dedents r s)
  | [], _, h => h
  | _ :: r, _, h => tg_dedents r (tg_add h (by decide +kernel))
theorem tg_pop {w : Nat} : ∀ (lv : List (Nat × Nat)) {s : Sc}, Tg T s → Tg T (popLv w e lv s)
  | [], _, h => ⟨h.tx, h.fd, h.fl⟩
  | p :: r, s', h => by
    rw [popLv]
    split
    · exact tg_pop r (tg_add (s := { s' with lv := r }) ⟨h.tx, h.fd, h.fl⟩ (by decide +kernel))
    · exact ⟨h.tx, h.fd, h.fl⟩
theorem tg_finish (h : Tg T s) : Tg T s.finish := by
  unfold Sc.finish
  split
  · exact tg_failed h (by decide +kernel)
  · split
    · exact tg_failed h (by decide +kernel)
    · have h2 : Tg T (dedents (s.lv.reverse.drop 1) (if s.begun then s.add "NEWLINE" s.at_ else s)) := by
        refine tg_dedents _ ?_
        split
        · exact tg_add h (by decide +kernel)
        · exact h
      have h3 := tg_add (e := (dedents (s.lv.reverse.drop 1) (if s.begun then s.add "NEWLINE" s.at_ else s)).at_) h2 (show ("ENDMARKER" : Str) ∈ kindsL by decide +kernel)
      exact ⟨h3.tx, h3.fd, h3.fl⟩
theorem strk {n : Nat} : (if n = 1 then ("string" : Str) else "triple") ∈ errsL := by split <;> decide +kernel
theorem tg_readString (h : Tg T s) : Tg T (s.readString a).1 := by
  unfold Sc.readString
  dsimp only
  split
  · exact h
  · split
    · exact tg_failed h strk
    · split
      · exact h
      · exact tg_lex h (by decide +kernel)
theorem tg_beginString (h : Tg T s) : Tg T (s.beginString a).1 := by
  unfold Sc.beginString
  dsimp only
  split
  · exact tg_failed h (by decide +kernel)
  · split
    · exact h
    · exact tg_lex (s := { s with fr := _ }) ⟨h.tx, h.fd, h.fl⟩ (by decide +kernel)
theorem tg_openBracket {m : Mark} {q : List Nat} (h : Tg T s) : Tg T (s.openBracket m q).1 := by
  unfold Sc.openBracket
  split
  · exact tg_failed h (by decide +kernel)
  · exact tg_lex (s := { s with fr := _ }) ⟨h.tx, h.fd, h.fl⟩ (by decide +kernel)
theorem tg_readWord (h : Tg T s) : Tg T s.readWord.1 := by
  unfold Sc.readWord
  dsimp only
  split
  · exact h
  · split
    · split
      · exact tg_readString h
      · split
        · exact tg_beginString h
        · exact tg_lex h (by decide +kernel)
    · exact tg_lex h (by decide +kernel)
theorem tg_rest {c : Nat} {own : Bool} (h : Tg T s) : Tg T (Sc.readOperator.rest s c own).1 := by
  unfold Sc.readOperator.rest
  dsimp only
  generalize (if opEnd s.text s.at_ s.fin = -2 ∧ own = true ∧ c = 33 then (s.at_ + 1 : Int) else opEnd s.text s.at_ s.fin) = e
  split
  · exact h
  · split
    · exact tg_failed h (by decide +kernel)
    · split
      · exact tg_openBracket h
      · split
        · split
          · exact tg_failed h (by decide +kernel)
          · split
            · exact tg_lex (s := { s with fr := _ }) ⟨h.tx, h.fd, h.fl⟩ (by decide +kernel)
            · exact tg_failed h (by decide +kernel)
        · exact tg_lex h (by decide +kernel)
theorem tg_readOperator {c : Nat} (h : Tg T s) : Tg T (s.readOperator c).1 := by
  unfold Sc.readOperator
  split
  · split
    · exact tg_lex (s := { s with fr := _ }) ⟨h.tx, h.fd, h.fl⟩ (by decide +kernel)
    · exact tg_rest h
  · exact tg_rest h
theorem tg_readLexeme {c : Nat} (h : Tg T s) : Tg T (s.readLexeme c).1 := by
  unfold Sc.readLexeme
  split
  · exact tg_readWord h
  · split
    · exact tg_readString h
    · split
      · dsimp only
        split
        · exact tg_failed h (by decide +kernel)
        · split
          · exact h
          · exact tg_lex h (by decide +kernel)
      · exact tg_readOperator h
theorem tg_addPart (h : Tg T s) : Tg T (s.addPart e) := by
  unfold Sc.addPart
  split
  · exact tg_add h (by decide +kernel)
  · exact h
theorem tg_endFormat {f : Frm} (h : Tg T s) : Tg T (s.endFormat f).1 := by
  unfold Sc.endFormat
  split
  · exact tg_failed h (by decide +kernel)
  · exact tg_add (s := { s with fr := _ }) ⟨h.tx, h.fd, h.fl⟩ (by decide +kernel)
theorem tg_readPart {f : Frm} (h : Tg T s) : Tg T (s.readPart f).1 := by
  unfold Sc.readPart
  dsimp only
  split
  · exact h
  · split
    · exact tg_failed h strk
    · have h2 := tg_addPart (e := (s.partEnd f).toNat) h
      split
      · exact tg_openBracket h2
      · exact tg_endFormat h2
      · split
        · exact tg_failed h2 (by decide +kernel)
        · exact tg_add (s := { s.addPart _ with fr := _ }) ⟨h2.tx, h2.fd, h2.fl⟩ (by decide +kernel)
theorem tg_readEmpty (h : Tg T s) : Tg T (s.readEmptyLine a).1 := by
  unfold Sc.readEmptyLine
  split
  · exact h
  · dsimp only
    refine tg_add ?_ (by decide +kernel)
    split
    · exact tg_add (s := { s with at_ := a }) ⟨h.tx, h.fd, h.fl⟩ (by decide +kernel)
    · exact ⟨h.tx, h.fd, h.fl⟩
theorem tg_compare {g : List Nat} (h : Tg T s) : Tg T (s.compare g e).1 := by
  unfold Sc.compare
  dsimp only
  split
  · split
    · exact tg_failed h (by decide +kernel)
    · have h2 := tg_add (s := { s with lv := (widthOf g, g.length) :: s.lv }) (k := "INDENT") (e := e) ⟨h.tx, h.fd, h.fl⟩ (by decide +kernel)
      exact ⟨h2.tx, h2.fd, h2.fl⟩
  · split
    · split
      · exact tg_failed h (by decide +kernel)
      · split
        · exact tg_failed h (by decide +kernel)
        · have h2 := tg_pop (w := widthOf g) (e := e) s.lv (s := { s with at_ := e }) ⟨h.tx, h.fd, h.fl⟩
          exact ⟨h2.tx, h2.fd, h2.fl⟩
    · split
      · exact tg_failed h (by decide +kernel)
      · exact ⟨h.tx, h.fd, h.fl⟩
theorem tg_indent (h : Tg T s) : Tg T s.readIndentation.1 := by
  unfold Sc.readIndentation
  dsimp only
  split
  · split
    · unfold Sc.readLastGap
      refine tg_finish ?_
      split
      · exact tg_add (s := { s with at_ := _ }) ⟨h.tx, h.fd, h.fl⟩ (by decide +kernel)
      · exact h
    · exact h
  · split
    · exact tg_readEmpty h
    · exact tg_compare h
theorem tg_readOn1 (h : Tg T s) : Tg T s.readOn1.1 := by
  unfold Sc.readOn1
  split
  · split
    · exact tg_finish h
    · exact h
  · split
    · unfold Sc.readJoin
      split
      · exact h
      · split
        · exact tg_failed h (by decide +kernel)
        · exact ⟨h.tx, h.fd, h.fl⟩
    · split
      · unfold Sc.readComment
        split
        · exact h
        · exact tg_add h (by decide +kernel)
      · split
        · unfold Sc.readLineFeed
          split
          · exact tg_add h (by decide +kernel)
          · have h2 := tg_add (k := "NEWLINE") (e := s.at_ + 1) h (by decide +kernel)
            exact ⟨h2.tx, h2.fd, h2.fl⟩
        · exact tg_readLexeme h
theorem tg_step (h : Tg T s) : Tg T (Sc.step s).1 := by
  unfold Sc.step
  split
  · exact tg_readPart h
  · split
    · exact tg_indent h
    · refine tg_readOn1 ?_
      unfold Sc.skip
      split
      · exact ⟨h.tx, h.fd, h.fl⟩
      · exact h
theorem tg_run : ∀ (n : Nat) {s : Sc}, Tg T s → Tg T (Sc.run n s)
  | 0, _, h => h
  | n + 1, s', h => by
    rw [Sc.run]
    split
    · exact h
    · split
      · exact tg_run n (tg_step h)
      · exact tg_step h
theorem tg_new : Tg [] Sc.new := ⟨rfl, fun _ h => absurd h List.not_mem_nil, fun _ h => nomatch h⟩
theorem tg_feed {l : List Nat} (h : Tg T s) : Tg (T ++ l) (s.feed l) := tg_run _ ⟨by show s.text ++ l = _; rw [h.tx], fun t ht => ⟨fun c hc => List.mem_append_left _ ((h.fd t ht).1 c hc), (h.fd t ht).2⟩, h.fl⟩
theorem tg_close (h : Tg T s) : Tg T s.close := tg_run _ ⟨h.tx, h.fd, h.fl⟩
theorem tg_scanned {l : List Nat} : Tg l (scanned l) := by
  have := tg_close (tg_feed (l := l) tg_new)
  rw [List.nil_append] at this
  exact this
end
end Sc
/-! ## tokens as data can be compared -/
theorem kinds_lay : (kindsL ++ errsL).all (fun k => (PyData.str k).canLay0 && decide ((PyData.str k).depth ≤ 1)) = true := by decide +kernel
theorem lay_kind {k : Str} (h : k ∈ kindsL ∨ k ∈ errsL) : (PyData.str k).canLay0 = true := (Bool.and_eq_true_iff.mp (List.all_eq_true.mp kinds_lay k (List.mem_append.mpr h))).1
theorem lay_strA {t : List Nat} (h : Asc t) : (PyData.str (S t)).canLay0 = true := by
  show ((S t).cps.all fun c => decide (c < 0x110000)) = true
  rw [Array.all_eq_true_iff_forall_mem]
  intro c hc
  have hc' : c ∈ t := by simpa [S] using hc
  have := h c hc'
  exact decide_eq_true (by omega)
theorem lay_tk {t : Tk} (h : Asc t.s) (hk : t.kind ∈ kindsL) : (tkD t).canLay0 = true := by
  show PyData.canLayAll0 [.str t.kind, .str (S t.s), .int (t.at_ : Int)] = true
  refine lay_all fun d hd => ?_
  simp only [List.mem_cons, List.not_mem_nil, or_false] at hd
  rcases hd with rfl | rfl | rfl
  · exact lay_kind (Or.inl hk)
  · exact lay_strA h
  · rfl
theorem dep_tk (t : Tk) : (tkD t).depth ≤ 3 := by
  show max (PyData.depth (.str t.kind)) (max (PyData.depth (.str (S t.s))) (max (PyData.depth (.int (t.at_ : Int))) 0)) + 1 ≤ 3
  show max 0 (max 0 (max 0 0)) + 1 ≤ 3
  decide
/-- good tokens -/
def TkOk (ts : List Tk) : Prop := ∀ t ∈ ts, Asc t.s ∧ t.kind ∈ kindsL
theorem tks_lay {ts : List Tk} (h : TkOk ts) : ∀ d ∈ ts.map tkD, d.canLay0 = true ∧ d.depth ≤ 3 := fun d hd => by
  obtain ⟨t, ht, rfl⟩ := List.mem_map.mp hd
  exact ⟨lay_tk (h t ht).1 (h t ht).2, dep_tk t⟩
theorem tks_shaped {ts : List Tk} (h : TkOk ts) : SeqAt.shaped (.list (ts.map tkD)) = true := shaped_list (k := 3) (tks_lay h) (by decide)
theorem tks_eqv {ts : List Tk} (h : TkOk ts) : PyData.eqv (.list (ts.map tkD)) (.list (ts.map tkD)) = true := PySem.SeqAt.eqv_refl _ (lay_all fun d hd => (tks_lay h d hd).1)
def FlOk (o : Option (Str × Int)) : Prop := ∀ e, o = some e → e.1 ∈ errsL
theorem fl_lay {o : Option (Str × Int)} (h : FlOk o) : (flD o).canLay0 = true := by
  cases o with
  | none => rfl
  | some e =>
    show PyData.canLayAll0 [.str e.1, .int e.2] = true
    refine lay_all fun d hd => ?_
    simp only [List.mem_cons, List.not_mem_nil, or_false] at hd
    rcases hd with rfl | rfl
    · exact lay_kind (Or.inr (h e rfl))
    · rfl
theorem fl_shaped {o : Option (Str × Int)} (h : FlOk o) : SeqAt.shaped (flD o) = true := by
  cases o with
  | none => rfl
  | some e => exact shaped_tup (k := 1) (fun d hd => by
      simp only [List.mem_cons, List.not_mem_nil, or_false] at hd
      rcases hd with rfl | rfl
      · exact ⟨lay_kind (Or.inr (h e rfl)), Nat.zero_le _⟩
      · exact ⟨rfl, Nat.zero_le _⟩) (by decide)
theorem fl_eqv {o : Option (Str × Int)} (h : FlOk o) : PyData.eqv (flD o) (flD o) = true := PySem.SeqAt.eqv_refl _ (fl_lay h)
theorem tg_ok {T : List Nat} {s : Sc} (h : Sc.Tg T s) (hT : Asc T) : TkOk s.found ∧ FlOk s.fail := ⟨fun t ht => ⟨fun c hc => hT c ((h.fd t ht).1 c hc), (h.fd t ht).2⟩, h.fl⟩
end Kt

set_option Elab.async false
set_option linter.all false
set_option maxRecDepth 100000
set_option maxHeartbeats 2000000
namespace Kt
open PySem PySem.Spec PyProof.Rows L2 Evl
/-! ## a reader in the heap -/
section
variable {C CF CR rx dr : Addr} {o : Own} {H H' H2 : Hp} {s : Sc} {fs : List (Str × V)} {n : Nat} {cl : Bool}
/-- not the attributes of a frame -/
def NoFr (fs : List (Str × V)) : Prop := ∀ m a q : V, fs ≠ ([("mark", m), ("at", a), ("quote", q)] : List (Str × V))
/-- another instance is written -/
theorem Rp.kr (r : Rp C CF o H s) (hx : H rx = some (.ins CR dr fs)) (hf : NoFr fs) (hn : o.x ≠ rx) (k : Kp rx H H') : Rp C CF o H' s := by
  obtain ⟨⟨fv, h1, h2⟩, ⟨vs, h3, h4⟩, ⟨ws, h5, h6⟩, ⟨us, h7, h8⟩, n1, n2, n3⟩ := r
  have nl : ∀ {a : Addr} {xs : List V}, H a = some (.lst xs) → a ≠ rx := fun h z => by rw [z, hx] at h; cases h
  have nt : ∀ {a : Addr} {xs : List V}, H a = some (.tup xs) → a ≠ rx := fun h z => by rw [z, hx] at h; cases h
  have hfl : FlV H' fv s.fail := by
    cases hs : s.fail with
    | none => rw [hs] at h2; exact h2
    | some p =>
      rw [hs] at h2
      obtain ⟨q, e, h⟩ := h2
      exact ⟨q, e, k _ _ h (nt h)⟩
  refine ⟨⟨fv, k _ _ h1 hn, hfl⟩, ⟨vs, k _ _ h3 (nl h3), h4.imp fun v p h => ?_⟩, ⟨ws, k _ _ h5 (nl h5), h6.imp fun v f h => ?_⟩, ⟨us, k _ _ h7 (nl h7), h8.imp fun v t h => ?_⟩, n1, n2, n3⟩
  · obtain ⟨q, e, h⟩ := h
    exact ⟨q, e, k _ _ h (nt h)⟩
  · obtain ⟨q, dq, e, h⟩ := h
    exact ⟨q, dq, e, k _ _ h (fun z => by rw [z, hx] at h; cases h; exact hf _ _ _ rfl)⟩
  · obtain ⟨q, e, h⟩ := h
    exact ⟨q, e, k _ _ h (nt h)⟩
def rdF (o : Own) (n : Nat) (cl : Bool) : List (Str × V) := [("scanner", .ref o.x), ("size", .int (n : Int)), ("is_closed", .bl cl)]
/-- at rx: a reader, its scanner in the state s -/
structure RdV (C CF CR : Addr) (H : Hp) (rx : Addr) (o : Own) (s : Sc) (n : Nat) (cl : Bool) : Prop where
  hr : ∃ dr, H rx = some (.ins CR dr (rdF o n cl))
  rp : Rp C CF o H s
  ne : o.x ≠ rx
theorem rdF_no : NoFr (rdF o n cl) := fun m a q h => by
  have := (List.cons.inj h).1
  have h2 : ("scanner" : Str) = "mark" := congrArg Prod.fst this
  exact absurd h2 (by decide)
theorem RdV.ex (r : RdV C CF CR H rx o s n cl) (e : Ex H H') : RdV C CF CR H' rx o s n cl := by
  obtain ⟨⟨dr, h⟩, rp, ne⟩ := r
  exact ⟨⟨dr, e _ _ h⟩, rp.ex e, ne⟩
/-- all but the reader's own stands -/
def KR (rx : Addr) (o : Own) (H H' : Hp) : Prop := ∀ a u, H a = some u → a ≠ rx → a ≠ o.x → a ≠ o.l → a ≠ o.f → a ≠ o.g → H' a = some u
theorem KR.of (e : Ex H H') : KR rx o H H' := fun a u h _ _ _ _ _ => e a u h
theorem KR.trans (a : KR rx o H H') (b : KR rx o H' H2) : KR rx o H H2 := fun c u h n0 n1 n2 n3 n4 => b c u (a c u h n0 n1 n2 n3 n4) n0 n1 n2 n3 n4
theorem KR.ko (k : KO o H H') : KR rx o H H' := fun a u h _ n1 n2 n3 n4 => k a u h n1 n2 n3 n4
theorem KR.kp (k : Kp rx H H') : KR rx o H H' := fun a u h n0 _ _ _ _ => k a u h n0
theorem RdV.nl (r : RdV C CF CR H rx o s n cl) : rx ≠ o.l ∧ rx ≠ o.f ∧ rx ≠ o.g := by
  obtain ⟨⟨dr, h⟩, ⟨_, ⟨vs, h3, _⟩, ⟨ws, h5, _⟩, ⟨us, h7, _⟩, _⟩, _⟩ := r
  refine ⟨fun z => ?_, fun z => ?_, fun z => ?_⟩ <;> rw [z] at h
  · rw [h] at h3; cases h3
  · rw [h] at h5; cases h5
  · rw [h] at h7; cases h7
/-- the scanner has worked -/
theorem RdV.ko {s' : Sc} (r : RdV C CF CR H rx o s n cl) (k : KO o H H') (rp : Rp C CF o H' s') : RdV C CF CR H' rx o s' n cl := by
  obtain ⟨n1, n2, n3⟩ := r.nl
  obtain ⟨⟨dr, h⟩, _, ne⟩ := r
  exact ⟨⟨dr, k _ _ h (Ne.symm ne) n1 n2 n3⟩, rp, ne⟩
/-- an attribute of the reader is set -/
theorem RdV.set {n' : Nat} {cl' : Bool} (r : RdV C CF CR H rx o s n cl) (k : Kp rx H H') {dr : Addr} (h : H' rx = some (.ins CR dr (rdF o n' cl'))) : RdV C CF CR H' rx o s n' cl' := by
  obtain ⟨⟨d, h0⟩, rp, ne⟩ := r
  exact ⟨⟨dr, h⟩, rp.kr h0 rdF_no ne k, ne⟩
theorem kr_none {s' : Sc} {n' : Nat} {cl' : Bool} (k : KR rx o H H') (r : RdV C CF CR H' rx o s' n' cl') {p : Addr} (hp : H' p = none) : H p = none := by
  obtain ⟨⟨dr, h0⟩, rp, ne⟩ := r
  have nf := rp.fresh hp
  cases e : H p with
  | none => rfl
  | some u => rw [k p u e (fun z => by rw [z, h0] at hp; cases hp) nf.1 nf.2.1 nf.2.2.1 nf.2.2.2] at hp; cases hp
end
section
variable {K : PySem.W.Frag} {C CF CR rx : Addr} {o : Own} {H : Hp} {s : Sc} {n : Nat} {cl : Bool} {σ : L2.St} {ta te : TE} {ts : TA}
/-- a method of the reader -/
theorem te_rmeth {sp : Sp} {E : XK} {m : Str} {vs : List V} {Q : VK} (r : RdV C CF CR H rx o s n cl) (ho : Ev ta σ H (.ref rx)) (hm : (rdF o n cl).lookup m = none) (ha : EvA ts σ H vs) (h : ∀ H1, Ex H H1 → RdV C CF CR H1 rx o s n cl → sp (.ref rx :: (vs ++ [])) H1 Q E) : tMeth CR m sp [] E ta ts σ H Q := by
  obtain ⟨dr, h1⟩ := r.hr
  exact ho H (Ex.refl _) _ fun H1 e1 => ⟨rx, dr, _, rfl, e1 _ _ h1, hm, ha H1 e1 _ fun H2 e2 => h H2 (e1.trans e2) (r.ex (e1.trans e2))⟩
theorem ev_rscan (r : RdV C CF CR H rx o s n cl) (c : Cls K CR) (na : NoAttr K CR "scanner") (h : Ev ta σ H (.ref rx)) : Ev (tFld K ta "scanner") σ H (.ref o.x) := by
  obtain ⟨dr, h1⟩ := r.hr
  exact ev_fld h h1 c na rfl
end
end Kt
namespace Kt
open PySem PySem.Spec PyProof.Rows L2 Evl
section
variable {K : PySem.W.Frag} {σ : L2.St} {H : Hp} {ta te : TE} {tz : TS} {D : Ends} {f : Str} {C : Addr} {sp : Sp} {E : XK} {Q : VK}
theorem q_fldQ (h : te σ H fun y H1 => ta σ H1 fun x H2 => ∃ a C dx fs, x = .ref a ∧ H2 a = some (.ins C dx fs) ∧ Cls K C ∧ NoAttr K C f ∧ fs.length < 1000 ∧ tz D σ (upd H2 a (.ins C dx (putF f y fs)))) : tSeq (sFld K ta te f) tz D σ H := h
theorem q_dropQ (h : te σ H fun _ H1 => tz D σ H1) : tSeq (tDrop te) tz D σ H := h
theorem mk0_Q (h : ∀ x dx, H x = none → H dx = none → dx ≠ x → sp [.ref x] (upd (upd H dx (.own x)) x (.ins C dx [])) (fun v H2 => v = .non ∧ Q (.ref x) H2) E) : tMake C sp [] E tNil σ H Q := h
end
end Kt
namespace Kt
open PySem PySem.Spec PyProof.Rows L2 Evl
section
variable {C CF CR rx p : Addr} {o : Own} {H0 H H1 H2 : Hp} {s : Sc} {n : Nat} {cl : Bool}
/-- not of the reader's own things -/
def Off (rx : Addr) (o : Own) (p : Addr) : Prop := p ≠ rx ∧ p ≠ o.x ∧ p ≠ o.l ∧ p ≠ o.f ∧ p ≠ o.g
theorem RdV.off (r : RdV C CF CR H rx o s n cl) (hp : H p = none) : Off rx o p := by
  obtain ⟨⟨dr, h⟩, rp, _⟩ := r
  have nf := rp.fresh hp
  exact ⟨Ne.symm (ne_of_none h hp), nf.1, nf.2.1, nf.2.2.1, nf.2.2.2⟩
theorem Off.kr (f : Off rx o p) (k : KR rx o H1 H2) {u : HO} (h : H1 p = some u) : H2 p = some u := k p u h f.1 f.2.1 f.2.2.1 f.2.2.2.1 f.2.2.2.2
theorem tk_kr (r : RdV C CF CR H1 rx o s n cl) (k : KR rx o H1 H2) {v : V} {t : Tk} (h : TkV H1 v t) : TkV H2 v t := by
  obtain ⟨q, e, h⟩ := h
  obtain ⟨⟨dr, h0⟩, ⟨⟨fv, h1, _⟩, ⟨vs, h3, _⟩, ⟨ws, h5, _⟩, ⟨us, h7, _⟩, _⟩, _⟩ := r
  refine ⟨q, e, k q _ h (fun z => ?_) (fun z => ?_) (fun z => ?_) (fun z => ?_) (fun z => ?_)⟩ <;> rw [z] at h
  · rw [h0] at h; cases h
  · rw [h1] at h; cases h
  · rw [h3] at h; cases h
  · rw [h5] at h; cases h
  · rw [h7] at h; cases h
/-- a list of tokens at p -/
def TkL (H : Hp) (ts : List Tk) (p : Addr) : Prop := ∃ vs, H p = some (.lst vs) ∧ A2 (TkV H) vs ts
theorem TkL.ex {ts : List Tk} (h : TkL H1 ts p) (e : Ex H1 H2) : TkL H2 ts p := by
  obtain ⟨vs, h1, h2⟩ := h
  exact ⟨vs, e _ _ h1, h2.imp fun _ _ => (Ke.of e).tk⟩
theorem TkL.kr {ts : List Tk} (h : TkL H1 ts p) (r : RdV C CF CR H1 rx o s n cl) (k : KR rx o H1 H2) (f : Off rx o p) : TkL H2 ts p := by
  obtain ⟨vs, h1, h2⟩ := h
  exact ⟨vs, f.kr k h1, h2.imp fun _ _ => tk_kr r k⟩
/-- the reader is new since H0 -/
def New0 (H0 : Hp) (rx : Addr) (o : Own) : Prop := H0 rx = none ∧ H0 o.x = none ∧ H0 o.l = none ∧ H0 o.f = none ∧ H0 o.g = none
theorem New0.ex (w : New0 H0 rx o) (e : Ex H0 H1) (k : KR rx o H1 H2) : Ex H0 H2 := fun a u h =>
  k a u (e a u h) (ne_of_none h w.1) (ne_of_none h w.2.1) (ne_of_none h w.2.2.1) (ne_of_none h w.2.2.2.1) (ne_of_none h w.2.2.2.2)
theorem TkL.cat {q m : Addr} {ts us : List Tk} {vs ws : List V} (h1 : H p = some (.lst vs)) (h2 : A2 (TkV H) vs ts) (h3 : H q = some (.lst ws)) (h4 : A2 (TkV H) ws us) (hm : H m = none) : TkL (L2.upd H m (.lst (vs ++ ws))) (ts ++ us) m :=
  ⟨vs ++ ws, upd_same, (h2.app h4).imp fun _ _ => (Ke.of (Ex.new hm)).tk⟩
theorem tkL_dp {K : PySem.W.Frag} {ts : List Tk} (h : TkL H ts p) : Dp K H (.ref p) (.list (ts.map tkD)) := by
  obtain ⟨vs, h1, h2⟩ := h
  exact .lst (sq_of h1) (tks_dp h2)
/-- a + b of lists of tokens -/
theorem cat_tk {K : PySem.W.Frag} {q : Addr} {ts us : List Tk} {Q : VK} (h1 : TkL H ts p) (h2 : TkL H us q) (hl : ts.length + us.length ≤ 100000) (k : ∀ m H', H m = none → Ex H H' → TkL H' (ts ++ us) m → Q (.ref m) H') : rCat (.ref p) (.ref q) H Q := by
  obtain ⟨vs, h3, h4⟩ := h1
  obtain ⟨ws, h5, h6⟩ := h2
  exact ⟨p, q, vs, ws, rfl, rfl, h3, h5, sz_of (by rw [h4.len, h6.len]; exact hl), fun m hm => k m _ hm (Ex.new hm) (TkL.cat h3 h4 h5 h6 hm)⟩
end
end Kt
namespace Kt
open PySem PySem.Spec PyProof.Rows L2 Evl
section
variable {K : PySem.W.Frag} {C CF CR rx p tl : Addr} {o : Own} {H H' H0 H1 H2 : Hp} {s : Sc} {n : Nat} {cl : Bool} {σ : L2.St} {ta te tb : TE} {tu tw : TS} {D : Ends}
/-- another list is written -/
theorem RdV.kl (r : RdV C CF CR H rx o s n cl) (f : Off rx o tl) {ys : List V} (h : H tl = some (.lst ys)) (k : Kp tl H H') : RdV C CF CR H' rx o s n cl := by
  obtain ⟨⟨dr, h0⟩, ⟨⟨fv, h1, h2⟩, ⟨vs, h3, h4⟩, ⟨ws, h5, h6⟩, ⟨us, h7, h8⟩, n1, n2, n3⟩, ne⟩ := r
  have nt : ∀ {a : Addr} {xs : List V}, H a = some (.tup xs) → a ≠ tl := fun h' z => by rw [z, h] at h'; cases h'
  have nf : ∀ {a c d : Addr} {fs : List (Str × V)}, H a = some (.ins c d fs) → a ≠ tl := fun h' z => by rw [z, h] at h'; cases h'
  have hfl : FlV H' fv s.fail := by
    cases hs : s.fail with
    | none => rw [hs] at h2; exact h2
    | some p =>
      rw [hs] at h2
      obtain ⟨q, e, h⟩ := h2
      exact ⟨q, e, k _ _ h (nt h)⟩
  refine ⟨⟨dr, k _ _ h0 (Ne.symm f.1)⟩, ⟨⟨fv, k _ _ h1 (Ne.symm f.2.1), hfl⟩, ⟨vs, k _ _ h3 (Ne.symm f.2.2.1), h4.imp fun v p h => ?_⟩, ⟨ws, k _ _ h5 (Ne.symm f.2.2.2.1), h6.imp fun v f h => ?_⟩, ⟨us, k _ _ h7 (Ne.symm f.2.2.2.2), h8.imp fun v t h => ?_⟩, n1, n2, n3⟩, ne⟩
  · obtain ⟨q, e, h⟩ := h
    exact ⟨q, e, k _ _ h (nt h)⟩
  · obtain ⟨q, dq, e, h⟩ := h
    exact ⟨q, dq, e, k _ _ h (nf h)⟩
  · obtain ⟨q, e, h⟩ := h
    exact ⟨q, e, k _ _ h (nt h)⟩
theorem TkL.kl {ts : List Tk} (t : TkL H ts p) {ys : List V} (h : H tl = some (.lst ys)) (k : Kp tl H H') (n : p ≠ tl) : TkL H' ts p := by
  obtain ⟨vs, h1, h2⟩ := t
  refine ⟨vs, k _ _ h1 n, h2.imp fun v t h' => ?_⟩
  obtain ⟨q, e, h'⟩ := h'
  exact ⟨q, e, k _ _ h' (fun z => by rw [z, h] at h'; cases h')⟩
theorem ifS_Q (h : te σ H fun x H1 => ∃ c, x = .bl c ∧ if c = true then tu D σ H1 else tw D σ H1) : tIfS (tTest te) tu tw D σ H := h
/-- two values are told apart, or not: here they are the same -/
theorem neD_no {x y : V} {d : PyData} {Q : VK} (h1 : Dp K H x d) (h2 : Dp K H y d) (sh : SeqAt.shaped d = true) (hq : PyData.eqv d d = true) (k : Q (.bl false) H) : rNeD K x y H Q := ⟨d, d, h1, h2, sh, sh, by rw [hq]; exact k⟩
theorem ed_list {ds : List PyData} {xs : List V} (h : EvL te σ H xs) (k : ∀ H', Ex H H' → DpAll K H' xs ds) : Ed K te σ H (.list ds) := fun H1 e1 Q q => h H1 e1 Q fun p H2 hp e2 h2 => q _ H2 e2 (.lst (sq_of h2) (k H2 (e1.trans e2)))
theorem ed_tkL {ts : List Tk} (h : Ev te σ H (.ref p)) (t : TkL H ts p) : Ed K te σ H (.list (ts.map tkD)) := ed_of h (tkL_dp t)
end
end Kt

set_option Elab.async false
set_option linter.all false
set_option maxRecDepth 100000
set_option maxHeartbeats 2000000
namespace Kt
open PySem PySem.Spec PyProof.Rows L2 Evl
/-! ## the reader's states along a text -/
def pfx (l : List Nat) (i : Nat) : Sc := Sc.new.feed (l.take i)
theorem pfx_good {l : List Nat} {i : Nat} (hl : l.length ≤ 10000) : Sc.Good (pfx l i) ∧ (pfx l i).text = l.take i := by
  have h := Sc.good_feed (s := Sc.new) (l := l.take i) Sc.good_new (by show ([] ++ l.take i).length ≤ _; rw [List.nil_append, List.length_take]; omega)
  exact ⟨h.1, by rw [show (pfx l i).text = _ from h.2]; rfl⟩
theorem pfx_feed {l m : List Nat} {i : Nat} (hl : l.length ≤ 5000) (hm : m.length ≤ 5000) : (pfx l i).feed m = Sc.new.feed (l.take i ++ m) := by
  refine Sc.feed_feed Sc.good_new ?_
  show ([] ++ l.take i ++ m).length ≤ _
  rw [List.nil_append, List.length_append, List.length_take]
  omega
theorem pfx_next {l : List Nat} {i c : Nat} (hl : l.length ≤ 5000) (hc : l[i]? = some c) : (pfx l i).feed [c] = pfx l (i + 1) := by
  rw [pfx_feed hl (by simp), ← take_more hc]
  rfl
theorem feed_parts {s : Sc} {m : List Nat} : s.found ++ (s.feed m).found.drop s.found.length = (s.feed m).found := pf_parts pf_feed
theorem close_parts {s : Sc} : s.found ++ s.close.found.drop s.found.length = s.close.found := pf_parts pf_close
theorem a2_tk {H : Hp} : ∀ {xs : List V} {ts : List Tk}, A2 (TpV H) xs (ts.map tkRow) → A2 (TkV H) xs ts
  | _, [], h => by cases h; exact .nil
  | _, t :: ts, h => by
    cases h with
    | cons h1 h2 => exact .cons h1 (a2_tk h2)
theorem a2_take {α : Type} {R : V → α → Prop} : ∀ {vs : List V} {as : List α} (n : Nat), A2 R vs as → A2 R (vs.take n) (as.take n)
  | _, _, 0, _ => by rw [List.take_zero, List.take_zero]; exact .nil
  | _, _, n + 1, .nil => by rw [List.take_nil, List.take_nil]; exact .nil
  | _, _, n + 1, .cons r t => by rw [List.take_succ_cons, List.take_succ_cons]; exact .cons r (a2_take n t)
theorem cutV_to {xs : List V} {i : Nat} : cutV xs none (some (i : Int)) = xs.take i := by
  unfold cutV
  rw [HT.sIx_nat, HT.sIx_none]
  simp [List.take_eq_take_iff]
theorem a2_get {α : Type} {R : V → α → Prop} : ∀ {vs : List V} {as : List α} {i : Nat} {a : α}, A2 R vs as → as[i]? = some a → ∃ v, vs[i]? = some v ∧ R v a
  | _, _, _, _, .nil, e => by simp at e
  | _, _, 0, _, .cons r _, e => by simp at e; subst e; exact ⟨_, rfl, r⟩
  | _, _, i + 1, a, .cons _ t, e => by
    obtain ⟨v, h1, h2⟩ := a2_get (i := i) (a := a) t (by simpa using e)
    exact ⟨v, by simpa using h1, h2⟩
section
variable {K : PySem.W.Frag} {σ : L2.St} {H : Hp} {te ta tb : TE} {tu : TA} {tz : TS} {D : Ends} {i : Nat}
theorem q_asgRN {rows : List (List V)} (t : EvRA tu σ H rows) (hl : rows.length ≤ 100000) (k : ∀ p xs H1, H p = none → Ex H H1 → H1 p = some (.lst xs) → A2 (TpV H1) xs rows → tz D (σ.set i (some (.ref p))) H1) : tSeq (tAsg (tLst tu) (gName i)) tz D σ H :=
  t H (Ex.refl _) _ fun xs H2 e2 ax => ⟨sz_of (by rw [ax.len]; exact hl), fun p hp => k p xs _ (fresh_back e2 hp) (e2.trans (Ex.new hp)) upd_same (tps_mono (Ex.new hp) ax)⟩
/-- a new list of such tokens -/
def EvTk (te : TE) (σ : L2.St) (H : Hp) (ts : List Tk) : Prop := ∀ H1, Ex H H1 → ∀ Q : VK, (∀ p H2, Ex H1 H2 → TkL H2 ts p → Q (.ref p) H2) → te σ H1 Q
theorem etk_of {ts : List Tk} {xs : List V} (h : EvL te σ H xs) (a : ∀ H', Ex H H' → A2 (TkV H') xs ts) : EvTk te σ H ts := fun H1 e1 Q q => h H1 e1 Q fun p H2 hp e2 h2 => q p H2 e2 ⟨xs, h2, a H2 (e1.trans e2)⟩
theorem etk_if {t : TT} {b : Bool} {ts : List Tk} (h : EvT t σ H b) (h1 : b = true → EvTk ta σ H ts) (h2 : b = false → EvTk tb σ H ts) : EvTk (tIf t ta tb) σ H ts := fun H1 e1 Q q => h H1 e1 _ fun H2 e2 => by
  cases b with
  | true => exact h1 rfl H2 (e1.trans e2) Q fun p H3 e3 t3 => q p H3 (e2.trans e3) t3
  | false => exact h2 rfl H2 (e1.trans e2) Q fun p H3 e3 t3 => q p H3 (e2.trans e3) t3
theorem q_asgTk {ts : List Tk} (h : EvTk te σ H ts) (k : ∀ p H1, Ex H H1 → TkL H1 ts p → tz D (σ.set i (some (.ref p))) H1) : tSeq (tAsg te (gName i)) tz D σ H := h H (Ex.refl _) _ fun p H1 e1 t1 => k p H1 e1 t1
end
theorem q_parLr {σ : L2.St} {H : Hp} {ta tb : TE} {tz : TS} {D : Ends} {i j : Nat} {v : V} {xs : List V} (h1 : Ev ta σ H v) (h2 : ∀ H1, Ex H H1 → EvL tb σ H1 xs) (k : ∀ p H1, H p = none → Ex H H1 → H1 p = some (.lst xs) → tz D ((σ.set i (some v)).set j (some (.ref p))) H1) : tSeq (tPar i j (tCons ta (tCons tb tNil))) tz D σ H :=
  h1 H (Ex.refl _) _ fun H1 e1 => h2 H1 e1 H1 (Ex.refl _) _ fun p H2 hp e2 hx => ⟨v, .ref p, rfl, k p H2 (fresh_back e1 hp) (e1.trans e2) hx⟩
section
variable {K : PySem.W.Frag} {σ : L2.St} {H : Hp} {t1 t2 ta tb te : TE} {b : Addr} {c n : Int} {Q : VK} {E : XK} {tz tu tw : TS} {t : TT} {D : Ends} {i j l : Nat}
theorem par3_Q (h : tCons ta (tCons tb (tCons te tNil)) σ H fun vs H1 => ∃ v w u, vs = [v, w, u] ∧ tz D (((σ.set i (some v)).set j (some w)).set l (some u)) H1) : tSeq (tPar3 i j l (tCons ta (tCons tb (tCons te tNil)))) tz D σ H := h
theorem ifOr_Q (h : te σ H fun x H1 => ∃ c, x = .bl c ∧ if c = true then tu D σ H1 else tIfS t tu tw D σ H1) : tIfS (tOr (tTest te) t) tu tw D σ H := h
theorem el_cat2 {xs ys : List V} (h : EvL ta σ H xs) (k : ∀ H1, Ex H H1 → EvL tb σ H1 ys) (hl : xs.length + ys.length ≤ 100000) : EvL (tOp rCat ta tb) σ H (xs ++ ys) := fun H1 e Q q =>
  h H1 e _ fun p H2 hp e2 h2 => k H2 (e.trans e2) H2 (Ex.refl _) _ fun r H3 hr e3 h3 => ⟨p, r, xs, ys, rfl, rfl, e3 _ _ h2, h3, sz_of hl, fun m hm => q m _ (fresh_back (e2.trans e3) hm) ((e2.trans e3).trans (Ex.new hm)) upd_same⟩
/-- ''.join([e for k in range(t0)]), where t0 draws one number up to n, e draws one text -/
theorem rd_joinedG {t0 : TE} {m : Nat} {vs : List Nat} {a : Str} (P : List Nat → Prop) (hP : ∀ z, P z → z.length ≤ m) (ha : a.cps.toList = [])
    (h0 : ∀ Q : VK, (∀ (r : Int) (H1 : Hp), 0 ≤ r → r ≤ n → Kp b H H1 → Bag H1 b (c + 1) → Q (.int r) H1) → t0 σ H Q) (n1 : n ≤ 1000) (hm : m ≤ 10000)
    (hw : ∀ x, wipe ((wipe σ vs).set j (some x)) vs = wipe σ vs) {s : Int} (s0 : 0 ≤ s) (s1 : s ≤ 1000)
    (he : ∀ (i : Nat) (c' : Int) (H1 : Hp), (i : Int) < n → c' ≤ c + 1 + n * s → Kp b H H1 → Bag H1 b c' → ∀ Q : VK, (∀ z H2, Kp b H1 H2 → Bag H2 b (c' + s) → P z → Q (.str (S z)) H2) → te ((wipe σ vs).set j (some (.int i))) H1 Q)
    (k : ∀ (zs : List (List Nat)) (H' : Hp), (zs.length : Int) ≤ n → (∀ z ∈ zs, P z) → Kp b H H' → Bag H' b (c + 1 + n * s) → Q (.str (S zs.flatten)) H') :
    tM1 (rJoin K) (tC (.str a)) (tLc (iRng1 (tCons t0 tNil)) (gName j) tYes te vs) σ H Q := by
  refine ⟨⟨_, rfl⟩, h0 _ fun r H1 r0 r1 kp bg => ⟨r, rfl, by omega, by omega, ?_⟩⟩
  have mono : ∀ i : Nat, (i : Int) ≤ n → (i : Int) * s ≤ n * s := fun i hi => Int.mul_le_mul_of_nonneg_right hi s0
  refine lcB (n := r.toNat) (s := s) (c0 := c + 1) (Q := fun y H2 => rJoin K (.str a) [y] H2 Q) (fun v => ∃ z, v = .str (S z) ∧ P z) (by omega) hw bg (fun i c' H2 hi hc' kp2 bg2 Q' q' => ?_) (fun D xs H2 hD kp2 bg2 hd hl hv => ?_)
  · exact he i c' H2 (by omega) (by have := mono i (by omega); omega) (kp.trans kp2) bg2 Q' fun z H3 kp3 bg3 pz => q' _ H3 kp3 bg3 ⟨z, rfl, pz⟩
  · obtain ⟨zs, rfl, hz⟩ := strs_of hv
    rw [List.length_map] at hl
    have hf := flat_len (m := m) fun z hz' => hP z (hz z hz')
    have : zs.length * m ≤ 1000 * 10000 := Nat.mul_le_mul (by omega) hm
    exact rd_join0 ha hd (by omega) (k zs H2 (by omega) hz (kp.trans kp2) (bg2.mono (by have := mono r.toNat (by omega); omega)))
end

section
variable {K : PySem.W.Frag} {σ : L2.St} {H : Hp} {te : TE} {l : List Nat} {lo hi : Option Int} {tl th : TO}
theorem cut_sub (l : List Nat) (lo hi : Option Int) : (cut l lo hi).length ≤ l.length ∧ ∀ c ∈ cut l lo hi, c ∈ l := by
  unfold cut
  refine ⟨?_, fun c hc => List.mem_of_mem_drop (List.mem_of_mem_take hc)⟩
  rw [List.length_take, List.length_drop]
  omega
/-- text[lo:hi], whatever they are -/
theorem ev_slAny (h : Ev te σ H (.str (S l))) (h1 : EvO tl σ H lo) (h2 : EvO th σ H hi) (hl : l.length ≤ 16000000) : Ev (tSl rSlS te tl th) σ H (.str (S (cut l lo hi))) := fun H1 e Q q =>
  h H1 e _ fun H2 e2 => h1 H2 (e.trans e2) _ fun H3 e3 => h2 H3 ((e.trans e2).trans e3) _ fun H4 e4 =>
    ⟨S l, rfl, by rw [S_len]; exact sz24 hl, by rw [cutS_S]; exact q H4 ((e2.trans e3).trans e4)⟩
end
section
variable {σ : L2.St} {H : Hp} {te : TE} {tz tu : TS} {D : Ends}
theorem q_whenQ (h : te σ H fun x H1 => ∃ c, x = .bl c ∧ if c = true then tu { D with nx := tz D } σ H1 else tz D σ H1) : tSeq (tIfS (tTest te) tu tNext) tz D σ H := h
/-- an if whose test draws, the rest shown once -/
theorem q_whenM (M : L2.St → Hp → Prop) (h : (∀ σ' H', M σ' H' → tz D σ' H') → te σ H fun x H1 => ∃ c, x = .bl c ∧ if c = true then tu { D with nx := tz D } σ H1 else tz D σ H1) (k : ∀ σ' H', M σ' H' → tz D σ' H') : tSeq (tIfS (tTest te) tu tNext) tz D σ H := h k
/-- a place that is free since then may be written -/
theorem Kp.mutK {b p : Addr} {H H' : Hp} {o : HO} (k : Kp b H H') (hp : H p = none) : Kp b H (L2.upd H' p o) := fun a u h n => by
  rw [upd_ne (ne_of_none h hp)]
  exact k a u h n
end
end Kt
namespace L2
open PySem PySem.Spec PyProof.Rows
/-- list(text): its signs -/
theorem call_listS {X : Cx} (hc : X.calm = true) : CallR X (.type "list") (fun xs H Q => ∃ z : Str, xs = [.str z] ∧ z.cps.size ≤ sizeLine ∧ ∀ l, H l = none → Q (.ref l) (upd H l (.lst (z.cps.toList.map fun c => V.str ⟨#[c]⟩)))) := by
  intro pins s σ H xs us Q I r h
  obtain ⟨z, rfl, hz, q⟩ := h
  obtain ⟨u, rfl, rx⟩ := vals1 r
  obtain ⟨t, rfl⟩ := rx
  refine call_list_str (I.ok.hd hc) z t (fun h' tk acc c' hk e hi => ?_) hz
  refine ⟨.ref s.heap.objs.size, upd H s.heap.objs.size (.lst (z.cps.toList.map fun c => V.str ⟨#[c]⟩)), I.laid (t' := tk) hk (Nat.le_refl _) ⟨by rw [List.length_map, Array.length_toList]; exact hz, acc.toList, c', ?_, by rw [Array.toArray_toList]; exact e⟩, rfl, q _ (I.hok.fresh (Nat.le_refl _))⟩
  refine vals_of_idx _ _ (by rw [List.length_map, Array.length_toList, Array.length_toList]; exact hi.1) fun j u hj => ?_
  obtain ⟨c, t', hc', rfl⟩ := hi.2 j u (by rw [← Array.getElem?_toList]; exact hj)
  refine ⟨.str ⟨#[c]⟩, ?_, ⟨_, rfl⟩⟩
  rw [List.getElem?_map, Array.getElem?_toList, hc']
  rfl
end L2
namespace Kt
open PySem PySem.Spec PyProof.Rows L2 Evl
theorem el_listS {σ : L2.St} {H : Hp} {te : TE} {l : List Nat} (h : Ev te σ H (.str (S l))) (hl : l.length ≤ 90000) : EvL (tCB (fun xs H Q => ∃ z : Str, xs = [.str z] ∧ z.cps.size ≤ sizeLine ∧ ∀ l, H l = none → Q (.ref l) (upd H l (.lst (z.cps.toList.map fun c => V.str ⟨#[c]⟩)))) (tCons te tNil)) σ H (l.map fun c => V.str (S [c])) := fun H1 e Q q =>
  h H1 e _ fun H2 e2 => ⟨S l, rfl, by show (S l).cps.size ≤ _; rw [show (S l).cps.size = l.length from by simp [S]]; exact sz_of (by omega), fun p hp => by
    rw [S_toList]
    exact q p _ (fresh_back e2 hp) (e2.trans (Ex.new hp)) upd_same⟩
end Kt
namespace Kt
open PySem PySem.Spec PyProof.Rows L2 Evl
/-! ## tuples stand -/
def Kup (H H' : Hp) : Prop := ∀ q xs, H q = some (.tup xs) → H' q = some (.tup xs)
section
variable {C CF CR rx tl b : Addr} {o : Own} {H H' H2 : Hp} {s : Sc} {n : Nat} {cl : Bool}
theorem Kup.of (e : Ex H H') : Kup H H' := fun q xs h => e q _ h
theorem Kup.trans (a : Kup H H') (b : Kup H' H2) : Kup H H2 := fun q xs h => b q xs (a q xs h)
theorem Kup.kr (r : RdV C CF CR H rx o s n cl) (k : KR rx o H H') : Kup H H' := fun q xs h => by
  obtain ⟨⟨dr, h0⟩, ⟨⟨fv, h1, _⟩, ⟨vs, h3, _⟩, ⟨ws, h5, _⟩, ⟨us, h7, _⟩, _⟩, _⟩ := r
  refine k q _ h (fun z => ?_) (fun z => ?_) (fun z => ?_) (fun z => ?_) (fun z => ?_) <;> rw [z] at h
  · rw [h0] at h; cases h
  · rw [h1] at h; cases h
  · rw [h3] at h; cases h
  · rw [h5] at h; cases h
  · rw [h7] at h; cases h
theorem Kup.kl {ys : List V} (h : H tl = some (.lst ys)) (k : Kp tl H H') : Kup H H' := fun q xs h' => k q _ h' fun z => by rw [z, h] at h'; cases h'
theorem Kup.kb {c : Int} (h : Bag H b c) (k : Kp b H H') : Kup H H' := by
  obtain ⟨xs, hx⟩ := h.lst
  exact Kup.kl hx k
theorem Kup.tk (k : Kup H H') {v : V} {t : Tk} (h : TkV H v t) : TkV H' v t := by
  obtain ⟨q, e, h⟩ := h
  exact ⟨q, e, k q _ h⟩
theorem Kup.fl (k : Kup H H') {v : V} {f : Option (Str × Int)} (h : FlV H v f) : FlV H' v f := by
  cases f with
  | none => exact h
  | some e =>
    obtain ⟨q, e1, h⟩ := h
    exact ⟨q, e1, k q _ h⟩
theorem TkL.ku {ts : List Tk} {p : Addr} (h : TkL H ts p) (k : Kup H H') (hp : ∀ xs, H p = some (.lst xs) → H' p = some (.lst xs)) : TkL H' ts p := by
  obtain ⟨vs, h1, h2⟩ := h
  exact ⟨vs, hp _ h1, h2.imp fun _ _ => k.tk⟩
theorem TkL.kb {ts : List Tk} {p : Addr} {c : Int} (h : TkL H ts p) (hb : Bag H b c) (k : Kp b H H') (n : p ≠ b) : TkL H' ts p := h.ku (Kup.kb hb k) fun xs hx => k _ _ hx n
theorem RdV.kb {c : Int} (r : RdV C CF CR H rx o s n cl) (f : Off rx o b) (hb : Bag H b c) (k : Kp b H H') : RdV C CF CR H' rx o s n cl := by
  obtain ⟨xs, hx⟩ := hb.lst
  exact r.kl f hx k
theorem Bag.kr {c : Int} (hb : Bag H b c) (f : Off rx o b) (k : KR rx o H H') : Bag H' b c := by
  obtain ⟨d, m, c', h, h1, h2⟩ := hb
  exact ⟨d, m, c', f.kr k h, h1, h2⟩
/-- the reader is new since H: what the reader does keeps all but b -/
theorem New0.kb {H0 : Hp} (w : New0 H0 rx o) (e : Kp b H0 H) (k : KR rx o H H') : Kp b H0 H' := fun a u h n =>
  k a u (e a u h n) (ne_of_none h w.1) (ne_of_none h w.2.1) (ne_of_none h w.2.2.1) (ne_of_none h w.2.2.2.1) (ne_of_none h w.2.2.2.2)
end
/-! ## what the reader has found along a text -/
theorem pfx_rest {l : List Nat} {i : Nat} (hl : l.length ≤ 5000) : (pfx l i).feed (l.drop i) = Sc.new.feed l := by
  rw [pfx_feed hl (by rw [List.length_drop]; omega), List.take_append_drop]
theorem pfx_at {l : List Nat} {i n : Nat} (hl : l.length ≤ 5000) : (pfx l i).feed ((l.drop i).take n) = pfx l (min (i + n) l.length) := by
  rw [pfx_feed hl (by rw [List.length_take, List.length_drop]; omega)]
  unfold pfx
  congr 1
  rw [← List.take_add]
  by_cases h : i + n ≤ l.length
  · rw [Nat.min_eq_left h]
  · rw [Nat.min_eq_right (by omega), List.take_of_length_le (by omega), List.take_of_length_le (Nat.le_refl _)]
theorem pfx_on {l : List Nat} {i n : Nat} (hl : l.length ≤ 5000) : (pfx l i).feed ((l.drop i).take n) = pfx l (i + n) := by
  rw [pfx_feed hl (by rw [List.length_take, List.length_drop]; omega)]
  unfold pfx
  rw [← List.take_add]
theorem pfx_over {l : List Nat} {i : Nat} (h : l.length ≤ i) : pfx l i = Sc.new.feed l := by unfold pfx; rw [List.take_of_length_le h]
theorem pfx_all {l : List Nat} : pfx l l.length = Sc.new.feed l := by unfold pfx; rw [List.take_length]
theorem found_take {l : List Nat} {i : Nat} (hl : l.length ≤ 5000) : (scanned l).found.take (pfx l i).found.length = (pfx l i).found := by
  have h1 := feed_parts (s := pfx l i) (m := l.drop i)
  rw [pfx_rest hl] at h1
  have h2 := close_parts (s := Sc.new.feed l)
  show ((Sc.new.feed l).close).found.take _ = _
  rw [← h2, ← h1, List.append_assoc, List.take_left]
theorem pfx_ok {l : List Nat} {i : Nat} (hx : Asc l) : TkOk (pfx l i).found ∧ FlOk (pfx l i).fail := by
  have h := tg_ok (Sc.tg_feed (l := l.take i) Sc.tg_new) (fun c hc => hx c (List.mem_of_mem_take (by simpa using hc)))
  exact h
end Kt
namespace Kt
open PySem PySem.Spec PyProof.Rows L2 Evl
theorem kb_none {b p : Addr} {H H' : Hp} {c : Int} (k : Kp b H H') (hb : Bag H' b c) (hp : H' p = none) : H p = none := by
  cases e : H p with
  | none => rfl
  | some u =>
    exfalso
    by_cases hpb : p = b
    · subst hpb
      obtain ⟨xs, hxs⟩ := hb.lst
      rw [hxs] at hp
      cases hp
    · rw [k _ _ e hpb] at hp
      cases hp
theorem New0.back {b rx : Addr} {o : Own} {H H' : Hp} {c : Int} (w : New0 H' rx o) (k : Kp b H H') (hb : Bag H' b c) : New0 H rx o :=
  ⟨kb_none k hb w.1, kb_none k hb w.2.1, kb_none k hb w.2.2.1, kb_none k hb w.2.2.2.1, kb_none k hb w.2.2.2.2⟩
/-- (..)[e], the tuple made there -/
theorem ev_ixU {K : PySem.W.Frag} {σ : L2.St} {H : Hp} {ta tb : TE} {xs : List V} {i : Int} {v : V} (h : EvU ta σ H xs) (hb : Ev tb σ H (.int i)) (ha : atI xs i = some v) : Ev (tOp (rIxT K) ta tb) σ H v := fun H1 e Q q =>
  h H1 e _ fun p H2 hp e2 h2 => hb H2 (e.trans e2) _ fun H3 e3 => ⟨p, xs, i, v, rfl, rfl, st_of (e3 _ _ h2), ha, q H3 (e2.trans e3)⟩
end Kt
namespace Kt
open PySem PySem.Spec PyProof.Rows L2 Evl
theorem rI0_q {f : Int → Int → V} {i j k : Int} {H : Hp} {Q : VK} (h : f i j = .int k) (q : Q (.int k) H) : rI0 f (.int i) (.int j) H Q := ⟨i, j, rfl, rfl, by rw [h]; exact q⟩
end Kt

set_option Elab.async false
set_option linter.all false
set_option maxRecDepth 100000
set_option maxHeartbeats 2000000
namespace Kt
open PySem PySem.Spec PyProof.Rows L2 Evl
/-! ## the head by facts: written data, tables -/
mutual
def datB (K : PySem.W.Frag) : PyData → Value → Bool
  | .none, .none => true
  | .bool b, .bool c => b == c
  | .int i, .int j _ => decide (i = j)
  | .str x, .str y _ => decide (x = y)
  | .tuple ds, .ref a => (match K.lookup a with
    | some ⟨.type c, _, .seq its _, _⟩ => decide (c = "tuple") && (decide (its.size ≤ 100000) && datsB K ds its.toList)
    | _ => false)
  | _, _ => false
def datsB (K : PySem.W.Frag) : List PyData → List Value → Bool
  | [], [] => true
  | d :: ds, u :: us => datB K d u && datsB K ds us
  | _, _ => false
end
mutual
theorem datB_ok {K : PySem.W.Frag} : ∀ (d : PyData) (u : Value), datB K d u = true → ∃ v, RelV v u ∧ ∀ H, Dp K H v d
  | .none, u, h => by
    cases u with
    | none => exact ⟨.non, rfl, fun _ => .non⟩
    | _ => cases h
  | .bool b, u, h => by
    cases u with
    | bool c =>
      have e : b = c := eq_of_beq (show (b == c) = true from h)
      subst e
      exact ⟨.bl b, rfl, fun _ => .bl b⟩
    | _ => cases h
  | .int i, u, h => by
    cases u with
    | int j t =>
      have e : i = j := of_decide_eq_true h
      subst e
      exact ⟨.int i, ⟨t, rfl⟩, fun _ => .int i⟩
    | _ => cases h
  | .str x, u, h => by
    cases u with
    | str y t =>
      have e : x = y := of_decide_eq_true h
      subst e
      exact ⟨.str x, ⟨t, rfl⟩, fun _ => .str x⟩
    | _ => cases h
  | .list ds, u, h => by cases u <;> cases h
  | .dict ds, u, h => by cases u <;> cases h
  | .tuple ds, u, h => by
    cases u with
    | ref a =>
      have h1 : (match K.lookup a with
        | some ⟨.type c, _, .seq its _, _⟩ => decide (c = "tuple") && (decide (its.size ≤ 100000) && datsB K ds its.toList)
        | _ => false) = true := h
      cases q : K.lookup a with
      | none => rw [q] at h1; cases h1
      | some o =>
        obtain ⟨oc, od, dt, osl⟩ := o
        rw [q] at h1
        cases oc with
        | type c =>
          cases dt with
          | seq its n =>
            obtain ⟨h2, h3⟩ := Bool.and_eq_true_iff.mp h1
            obtain ⟨h4, h5⟩ := Bool.and_eq_true_iff.mp h3
            have e : c = "tuple" := of_decide_eq_true h2
            subst e
            obtain ⟨vs, r, k⟩ := datsB_ok ds its.toList h5
            exact ⟨.ref a, rfl, fun H => .tup (Or.inr ⟨_, its, n, q, rfl, rfl, sz_of (of_decide_eq_true h4), r⟩) (k H)⟩
          | _ => cases h1
        | _ => cases h1
    | _ => cases h
theorem datsB_ok {K : PySem.W.Frag} : ∀ (ds : List PyData) (us : List Value), datsB K ds us = true → ∃ vs, Vals vs us ∧ ∀ H, DpAll K H vs ds
  | [], us, h => by
    cases us with
    | nil => exact ⟨[], .nil, fun _ => .nil⟩
    | cons => cases h
  | d :: ds, us, h => by
    cases us with
    | nil => cases h
    | cons u us =>
      obtain ⟨h1, h2⟩ := Bool.and_eq_true_iff.mp (show (datB K d u && datsB K ds us) = true from h)
      obtain ⟨v, r, k⟩ := datB_ok d u h1
      obtain ⟨vs, rs, ks⟩ := datsB_ok ds us h2
      exact ⟨v :: vs, .cons r rs, fun H => .cons (k H) (ks H)⟩
end
/-- a name's own data; a table of text keys, its values' data -/
inductive Fb where
  | dat (x : Str) (d : PyData)
  | tab (x : Str) (kvs : List (Str × PyData))
  | abs (x : Str) (ks : List Str)
def Fb.ok (K : PySem.W.Frag) : Fb → Bool
  | .dat x d => datB K d (.ref (He.ga K x))
  | .tab x kvs => kvs.all fun q => match PySem.W.nsIn K (He.ga K x) q.1 with
    | some (some u) => datB K q.2 u
    | _ => false
  | .abs x ks => ks.all fun k => match PySem.W.nsIn K (He.ga K x) k with
    | some none => true
    | _ => false
def fbAll (fb : List Fb) (K : PySem.W.Frag) : Bool := fb.all fun f => f.ok K
theorem fb_at {fb : List Fb} {K : PySem.W.Frag} (h : fbAll fb K = true) (i : Nat) {f : Fb} (e : fb[i]? = some f) : f.ok K = true := List.all_eq_true.mp h f (List.mem_of_getElem? e)
theorem dat_ok {K : PySem.W.Frag} {x : Str} {d : PyData} (h : (Fb.dat x d).ok K = true) : ∀ H, Dp K H (.ref (He.ga K x)) d := by
  obtain ⟨v, r, k⟩ := datB_ok d _ h
  cases v with
  | ref a =>
    have e : Value.ref (He.ga K x) = Value.ref a := r
    cases e
    exact k
  | int i => obtain ⟨t, e⟩ := (show ∃ t, Value.ref _ = Value.int i t from r); cases e
  | str z => obtain ⟨t, e⟩ := (show ∃ t, Value.ref _ = Value.str z t from r); cases e
  | byt z => obtain ⟨t, e⟩ := (show ∃ t, Value.ref _ = Value.bytes z t from r); cases e
  | flt z => obtain ⟨t, e⟩ := (show ∃ t, Value.ref _ = Value.float z t from r); cases e
  | non => cases (show Value.ref _ = Value.none from r)
  | bl b => cases (show Value.ref _ = Value.bool b from r)
  | ty n => cases (show Value.ref _ = Value.type n from r)
/-- what a table has at a key -/
theorem tab_ok {K : PySem.W.Frag} {w : World} {x : Str} {kvs : List (Str × PyData)} {es : Array DictEntry} {n : Nat} (D : KDict K w (He.ga K x) es n) (h : (Fb.tab x kvs).ok K = true) {k : Str} {d : PyData} (hk : (k, d) ∈ kvs) :
    ∃ v, KDct K w (He.ga K x) k v ∧ ∀ H, Dp K H v d := by
  have h2 := List.all_eq_true.mp h (k, d) hk
  cases e : PySem.W.nsIn K (He.ga K x) k with
  | none => rw [e] at h2; cases h2
  | some r =>
    rw [e] at h2
    cases r with
    | none => cases h2
    | some u =>
      obtain ⟨v, r, kk⟩ := datB_ok d u h2
      exact ⟨v, ⟨es, n, u, D.at_, D.lit, e, r⟩, kk⟩
/-- what a table has not -/
theorem abs_ok {K : PySem.W.Frag} {x : Str} {ks : List Str} (h : (Fb.abs x ks).ok K = true) : ∀ k : Str, k ∈ ks → PySem.W.nsIn K (He.ga K x) k = some none := fun k hk => by
  have h2 := List.all_eq_true.mp h k hk
  cases e : PySem.W.nsIn K (He.ga K x) k with
  | none => rw [e] at h2; cases h2
  | some r =>
    rw [e] at h2
    cases r with
    | none => rfl
    | some u => cases h2
def vOf : PyData → V
  | .none => .non
  | .bool b => .bl b
  | .int i => .int i
  | .str z => .str z
  | _ => .non
def flatD : PyData → Bool
  | .none => true
  | .bool _ => true
  | .int _ => true
  | .str _ => true
  | _ => false
theorem dpa_flat {K : PySem.W.Frag} {H : Hp} : ∀ {vs : List V} {ds : List PyData}, DpAll K H vs ds → ds.all flatD = true → vs = ds.map vOf
  | _, _, .nil, _ => rfl
  | _, d :: ds, .cons h t, hf => by
    rw [List.all_cons] at hf
    obtain ⟨h1, h2⟩ := Bool.and_eq_true_iff.mp hf
    rw [List.map_cons, ← dpa_flat t h2]
    cases h <;> first | rfl | cases h1
theorem sqt_flat {K : PySem.W.Frag} {H : Hp} {r : Addr} {ds : List PyData} (h : Dp K H (.ref r) (.tuple ds)) (hf : ds.all flatD = true) : SqT K H r (ds.map vOf) := by
  cases h with
  | tup hs ha => rw [← dpa_flat ha hf]; exact hs
/-- a def without defaults -/
theorem fun_of {K : PySem.W.Frag} {x qual : Str} {st : Stmt} {f : Addr} {fd : FuncData} (F : FunD K x qual (defArgs st) (defBody st) (defScope st) [] [] f fd) : Fun K x qual st f fd := by
  obtain ⟨oc, od, dV, kV, doc, pm, an, cdv, ct, osl, e, lk, hcd, hD, hK⟩ := F.ex
  rcases hD with ⟨_, rfl⟩ | ⟨z, _⟩
  · exact ⟨⟨oc, od, kV, doc, pm, an, cdv, ct, osl, e, lk, hcd⟩, F.kp⟩
  · exact absurd rfl z
/-- a law's end over such a head, guarded -/
theorem walkGE {l : PySem.W.OpenLaw} {n k : Nat} {q : Program} {loose : List Str} {XP : (Str → Option Value) → Heap → Prop} {YP : World → Heap → Prop} {d : DefRec} {x : Str}
    (hn : l.most = some n) (hn2 : n ≤ sizeLine) (hdf : d.params.defaults = []) (hr : Room k callerA)
    (F : ∀ (w : World) (mg : Str → Option Value) (fa : Addr) (h : Heap), YP w h → h.Ns mainGlobals mg → mg d.name = some (.ref fa) →
      ∃ (K : PySem.W.Frag) (fd : FuncData) (sp : Sp), K.In h ∧ (∀ (s : Shared) (u : Value), BindsTo s fd ⟨[u], []⟩ [(x, u)]) ∧
        (∀ (H : Hp) (a : Addr) (ns : List Int), ns.length ≤ n → SqL K H a (ns.map V.int) → sp [.ref a] H (fun v _ => v = .bl true) fun _ _ _ => False) ∧
        ∀ base : Heap, K.In base → base.Ns mainGlobals mg → FnG l.prog w K mg base CX0 k fa fd [x] sp) :
    PySem.W.WalkO q loose XP YP l.row.toRowW d [] (fun f vs => PySem.call f vs) :=
  Att.attach_call hn hdf fun w s₀ s₁ mg mb fa o pm cd doc a vs ns G Y ho hd hcd hmg hobj hints hlen hg =>
    let ⟨_, _, _, KX, hb, hsp, hF⟩ := F w mg fa _ Y G.T.g hmg
    law_endG KX G.T.g G.T.b G.T.builtins G.T.nolimit hg hobj hints (Nat.le_trans hlen hn2) hr hF hb fun H _ hS => hsp H a ns hlen hS
end Kt

set_option Elab.async false
set_option linter.all false
set_option maxRecDepth 100000
set_option maxHeartbeats 2000000
namespace Kt
open PySem PySem.Spec PyProof.Rows L2 Evl
/-! ## the head by facts: properties of own classes -/
/-- the property; its getter -/
def prA (K : PySem.W.Frag) (c f : Str) : Addr := He.ma K (He.ga K c) f
def geA (K : PySem.W.Frag) (c f : Str) : Addr := match PySem.W.recIn K (prA K c f) "property" with
  | some (.ref g :: _) => g
  | _ => 0
def prB (K : PySem.W.Frag) (c f : Str) : Bool :=
  decide (PySem.W.findIn K (.ref (He.ga K c)) f = some (some (.ref (prA K c f)))) && (decide (PySem.W.specialIn K (.ref (prA K c f)) "__get__" = some (some (.builtin "property.__get__"))) && (decide (PySem.W.takesIn K (.ref (prA K c f)) = some true) &&
    (match PySem.W.recIn K (prA K c f) "property" with
      | some (.ref g :: _) => true
      | _ => false)))
theorem pr_ok {K : PySem.W.Frag} {c f : Str} (h : prB K c f = true) : PropOf K (He.ga K c) f (prA K c f) (geA K c f) := by
  unfold prB at h
  simp only [Bool.and_eq_true, decide_eq_true_eq] at h
  obtain ⟨h1, h2, h3, h4⟩ := h
  refine ⟨h1, h2, h3, ?_⟩
  unfold geA
  split at h4
  · rename_i g r e
    rw [e]
    exact ⟨r, rfl⟩
  · cases h4
def prAll (ps : List (Str × Str)) (K : PySem.W.Frag) : Bool := ps.all fun p => prB K p.1 p.2
theorem pr_at {ps : List (Str × Str)} {K : PySem.W.Frag} (h : prAll ps K = true) (i : Nat) {c f : Str} (e : ps[i]? = some (c, f)) : PropOf K (He.ga K c) f (prA K c f) (geA K c f) :=
  pr_ok (List.all_eq_true.mp h (c, f) (List.mem_of_getElem? e))
/-- a head by facts, with defs at any address -/
def obsP (n : Nat) (fa : List He.Fa) (fn : List He.DefD) (ts : List He.Tab) (tf : List He.Defn) (ex : PySem.W.Frag → Bool) (fp : List He5.DefA) (g : Addr → Option Obj) : He.AlX × He.AlD := (He.obsX n fa fn ts tf ex g, He5.obsA [] fp (He.frT g (He.asD g n)))
def hookP (n : Nat) (fa : List He.Fa) (fn : List He.DefD) (ts : List He.Tab) (tf : List He.Defn) (ex : PySem.W.Frag → Bool) (fp : List He5.DefA) : PySem.W.Hook where
  α := He.AlX × He.AlD
  obs := fun s => obsP n fa fn ts tf ex fp s.heap.get?
  val := fun w => (He.valX fn ts w, He5.valA fp)
  says := fun w h => ∃ K : PySem.W.Frag, K.In h ∧ He.SaysX fa fn ts tf ex w h K ∧ He5.SaysA [] fp K
  of := fun _ _ e => ⟨_, He.frT_in, He.saysX_of (congrArg (fun z : He.AlX × He.AlD => z.1) e), congrArg (fun z : He.AlX × He.AlD => z.2) e⟩
  keeps := fun _ _ _ ⟨K, hK, c, d⟩ k => ⟨K, PySem.W.Frag.In.keeps hK k, ⟨c.t, c.more, c.hd, c.out, fun p hp => k _ _ (c.empty p hp)⟩, d⟩
theorem obsP_eq {n : Nat} {fa : List He.Fa} {fn : List He.DefD} {ts : List He.Tab} {tf : List He.Defn} {ex : PySem.W.Frag → Bool} {fp : List He5.DefA} {g : Addr → Option Obj} {s : Shared} (h : ∀ a, g a = s.heap.get? a) : obsP n fa fn ts tf ex fp g = (hookP n fa fn ts tf ex fp).obs s := by
  have e : g = s.heap.get? := funext h
  rw [e] <;> rfl
end Kt

set_option Elab.async false
set_option linter.all false
set_option maxRecDepth 100000
set_option maxHeartbeats 2000000
namespace Kt
open PySem PySem.Spec PyProof.Rows L2 Evl
/-! ## comprehensions over a list whose items stand for something -/
theorem lc_Q {K : PySem.W.Frag} {σ : L2.St} {H : Hp} {tl te : TE} {g : TG} {t : TT} {vs : List Nat} {Q : VK} (h : tl σ H fun v H1 => tLc (iList K (tC v)) g t te vs σ H1 Q) : tLc (iList K tl) g t te vs σ H Q := h
section
variable {K : PySem.W.Frag} {σ : L2.St} {H : Hp} {t : TT} {te : TE} {j : Nat} {vs : List Nat} {Q : VK} {α β : Type} {R : Hp → V → α → Prop} {R' : Hp → V → β → Prop} {g0 : TG}
/-- [e for x in xs if t], in any shape of the target -/
theorem lc_relG (mR : ∀ H H', Ex H H' → ∀ v a, R H v a → R H' v a) (mR' : ∀ H H', Ex H H' → ∀ v b, R' H v b → R' H' v b) (uR' : ∀ (H : Hp) (D : Addr) ys u, H D = some (.lst ys) → ∀ v b, R' H v b → R' (upd H D u) v b)
    {a : Addr} {xs : List V} {as : List α} (hx : H a = some (.lst xs)) (ax : A2 (R H) xs as) (hz : as.length ≤ 90000) (f : α → Bool) (g : α → β)
    (hg : ∀ x u H1, u ∈ as → Ex H H1 → R H1 x u → ∃ σ2, (∀ Q' : L2.St → Hp → Prop, Q' σ2 H1 → g0 x (wipe σ vs) H1 Q') ∧ wipe σ2 vs = wipe σ vs ∧ EvT t σ2 H1 (f u) ∧
      (f u = true → ∀ H2, Ex H1 H2 → ∀ Q : VK, (∀ y H3, Ex H2 H3 → R' H3 y (g u) → Q y H3) → te σ2 H2 Q))
    (q : ∀ D ys H', H D = none → Ex H H' → H' D = some (.lst ys) → A2 (R' H') ys ((as.filter f).map g) → Q (.ref D) H') : tLc (iList K (tC (.ref a))) g0 t te vs σ H Q := by
  refine ⟨a, rfl, ⟨xs, sq_of hx⟩, fun Dl hD => ?_⟩
  have hl := ax.len
  refine lc_it (walk_list (K := K) (a := a) (xs := xs)) (Pv := fun i H' => Ex H H' ∧ ∃ ys, H' Dl = some (.lst ys) ∧ A2 (R' H') ys (((as.take i).filter f).map g)) ⟨Ex.new hD, [], upd_same, .nil⟩ (fun i H' _ p => sq_of (p.1 _ _ hx)) ?_ (fun H' p => ?_)
  · rintro i x H2 H3 hi ⟨ee, ys, hd, ay⟩ y
    obtain ⟨rfl, hxi⟩ := y
    obtain ⟨u, hu, ru⟩ := (ax.imp (mR _ _ ee)).at_ hxi
    obtain ⟨σ2, hgo, hw, ht, he⟩ := hg x u _ (mem_of_at hu) ee ru
    refine hgo _ ⟨hw, ?_⟩
    refine ht _ (Ex.refl _) _ fun H4 e4 => ?_
    have hm : (as.take (i + 1)).filter f = (as.take i).filter f ++ (if f u = true then [u] else []) := by
      rw [take_more hu, List.filter_append, List.filter_cons, List.filter_nil]
    by_cases hf : f u = true
    · rw [if_pos hf]
      refine he hf H4 e4 _ fun z H5 e5 rz => ?_
      have hyl : ys.length < 100000 := by
        rw [ay.len, List.length_map]
        have := List.length_filter_le f (as.take i)
        rw [List.length_take] at this
        omega
      refine ⟨ys, e5 _ _ (e4 _ _ hd), sz_lt hyl, Ex.mut (ee.trans (e4.trans e5)) hD, ys ++ [z], upd_same, ?_⟩
      rw [hm, if_pos hf, List.map_append]
      have a5 : A2 (R' H5) (ys ++ [z]) (((as.take i).filter f).map g ++ [g u]) := (ay.imp (mR' _ _ (e4.trans e5))).snoc rz
      exact a5.imp fun v b => uR' _ _ _ _ (e5 _ _ (e4 _ _ hd)) v b
    · rw [if_neg hf]
      refine ⟨ee.trans e4, ys, e4 _ _ hd, ?_⟩
      rw [hm, if_neg hf, List.append_nil]
      exact ay.imp (mR' _ _ e4)
  · obtain ⟨ee, ys, hd, ay⟩ := p
    rw [hl, List.take_length] at ay
    exact q Dl ys H' hD ee hd ay
theorem lc_rel (mR : ∀ H H', Ex H H' → ∀ v a, R H v a → R H' v a) (mR' : ∀ H H', Ex H H' → ∀ v b, R' H v b → R' H' v b) (uR' : ∀ (H : Hp) (D : Addr) ys u, H D = some (.lst ys) → ∀ v b, R' H v b → R' (upd H D u) v b)
    {a : Addr} {xs : List V} {as : List α} (hx : H a = some (.lst xs)) (ax : A2 (R H) xs as) (hz : as.length ≤ 90000) (f : α → Bool) (g : α → β) (hw : ∀ x, wipe ((wipe σ vs).set j (some x)) vs = wipe σ vs)
    (ht : ∀ x u H1, u ∈ as → Ex H H1 → R H1 x u → EvT t ((wipe σ vs).set j (some x)) H1 (f u))
    (he : ∀ x u H1, u ∈ as → f u = true → Ex H H1 → R H1 x u → ∀ Q : VK, (∀ y H2, Ex H1 H2 → R' H2 y (g u) → Q y H2) → te ((wipe σ vs).set j (some x)) H1 Q)
    (q : ∀ D ys H', H D = none → Ex H H' → H' D = some (.lst ys) → A2 (R' H') ys ((as.filter f).map g) → Q (.ref D) H') : tLc (iList K (tC (.ref a))) (gName j) t te vs σ H Q :=
  lc_relG mR mR' uR' hx ax hz f g (fun x u H1 hu e r => ⟨(wipe σ vs).set j (some x), fun _ h => h, hw x, ht x u H1 hu e r, fun hf H2 e2 => he x u H2 hu hf (e.trans e2) (mR _ _ e2 _ _ r)⟩) q
theorem tk_up (H : Hp) (D : Addr) (ys : List V) (u : HO) (h : H D = some (.lst ys)) (v : V) (t : Tk) (r : TkV H v t) : TkV (upd H D u) v t := (Ke.lst h).tk r
theorem tp_up (H : Hp) (D : Addr) (ys : List V) (u : HO) (h : H D = some (.lst ys)) (v : V) (t : List V) (r : TpV H v t) : TpV (upd H D u) v t := r.upd h
theorem tk_ex (H H' : Hp) (e : Ex H H') (v : V) (t : Tk) (r : TkV H v t) : TkV H' v t := (Ke.of e).tk r
theorem tp_ex (H H' : Hp) (e : Ex H H') (v : V) (t : List V) (r : TpV H v t) : TpV H' v t := r.mono e
theorem bl_ex (H H' : Hp) (e : Ex H H') (v : V) (b : Bool) (r : v = .bl b) : v = .bl b := r
end
/-! ## significant tokens -/
def gapK : List V := [.str "COMMENT", .str "NL"]
def bareK : List V := [.str "INDENT", .str "NEWLINE"]
def sig (t : Tk) : Bool := !inV (.str t.kind) gapK
def senS (t : Tk) : List Nat := if inV (.str t.kind) bareK then [] else t.s
def senR (t : Tk) : List V := [.str t.kind, .str (S (senS t))]
def senD (t : Tk) : PyData := .tuple [.str t.kind, .str (S (senS t))]
def sens (t : Tk) : Str × List Nat := (t.kind, senS t)
def sigs (l : List Nat) : List Tk := (scanned l).found.filter sig
/-! ## where two lists part -/
def pIdx {α : Type} [DecidableEq α] : List α → List α → Option Nat
  | [], [] => none
  | a :: r, b :: s => if a = b then (pIdx r s).map (· + 1) else some 0
  | [], _ :: _ => some 0
  | _ :: _, [] => some 0
section
variable {α : Type} [DecidableEq α]
theorem pIdx_none : ∀ {a b : List α}, pIdx a b = none ↔ a = b
  | [], [] => by simp [pIdx]
  | [], _ :: _ => by simp [pIdx]
  | _ :: _, [] => by simp [pIdx]
  | a :: r, b :: s => by
    rw [pIdx]
    by_cases h : a = b
    · rw [if_pos h, Option.map_eq_none_iff, pIdx_none (a := r) (b := s)]
      simp [h]
    · rw [if_neg h]
      simp [h]
theorem pIdx_some : ∀ {a b : List α} {n : Nat}, (∀ j, j < n → a[j]? = b[j]?) → a[n]? ≠ b[n]? → pIdx a b = some n
  | [], [], n, _, h => absurd rfl h
  | [], b :: s, 0, _, _ => rfl
  | a :: r, [], 0, _, _ => rfl
  | [], b :: s, n + 1, h, _ => by have := h 0 (by omega); simp at this
  | a :: r, [], n + 1, h, _ => by have := h 0 (by omega); simp at this
  | a :: r, b :: s, 0, _, h => by
    rw [pIdx, if_neg fun e => h (by simp [e])]
  | a :: r, b :: s, n + 1, h, h2 => by
    have h0 := h 0 (by omega)
    rw [pIdx, if_pos (by simpa using h0), pIdx_some (a := r) (b := s) (n := n) (fun j hj => by simpa using h (j + 1) (by omega)) (by simpa using h2)]
    rfl
theorem pIdx_at : ∀ {a b : List α} {n : Nat}, pIdx a b = some n → a.take n = b.take n ∧ a[n]? ≠ b[n]? ∧ n ≤ a.length ∧ n ≤ b.length
  | [], [], n, h => by cases h
  | [], b :: s, n, h => by cases h; simp
  | a :: r, [], n, h => by cases h; simp
  | a :: r, b :: s, n, h => by
    rw [pIdx] at h
    by_cases e : a = b
    · rw [if_pos e] at h
      obtain ⟨m, hm, rfl⟩ := Option.map_eq_some_iff.mp h
      obtain ⟨h1, h2, h3, h4⟩ := pIdx_at (a := r) (b := s) hm
      exact ⟨by simp [e, h1], by simpa using h2, by simp; exact h3, by simp; exact h4⟩
    · rw [if_neg e] at h
      cases h
      refine ⟨rfl, by simpa using e, Nat.zero_le _, Nat.zero_le _⟩
theorem pIdx_comm : ∀ {a b : List α}, pIdx a b = pIdx b a
  | [], [] => rfl
  | [], _ :: _ => rfl
  | _ :: _, [] => rfl
  | a :: r, b :: s => by
    rw [pIdx, pIdx, pIdx_comm (a := r) (b := s)]
    by_cases h : a = b
    · rw [if_pos h, if_pos h.symm]
    · rw [if_neg h, if_neg fun e => h e.symm]
/-- of three the least two are the same -/
theorem pIdx_three {a b c : List α} {i j k : Nat} (hi : (pIdx a b).getD 1000000 = i) (hj : (pIdx b c).getD 1000000 = j) (hk : (pIdx a c).getD 1000000 = k) (la : a.length < 1000000) (lb : b.length < 1000000) (lc : c.length < 1000000) :
    (i = j ∧ i ≤ k) ∨ (i = k ∧ i ≤ j) ∨ (j = k ∧ j ≤ i) := by
  -- an index below all three parts none of them
  have same : ∀ {x y : List α} {m n : Nat}, x.length < 1000000 → (pIdx x y).getD 1000000 = m → n < m → x[n]? = y[n]? := by
    intro x y m n lx h hn
    cases e : pIdx x y with
    | none => rw [pIdx_none.mp e]
    | some p =>
      rw [e] at h
      have hp : p = m := h
      subst hp
      have h1 := (pIdx_at e).1
      have h2 : (x.take p)[n]? = (y.take p)[n]? := by rw [h1]
      rwa [List.getElem?_take_of_lt hn, List.getElem?_take_of_lt hn] at h2
  have part : ∀ {x y : List α} {m : Nat}, x.length < 1000000 → (pIdx x y).getD 1000000 = m → m < 1000000 → x[m]? ≠ y[m]? := by
    intro x y m lx h hm
    cases e : pIdx x y with
    | none => rw [e] at h; exact absurd h (by show ¬ 1000000 = m; omega)
    | some p =>
      rw [e] at h
      have hp : p = m := h
      subst hp
      exact (pIdx_at e).2.1
  have le : ∀ {x y : List α} {m : Nat}, x.length < 1000000 → (pIdx x y).getD 1000000 = m → m ≤ 1000000 := by
    intro x y m lx h
    cases e : pIdx x y with
    | none => rw [e] at h; have : (1000000 : Nat) = m := h; omega
    | some p =>
      rw [e] at h
      have hp : p = m := h
      have := (pIdx_at e).2.2.1
      omega
  have li := le la hi
  have lj := le lb hj
  have lk := le la hk
  by_cases h1 : i < j
  · by_cases h2 : i < k
    · exact absurd ((same la hk h2).trans (same lb hj h1).symm) (part la hi (by omega))
    · by_cases h3 : k < i
      · exact absurd ((same la hi h3).trans (same lb hj (by omega))) (part la hk (by omega))
      · omega
  · by_cases h2 : j < i
    · by_cases h3 : j < k
      · exact absurd ((same la hi h2).symm.trans (same la hk h3)) (part lb hj (by omega))
      · by_cases h4 : k < j
        · exact absurd ((same la hi (by omega)).trans (same lb hj h4)) (part la hk (by omega))
        · omega
    · have e : i = j := by omega
      subst e
      by_cases h3 : k < i
      · exact absurd ((same la hi h3).trans (same lb hj h3)) (part la hk (by omega))
      · omega
end
/-! ## what parting gives, as data -/
def otD : Option Tk → PyData
  | none => .none
  | some t => tkD t
def paI (a b : List Tk) : Option Nat := pIdx (a.map sens) (b.map sens)
def paD (a b : List Tk) : PyData := match paI a b with
  | none => .none
  | some n => .tuple [.int n, otD a[n]?, otD b[n]?]
def OtV (H : Hp) (v : V) : Option Tk → Prop
  | none => v = .non
  | some t => TkV H v t
theorem ot_dp {K : PySem.W.Frag} {H : Hp} {v : V} {o : Option Tk} (h : OtV H v o) : Dp K H v (otD o) := by
  cases o with
  | none => cases h; exact .non
  | some t => exact tk_dp h
theorem paI_comm {a b : List Tk} : paI a b = paI b a := pIdx_comm
/-! ## eqv of such data -/
theorem eqvA_senD : ∀ {a b : List Tk}, PyData.eqvAll (a.map senD) (b.map senD) = decide (a.map sens = b.map sens)
  | [], [] => rfl
  | [], _ :: _ => rfl
  | _ :: _, [] => rfl
  | x :: a, y :: b => by
    show (PyData.eqv (senD x) (senD y) && PyData.eqvAll (a.map senD) (b.map senD)) = _
    rw [eqvA_senD (a := a) (b := b)]
    have e : PyData.eqv (senD x) (senD y) = decide (sens x = sens y) := by
      show ((x.kind == y.kind) && ((S (senS x) == S (senS y)) && true)) = _
      rw [Bool.and_true]
      by_cases h : sens x = sens y
      · have h1 : x.kind = y.kind := congrArg Prod.fst h
        have h2 : senS x = senS y := congrArg Prod.snd h
        rw [decide_eq_true h, h1, h2]
        simp
      · rw [decide_eq_false h]
        by_cases h1 : x.kind = y.kind
        · have h2 : ¬ senS x = senS y := fun z => h (Prod.ext h1 z)
          have : (S (senS x) == S (senS y)) = false := beq_eq_false_iff_ne.mpr fun z => h2 (S_inj z)
          rw [this, Bool.and_false]
        · have : (x.kind == y.kind) = false := beq_eq_false_iff_ne.mpr h1
          rw [this, Bool.false_and]
    rw [e, List.map_cons, List.map_cons]
    by_cases h : sens x = sens y
    · rw [decide_eq_true h, Bool.true_and]
      exact decide_eq_decide.mpr (by simp [h])
    · rw [decide_eq_false h, Bool.false_and]
      exact (decide_eq_false (by simp [h])).symm
theorem lay_sen {t : Tk} (h : Asc t.s) (hk : t.kind ∈ kindsL) : (senD t).canLay0 = true := by
  have h2 : Asc (senS t) := by
    unfold senS
    split
    · exact fun c hc => absurd hc List.not_mem_nil
    · exact h
  show ((PyData.str t.kind).canLay0 && ((PyData.str (S (senS t))).canLay0 && true)) = true
  rw [lay_kind (Or.inl hk), lay_strA h2]
  rfl
theorem dep_sen (t : Tk) : (senD t).depth ≤ 3 := by
  show max (PyData.depth (.str t.kind)) (max (PyData.depth (.str (S (senS t)))) 0) + 1 ≤ 3
  show max 0 (max 0 0) + 1 ≤ 3
  decide
theorem sens_lay {ts : List Tk} (h : TkOk ts) : ∀ d ∈ ts.map senD, d.canLay0 = true ∧ d.depth ≤ 3 := fun d hd => by
  obtain ⟨t, ht, rfl⟩ := List.mem_map.mp hd
  exact ⟨lay_sen (h t ht).1 (h t ht).2, dep_sen t⟩
theorem TkOk.filter {ts : List Tk} (h : TkOk ts) (f : Tk → Bool) : TkOk (ts.filter f) := fun t ht => h t (List.mem_filter.mp ht).1
theorem TkOk.take {ts : List Tk} (h : TkOk ts) (n : Nat) : TkOk (ts.take n) := fun t ht => h t (List.mem_of_mem_take ht)
theorem TkOk.drop {ts : List Tk} (h : TkOk ts) (n : Nat) : TkOk (ts.drop n) := fun t ht => h t (List.mem_of_mem_drop ht)
theorem sens_shaped {ts : List Tk} (h : TkOk ts) : SeqAt.shaped (.list (ts.map senD)) = true := shaped_list (sens_lay h) (by decide)
theorem b_sorted : bootBuiltins "sorted" = some (.builtin "sorted") := by decide +kernel
/-! ## slices of lists -/
theorem cutV_at {xs : List V} {i : Nat} : cutV xs (some (i : Int)) (some ((i : Int) + 1)) = (xs.drop i).take 1 := by
  have e : ((i : Int) + 1) = ((i + 1 : Nat) : Int) := rfl
  unfold cutV
  rw [e, HT.sIx_nat, HT.sIx_nat]
  by_cases hi : i < xs.length
  · rw [Nat.min_eq_left (by omega), Nat.min_eq_left (by omega), show i + 1 - i = 1 from by omega]
  · rw [Nat.min_eq_right (by omega), Nat.min_eq_right (by omega), List.drop_of_length_le (by omega), List.drop_of_length_le (by omega)]
    simp
section
variable {K : PySem.W.Frag} {σ : L2.St} {H : Hp} {te : TE}
theorem el_slN {tl th : TO} {xs : List V} {lo hi : Option Int} (h : EvL te σ H xs) (h1 : EvO tl σ H lo) (h2 : EvO th σ H hi) : EvL (tSl (rSlL K) te tl th) σ H (cutV xs lo hi) := fun H1 e _ q =>
  h H1 e _ fun a H2 ha e2 hx => h1 H2 (e.trans e2) _ fun H3 e3 => h2 H3 ((e.trans e2).trans e3) _ fun H4 e4 =>
    ⟨a, xs, rfl, sq_of ((e3.trans e4) _ _ hx), fun p hp => q p _ (fresh_back ((e2.trans e3).trans e4) hp) (((e2.trans e3).trans e4).trans (Ex.new hp)) upd_same⟩
theorem dpa_take : ∀ {vs : List V} {ds : List PyData} (n : Nat), DpAll K H vs ds → DpAll K H (vs.take n) (ds.take n)
  | _, _, 0, _ => .nil
  | _, _, _ + 1, .nil => .nil
  | _, _, n + 1, .cons h t => .cons h (dpa_take n t)
theorem dpa_drop : ∀ {vs : List V} {ds : List PyData} (n : Nat), DpAll K H vs ds → DpAll K H (vs.drop n) (ds.drop n)
  | _, _, 0, h => h
  | _, _, _ + 1, .nil => .nil
  | _, _, n + 1, .cons _ t => dpa_drop n t
theorem sen_dpa : ∀ {vs : List V} {ts : List Tk}, A2 (TpV H) vs (ts.map senR) → DpAll K H vs (ts.map senD)
  | _, [], h => by cases h; exact .nil
  | _, t :: ts, h => by
    cases h with
    | cons h1 h2 =>
      obtain ⟨p, rfl, hp⟩ := h1
      exact .cons (.tup (st_of hp) (.cons (.str _) (.cons (.str _) .nil))) (sen_dpa h2)
end
end Kt

set_option Elab.async false
set_option linter.all false
set_option maxRecDepth 100000
set_option maxHeartbeats 4000000
namespace K26
open PySem PySem.Spec PyProof.Rows L2 Evl Kt
def top (i : Nat) : Stmt := PySem.Challenge.pw_indentokens_k26_whole_parting.main.body.getD i (.Pass ⟨0, 0, 0, 0⟩)
abbrev s_is_word_character : Stmt := top 14
abbrev N_is_word_character : List Str := ["character"]
theorem sc_is_word_character : FnScope N_is_word_character ["character"] (defScope s_is_word_character) := ⟨rfl, rfl, rfl, by decide +kernel, rfl, by decide +kernel, by decide +kernel⟩
abbrev s_name_end : Stmt := top 15
abbrev N_name_end : List Str := ["text", "at"]
theorem sc_name_end : FnScope N_name_end ["text", "at"] (defScope s_name_end) := ⟨rfl, rfl, rfl, by decide +kernel, rfl, by decide +kernel, by decide +kernel⟩
abbrev s_next_state : Stmt := top 16
abbrev N_next_state : List Str := ["state", "character", "characters", "later"]
theorem sc_next_state : FnScope N_next_state ["state", "character"] (defScope s_next_state) := ⟨rfl, rfl, rfl, by decide +kernel, rfl, by decide +kernel, by decide +kernel⟩
abbrev s_number_end : Stmt := top 17
abbrev N_number_end : List Str := ["text", "at", "is_final", "state", "end"]
theorem sc_number_end : FnScope N_number_end ["text", "at", "is_final"] (defScope s_number_end) := ⟨rfl, rfl, rfl, by decide +kernel, rfl, by decide +kernel, by decide +kernel⟩
abbrev s_operator_end : Stmt := top 18
abbrev N_operator_end : List Str := ["text", "at", "is_final", "rest", "sign"]
theorem sc_operator_end : FnScope N_operator_end ["text", "at", "is_final"] (defScope s_operator_end) := ⟨rfl, rfl, rfl, by decide +kernel, rfl, by decide +kernel, by decide +kernel⟩
abbrev s_quote_at : Stmt := top 19
abbrev N_quote_at : List Str := ["text", "at", "is_final", "quote"]
theorem sc_quote_at : FnScope N_quote_at ["text", "at", "is_final"] (defScope s_quote_at) := ⟨rfl, rfl, rfl, by decide +kernel, rfl, by decide +kernel, by decide +kernel⟩
abbrev s_string_end : Stmt := top 20
abbrev N_string_end : List Str := ["text", "at", "quote", "is_final"]
theorem sc_string_end : FnScope N_string_end ["text", "at", "quote", "is_final"] (defScope s_string_end) := ⟨rfl, rfl, rfl, by decide +kernel, rfl, by decide +kernel, by decide +kernel⟩
abbrev s_Frame___init__ : Stmt := inClass (top 27) 0
abbrev N_Frame___init__ : List Str := ["self", "mark", "at", "quote"]
theorem sc_Frame___init__ : FnScope N_Frame___init__ ["self", "mark", "at", "quote"] (defScope s_Frame___init__) := ⟨rfl, rfl, rfl, by decide +kernel, rfl, by decide +kernel, by decide +kernel⟩
abbrev s_width_of : Stmt := top 28
abbrev N_width_of : List Str := ["gap", "width", "character"]
theorem sc_width_of : FnScope N_width_of ["gap"] (defScope s_width_of) := ⟨rfl, rfl, rfl, by decide +kernel, rfl, by decide +kernel, by decide +kernel⟩
abbrev s_Scanner___init__ : Stmt := inClass (top 29) 0
abbrev N_Scanner___init__ : List Str := ["self"]
theorem sc_Scanner___init__ : FnScope N_Scanner___init__ ["self"] (defScope s_Scanner___init__) := ⟨rfl, rfl, rfl, by decide +kernel, rfl, by decide +kernel, by decide +kernel⟩
abbrev s_Scanner_add : Stmt := inClass (top 29) 1
abbrev N_Scanner_add : List Str := ["self", "kind", "end"]
theorem sc_Scanner_add : FnScope N_Scanner_add ["self", "kind", "end"] (defScope s_Scanner_add) := ⟨rfl, rfl, rfl, by decide +kernel, rfl, by decide +kernel, by decide +kernel⟩
abbrev s_Scanner_add_lexeme : Stmt := inClass (top 29) 2
abbrev N_Scanner_add_lexeme : List Str := ["self", "kind", "end"]
theorem sc_Scanner_add_lexeme : FnScope N_Scanner_add_lexeme ["self", "kind", "end"] (defScope s_Scanner_add_lexeme) := ⟨rfl, rfl, rfl, by decide +kernel, rfl, by decide +kernel, by decide +kernel⟩
abbrev s_Scanner_fail : Stmt := inClass (top 29) 3
abbrev N_Scanner_fail : List Str := ["self", "kind", "at"]
theorem sc_Scanner_fail : FnScope N_Scanner_fail ["self", "kind", "at"] (defScope s_Scanner_fail) := ⟨rfl, rfl, rfl, by decide +kernel, rfl, by decide +kernel, by decide +kernel⟩
abbrev s_Scanner_feed : Stmt := inClass (top 29) 4
abbrev N_Scanner_feed : List Str := ["self", "piece"]
theorem sc_Scanner_feed : FnScope N_Scanner_feed ["self", "piece"] (defScope s_Scanner_feed) := ⟨rfl, rfl, rfl, by decide +kernel, rfl, by decide +kernel, by decide +kernel⟩
abbrev s_Scanner_close : Stmt := inClass (top 29) 5
abbrev N_Scanner_close : List Str := ["self"]
theorem sc_Scanner_close : FnScope N_Scanner_close ["self"] (defScope s_Scanner_close) := ⟨rfl, rfl, rfl, by decide +kernel, rfl, by decide +kernel, by decide +kernel⟩
abbrev s_Scanner_read_on : Stmt := inClass (top 29) 6
abbrev N_Scanner_read_on : List Str := ["self", "count"]
theorem sc_Scanner_read_on : FnScope N_Scanner_read_on ["self"] (defScope s_Scanner_read_on) := ⟨rfl, rfl, rfl, by decide +kernel, rfl, by decide +kernel, by decide +kernel⟩
abbrev s_Scanner_read_step : Stmt := inClass (top 29) 7
abbrev N_Scanner_read_step : List Str := ["self", "character"]
theorem sc_Scanner_read_step : FnScope N_Scanner_read_step ["self"] (defScope s_Scanner_read_step) := ⟨rfl, rfl, rfl, by decide +kernel, rfl, by decide +kernel, by decide +kernel⟩
abbrev s_Scanner_finish : Stmt := inClass (top 29) 8
abbrev N_Scanner_finish : List Str := ["self", "level"]
theorem sc_Scanner_finish : FnScope N_Scanner_finish ["self"] (defScope s_Scanner_finish) := ⟨rfl, rfl, rfl, by decide +kernel, rfl, by decide +kernel, by decide +kernel⟩
abbrev s_Scanner_read_join : Stmt := inClass (top 29) 9
abbrev N_Scanner_read_join : List Str := ["self"]
theorem sc_Scanner_read_join : FnScope N_Scanner_read_join ["self"] (defScope s_Scanner_read_join) := ⟨rfl, rfl, rfl, by decide +kernel, rfl, by decide +kernel, by decide +kernel⟩
abbrev s_Scanner_comment_end : Stmt := inClass (top 29) 10
abbrev N_Scanner_comment_end : List Str := ["self", "at", "end"]
theorem sc_Scanner_comment_end : FnScope N_Scanner_comment_end ["self", "at"] (defScope s_Scanner_comment_end) := ⟨rfl, rfl, rfl, by decide +kernel, rfl, by decide +kernel, by decide +kernel⟩
abbrev s_Scanner_read_comment : Stmt := inClass (top 29) 11
abbrev N_Scanner_read_comment : List Str := ["self", "end"]
theorem sc_Scanner_read_comment : FnScope N_Scanner_read_comment ["self"] (defScope s_Scanner_read_comment) := ⟨rfl, rfl, rfl, by decide +kernel, rfl, by decide +kernel, by decide +kernel⟩
abbrev s_Scanner_read_line_feed : Stmt := inClass (top 29) 12
abbrev N_Scanner_read_line_feed : List Str := ["self"]
theorem sc_Scanner_read_line_feed : FnScope N_Scanner_read_line_feed ["self"] (defScope s_Scanner_read_line_feed) := ⟨rfl, rfl, rfl, by decide +kernel, rfl, by decide +kernel, by decide +kernel⟩
abbrev s_Scanner_read_indentation : Stmt := inClass (top 29) 13
abbrev N_Scanner_read_indentation : List Str := ["self", "end"]
theorem sc_Scanner_read_indentation : FnScope N_Scanner_read_indentation ["self"] (defScope s_Scanner_read_indentation) := ⟨rfl, rfl, rfl, by decide +kernel, rfl, by decide +kernel, by decide +kernel⟩
abbrev s_Scanner_read_last_gap : Stmt := inClass (top 29) 14
abbrev N_Scanner_read_last_gap : List Str := ["self", "end"]
theorem sc_Scanner_read_last_gap : FnScope N_Scanner_read_last_gap ["self", "end"] (defScope s_Scanner_read_last_gap) := ⟨rfl, rfl, rfl, by decide +kernel, rfl, by decide +kernel, by decide +kernel⟩
abbrev s_Scanner_read_empty_line : Stmt := inClass (top 29) 15
abbrev N_Scanner_read_empty_line : List Str := ["self", "at", "end"]
theorem sc_Scanner_read_empty_line : FnScope N_Scanner_read_empty_line ["self", "at"] (defScope s_Scanner_read_empty_line) := ⟨rfl, rfl, rfl, by decide +kernel, rfl, by decide +kernel, by decide +kernel⟩
abbrev s_Scanner_compare_indentation : Stmt := inClass (top 29) 16
abbrev N_Scanner_compare_indentation : List Str := ["self", "gap", "end", "width", "length", "level"]
theorem sc_Scanner_compare_indentation : FnScope N_Scanner_compare_indentation ["self", "gap", "end"] (defScope s_Scanner_compare_indentation) := ⟨rfl, rfl, rfl, by decide +kernel, rfl, by decide +kernel, by decide +kernel⟩
abbrev s_Scanner_read_lexeme : Stmt := inClass (top 29) 17
abbrev N_Scanner_read_lexeme : List Str := ["self", "character", "rest", "end"]
theorem sc_Scanner_read_lexeme : FnScope N_Scanner_read_lexeme ["self", "character"] (defScope s_Scanner_read_lexeme) := ⟨rfl, rfl, rfl, by decide +kernel, rfl, by decide +kernel, by decide +kernel⟩
abbrev s_Scanner_read_word : Stmt := inClass (top 29) 18
abbrev N_Scanner_read_word : List Str := ["self", "end", "prefix"]
theorem sc_Scanner_read_word : FnScope N_Scanner_read_word ["self"] (defScope s_Scanner_read_word) := ⟨rfl, rfl, rfl, by decide +kernel, rfl, by decide +kernel, by decide +kernel⟩
abbrev s_Scanner_read_string : Stmt := inClass (top 29) 19
abbrev N_Scanner_read_string : List Str := ["self", "at", "quote", "end"]
theorem sc_Scanner_read_string : FnScope N_Scanner_read_string ["self", "at"] (defScope s_Scanner_read_string) := ⟨rfl, rfl, rfl, by decide +kernel, rfl, by decide +kernel, by decide +kernel⟩
abbrev s_Scanner_begin_string : Stmt := inClass (top 29) 20
abbrev N_Scanner_begin_string : List Str := ["self", "at", "quote", "frame"]
theorem sc_Scanner_begin_string : FnScope N_Scanner_begin_string ["self", "at"] (defScope s_Scanner_begin_string) := ⟨rfl, rfl, rfl, by decide +kernel, rfl, by decide +kernel, by decide +kernel⟩
abbrev s_Scanner_read_operator : Stmt := inClass (top 29) 21
abbrev N_Scanner_read_operator : List Str := ["self", "character", "is_own", "frame", "end"]
theorem sc_Scanner_read_operator : FnScope N_Scanner_read_operator ["self", "character"] (defScope s_Scanner_read_operator) := ⟨rfl, rfl, rfl, by decide +kernel, rfl, by decide +kernel, by decide +kernel⟩
abbrev s_Scanner_open_bracket : Stmt := inClass (top 29) 22
abbrev N_Scanner_open_bracket : List Str := ["self", "mark", "quote", "frame"]
theorem sc_Scanner_open_bracket : FnScope N_Scanner_open_bracket ["self", "mark", "quote"] (defScope s_Scanner_open_bracket) := ⟨rfl, rfl, rfl, by decide +kernel, rfl, by decide +kernel, by decide +kernel⟩
abbrev s_Scanner_add_part : Stmt := inClass (top 29) 23
abbrev N_Scanner_add_part : List Str := ["self", "end"]
theorem sc_Scanner_add_part : FnScope N_Scanner_add_part ["self", "end"] (defScope s_Scanner_add_part) := ⟨rfl, rfl, rfl, by decide +kernel, rfl, by decide +kernel, by decide +kernel⟩
abbrev s_Scanner_part_end : Stmt := inClass (top 29) 24
abbrev N_Scanner_part_end : List Str := ["self", "frame", "text", "quote", "at", "rest"]
theorem sc_Scanner_part_end : FnScope N_Scanner_part_end ["self", "frame"] (defScope s_Scanner_part_end) := ⟨rfl, rfl, rfl, by decide +kernel, rfl, by decide +kernel, by decide +kernel⟩
abbrev s_Scanner_read_part : Stmt := inClass (top 29) 25
abbrev N_Scanner_read_part : List Str := ["self", "frame", "end", "begun", "other"]
theorem sc_Scanner_read_part : FnScope N_Scanner_read_part ["self", "frame"] (defScope s_Scanner_read_part) := ⟨rfl, rfl, rfl, by decide +kernel, rfl, by decide +kernel, by decide +kernel⟩
abbrev s_Scanner_end_format : Stmt := inClass (top 29) 26
abbrev N_Scanner_end_format : List Str := ["self", "frame"]
theorem sc_Scanner_end_format : FnScope N_Scanner_end_format ["self", "frame"] (defScope s_Scanner_end_format) := ⟨rfl, rfl, rfl, by decide +kernel, rfl, by decide +kernel, by decide +kernel⟩
abbrev s_read : Stmt := top 31
abbrev N_read : List Str := ["text", "scanner", "found"]
theorem sc_read : FnScope N_read ["text"] (defScope s_read) := ⟨rfl, rfl, rfl, by decide +kernel, rfl, by decide +kernel, by decide +kernel⟩
abbrev s_tokens : Stmt := top 32
abbrev N_tokens : List Str := ["text", "found", "error"]
theorem sc_tokens : FnScope N_tokens ["text"] (defScope s_tokens) := ⟨rfl, rfl, rfl, by decide +kernel, rfl, by decide +kernel, by decide +kernel⟩
abbrev s_is_significant : Stmt := top 36
abbrev N_is_significant : List Str := ["token"]
theorem sc_is_significant : FnScope N_is_significant ["token"] (defScope s_is_significant) := ⟨rfl, rfl, rfl, by decide +kernel, rfl, by decide +kernel, by decide +kernel⟩
abbrev s_sense_of : Stmt := top 37
abbrev N_sense_of : List Str := ["token"]
theorem sc_sense_of : FnScope N_sense_of ["token"] (defScope s_sense_of) := ⟨rfl, rfl, rfl, by decide +kernel, rfl, by decide +kernel, by decide +kernel⟩
abbrev s_significant : Stmt := top 38
abbrev N_significant : List Str := ["text", "token"]
theorem sc_significant : FnScope N_significant ["text"] (defScope s_significant) := ⟨rfl, rfl, rfl, by decide +kernel, rfl, by decide +kernel, by decide +kernel⟩
abbrev s_parting : Stmt := top 39
abbrev N_parting : List Str := ["one", "other", "mine", "yours", "at", "left", "right", "token"]
theorem sc_parting : FnScope N_parting ["one", "other"] (defScope s_parting) := ⟨rfl, rfl, rfl, by decide +kernel, rfl, by decide +kernel, by decide +kernel⟩
abbrev s__law_bag : Stmt := top 41
abbrev N__law_bag : List Str := ["_law_script", "_law_at", "_law_cell", "_law_digits"]
theorem sc__law_bag : FnScope N__law_bag ["_law_script", "_law_at"] (defScope s__law_bag) := ⟨rfl, rfl, rfl, by decide +kernel, rfl, by decide +kernel, by decide +kernel⟩
abbrev s__law_take : Stmt := top 42
abbrev N__law_take : List Str := ["_law_bag_here", "_law_many", "_law_digit"]
theorem sc__law_take : FnScope N__law_take ["_law_bag_here", "_law_many"] (defScope s__law_take) := ⟨rfl, rfl, rfl, by decide +kernel, rfl, by decide +kernel, by decide +kernel⟩
abbrev s__law_pick : Stmt := top 43
abbrev N__law_pick : List Str := ["_law_bag_here", "_law_menu"]
theorem sc__law_pick : FnScope N__law_pick ["_law_bag_here", "_law_menu"] (defScope s__law_pick) := ⟨rfl, rfl, rfl, by decide +kernel, rfl, by decide +kernel, by decide +kernel⟩
abbrev s__law_plain : Stmt := top 44
abbrev N__law_plain : List Str := ["_law_bag_here", "_law_names", "_law_numbers", "_law_strings", "_law_signs"]
theorem sc__law_plain : FnScope N__law_plain ["_law_bag_here"] (defScope s__law_plain) := ⟨rfl, rfl, rfl, by decide +kernel, rfl, by decide +kernel, by decide +kernel⟩
abbrev s__law_atom : Stmt := top 45
abbrev N__law_atom : List Str := ["_law_bag_here", "_law_depth", "_law_way", "_law_pair"]
theorem sc__law_atom : FnScope N__law_atom ["_law_bag_here", "_law_depth"] (defScope s__law_atom) := ⟨rfl, rfl, rfl, by decide +kernel, rfl, by decide +kernel, by decide +kernel⟩
abbrev s__law_row : Stmt := top 46
abbrev N__law_row : List Str := ["_law_bag_here", "_law_depth", "_law_is_inside", "_law_gaps", "_law_found", "_law_turn"]
theorem sc__law_row : FnScope N__law_row ["_law_bag_here", "_law_depth", "_law_is_inside"] (defScope s__law_row) := ⟨rfl, rfl, rfl, by decide +kernel, rfl, by decide +kernel, by decide +kernel⟩
abbrev s__law_formatted : Stmt := top 47
abbrev N__law_formatted : List Str := ["_law_bag_here", "_law_depth", "_law_quote", "_law_found", "_law_tails", "_law_parts", "_law_turn", "_law_way"]
theorem sc__law_formatted : FnScope N__law_formatted ["_law_bag_here", "_law_depth"] (defScope s__law_formatted) := ⟨rfl, rfl, rfl, by decide +kernel, rfl, by decide +kernel, by decide +kernel⟩
abbrev s__law_source : Stmt := top 48
abbrev N__law_source : List Str := ["_law_bag_here", "_law_most", "_law_found", "_law_levels", "_law_turn", "_law_way"]
theorem sc__law_source : FnScope N__law_source ["_law_bag_here", "_law_most"] (defScope s__law_source) := ⟨rfl, rfl, rfl, by decide +kernel, rfl, by decide +kernel, by decide +kernel⟩
abbrev s__law_valid : Stmt := top 49
abbrev N__law_valid : List Str := ["_law_bag_here", "_law_most", "_law_turn", "_law_text"]
theorem sc__law_valid : FnScope N__law_valid ["_law_bag_here", "_law_most"] (defScope s__law_valid) := ⟨rfl, rfl, rfl, by decide +kernel, rfl, by decide +kernel, by decide +kernel⟩
abbrev s__law_spoilt : Stmt := top 50
abbrev N__law_spoilt : List Str := ["_law_bag_here", "_law_text", "_law_at", "_law_sign", "_law_way"]
theorem sc__law_spoilt : FnScope N__law_spoilt ["_law_bag_here", "_law_text"] (defScope s__law_spoilt) := ⟨rfl, rfl, rfl, by decide +kernel, rfl, by decide +kernel, by decide +kernel⟩
abbrev s__law_right : Stmt := top 51
abbrev N__law_right : List Str := ["_law_one", "_law_other", "_law_mine", "_law_yours", "_law_told", "_law_first", "_law_second", "_law_at", "_law_left", "_law_right_here", "_law_token"]
theorem sc__law_right : FnScope N__law_right ["_law_one", "_law_other"] (defScope s__law_right) := ⟨rfl, rfl, rfl, by decide +kernel, rfl, by decide +kernel, by decide +kernel⟩
abbrev s__law_index : Stmt := top 52
abbrev N__law_index : List Str := ["_law_one", "_law_other", "_law_told"]
theorem sc__law_index : FnScope N__law_index ["_law_one", "_law_other"] (defScope s__law_index) := ⟨rfl, rfl, rfl, by decide +kernel, rfl, by decide +kernel, by decide +kernel⟩
abbrev s__law_levels_part : Stmt := top 53
abbrev N__law_levels_part : List Str := ["_law_one", "_law_other", "_law_due"]
theorem sc__law_levels_part : FnScope N__law_levels_part [] (defScope s__law_levels_part) := ⟨rfl, rfl, rfl, by decide +kernel, rfl, by decide +kernel, by decide +kernel⟩
abbrev s_law : Stmt := top 54
abbrev N_law : List Str := ["_law_script", "_law_k", "_law_bag_here", "_law_one", "_law_third", "_law_other", "_law_turn", "_law_text", "_law_pairs", "_law_indexes", "_law_first", "_law_second"]
theorem sc_law : FnScope N_law ["_law_script"] (defScope s_law) := ⟨rfl, rfl, rfl, by decide +kernel, rfl, by decide +kernel, by decide +kernel⟩
structure Ads where
  is_word_character : Addr
  d_is_word_character : FuncData
  name_end : Addr
  d_name_end : FuncData
  next_state : Addr
  d_next_state : FuncData
  number_end : Addr
  d_number_end : FuncData
  operator_end : Addr
  d_operator_end : FuncData
  quote_at : Addr
  d_quote_at : FuncData
  string_end : Addr
  d_string_end : FuncData
  Frame___init__ : Addr
  d_Frame___init__ : FuncData
  width_of : Addr
  d_width_of : FuncData
  Scanner___init__ : Addr
  d_Scanner___init__ : FuncData
  Scanner_add : Addr
  d_Scanner_add : FuncData
  Scanner_add_lexeme : Addr
  d_Scanner_add_lexeme : FuncData
  Scanner_fail : Addr
  d_Scanner_fail : FuncData
  Scanner_feed : Addr
  d_Scanner_feed : FuncData
  Scanner_close : Addr
  d_Scanner_close : FuncData
  Scanner_read_on : Addr
  d_Scanner_read_on : FuncData
  Scanner_read_step : Addr
  d_Scanner_read_step : FuncData
  Scanner_finish : Addr
  d_Scanner_finish : FuncData
  Scanner_read_join : Addr
  d_Scanner_read_join : FuncData
  Scanner_comment_end : Addr
  d_Scanner_comment_end : FuncData
  Scanner_read_comment : Addr
  d_Scanner_read_comment : FuncData
  Scanner_read_line_feed : Addr
  d_Scanner_read_line_feed : FuncData
  Scanner_read_indentation : Addr
  d_Scanner_read_indentation : FuncData
  Scanner_read_last_gap : Addr
  d_Scanner_read_last_gap : FuncData
  Scanner_read_empty_line : Addr
  d_Scanner_read_empty_line : FuncData
  Scanner_compare_indentation : Addr
  d_Scanner_compare_indentation : FuncData
  Scanner_read_lexeme : Addr
  d_Scanner_read_lexeme : FuncData
  Scanner_read_word : Addr
  d_Scanner_read_word : FuncData
  Scanner_read_string : Addr
  d_Scanner_read_string : FuncData
  Scanner_begin_string : Addr
  d_Scanner_begin_string : FuncData
  Scanner_read_operator : Addr
  d_Scanner_read_operator : FuncData
  Scanner_open_bracket : Addr
  d_Scanner_open_bracket : FuncData
  Scanner_add_part : Addr
  d_Scanner_add_part : FuncData
  Scanner_part_end : Addr
  d_Scanner_part_end : FuncData
  Scanner_read_part : Addr
  d_Scanner_read_part : FuncData
  Scanner_end_format : Addr
  d_Scanner_end_format : FuncData
  read : Addr
  d_read : FuncData
  tokens : Addr
  d_tokens : FuncData
  is_significant : Addr
  d_is_significant : FuncData
  sense_of : Addr
  d_sense_of : FuncData
  significant : Addr
  d_significant : FuncData
  parting : Addr
  d_parting : FuncData
  _law_bag : Addr
  d__law_bag : FuncData
  _law_take : Addr
  d__law_take : FuncData
  _law_pick : Addr
  d__law_pick : FuncData
  _law_plain : Addr
  d__law_plain : FuncData
  _law_atom : Addr
  d__law_atom : FuncData
  _law_row : Addr
  d__law_row : FuncData
  _law_formatted : Addr
  d__law_formatted : FuncData
  _law_source : Addr
  d__law_source : FuncData
  _law_valid : Addr
  d__law_valid : FuncData
  _law_spoilt : Addr
  d__law_spoilt : FuncData
  _law_right : Addr
  d__law_right : FuncData
  _law_index : Addr
  d__law_index : FuncData
  _law_levels_part : Addr
  d__law_levels_part : FuncData
  law : Addr
  d_law : FuncData
  C_BadSource : Addr
  C_Frame : Addr
  C_Scanner : Addr
  r_PLAIN_PREFIXES : Addr
  r_FORMATTED_PREFIXES : Addr
  r_OPERATORS : Addr
  r_STEPS : Addr
  r_ENDS : Addr
  r_CLOSERS : Addr
  r_GAPS_OF_KINDS : Addr
  r_BARE : Addr
abbrev z_LETTERS : Str := "abcdefghijklmnopqrstuvwxyzABCDEFGHIJKLMNOPQRSTUVWXYZ_"
abbrev z_DIGITS : Str := "0123456789"
abbrev z_GAPS : Str := " \t"
abbrev z_QUOTES : Str := "'\""
def tv_PLAIN_PREFIXES : List V := [.str "", .str "r", .str "u", .str "b", .str "br", .str "rb"]
def dd_PLAIN_PREFIXES : PyData := .tuple [.str "", .str "r", .str "u", .str "b", .str "br", .str "rb"]
def tv_FORMATTED_PREFIXES : List V := [.str "f", .str "fr", .str "rf"]
def dd_FORMATTED_PREFIXES : PyData := .tuple [.str "f", .str "fr", .str "rf"]
def tv_OPERATORS : List V := [.str "**=", .str "//=", .str ">>=", .str "<<=", .str "...", .str "!=", .str "->", .str ":=", .str "**", .str "//", .str ">>", .str "<<", .str "<=", .str ">=", .str "==", .str "+=", .str "-=", .str "*=", .str "/=", .str "&=", .str "|=", .str "^=", .str "@=", .str "+", .str "-", .str "*", .str "/", .str "@", .str "&", .str "|", .str "^", .str "~", .str "<", .str ">", .str "(", .str ")", .str "[", .str "]", .str "{", .str "}", .str ",", .str ":", .str ".", .str ";", .str "="]
def dd_OPERATORS : PyData := .tuple [.str "**=", .str "//=", .str ">>=", .str "<<=", .str "...", .str "!=", .str "->", .str ":=", .str "**", .str "//", .str ">>", .str "<<", .str "<=", .str ">=", .str "==", .str "+=", .str "-=", .str "*=", .str "/=", .str "&=", .str "|=", .str "^=", .str "@=", .str "+", .str "-", .str "*", .str "/", .str "@", .str "&", .str "|", .str "^", .str "~", .str "<", .str ">", .str "(", .str ")", .str "[", .str "]", .str "{", .str "}", .str ",", .str ":", .str ".", .str ";", .str "="]
def kv_STEPS : List (Str × PyData) := [("begin", .tuple [.tuple [.str "0", .str "zero"], .tuple [.str "123456789", .str "whole"], .tuple [.str ".", .str "point"]]), ("zero", .tuple [.tuple [.str "0", .str "zeros"], .tuple [.str "_", .str "zeros_"], .tuple [.str "123456789", .str "padded"], .tuple [.str ".", .str "pointed"], .tuple [.str "eE", .str "exponent"], .tuple [.str "jJ", .str "imaginary"], .tuple [.str "xX", .str "hex"], .tuple [.str "oO", .str "octal"], .tuple [.str "bB", .str "binary"]]), ("zeros", .tuple [.tuple [.str "0", .str "zeros"], .tuple [.str "_", .str "zeros_"], .tuple [.str "123456789", .str "padded"], .tuple [.str ".", .str "pointed"], .tuple [.str "eE", .str "exponent"], .tuple [.str "jJ", .str "imaginary"]]), ("zeros_", .tuple [.tuple [.str "0", .str "zeros"], .tuple [.str "123456789", .str "padded"]]), ("padded", .tuple [.tuple [.str "0123456789", .str "padded"], .tuple [.str "_", .str "padded_"], .tuple [.str ".", .str "pointed"], .tuple [.str "eE", .str "exponent"], .tuple [.str "jJ", .str "imaginary"]]), ("padded_", .tuple [.tuple [.str "0123456789", .str "padded"]]), ("whole", .tuple [.tuple [.str "0123456789", .str "whole"], .tuple [.str "_", .str "whole_"], .tuple [.str ".", .str "pointed"], .tuple [.str "eE", .str "exponent"], .tuple [.str "jJ", .str "imaginary"]]), ("whole_", .tuple [.tuple [.str "0123456789", .str "whole"]]), ("pointed", .tuple [.tuple [.str "0123456789", .str "fraction"], .tuple [.str "eE", .str "exponent"], .tuple [.str "jJ", .str "imaginary"]]), ("point", .tuple [.tuple [.str "0123456789", .str "fraction"]]), ("fraction", .tuple [.tuple [.str "0123456789", .str "fraction"], .tuple [.str "_", .str "fraction_"], .tuple [.str "eE", .str "exponent"], .tuple [.str "jJ", .str "imaginary"]]), ("fraction_", .tuple [.tuple [.str "0123456789", .str "fraction"]]), ("exponent", .tuple [.tuple [.str "0123456789", .str "power"], .tuple [.str "+-", .str "sign"]]), ("sign", .tuple [.tuple [.str "0123456789", .str "power"]]), ("power", .tuple [.tuple [.str "0123456789", .str "power"], .tuple [.str "_", .str "power_"], .tuple [.str "jJ", .str "imaginary"]]), ("power_", .tuple [.tuple [.str "0123456789", .str "power"]]), ("hex", .tuple [.tuple [.str "0123456789abcdefABCDEF", .str "hexes"], .tuple [.str "_", .str "hex_"]]), ("hex_", .tuple [.tuple [.str "0123456789abcdefABCDEF", .str "hexes"]]), ("hexes", .tuple [.tuple [.str "0123456789abcdefABCDEF", .str "hexes"], .tuple [.str "_", .str "hex_"]]), ("octal", .tuple [.tuple [.str "01234567", .str "octals"], .tuple [.str "_", .str "octal_"]]), ("octal_", .tuple [.tuple [.str "01234567", .str "octals"]]), ("octals", .tuple [.tuple [.str "01234567", .str "octals"], .tuple [.str "_", .str "octal_"]]), ("binary", .tuple [.tuple [.str "01", .str "binaries"], .tuple [.str "_", .str "binary_"]]), ("binary_", .tuple [.tuple [.str "01", .str "binaries"]]), ("binaries", .tuple [.tuple [.str "01", .str "binaries"], .tuple [.str "_", .str "binary_"]]), ("imaginary", .tuple [])]
def tv_ENDS : List V := [.str "zero", .str "zeros", .str "whole", .str "pointed", .str "fraction", .str "power", .str "hexes", .str "octals", .str "binaries", .str "imaginary"]
def dd_ENDS : PyData := .tuple [.str "zero", .str "zeros", .str "whole", .str "pointed", .str "fraction", .str "power", .str "hexes", .str "octals", .str "binaries", .str "imaginary"]
abbrev ab_CLOSERS : List Str := (["string", "format"] : List String).map Str.ofString
def kv_CLOSERS : List (Str × PyData) := [("(", .str ")"), ("[", .str "]"), ("{", .str "}"), ("field", .str "}")]
def tv_GAPS_OF_KINDS : List V := [.str "COMMENT", .str "NL"]
def dd_GAPS_OF_KINDS : PyData := .tuple [.str "COMMENT", .str "NL"]
def tv_BARE : List V := [.str "INDENT", .str "NEWLINE"]
def dd_BARE : PyData := .tuple [.str "INDENT", .str "NEWLINE"]
structure Txt (w : World) (K : PySem.W.Frag) (mg : Str → Option Value) (a : Ads) : Prop where
  F_is_word_character : Fun K "is_word_character" "is_word_character" s_is_word_character a.is_word_character a.d_is_word_character
  b_is_word_character : Binds K a.d_is_word_character ["character"] []
  m_is_word_character : mg "is_word_character" = some (.ref a.is_word_character)
  F_name_end : Fun K "name_end" "name_end" s_name_end a.name_end a.d_name_end
  b_name_end : Binds K a.d_name_end ["text", "at"] []
  m_name_end : mg "name_end" = some (.ref a.name_end)
  F_next_state : Fun K "next_state" "next_state" s_next_state a.next_state a.d_next_state
  b_next_state : Binds K a.d_next_state ["state", "character"] []
  m_next_state : mg "next_state" = some (.ref a.next_state)
  F_number_end : Fun K "number_end" "number_end" s_number_end a.number_end a.d_number_end
  b_number_end : Binds K a.d_number_end ["text", "at", "is_final"] []
  m_number_end : mg "number_end" = some (.ref a.number_end)
  F_operator_end : Fun K "operator_end" "operator_end" s_operator_end a.operator_end a.d_operator_end
  b_operator_end : Binds K a.d_operator_end ["text", "at", "is_final"] []
  m_operator_end : mg "operator_end" = some (.ref a.operator_end)
  F_quote_at : Fun K "quote_at" "quote_at" s_quote_at a.quote_at a.d_quote_at
  b_quote_at : Binds K a.d_quote_at ["text", "at", "is_final"] []
  m_quote_at : mg "quote_at" = some (.ref a.quote_at)
  F_string_end : Fun K "string_end" "string_end" s_string_end a.string_end a.d_string_end
  b_string_end : Binds K a.d_string_end ["text", "at", "quote", "is_final"] []
  m_string_end : mg "string_end" = some (.ref a.string_end)
  F_Frame___init__ : Fun K "__init__" "Frame.__init__" s_Frame___init__ a.Frame___init__ a.d_Frame___init__
  b_Frame___init__ : Binds K a.d_Frame___init__ ["self", "mark", "at", "quote"] []
  M_Frame : Mk K a.C_Frame a.Frame___init__
  F_width_of : Fun K "width_of" "width_of" s_width_of a.width_of a.d_width_of
  b_width_of : Binds K a.d_width_of ["gap"] []
  m_width_of : mg "width_of" = some (.ref a.width_of)
  F_Scanner___init__ : Fun K "__init__" "Scanner.__init__" s_Scanner___init__ a.Scanner___init__ a.d_Scanner___init__
  b_Scanner___init__ : Binds K a.d_Scanner___init__ ["self"] []
  M_Scanner : Mk K a.C_Scanner a.Scanner___init__
  F_Scanner_add : Fun K "add" "Scanner.add" s_Scanner_add a.Scanner_add a.d_Scanner_add
  b_Scanner_add : Binds K a.d_Scanner_add ["self", "kind", "end"] []
  t_Scanner_add : Meth K a.C_Scanner "add" a.Scanner_add
  F_Scanner_add_lexeme : Fun K "add_lexeme" "Scanner.add_lexeme" s_Scanner_add_lexeme a.Scanner_add_lexeme a.d_Scanner_add_lexeme
  b_Scanner_add_lexeme : Binds K a.d_Scanner_add_lexeme ["self", "kind", "end"] []
  t_Scanner_add_lexeme : Meth K a.C_Scanner "add_lexeme" a.Scanner_add_lexeme
  F_Scanner_fail : Fun K "fail" "Scanner.fail" s_Scanner_fail a.Scanner_fail a.d_Scanner_fail
  b_Scanner_fail : Binds K a.d_Scanner_fail ["self", "kind", "at"] []
  t_Scanner_fail : Meth K a.C_Scanner "fail" a.Scanner_fail
  F_Scanner_feed : Fun K "feed" "Scanner.feed" s_Scanner_feed a.Scanner_feed a.d_Scanner_feed
  b_Scanner_feed : Binds K a.d_Scanner_feed ["self", "piece"] []
  t_Scanner_feed : Meth K a.C_Scanner "feed" a.Scanner_feed
  F_Scanner_close : Fun K "close" "Scanner.close" s_Scanner_close a.Scanner_close a.d_Scanner_close
  b_Scanner_close : Binds K a.d_Scanner_close ["self"] []
  t_Scanner_close : Meth K a.C_Scanner "close" a.Scanner_close
  F_Scanner_read_on : Fun K "read_on" "Scanner.read_on" s_Scanner_read_on a.Scanner_read_on a.d_Scanner_read_on
  b_Scanner_read_on : Binds K a.d_Scanner_read_on ["self"] []
  t_Scanner_read_on : Meth K a.C_Scanner "read_on" a.Scanner_read_on
  F_Scanner_read_step : Fun K "read_step" "Scanner.read_step" s_Scanner_read_step a.Scanner_read_step a.d_Scanner_read_step
  b_Scanner_read_step : Binds K a.d_Scanner_read_step ["self"] []
  t_Scanner_read_step : Meth K a.C_Scanner "read_step" a.Scanner_read_step
  F_Scanner_finish : Fun K "finish" "Scanner.finish" s_Scanner_finish a.Scanner_finish a.d_Scanner_finish
  b_Scanner_finish : Binds K a.d_Scanner_finish ["self"] []
  t_Scanner_finish : Meth K a.C_Scanner "finish" a.Scanner_finish
  F_Scanner_read_join : Fun K "read_join" "Scanner.read_join" s_Scanner_read_join a.Scanner_read_join a.d_Scanner_read_join
  b_Scanner_read_join : Binds K a.d_Scanner_read_join ["self"] []
  t_Scanner_read_join : Meth K a.C_Scanner "read_join" a.Scanner_read_join
  F_Scanner_comment_end : Fun K "comment_end" "Scanner.comment_end" s_Scanner_comment_end a.Scanner_comment_end a.d_Scanner_comment_end
  b_Scanner_comment_end : Binds K a.d_Scanner_comment_end ["self", "at"] []
  t_Scanner_comment_end : Meth K a.C_Scanner "comment_end" a.Scanner_comment_end
  F_Scanner_read_comment : Fun K "read_comment" "Scanner.read_comment" s_Scanner_read_comment a.Scanner_read_comment a.d_Scanner_read_comment
  b_Scanner_read_comment : Binds K a.d_Scanner_read_comment ["self"] []
  t_Scanner_read_comment : Meth K a.C_Scanner "read_comment" a.Scanner_read_comment
  F_Scanner_read_line_feed : Fun K "read_line_feed" "Scanner.read_line_feed" s_Scanner_read_line_feed a.Scanner_read_line_feed a.d_Scanner_read_line_feed
  b_Scanner_read_line_feed : Binds K a.d_Scanner_read_line_feed ["self"] []
  t_Scanner_read_line_feed : Meth K a.C_Scanner "read_line_feed" a.Scanner_read_line_feed
  F_Scanner_read_indentation : Fun K "read_indentation" "Scanner.read_indentation" s_Scanner_read_indentation a.Scanner_read_indentation a.d_Scanner_read_indentation
  b_Scanner_read_indentation : Binds K a.d_Scanner_read_indentation ["self"] []
  t_Scanner_read_indentation : Meth K a.C_Scanner "read_indentation" a.Scanner_read_indentation
  F_Scanner_read_last_gap : Fun K "read_last_gap" "Scanner.read_last_gap" s_Scanner_read_last_gap a.Scanner_read_last_gap a.d_Scanner_read_last_gap
  b_Scanner_read_last_gap : Binds K a.d_Scanner_read_last_gap ["self", "end"] []
  t_Scanner_read_last_gap : Meth K a.C_Scanner "read_last_gap" a.Scanner_read_last_gap
  F_Scanner_read_empty_line : Fun K "read_empty_line" "Scanner.read_empty_line" s_Scanner_read_empty_line a.Scanner_read_empty_line a.d_Scanner_read_empty_line
  b_Scanner_read_empty_line : Binds K a.d_Scanner_read_empty_line ["self", "at"] []
  t_Scanner_read_empty_line : Meth K a.C_Scanner "read_empty_line" a.Scanner_read_empty_line
  F_Scanner_compare_indentation : Fun K "compare_indentation" "Scanner.compare_indentation" s_Scanner_compare_indentation a.Scanner_compare_indentation a.d_Scanner_compare_indentation
  b_Scanner_compare_indentation : Binds K a.d_Scanner_compare_indentation ["self", "gap", "end"] []
  t_Scanner_compare_indentation : Meth K a.C_Scanner "compare_indentation" a.Scanner_compare_indentation
  F_Scanner_read_lexeme : Fun K "read_lexeme" "Scanner.read_lexeme" s_Scanner_read_lexeme a.Scanner_read_lexeme a.d_Scanner_read_lexeme
  b_Scanner_read_lexeme : Binds K a.d_Scanner_read_lexeme ["self", "character"] []
  t_Scanner_read_lexeme : Meth K a.C_Scanner "read_lexeme" a.Scanner_read_lexeme
  F_Scanner_read_word : Fun K "read_word" "Scanner.read_word" s_Scanner_read_word a.Scanner_read_word a.d_Scanner_read_word
  b_Scanner_read_word : Binds K a.d_Scanner_read_word ["self"] []
  t_Scanner_read_word : Meth K a.C_Scanner "read_word" a.Scanner_read_word
  F_Scanner_read_string : Fun K "read_string" "Scanner.read_string" s_Scanner_read_string a.Scanner_read_string a.d_Scanner_read_string
  b_Scanner_read_string : Binds K a.d_Scanner_read_string ["self", "at"] []
  t_Scanner_read_string : Meth K a.C_Scanner "read_string" a.Scanner_read_string
  F_Scanner_begin_string : Fun K "begin_string" "Scanner.begin_string" s_Scanner_begin_string a.Scanner_begin_string a.d_Scanner_begin_string
  b_Scanner_begin_string : Binds K a.d_Scanner_begin_string ["self", "at"] []
  t_Scanner_begin_string : Meth K a.C_Scanner "begin_string" a.Scanner_begin_string
  F_Scanner_read_operator : Fun K "read_operator" "Scanner.read_operator" s_Scanner_read_operator a.Scanner_read_operator a.d_Scanner_read_operator
  b_Scanner_read_operator : Binds K a.d_Scanner_read_operator ["self", "character"] []
  t_Scanner_read_operator : Meth K a.C_Scanner "read_operator" a.Scanner_read_operator
  F_Scanner_open_bracket : Fun K "open_bracket" "Scanner.open_bracket" s_Scanner_open_bracket a.Scanner_open_bracket a.d_Scanner_open_bracket
  b_Scanner_open_bracket : Binds K a.d_Scanner_open_bracket ["self", "mark", "quote"] []
  t_Scanner_open_bracket : Meth K a.C_Scanner "open_bracket" a.Scanner_open_bracket
  F_Scanner_add_part : Fun K "add_part" "Scanner.add_part" s_Scanner_add_part a.Scanner_add_part a.d_Scanner_add_part
  b_Scanner_add_part : Binds K a.d_Scanner_add_part ["self", "end"] []
  t_Scanner_add_part : Meth K a.C_Scanner "add_part" a.Scanner_add_part
  F_Scanner_part_end : Fun K "part_end" "Scanner.part_end" s_Scanner_part_end a.Scanner_part_end a.d_Scanner_part_end
  b_Scanner_part_end : Binds K a.d_Scanner_part_end ["self", "frame"] []
  t_Scanner_part_end : Meth K a.C_Scanner "part_end" a.Scanner_part_end
  F_Scanner_read_part : Fun K "read_part" "Scanner.read_part" s_Scanner_read_part a.Scanner_read_part a.d_Scanner_read_part
  b_Scanner_read_part : Binds K a.d_Scanner_read_part ["self", "frame"] []
  t_Scanner_read_part : Meth K a.C_Scanner "read_part" a.Scanner_read_part
  F_Scanner_end_format : Fun K "end_format" "Scanner.end_format" s_Scanner_end_format a.Scanner_end_format a.d_Scanner_end_format
  b_Scanner_end_format : Binds K a.d_Scanner_end_format ["self", "frame"] []
  t_Scanner_end_format : Meth K a.C_Scanner "end_format" a.Scanner_end_format
  F_read : Fun K "read" "read" s_read a.read a.d_read
  b_read : Binds K a.d_read ["text"] []
  m_read : mg "read" = some (.ref a.read)
  F_tokens : Fun K "tokens" "tokens" s_tokens a.tokens a.d_tokens
  b_tokens : Binds K a.d_tokens ["text"] []
  m_tokens : mg "tokens" = some (.ref a.tokens)
  F_is_significant : Fun K "is_significant" "is_significant" s_is_significant a.is_significant a.d_is_significant
  b_is_significant : Binds K a.d_is_significant ["token"] []
  m_is_significant : mg "is_significant" = some (.ref a.is_significant)
  F_sense_of : Fun K "sense_of" "sense_of" s_sense_of a.sense_of a.d_sense_of
  b_sense_of : Binds K a.d_sense_of ["token"] []
  m_sense_of : mg "sense_of" = some (.ref a.sense_of)
  F_significant : Fun K "significant" "significant" s_significant a.significant a.d_significant
  b_significant : Binds K a.d_significant ["text"] []
  m_significant : mg "significant" = some (.ref a.significant)
  F_parting : Fun K "parting" "parting" s_parting a.parting a.d_parting
  b_parting : Binds K a.d_parting ["one", "other"] []
  m_parting : mg "parting" = some (.ref a.parting)
  F__law_bag : Fun K "_law_bag" "_law_bag" s__law_bag a._law_bag a.d__law_bag
  b__law_bag : Binds K a.d__law_bag ["_law_script", "_law_at"] []
  m__law_bag : mg "_law_bag" = some (.ref a._law_bag)
  F__law_take : Fun K "_law_take" "_law_take" s__law_take a._law_take a.d__law_take
  b__law_take : Binds K a.d__law_take ["_law_bag_here", "_law_many"] []
  m__law_take : mg "_law_take" = some (.ref a._law_take)
  F__law_pick : Fun K "_law_pick" "_law_pick" s__law_pick a._law_pick a.d__law_pick
  b__law_pick : Binds K a.d__law_pick ["_law_bag_here", "_law_menu"] []
  m__law_pick : mg "_law_pick" = some (.ref a._law_pick)
  F__law_plain : Fun K "_law_plain" "_law_plain" s__law_plain a._law_plain a.d__law_plain
  b__law_plain : Binds K a.d__law_plain ["_law_bag_here"] []
  m__law_plain : mg "_law_plain" = some (.ref a._law_plain)
  F__law_atom : Fun K "_law_atom" "_law_atom" s__law_atom a._law_atom a.d__law_atom
  b__law_atom : Binds K a.d__law_atom ["_law_bag_here", "_law_depth"] []
  m__law_atom : mg "_law_atom" = some (.ref a._law_atom)
  F__law_row : Fun K "_law_row" "_law_row" s__law_row a._law_row a.d__law_row
  b__law_row : Binds K a.d__law_row ["_law_bag_here", "_law_depth", "_law_is_inside"] []
  m__law_row : mg "_law_row" = some (.ref a._law_row)
  F__law_formatted : Fun K "_law_formatted" "_law_formatted" s__law_formatted a._law_formatted a.d__law_formatted
  b__law_formatted : Binds K a.d__law_formatted ["_law_bag_here", "_law_depth"] []
  m__law_formatted : mg "_law_formatted" = some (.ref a._law_formatted)
  F__law_source : Fun K "_law_source" "_law_source" s__law_source a._law_source a.d__law_source
  b__law_source : Binds K a.d__law_source ["_law_bag_here", "_law_most"] []
  m__law_source : mg "_law_source" = some (.ref a._law_source)
  F__law_valid : Fun K "_law_valid" "_law_valid" s__law_valid a._law_valid a.d__law_valid
  b__law_valid : Binds K a.d__law_valid ["_law_bag_here", "_law_most"] []
  m__law_valid : mg "_law_valid" = some (.ref a._law_valid)
  F__law_spoilt : Fun K "_law_spoilt" "_law_spoilt" s__law_spoilt a._law_spoilt a.d__law_spoilt
  b__law_spoilt : Binds K a.d__law_spoilt ["_law_bag_here", "_law_text"] []
  m__law_spoilt : mg "_law_spoilt" = some (.ref a._law_spoilt)
  F__law_right : Fun K "_law_right" "_law_right" s__law_right a._law_right a.d__law_right
  b__law_right : Binds K a.d__law_right ["_law_one", "_law_other"] []
  m__law_right : mg "_law_right" = some (.ref a._law_right)
  F__law_index : Fun K "_law_index" "_law_index" s__law_index a._law_index a.d__law_index
  b__law_index : Binds K a.d__law_index ["_law_one", "_law_other"] []
  m__law_index : mg "_law_index" = some (.ref a._law_index)
  F__law_levels_part : Fun K "_law_levels_part" "_law_levels_part" s__law_levels_part a._law_levels_part a.d__law_levels_part
  b__law_levels_part : Binds K a.d__law_levels_part [] []
  m__law_levels_part : mg "_law_levels_part" = some (.ref a._law_levels_part)
  F_law : Fun K "law" "law" s_law a.law a.d_law
  b_law : Binds K a.d_law ["_law_script"] []
  m_law : mg "law" = some (.ref a.law)
  c_Frame : Cls K a.C_Frame
  m_Frame : mg "Frame" = some (.ref a.C_Frame)
  na_Frame_mark : NoAttr K a.C_Frame "mark"
  na_Frame_at : NoAttr K a.C_Frame "at"
  na_Frame_quote : NoAttr K a.C_Frame "quote"
  c_Scanner : Cls K a.C_Scanner
  m_Scanner : mg "Scanner" = some (.ref a.C_Scanner)
  na_Scanner_text : NoAttr K a.C_Scanner "text"
  na_Scanner_at : NoAttr K a.C_Scanner "at"
  na_Scanner_levels : NoAttr K a.C_Scanner "levels"
  na_Scanner_frames : NoAttr K a.C_Scanner "frames"
  na_Scanner_found : NoAttr K a.C_Scanner "found"
  na_Scanner_failure : NoAttr K a.C_Scanner "failure"
  na_Scanner_is_fresh : NoAttr K a.C_Scanner "is_fresh"
  na_Scanner_is_begun : NoAttr K a.C_Scanner "is_begun"
  na_Scanner_is_final : NoAttr K a.C_Scanner "is_final"
  na_Scanner_is_over : NoAttr K a.C_Scanner "is_over"
  na_Scanner_join : NoAttr K a.C_Scanner "join"
  n_len : mg "len" = none
  n_abs : mg "abs" = none
  n_max : mg "max" = none
  n_min : mg "min" = none
  n_all : mg "all" = none
  n_any : mg "any" = none
  n_range : mg "range" = none
  n_sorted : mg "sorted" = none
  n_list : mg "list" = none
  n_int : mg "int" = none
  n_ValueError : mg "ValueError" = none
  m_LETTERS : ∃ t, mg "LETTERS" = some (.str "abcdefghijklmnopqrstuvwxyzABCDEFGHIJKLMNOPQRSTUVWXYZ_" t)
  m_DIGITS : ∃ t, mg "DIGITS" = some (.str "0123456789" t)
  m_GAPS : ∃ t, mg "GAPS" = some (.str " \t" t)
  m_QUOTES : ∃ t, mg "QUOTES" = some (.str "'\"" t)
  m_PLAIN_PREFIXES : mg "PLAIN_PREFIXES" = some (.ref a.r_PLAIN_PREFIXES)
  q_PLAIN_PREFIXES : ∀ H : Hp, SqT K H a.r_PLAIN_PREFIXES tv_PLAIN_PREFIXES
  m_FORMATTED_PREFIXES : mg "FORMATTED_PREFIXES" = some (.ref a.r_FORMATTED_PREFIXES)
  q_FORMATTED_PREFIXES : ∀ H : Hp, SqT K H a.r_FORMATTED_PREFIXES tv_FORMATTED_PREFIXES
  m_OPERATORS : mg "OPERATORS" = some (.ref a.r_OPERATORS)
  q_OPERATORS : ∀ H : Hp, SqT K H a.r_OPERATORS tv_OPERATORS
  m_STEPS : mg "STEPS" = some (.ref a.r_STEPS)
  k_STEPS : ∃ es n, KDict K w a.r_STEPS es n
  q_STEPS : ∀ (k : Str) (d : PyData), (k, d) ∈ kv_STEPS → ∃ v, KDct K w a.r_STEPS k v ∧ ∀ H, Dp K H v d
  m_ENDS : mg "ENDS" = some (.ref a.r_ENDS)
  q_ENDS : ∀ H : Hp, SqT K H a.r_ENDS tv_ENDS
  m_MORE : ∃ t, mg "MORE" = some (.int (-1) t)
  m_WRONG : ∃ t, mg "WRONG" = some (.int (-2) t)
  m_CLOSERS : mg "CLOSERS" = some (.ref a.r_CLOSERS)
  k_CLOSERS : ∃ es n, KDict K w a.r_CLOSERS es n
  x_CLOSERS : ∀ k : Str, k ∈ ab_CLOSERS → PySem.W.nsIn K a.r_CLOSERS k = some none
  q_CLOSERS : ∀ (k : Str) (d : PyData), (k, d) ∈ kv_CLOSERS → ∃ v, KDct K w a.r_CLOSERS k v ∧ ∀ H, Dp K H v d
  m_MOST_LEVELS : ∃ t, mg "MOST_LEVELS" = some (.int 12 t)
  m_MOST_BRACKETS : ∃ t, mg "MOST_BRACKETS" = some (.int 20 t)
  m_MOST_STRINGS : ∃ t, mg "MOST_STRINGS" = some (.int 4 t)
  m_TAB : ∃ t, mg "TAB" = some (.int 8 t)
  m_GAPS_OF_KINDS : mg "GAPS_OF_KINDS" = some (.ref a.r_GAPS_OF_KINDS)
  q_GAPS_OF_KINDS : ∀ H : Hp, SqT K H a.r_GAPS_OF_KINDS tv_GAPS_OF_KINDS
  m_BARE : mg "BARE" = some (.ref a.r_BARE)
  q_BARE : ∀ H : Hp, SqT K H a.r_BARE tv_BARE
/-! ### names -/
def sp_is_word_character (_ : PySem.W.Frag) (_ : Ads) : Sp := fun vs H Q _ => ∃ c : Nat, vs = [.str (S [c])] ∧ RetV (.bl (isW c)) H Q
theorem spv_word {K : PySem.W.Frag} {a : Ads} {H : Hp} (c : Nat) : SpV (sp_is_word_character K a) [.str (S [c])] H (.bl (isW c)) := fun H1 _ Q q E => ⟨c, rfl, fun H2 e => q H2 e⟩
theorem ok_is_word_character {P : Program} {w : World} {K : PySem.W.Frag} {mg : Str → Option Value} {base : Heap} {a : Ads} (T : Txt w K mg a) :
    FnOk P w K mg base CX0 1 a.is_word_character a.d_is_word_character ["character"] (sp_is_word_character K a) := by
  refine T.F_is_word_character.ok sc_is_word_character (fun vs H Q E h => ?_) (fun cdv A outer s H vs Q E hr h => ?_)
  · obtain ⟨_, rfl, _⟩ := h; rfl
  · obtain ⟨c, rfl, k⟩ := h
    refine ⟨_, (pss_one (ps_ret (pe_or (pe_cmpR op_in_sign (pv 0) (pe_gstr T.m_LETTERS) rfl) (pe_one (pe_cmpR op_in_sign (pv 0) (pe_gstr T.m_DIGITS) rfl))))), ?_⟩
    exact s_ret (ev_orV (ev_op (ev_var rfl) ev_c rv_inS) fun _ => ev_op (ev_var rfl) ev_c rv_inS) fun H1 e => k H1 e
def sp_name_end (_ : PySem.W.Frag) (_ : Ads) : Sp := fun vs H Q _ => ∃ (l : List Nat) (n : Nat), vs = [.str (S l), .int n] ∧ l.length ≤ 16000000 ∧ n ≤ l.length ∧ RetV (.int (nameEnd l n)) H Q
theorem spv_name_end {K : PySem.W.Frag} {a : Ads} {H : Hp} {l : List Nat} {n : Nat} (h : l.length ≤ 16000000) (hn : n ≤ l.length) : SpV (sp_name_end K a) [.str (S l), .int n] H (.int (nameEnd l n)) := fun H1 _ Q q E => ⟨l, n, rfl, h, hn, fun H2 e => q H2 e⟩
theorem ok_name_end {P : Program} {w : World} {K : PySem.W.Frag} {mg : Str → Option Value} {base : Heap} {a : Ads} (T : Txt w K mg a) (G_is_word_character : FnOk P w K mg base CX0 1 a.is_word_character a.d_is_word_character ["character"] (sp_is_word_character K a)) :
    FnOk P w K mg base CX0 2 a.name_end a.d_name_end ["text", "at"] (sp_name_end K a) := by
  refine T.F_name_end.ok sc_name_end (fun vs H Q E h => ?_) (fun cdv A outer s H vs Q E hr h => ?_)
  · obtain ⟨_, _, rfl, _⟩ := h; rfl
  · obtain ⟨l, n, rfl, hl, hn, k⟩ := h
    refine ⟨_, (pss_cons (ps_while PassesOwn.never (PW.pt (pw_and (pt_cmpR op_lt (pv 1) (pe_callB call_len_str (by rfl) T.n_len b_len (pa_cons (pv 0) pa_nil)) (nomark _)) (pw_and1 (pt_val (pe_call G_is_word_character (hr.mono (by decide)) rfl T.m_is_word_character T.F_is_word_character.kp T.b_is_word_character .nil pass0 (pa_cons (pe_ix ix_str (pv 0) (pv 1) (fun _ _ => rfl)) pa_nil)))))) (pss_one (ps_aug (i := 1) sc_name_end.nd rfl (Or.inl rfl) pe_int ip_add)))
      (pss_one (ps_ret (pv 1)))), ?_⟩
    refine q_while (fun m σ H' => ∃ j : Nat, σ = [some (.str (S l)), some (.int j)] ∧ Ex H H' ∧ j + m = l.length ∧ nameEnd l n = nameEnd l j) (l.length - n) ⟨n, rfl, Ex.refl _, by omega, rfl⟩ ?_
    rintro m σ H' ⟨j, rfl, e, hm, hj⟩
    have lt : ∀ (H1 : Hp), EvT (tTest (tOp (rI0 fun i j => .bl (decide (i < j))) (tVar 1) (tCB (fun xs H Q => ∃ z, xs = [V.str z] ∧ z.length ≤ sizeLine ∧ Q (.int z.length) H) (tCons (tVar 0) tNil)))) [some (.str (S l)), some (.int j)] H1 (decide ((j : Int) < l.length)) :=
      fun H1 => et_test (ev_op (ev_var rfl) (ev_cb (ea_cons (ev_var rfl) ea_nil) (rc_lenS hl)) rv_I0)
    by_cases hlt : j < l.length
    · obtain ⟨c, hc⟩ : ∃ c, l[j]? = some c := ⟨_, List.getElem?_eq_getElem hlt⟩
      refine ⟨decide ((j : Int) < l.length) && isW c, et_and (lt H') (fun _ => et_B (ev_call (ea_cons (ev_op (ev_var rfl) (ev_var rfl) (rv_ixSn hl hc)) ea_nil) (spv_word c))), fun hb H1 e1 => ?_, fun hb H1 e1 => ?_⟩
      · have hw : isW c = true := (Bool.and_eq_true_iff.mp hb).2
        refine ⟨fun σ2 H2 => ∃ j : Nat, σ2 = [some (.str (S l)), some (.int j)] ∧ Ex H H2 ∧ j + (m - 1) = l.length ∧ nameEnd l n = nameEnd l j, fun σ2 H2 z => ⟨m - 1, by omega, z⟩, ?_⟩
        refine s_aug rfl ev_c fun H2 e2 => ⟨j + 1, rfl, (e.trans e1).trans e2, by omega, hj.trans (runEnd_more (p := isW) hc hw)⟩
      · have hw : isW c = false := by
          rw [decide_eq_true (by omega)] at hb
          exact hb
        refine s_ret (ev_var rfl) fun H2 e2 => ?_
        rw [← runEnd_stop (p := isW) hc hw, ← (show runEnd isW l n = runEnd isW l j from hj)]
        exact k H2 ((e.trans e1).trans e2)
    · refine ⟨decide ((j : Int) < l.length) && true, et_and (lt H') (fun hb => absurd (of_decide_eq_true hb) (by omega)), fun hb H1 e1 => ?_, fun hb H1 e1 => ?_⟩
      · exact absurd (of_decide_eq_true (Bool.and_eq_true_iff.mp hb).1) (by omega)
      · refine s_ret (ev_var rfl) fun H2 e2 => ?_
        rw [← runEnd_end (p := isW) (l := l) (j := j) (by omega), ← (show runEnd isW l n = runEnd isW l j from hj)]
        exact k H2 ((e.trans e1).trans e2)

/-! ### quote_at, string_end -/
def sp_quote_at (_ : PySem.W.Frag) (_ : Ads) : Sp := fun vs H Q _ => ∃ (l : List Nat) (n : Nat) (fin : Bool), vs = [.str (S l), .int n, .bl fin] ∧ l.length ≤ 15000000 ∧ n < l.length ∧ RetV (.str (S (quoteAt l n fin))) H Q
theorem spv_quote_at {K : PySem.W.Frag} {a : Ads} {H : Hp} {l : List Nat} {n : Nat} {fin : Bool} (h : l.length ≤ 15000000) (hn : n < l.length) : SpV (sp_quote_at K a) [.str (S l), .int n, .bl fin] H (.str (S (quoteAt l n fin))) := fun H1 _ Q q E => ⟨l, n, fin, rfl, h, hn, fun H2 e => q H2 e⟩
theorem ok_quote_at {P : Program} {w : World} {K : PySem.W.Frag} {mg : Str → Option Value} {base : Heap} {a : Ads} (T : Txt w K mg a) :
    FnOk P w K mg base CX0 1 a.quote_at a.d_quote_at ["text", "at", "is_final"] (sp_quote_at K a) := by
  refine T.F_quote_at.ok sc_quote_at (fun vs H Q E h => ?_) (fun cdv A outer s H vs Q E hr h => ?_)
  · obtain ⟨_, _, _, rfl, _⟩ := h; rfl
  · obtain ⟨l, n, fin, rfl, hl, hn, k⟩ := h
    refine ⟨_, (pss_cons (ps_set (i := 3) sc_quote_at.nd rfl (Or.inl rfl) (pe_ix ix_str (pv 0) (pv 1) (fun _ _ => rfl)))
      (pss_cons (ps_if (pt_cmpR op_eq (pe_slice sl_str (pv 0) (po_some (pv 1)) (po_some (pe_op op_add (pv 1) pe_int))) (pe_op op_mul_str (pv 3) pe_int) (nomark _)) (pss_one (ps_ret (pe_op op_mul_str (pv 3) pe_int))) pss_nil)
      (pss_cons (ps_if (PW.pt (pw_and (pt_not (pt_val (pv 2))) (pw_and1 (PW.pt (pw_or (pt_cmpR op_eq (pe_op op_add (pv 1) pe_int) (pe_callB call_len_str (by rfl) T.n_len b_len (pa_cons (pv 0) pa_nil)) (nomark _)) (pw_or1 (pt_cmpR op_eq (pe_slice sl_str (pv 0) (po_some (pv 1)) po_none) (pe_op op_mul_str (pv 3) pe_int) (nomark _)))))))) (pss_one (ps_ret pe_str)) pss_nil)
      (pss_one (ps_ret (pv 3)))))), ?_⟩
    have hl' : l.length ≤ 16000000 := by omega
    obtain ⟨q, hq⟩ : ∃ q, l[n]? = some q := ⟨_, List.getElem?_eq_getElem hn⟩
    rw [quoteAt_at hq] at k
    refine q_asg (ev_op (ev_var rfl) (ev_var rfl) (rv_ixSn hl' hq)) fun H1 e1 => ?_
    refine q_when (b := decide ((l.drop n).take 3 = [q, q, q])) ?_ (fun hb H2 e2 => ?_) (fun hb H2 e2 => ?_)
    · exact et_test (ev_op (ev_slNN 3 (ev_var rfl) (ev_var rfl) (ev_op (ev_var rfl) ev_c rv_I0) hl') (ev_mulC 3 (ev_var rfl) (by decide)) rv_eqS)
    · rw [if_pos (of_decide_eq_true hb)] at k
      exact s_ret (ev_mulC 3 (ev_var rfl) (by decide)) fun H3 e3 => k H3 ((e1.trans e2).trans e3)
    · rw [if_neg (of_decide_eq_false hb)] at k
      refine q_when (b := !fin && (decide (n + 1 = l.length) || decide (l.drop n = [q, q]))) ?_ (fun hb H3 e3 => ?_) (fun hb H3 e3 => ?_)
      · refine et_and (et_not (et_B (ev_var rfl))) fun _ => et_or (et_is (et_test (ev_op (ev_op (ev_var rfl) ev_c rv_I0) (ev_cb (ea_cons (ev_var rfl) ea_nil) (rc_lenS hl')) rv_eqI)) (decide_eq_decide.mpr (by omega))) fun _ =>
          et_test (ev_op (ev_slN (ev_var rfl) (ev_var rfl) hl') (ev_mulC 2 (ev_var rfl) (by decide)) rv_eqS)
      · rw [if_pos hb] at k
        exact s_ret (ev_cS rfl) fun H4 e4 => k H4 (((e1.trans e2).trans e3).trans e4)
      · rw [if_neg (by rw [hb]; exact Bool.false_ne_true)] at k
        exact s_ret (ev_var rfl) fun H4 e4 => k H4 (((e1.trans e2).trans e3).trans e4)
def sp_string_end (_ : PySem.W.Frag) (_ : Ads) : Sp := fun vs H Q _ => ∃ (l q : List Nat) (n : Nat) (fin : Bool), vs = [.str (S l), .int n, .str (S q), .bl fin] ∧ l.length ≤ 15000000 ∧ q.length ≤ 3 ∧ RetV (.int (stringEnd l n q fin)) H Q
theorem spv_string_end {K : PySem.W.Frag} {a : Ads} {H : Hp} {l q : List Nat} {n : Nat} {fin : Bool} (h : l.length ≤ 15000000) (hq : q.length ≤ 3) : SpV (sp_string_end K a) [.str (S l), .int n, .str (S q), .bl fin] H (.int (stringEnd l n q fin)) := fun H1 _ Q k E => ⟨l, q, n, fin, rfl, h, hq, fun H2 e => k H2 e⟩
theorem ok_string_end {P : Program} {w : World} {K : PySem.W.Frag} {mg : Str → Option Value} {base : Heap} {a : Ads} (T : Txt w K mg a) :
    FnOk P w K mg base CX0 1 a.string_end a.d_string_end ["text", "at", "quote", "is_final"] (sp_string_end K a) := by
  refine T.F_string_end.ok sc_string_end (fun vs H Q E h => ?_) (fun cdv A outer s H vs Q E hr h => ?_)
  · obtain ⟨_, _, _, _, rfl, _⟩ := h; rfl
  · obtain ⟨l, q, n, fin, rfl, hl, hq, k⟩ := h
    refine ⟨_, (pss_cons (ps_while PassesOwn.never (pt_cmpR op_lt (pv 1) (pe_callB call_len_str (by rfl) T.n_len b_len (pa_cons (pv 0) pa_nil)) (nomark _)) (pss_one (ps_if (pt_cmpR op_eq (pe_ix ix_str (pv 0) (pv 1) (fun _ _ => rfl)) pe_str (nomark _)) (pss_one (ps_aug (i := 1) sc_string_end.nd rfl (Or.inl rfl) pe_int ip_add)) (pss_one (ps_if (pt_cmpR op_eq (pe_slice sl_str (pv 0) (po_some (pv 1)) (po_some (pe_op op_add (pv 1) (pe_callB call_len_str (by rfl) T.n_len b_len (pa_cons (pv 2) pa_nil))))) (pv 2) (nomark _)) (pss_one (ps_ret (pe_op op_add (pv 1) (pe_callB call_len_str (by rfl) T.n_len b_len (pa_cons (pv 2) pa_nil))))) (pss_one (ps_if (PW.pt (pw_and (pt_cmpR op_eq (pe_ix ix_str (pv 0) (pv 1) (fun _ _ => rfl)) pe_str (nomark _)) (pw_and1 (pt_cmpR op_eq (pe_callB call_len_str (by rfl) T.n_len b_len (pa_cons (pv 2) pa_nil)) pe_int (nomark _))))) (pss_one (ps_ret (pe_gint T.m_WRONG))) (pss_one (ps_aug (i := 1) sc_string_end.nd rfl (Or.inl rfl) pe_int ip_add)))))))))
      (pss_one (ps_ret (pe_ifExp (pt_val (pv 3)) (pe_gint T.m_WRONG) (pe_gint T.m_MORE))))), ?_⟩
    have hl' : l.length ≤ 16000000 := by omega
    have hq' : q.length ≤ 16000000 := by omega
    refine q_while (fun m σ H' => ∃ j : Nat, σ = [some (.str (S l)), some (.int j), some (.str (S q)), some (.bl fin)] ∧ Ex H H' ∧ m = l.length - j ∧ stringEnd l n q fin = stringEnd l j q fin) (l.length - n) ⟨n, rfl, Ex.refl _, rfl, rfl⟩ ?_
    rintro m σ H' ⟨j, rfl, e, hm, hj⟩
    refine ⟨decide ((j : Int) < l.length), et_test (ev_op (ev_var rfl) (ev_cb (ea_cons (ev_var rfl) ea_nil) (rc_lenS hl')) rv_I0), fun hb H1 e1 => ?_, fun hb H1 e1 => ?_⟩
    · have hlt : j < l.length := by have := of_decide_eq_true hb; omega
      obtain ⟨c, hc⟩ : ∃ c, l[j]? = some c := ⟨_, List.getElem?_eq_getElem hlt⟩
      rw [stringEnd_at hc] at hj
      refine ⟨fun σ2 H2 => ∃ j' : Nat, σ2 = [some (.str (S l)), some (.int j'), some (.str (S q)), some (.bl fin)] ∧ Ex H H2 ∧ j < j' ∧ stringEnd l n q fin = stringEnd l j' q fin, fun σ2 H2 ⟨j', a, b, c, d⟩ => ⟨l.length - j', by omega, j', a, b, rfl, d⟩, ?_⟩
      refine s_if (b := decide ([c] = [92])) (et_test (ev_op (ev_op (ev_var rfl) (ev_var rfl) (rv_ixSn hl' hc)) (ev_cS rfl) rv_eqS)) (fun hb H2 e2 => ?_) (fun hb H2 e2 => ?_)
      · rw [if_pos (List.cons.inj (of_decide_eq_true hb)).1] at hj
        exact s_aug rfl ev_c fun H3 e3 => ⟨j + 2, rfl, ((e.trans e1).trans e2).trans e3, by omega, hj⟩
      · rw [if_neg (fun z => of_decide_eq_false hb (by rw [z]))] at hj
        refine s_if (et_test (ev_op (ev_slNN q.length (ev_var rfl) (ev_var rfl) (ev_op (ev_var rfl) (ev_cb (ea_cons (ev_var rfl) ea_nil) (rc_lenS hq')) rv_I0) hl') (ev_var rfl) rv_eqS)) (fun hb H3 e3 => ?_) (fun hb H3 e3 => ?_)
        · rw [if_pos (of_decide_eq_true hb)] at hj
          refine s_ret (ev_op (ev_var rfl) (ev_cb (ea_cons (ev_var rfl) ea_nil) (rc_lenS hq')) rv_I0) fun H4 e4 => ?_
          rw [hj] at k
          exact k H4 ((((e.trans e1).trans e2).trans e3).trans e4)
        · rw [if_neg (of_decide_eq_false hb)] at hj
          refine s_if (b := decide ([c] = [10]) && decide ((q.length : Int) = 1)) (et_and (et_test (ev_op (ev_op (ev_var rfl) (ev_var rfl) (rv_ixSn hl' hc)) (ev_cS rfl) rv_eqS)) fun _ => et_test (ev_op (ev_cb (ea_cons (ev_var rfl) ea_nil) (rc_lenS hq')) ev_c rv_eqI)) (fun hb H4 e4 => ?_) (fun hb H4 e4 => ?_)
          · obtain ⟨h1, h2⟩ := Bool.and_eq_true_iff.mp hb
            rw [if_pos ⟨(List.cons.inj (of_decide_eq_true h1)).1, by have := of_decide_eq_true h2; omega⟩] at hj
            rw [hj] at k
            exact s_ret ev_c fun H5 e5 => k H5 (((((e.trans e1).trans e2).trans e3).trans e4).trans e5)
          · rw [if_neg (fun z => by rw [z.1, z.2] at hb; cases hb)] at hj
            exact s_aug rfl ev_c fun H5 e5 => ⟨j + 1, rfl, ((((e.trans e1).trans e2).trans e3).trans e4).trans e5, by omega, hj⟩
    · have hge : l.length ≤ j := by have := of_decide_eq_false hb; omega
      rw [hj, stringEnd_end hge] at k
      refine s_ret (v := .int (if fin = true then -2 else -1)) (ev_if (et_B (ev_var rfl)) (fun h => ?_) (fun h => ?_)) fun H2 e2 => k H2 ((e.trans e1).trans e2)
      · rw [if_pos h]; exact ev_c
      · rw [if_neg (by rw [h]; exact Bool.false_ne_true)]; exact ev_c

/-! ### next_state, number_end, operator_end, width_of -/
def rowD (r : Str × Str) : PyData := .tuple [.str r.1, .str r.2]
theorem kv_is : kv_STEPS = stepsT.map fun p => (p.1, PyData.tuple (p.2.map rowD)) := rfl
theorem lookup_kv {st : Str} {rows : List (Str × Str)} (h : stepsT.lookup st = some rows) : (st, PyData.tuple (rows.map rowD)) ∈ kv_STEPS := by
  rw [kv_is]
  exact List.mem_map.mpr ⟨(st, rows), lookup_in h, rfl⟩
def sp_next_state (_ : PySem.W.Frag) (_ : Ads) : Sp := fun vs H Q _ => ∃ (st : Str) (c : Nat), vs = [.str st, .str (S [c])] ∧ keyed st = true ∧ RetV (.str (nextState st c)) H Q
theorem spv_next_state {K : PySem.W.Frag} {a : Ads} {H : Hp} {st : Str} {c : Nat} (h : keyed st = true) : SpV (sp_next_state K a) [.str st, .str (S [c])] H (.str (nextState st c)) := fun H1 _ Q q E => ⟨st, c, rfl, h, fun H2 e => q H2 e⟩
theorem steps_short : stepsT.all (fun p => decide (p.2.length ≤ 20)) = true := by decide +kernel
theorem ok_next_state {P : Program} {w : World} {K : PySem.W.Frag} {mg : Str → Option Value} {base : Heap} {a : Ads} (T : Txt w K mg a) :
    FnOk P w K mg base CX0 1 a.next_state a.d_next_state ["state", "character"] (sp_next_state K a) := by
  refine T.F_next_state.ok sc_next_state (fun vs H Q E h => ?_) (fun cdv A outer s H vs Q E hr h => ?_)
  · obtain ⟨_, _, rfl, _⟩ := h; rfl
  · obtain ⟨st, c, rfl, hk, k⟩ := h
    refine ⟨_, (pss_cons (ps_for PassesOwn.never rfl (pi_tup (pe_ix ix_kdict (pe_gref T.m_STEPS) (pv 0) (fun _ _ => rfl))) (pg_tup rfl (pgs_cons (pg_name (i := 2) sc_next_state.nd rfl (Or.inl rfl)) (pgs_cons (pg_name (i := 3) sc_next_state.nd rfl (Or.inl rfl)) pgs_nil))) (pss_one (ps_if (pt_cmpR op_in_sign (pv 1) (pv 2) rfl) (pss_one (ps_ret (pv 3))) pss_nil)))
      (pss_one (ps_ret pe_str))), ?_⟩
    obtain ⟨rows, hr⟩ := Option.isSome_iff_exists.mp hk
    obtain ⟨v, hv, hd⟩ := T.q_STEPS st _ (lookup_kv hr)
    have kk : RetV (.str (match rows.find? (fun r => decide (c ∈ r.1.cps.toList)) with | some r => r.2 | none => "")) H Q := by
      unfold nextState at k
      rw [hr] at k
      exact k
    have hlen : rows.length ≤ 20 := of_decide_eq_true (List.all_eq_true.mp steps_short _ (lookup_in hr))
    have hd0 := hd H
    cases hd0 with
    | tup hs ha =>
      rename_i p xs
      have hxl : xs.length = rows.length := by rw [dpa_len ha, List.length_map]
      have ixE : Ev (tOp (rIxD K w) (tC (.ref a.r_STEPS)) (tVar 0)) [some (.str st), some (.str (S [c])), none, none] H (.ref p) := ev_op ev_c (ev_var rfl) fun H1 _ Q' q' => ⟨_, _, _, rfl, rfl, hv, q' H1 (Ex.refl _)⟩
      refine q_forT (xs := xs) ixE hs (fun i σ H' => ∃ v2 v3 : Option V, σ = [some (.str st), some (.str (S [c])), v2, v3] ∧ Ex H H' ∧ rows.find? (fun r => decide (c ∈ r.1.cps.toList)) = (rows.drop i).find? (fun r => decide (c ∈ r.1.cps.toList)))
        (fun H1 e1 => ⟨none, none, rfl, e1, rfl⟩) (fun i σ H' _ ⟨_, _, _, e, _⟩ => ex_t e hs) ?_ ?_
      · rintro i x σ H1 hx ⟨v2, v3, rfl, e1, hfi⟩
        obtain ⟨d, hdi, dx⟩ := dpa_at' ha hx
        rw [List.getElem?_map] at hdi
        obtain ⟨r, hri, rfl⟩ := Option.map_eq_some_iff.mp hdi
        have hdrop : rows.drop i = r :: rows.drop (i + 1) := by
          obtain ⟨h1, h2⟩ := List.getElem?_eq_some_iff.mp hri
          rw [List.drop_eq_getElem_cons h1, h2]
        rw [hdrop] at hfi
        have dx1 := dp_mono e1 dx
        cases dx1 with
        | tup hs2 ha2 =>
          rename_i p2 ys
          cases ha2 with
          | cons h1 t1 =>
            cases t1 with
            | cons h2 t2 =>
              cases t2
              cases h1
              cases h2
              refine ⟨p2, _, rfl, hs2, rfl, ?_⟩
              refine ⟨_, _, rfl, ⟨_, _, rfl, rfl, ?_⟩⟩
              refine s_when (b := decide (c ∈ r.1.cps.toList)) (et_test (ev_op (ev_var rfl) (ev_var rfl) rv_inS)) (fun hb H2 e2 => ?_) (fun hb H2 e2 => ?_)
              · rw [List.find?_cons_of_pos (by exact hb)] at hfi
                rw [hfi] at kk
                exact s_ret (ev_var rfl) fun H3 e3 => kk H3 ((e1.trans e2).trans e3)
              · rw [List.find?_cons_of_neg (by rw [hb]; exact Bool.false_ne_true)] at hfi
                exact ⟨_, _, rfl, e1.trans e2, hfi⟩
      · rintro σ H1 ⟨v2, v3, rfl, e1, hfi⟩
        rw [hxl, List.drop_length] at hfi
        rw [hfi] at kk
        exact s_ret ev_c fun H2 e2 => kk H2 (e1.trans e2)
def sp_number_end (_ : PySem.W.Frag) (_ : Ads) : Sp := fun vs H Q _ => ∃ (l : List Nat) (n : Nat) (fin : Bool), vs = [.str (S l), .int n, .bl fin] ∧ l.length ≤ 20000 ∧ n ≤ l.length ∧ RetV (.int (numberEnd l n fin)) H Q
theorem spv_number_end {K : PySem.W.Frag} {a : Ads} {H : Hp} {l : List Nat} {n : Nat} {fin : Bool} (h : l.length ≤ 20000) (hn : n ≤ l.length) : SpV (sp_number_end K a) [.str (S l), .int n, .bl fin] H (.int (numberEnd l n fin)) := fun H1 _ Q q E => ⟨l, n, fin, rfl, h, hn, fun H2 e => q H2 e⟩
theorem ends_are : tv_ENDS = endsT.map V.str := by decide +kernel
theorem ends_in (x : Str) : inV (.str x) tv_ENDS = decide (x ∈ endsT) := by
  rw [ends_are]
  unfold inV
  generalize endsT = l
  induction l with
  | nil => rfl
  | cons y l ih =>
    rw [List.map_cons, List.any_cons, ih]
    show (decide (y = x) || _) = _
    by_cases h : y = x
    · subst h; simp
    · have h2 : ¬ x = y := fun z => h z.symm
      rw [decide_eq_false h, Bool.false_or]
      exact decide_eq_decide.mpr (by simp [h2])
theorem flat_ends : tv_ENDS.all flatV = true := by decide +kernel
theorem ok_number_end {P : Program} {w : World} {K : PySem.W.Frag} {mg : Str → Option Value} {base : Heap} {a : Ads} (T : Txt w K mg a) (G_next_state : FnOk P w K mg base CX0 1 a.next_state a.d_next_state ["state", "character"] (sp_next_state K a)) (G_is_word_character : FnOk P w K mg base CX0 1 a.is_word_character a.d_is_word_character ["character"] (sp_is_word_character K a)) :
    FnOk P w K mg base CX0 2 a.number_end a.d_number_end ["text", "at", "is_final"] (sp_number_end K a) := by
  refine T.F_number_end.ok sc_number_end (fun vs H Q E h => ?_) (fun cdv A outer s H vs Q E hr h => ?_)
  · obtain ⟨_, _, _, rfl, _⟩ := h; rfl
  · obtain ⟨l, n, fin, rfl, hl, hn, k⟩ := h
    refine ⟨_, (pss_cons (ps_par (i := 3) (j := 4) (by rfl) sc_number_end.nd rfl rfl (by decide) rfl rfl (pa_cons pe_str (pa_cons (pv 1) pa_nil)) (by rfl))
      (pss_cons (ps_whileW PassesOwn.never (ptw_and2 (pt_cmpR op_lt (pv 1) (pe_callB call_len_str (by rfl) T.n_len b_len (pa_cons (pv 0) pa_nil)) (nomark _)) (ptw_cmp op_ne (pew_named (i := 3) sc_number_end.nd rfl (Or.inl rfl) (pew_of (pe_call G_next_state (hr.mono (by decide)) rfl T.m_next_state T.F_next_state.kp T.b_next_state .nil pass0 (pa_cons (pv 3) (pa_cons (pe_ix ix_str (pv 0) (pv 1) (fun _ _ => rfl)) pa_nil))))) pe_str (nomark _))) (pss_cons (ps_aug (i := 1) sc_number_end.nd rfl (Or.inl rfl) pe_int ip_add)
      (pss_one (ps_if (pt_cmpR op_in_seq (pv 3) (pe_gref T.m_ENDS) (by rfl)) (pss_one (ps_set (i := 4) sc_number_end.nd rfl (Or.inl rfl) (pv 1))) pss_nil))) pss_nil)
      (pss_cons (ps_if (PW.pt (pw_and (pt_cmpR op_eq (pv 1) (pe_callB call_len_str (by rfl) T.n_len b_len (pa_cons (pv 0) pa_nil)) (nomark _)) (pw_and1 (pt_not (pt_val (pv 2)))))) (pss_one (ps_ret (pe_gint T.m_MORE))) pss_nil)
      (pss_one (ps_ret (pe_ifExp (PW.pt (pw_and (pt_cmpR op_lt (pv 4) (pe_callB call_len_str (by rfl) T.n_len b_len (pa_cons (pv 0) pa_nil)) (nomark _)) (pw_and1 (pt_val (pe_call G_is_word_character (hr.mono (by decide)) rfl T.m_is_word_character T.F_is_word_character.kp T.b_is_word_character .nil pass0 (pa_cons (pe_ix ix_str (pv 0) (pv 4) (fun _ _ => rfl)) pa_nil)))))) (pe_gint T.m_WRONG) (pv 4))))))), ?_⟩
    have hl' : l.length ≤ 16000000 := by omega
    refine q_par ev_c (ev_var rfl) fun H0 e0 => ?_
    have len : ∀ {H' : Hp} {σ : L2.St}, σ[0]? = some (some (.str (S l))) → Ev (tCB (fun xs H Q => ∃ z, xs = [V.str z] ∧ z.length ≤ sizeLine ∧ Q (.int z.length) H) (tCons (tVar 0) tNil)) σ H' (.int (l.length : Int)) := fun h => ev_cb (ea_cons (ev_var h) ea_nil) (rc_lenS hl')
    refine ⟨fun m σ H' => ∃ (st : Str) (j en : Nat), σ = [some (.str (S l)), some (.int j), some (.bl fin), some (.str st), some (.int en)] ∧ Ex H H' ∧ m = l.length - j ∧ j ≤ l.length ∧ en ≤ j ∧ keyed st = true ∧ numGo (l.drop n) "begin" n n = numGo (l.drop j) st j en,
      ⟨_, "begin", n, n, rfl, e0, rfl, hn, Nat.le_refl _, by decide +kernel, rfl⟩, ?_⟩
    rintro m σ H1 ⟨st, j, en, rfl, e1, hm, hj, hen, hk, hg⟩
    by_cases hlt : j < l.length
    · obtain ⟨c, hc⟩ : ∃ c, l[j]? = some c := ⟨_, List.getElem?_eq_getElem hlt⟩
      rw [drop_at hc, numGo] at hg
      refine et_is (et_test (ev_op (ev_var rfl) (len rfl) rv_I0)) (decide_eq_true (show (j : Int) < (l.length : Int) by omega)) H1 (Ex.refl _) _ fun H2 e2 => ?_
      rw [if_pos rfl]
      refine ev_call (ea_cons (ev_var rfl) (ea_cons (ev_op (ev_var rfl) (ev_var rfl) (rv_ixSn hl' hc)) ea_nil)) (spv_next_state hk) H2 (Ex.refl _) _ fun H3 e3 => ?_
      refine ⟨rfl, _, rfl, ?_⟩
      dsimp only
      by_cases hs : nextState st c = ""
      · rw [if_pos hs] at hg
        rw [if_neg (by rw [hs]; simp)]
        show tSeq _ _ _ _ H3
        -- behind the loop
        have hle : en ≤ j := hen
        unfold numberEnd at k
        rw [hg] at k
        refine q_when (b := decide (j = l.length) && !fin) (et_and (et_is (et_test (ev_op (ev_var rfl) (len rfl) rv_eqI)) (decide_eq_decide.mpr (by omega))) fun _ => et_not (et_B (ev_var rfl))) (fun hb H9 e9 => ?_) (fun hb H9 e9 => ?_)
        · obtain ⟨b1, b2⟩ := Bool.and_eq_true_iff.mp hb
          rw [if_pos ⟨of_decide_eq_true b1, by simpa using b2⟩] at k
          exact s_ret ev_c fun H4 e4 => k H4 (((e1.trans e2).trans e3).trans (e9.trans e4))
        · rw [if_neg (fun z => by rw [decide_eq_true z.1, z.2] at hb; cases hb)] at k
          cases hc2 : l[en]? with
          | none =>
            have hge := List.getElem?_eq_none_iff.mp hc2
            dsimp only at k
            rw [hc2] at k
            refine s_ret (v := .int (en : Int)) (ev_if (b := false && true) (et_and (et_is (et_test (ev_op (ev_var rfl) (len rfl) rv_I0)) (decide_eq_false (by omega))) fun z => nomatch z) (fun z => nomatch z) (fun _ => ev_var rfl)) fun H4 e4 => k H4 (((e1.trans e2).trans e3).trans (e9.trans e4))
          | some c2 =>
            have hlt2 := (List.getElem?_eq_some_iff.mp hc2).1
            dsimp only at k
            rw [hc2] at k
            refine s_ret (v := .int (if isW c2 = true then -2 else (en : Int))) (ev_if (b := true && isW c2) (et_and (et_is (et_test (ev_op (ev_var rfl) (len rfl) rv_I0)) (decide_eq_true (by omega))) fun _ => et_B (ev_call (ea_cons (ev_op (ev_var rfl) (ev_var rfl) (rv_ixSn hl' hc2)) ea_nil) (spv_word c2))) (fun z => ?_) (fun z => ?_)) fun H4 e4 => ?_
            · rw [Bool.true_and] at z; rw [if_pos z]; exact ev_c
            · rw [Bool.true_and] at z; rw [if_neg (by rw [z]; exact Bool.false_ne_true)]; exact ev_var rfl
            · cases z : isW c2 with
              | true => rw [if_pos rfl]; exact (by simpa [z] using k : RetV (.int (-2)) H Q) H4 (((e1.trans e2).trans e3).trans (e9.trans e4))
              | false => rw [if_neg Bool.false_ne_true]; exact (by simpa [z] using k : RetV (.int (en : Int)) H Q) H4 (((e1.trans e2).trans e3).trans (e9.trans e4))
      · rw [if_neg hs] at hg
        have hne : (!decide (V.str (nextState st c) = V.str "")) = true := by
          rw [decide_eq_false fun z => hs (V.str.inj z)]; rfl
        rw [if_pos hne]
        refine ⟨fun σ2 H2' => ∃ (st : Str) (j' en : Nat), σ2 = [some (.str (S l)), some (.int j'), some (.bl fin), some (.str st), some (.int en)] ∧ Ex H H2' ∧ j' = j + 1 ∧ j' ≤ l.length ∧ en ≤ j' ∧ keyed st = true ∧ numGo (l.drop n) "begin" n n = numGo (l.drop j') st j' en,
          fun σ2 H2' ⟨st', j', en', a1, a2, a3, a4, a5, a6, a7⟩ => ⟨_, by omega, st', j', en', a1, a2, rfl, a4, a5, a6, a7⟩, ?_⟩
        refine q_aug rfl ev_c fun H4 e4 => ?_
        have e14 : Ex H H4 := ((e1.trans e2).trans e3).trans e4
        refine s_if (b := decide (nextState st c ∈ endsT)) (et_is (et_test (ev_op (ev_var rfl) ev_c (rv_isT (T.q_ENDS _) rfl flat_ends))) (ends_in _)) (fun hb H5 e5 => ?_) (fun hb H5 e5 => ?_)
        · rw [if_pos (of_decide_eq_true hb)] at hg
          exact s_asg (ev_var rfl) fun H6 e6 => ⟨_, j + 1, j + 1, rfl, e14.trans (e5.trans e6), rfl, hlt, Nat.le_refl _, keyed_next hs, hg⟩
        · rw [if_neg (of_decide_eq_false hb)] at hg
          exact ⟨_, j + 1, en, rfl, e14.trans e5, rfl, hlt, by omega, keyed_next hs, hg⟩
    · have hj2 : j = l.length := by omega
      rw [List.drop_of_length_le (Nat.le_of_eq hj2.symm), numGo] at hg
      refine et_is (et_test (ev_op (ev_var rfl) (len rfl) rv_I0)) (decide_eq_false (show ¬ (j : Int) < (l.length : Int) by omega)) H1 (Ex.refl _) _ fun H2 e2 => ?_
      rw [if_neg Bool.false_ne_true]
      show ite (false = true) _ _
      rw [if_neg Bool.false_ne_true]
      show tSeq _ _ _ _ H2
      -- behind the loop
      have hle : en ≤ j := hen
      unfold numberEnd at k
      rw [hg] at k
      refine q_when (b := decide (j = l.length) && !fin) (et_and (et_is (et_test (ev_op (ev_var rfl) (len rfl) rv_eqI)) (decide_eq_decide.mpr (by omega))) fun _ => et_not (et_B (ev_var rfl))) (fun hb H9 e9 => ?_) (fun hb H9 e9 => ?_)
      · obtain ⟨b1, b2⟩ := Bool.and_eq_true_iff.mp hb
        rw [if_pos ⟨of_decide_eq_true b1, by simpa using b2⟩] at k
        exact s_ret ev_c fun H4 e4 => k H4 ((e1.trans e2).trans (e9.trans e4))
      · rw [if_neg (fun z => by rw [decide_eq_true z.1, z.2] at hb; cases hb)] at k
        cases hc2 : l[en]? with
        | none =>
          have hge := List.getElem?_eq_none_iff.mp hc2
          dsimp only at k
          rw [hc2] at k
          refine s_ret (v := .int (en : Int)) (ev_if (b := false && true) (et_and (et_is (et_test (ev_op (ev_var rfl) (len rfl) rv_I0)) (decide_eq_false (by omega))) fun z => nomatch z) (fun z => nomatch z) (fun _ => ev_var rfl)) fun H4 e4 => k H4 ((e1.trans e2).trans (e9.trans e4))
        | some c2 =>
          have hlt2 := (List.getElem?_eq_some_iff.mp hc2).1
          dsimp only at k
          rw [hc2] at k
          refine s_ret (v := .int (if isW c2 = true then -2 else (en : Int))) (ev_if (b := true && isW c2) (et_and (et_is (et_test (ev_op (ev_var rfl) (len rfl) rv_I0)) (decide_eq_true (by omega))) fun _ => et_B (ev_call (ea_cons (ev_op (ev_var rfl) (ev_var rfl) (rv_ixSn hl' hc2)) ea_nil) (spv_word c2))) (fun z => ?_) (fun z => ?_)) fun H4 e4 => ?_
          · rw [Bool.true_and] at z; rw [if_pos z]; exact ev_c
          · rw [Bool.true_and] at z; rw [if_neg (by rw [z]; exact Bool.false_ne_true)]; exact ev_var rfl
          · cases z : isW c2 with
            | true => rw [if_pos rfl]; exact (by simpa [z] using k : RetV (.int (-2)) H Q) H4 ((e1.trans e2).trans (e9.trans e4))
            | false => rw [if_neg Bool.false_ne_true]; exact (by simpa [z] using k : RetV (.int (en : Int)) H Q) H4 ((e1.trans e2).trans (e9.trans e4))
def sp_operator_end (_ : PySem.W.Frag) (_ : Ads) : Sp := fun vs H Q _ => ∃ (l : List Nat) (n : Nat) (fin : Bool), vs = [.str (S l), .int n, .bl fin] ∧ l.length ≤ 20000 ∧ RetV (.int (opEnd l n fin)) H Q
theorem spv_operator_end {K : PySem.W.Frag} {a : Ads} {H : Hp} {l : List Nat} {n : Nat} {fin : Bool} (h : l.length ≤ 20000) : SpV (sp_operator_end K a) [.str (S l), .int n, .bl fin] H (.int (opEnd l n fin)) := fun H1 _ Q q E => ⟨l, n, fin, rfl, h, fun H2 e => q H2 e⟩
theorem ops_are : tv_OPERATORS = opsL.map fun z => V.str (S z) := by decide +kernel
theorem ops_n : opsL.length = 45 := by decide +kernel
def chars : V → List Nat
  | .str x => x.cps.toList
  | _ => []
theorem ok_operator_end {P : Program} {w : World} {K : PySem.W.Frag} {mg : Str → Option Value} {base : Heap} {a : Ads} (T : Txt w K mg a) :
    FnOk P w K mg base CX0 1 a.operator_end a.d_operator_end ["text", "at", "is_final"] (sp_operator_end K a) := by
  refine T.F_operator_end.ok sc_operator_end (fun vs H Q E h => ?_) (fun cdv A outer s H vs Q E hr h => ?_)
  · obtain ⟨_, _, _, rfl, _⟩ := h; rfl
  · obtain ⟨l, n, fin, rfl, hl, k⟩ := h
    refine ⟨_, (pss_cons (ps_set (i := 3) sc_operator_end.nd rfl (Or.inr rfl) (pe_slice sl_str (pv 0) (po_some (pv 1)) (po_some (pe_op op_add (pv 1) pe_int))))
      (pss_cons (ps_if (PW.pt (pw_and (pt_not (pt_val (pv 2))) (pw_and1 (pt_val (pe_callB (cr_any rfl) (by rfl) T.n_any b_any (pa_cons (pe_lc (own := [("sign", 4)]) (g := gName 4) rfl sc_operator_end.nd (pi_tup (pe_gref T.m_OPERATORS)) (blkOk_by (N := N_operator_end) (sc := defScope s_operator_end) (by decide +kernel)) (fun _ _ _ _ _ => (pg_name (i := 4) sc_operator_end.nd rfl (Or.inl rfl))) (fun _ _ _ _ _ => pts_nil) (fun _ _ _ _ _ => (pe_and (pe_cmpR op_lt (pe_callB call_len_str (by rfl) T.n_len b_len (pa_cons (pv 3) pa_nil)) (pe_callB call_len_str (by rfl) T.n_len b_len (pa_cons (pv 4) pa_nil)) (nomark _)) (pe_one (pe_m1 PySem.F.slot_str_startswith PySem.F.type_str_startswith mt_startswith (pv 4) (pv 3)))))) pa_nil)))))) (pss_one (ps_ret (pe_gint T.m_MORE))) pss_nil)
      (pss_cons (ps_for PassesOwn.never rfl (pi_tup (pe_gref T.m_OPERATORS)) (pg_name (i := 4) sc_operator_end.nd rfl (Or.inl rfl)) (pss_one (ps_if (pt_val (pe_m1 PySem.F.slot_str_startswith PySem.F.type_str_startswith mt_startswith (pv 3) (pv 4))) (pss_one (ps_ret (pe_op op_add (pv 1) (pe_callB call_len_str (by rfl) T.n_len b_len (pa_cons (pv 4) pa_nil))))) pss_nil)))
      (pss_one (ps_ret (pe_gint T.m_WRONG)))))), ?_⟩
    have hl' : l.length ≤ 16000000 := by omega
    refine q_asg (ev_slNN 3 (ev_var rfl) (ev_var rfl) (ev_op (ev_var rfl) ev_c rv_I0) hl') fun H1 e1 => ?_
    have hr : ((l.drop n).take 3).length ≤ 3 := List.length_take_le _ _
    unfold opEnd at k
    generalize (l.drop n).take 3 = u at *
    have hu : u.length ≤ 16000000 := by omega
    have hop : ∀ x ∈ opsL, x.length ≤ 3 := fun x hx => of_decide_eq_true (Bool.and_eq_true_iff.mp (List.all_eq_true.mp ops_short x hx)).2
    have hT : ∀ H', SqT K H' a.r_OPERATORS (opsL.map fun z => V.str (S z)) := fun H' => by rw [← ops_are]; exact T.q_OPERATORS H'
    have lc : EvL (tLc (iTup K (tC (.ref a.r_OPERATORS))) (gName 4) tYes (tAndV (tOp (rI0 fun i j => V.bl (decide (i < j))) (tCB (fun xs H Q => ∃ z, xs = [V.str z] ∧ z.length ≤ sizeLine ∧ Q (.int z.length) H) (tCons (tVar 3) tNil)) (tCB (fun xs H Q => ∃ z, xs = [V.str z] ∧ z.length ≤ sizeLine ∧ Q (.int z.length) H) (tCons (tVar 4) tNil))) (tM1 (fun x xs H Q => ∃ a b, x = V.str a ∧ xs = [.str b] ∧ Q (.bl (Txt.startswith a b)) H) (tVar 4) (tVar 3))) [4]) [some (.str (S l)), some (.int n), some (.bl fin), some (.str (S u)), none] H1 ((opsL.map fun z => decide (u.length < z.length) && pre u z).map V.bl) := by
      have h := el_lcT' (K := K) (σ := [some (.str (S l)), some (.int n), some (.bl fin), some (.str (S u)), none]) (H := H1) (t := tYes) (te := tAndV (tOp (rI0 fun i j => V.bl (decide (i < j))) (tCB (fun xs H Q => ∃ z, xs = [V.str z] ∧ z.length ≤ sizeLine ∧ Q (.int z.length) H) (tCons (tVar 3) tNil)) (tCB (fun xs H Q => ∃ z, xs = [V.str z] ∧ z.length ≤ sizeLine ∧ Q (.int z.length) H) (tCons (tVar 4) tNil))) (tM1 (fun x xs H Q => ∃ a b, x = V.str a ∧ xs = [.str b] ∧ Q (.bl (Txt.startswith a b)) H) (tVar 4) (tVar 3))) (vs := [4]) (j := 4)
        (fun _ => true) (fun v => V.bl (decide (u.length < (chars v).length) && pre u (chars v))) (ev_c (v := .ref a.r_OPERATORS)) (hT _) (by rw [List.length_map, ops_n]; decide) (fun _ => rfl) (fun _ _ _ _ => et_yes) (fun x hx _ H2 e2 => ?_)
      · rw [filt_yes, List.map_map] at h
        rw [List.map_map]
        exact h
      · obtain ⟨z, hz, rfl⟩ := List.mem_map.mp hx
        have hzl := hop z hz
        refine ev_andV (ev_is (ev_op (ev_cb (ea_cons (ev_var rfl) ea_nil) (rc_lenS hu)) (ev_cb (ea_cons (ev_var rfl) ea_nil) (rc_lenS (l := z) (by omega))) rv_I0) ?_) fun _ => ev_starts (ev_var rfl) (ev_var rfl)
        exact congrArg V.bl (decide_eq_decide.mpr (by show ((u.length : Int) < (z.length : Int)) ↔ _; show _ ↔ u.length < z.length; omega))
    have hany : ((opsL.map fun z : List Nat => decide (u.length < z.length) && pre u z).any id) = opsL.any (fun z : List Nat => decide (u.length < z.length) && pre u z) := by rw [List.any_map]; rfl
    refine q_when (b := !fin && opsL.any (fun z : List Nat => decide (u.length < z.length) && pre u z)) (et_and (et_not (et_B (ev_var rfl))) fun _ => et_is (et_B (ev_anyN lc)) hany) (fun hb H2 e2 => ?_) (fun hb H2 e2 => ?_)
    · rw [if_pos hb] at k
      exact s_ret ev_c fun H3 e3 => k H3 ((e1.trans e2).trans e3)
    · rw [if_neg (by rw [hb]; exact Bool.false_ne_true)] at k
      refine q_forT (xs := opsL.map fun z => V.str (S z)) (ev_c (v := .ref a.r_OPERATORS)) (hT _) (fun i σ H' => ∃ v4 : Option V, σ = [some (.str (S l)), some (.int n), some (.bl fin), some (.str (S u)), v4] ∧ Ex H H' ∧ opsL.find? (fun z => pre z u) = (opsL.drop i).find? (fun z => pre z u))
        (fun H3 e3 => ⟨none, rfl, (e1.trans e2).trans e3, rfl⟩) (fun i σ H' _ _ => hT _) ?_ ?_
      · rintro i x σ H3 hx ⟨v4, rfl, e3, hfi⟩
        rw [List.getElem?_map] at hx
        obtain ⟨z, hz, rfl⟩ := Option.map_eq_some_iff.mp hx
        have hzl := hop z (List.mem_of_getElem? hz)
        rw [drop_at' hz] at hfi
        refine s_when (b := pre z u) (et_B (ev_starts (ev_var rfl) (ev_var rfl))) (fun hb H4 e4 => ?_) (fun hb H4 e4 => ?_)
        · rw [List.find?_cons_of_pos (p := fun z => pre z u) hb] at hfi
          rw [hfi] at k
          exact s_ret (ev_op (ev_var rfl) (ev_cb (ea_cons (ev_var rfl) ea_nil) (rc_lenS (l := z) (by omega))) rv_I0) fun H5 e5 => k H5 ((e3.trans e4).trans e5)
        · rw [List.find?_cons_of_neg (p := fun z => pre z u) (by show ¬ pre z u = true; rw [hb]; exact Bool.false_ne_true)] at hfi
          exact ⟨_, rfl, e3.trans e4, hfi⟩
      · rintro σ H3 ⟨v4, rfl, e3, hfi⟩
        rw [List.length_map, List.drop_length] at hfi
        rw [hfi] at k
        exact s_ret ev_c fun H4 e4 => k H4 (e3.trans e4)
def sp_width_of (_ : PySem.W.Frag) (_ : Ads) : Sp := fun vs H Q _ => ∃ l : List Nat, vs = [.str (S l)] ∧ l.length ≤ 20000 ∧ RetV (.int (Sc.widthOf l : Int)) H Q
theorem spv_width_of {K : PySem.W.Frag} {a : Ads} {H : Hp} {l : List Nat} (h : l.length ≤ 20000) : SpV (sp_width_of K a) [.str (S l)] H (.int (Sc.widthOf l : Int)) := fun H1 _ Q q E => ⟨l, rfl, h, fun H2 e => q H2 e⟩
theorem width_step (l : List Nat) (i c : Nat) (h : l[i]? = some c) : Sc.widthOf (l.take (i + 1)) = (fun w c => if c = 9 then (w / 8 + 1) * 8 else w + 1) (Sc.widthOf (l.take i)) c := by
  unfold Sc.widthOf
  rw [take_more h, List.foldl_append]
  rfl
theorem ok_width_of {P : Program} {w : World} {K : PySem.W.Frag} {mg : Str → Option Value} {base : Heap} {a : Ads} (T : Txt w K mg a) :
    FnOk P w K mg base CX0 1 a.width_of a.d_width_of ["gap"] (sp_width_of K a) := by
  refine T.F_width_of.ok sc_width_of (fun vs H Q E h => ?_) (fun cdv A outer s H vs Q E hr h => ?_)
  · obtain ⟨_, rfl, _⟩ := h; rfl
  · obtain ⟨l, rfl, hl, k⟩ := h
    refine ⟨_, (pss_cons (ps_set (i := 1) sc_width_of.nd rfl (Or.inl rfl) pe_int)
      (pss_cons (ps_for PassesOwn.never rfl (pi_str (pv 0)) (pg_name (i := 2) sc_width_of.nd rfl (Or.inl rfl)) (pss_one (ps_set (i := 1) sc_width_of.nd rfl (Or.inl rfl) (pe_ifExp (pt_cmpR op_eq (pv 2) pe_str (nomark _)) (pe_op op_mul (pe_op op_add (pe_op op_fdiv (pv 1) (pe_gint T.m_TAB)) pe_int) (pe_gint T.m_TAB)) (pe_op op_add (pv 1) pe_int)))))
      (pss_one (ps_ret (pv 1))))), ?_⟩
    refine q_asg ev_c fun H1 e1 => ?_
    refine q_forS (l := l) (ev_var rfl) (fun i σ H' => ∃ v2 : Option V, σ = [some (.str (S l)), some (.int (Sc.widthOf (l.take i) : Int)), v2] ∧ Ex H H') (fun H2 e2 => ⟨none, rfl, e1.trans e2⟩) ?_ ?_
    · rintro i c σ H2 hc ⟨v2, rfl, e2⟩
      have hw := width_step l i c hc
      generalize Sc.widthOf (l.take i) = w at *
      refine s_asg (v := .int (Sc.widthOf (l.take (i + 1)) : Int)) (ev_if (b := decide ([c] = [9])) (et_test (ev_op (ev_var rfl) (ev_cS rfl) rv_eqS)) (fun hb => ?_) (fun hb => ?_)) fun H3 e3 => ⟨_, rfl, e2.trans e3⟩
      · have h9 : c = 9 := (List.cons.inj (of_decide_eq_true hb)).1
        refine ev_is (ev_op (ev_op (ev_op (ev_var rfl) ev_c (rv_I ⟨by decide, by decide⟩)) ev_c rv_I0) ev_c (rv_I (Or.inr ⟨by decide, by decide⟩))) ?_
        rw [hw]
        show V.int (((w : Int) / 8 + 1) * 8) = V.int (((if c = 9 then (w / 8 + 1) * 8 else w + 1 : Nat)) : Int)
        rw [if_pos h9]
        congr 1
      · have h9 : ¬ c = 9 := fun z => of_decide_eq_false hb (by rw [z])
        refine ev_is (ev_op (ev_var rfl) ev_c rv_I0) ?_
        rw [hw]
        show V.int ((w : Int) + 1) = V.int (((if c = 9 then (w / 8 + 1) * 8 else w + 1 : Nat)) : Int)
        rw [if_neg h9]
        rfl
    · rintro σ H2 ⟨v2, rfl, e2⟩
      rw [List.take_length]
      exact s_ret (ev_var rfl) fun H3 e3 => k H3 (e2.trans e3)

/-! ### the scanner's methods -/
theorem scT {w : World} {K : PySem.W.Frag} {mg : Str → Option Value} {a : Ads} (T : Txt w K mg a) : ScT K a.C_Scanner a.C_Frame :=
  ⟨T.c_Scanner, T.c_Frame, T.na_Scanner_text, T.na_Scanner_at, T.na_Scanner_levels, T.na_Scanner_frames, T.na_Scanner_found, T.na_Scanner_failure, T.na_Scanner_is_fresh, T.na_Scanner_is_begun, T.na_Scanner_is_final, T.na_Scanner_is_over, T.na_Scanner_join, T.na_Frame_mark, T.na_Frame_at, T.na_Frame_quote⟩
def sp_Frame___init__ (_ : PySem.W.Frag) (a : Ads) : Sp := fun vs H Q _ => ∃ (x dx : Addr) (m : Str) (n : Nat) (q : List Nat), vs = [.ref x, .str m, .int n, .str (S q)] ∧ H x = some (.ins a.C_Frame dx []) ∧
  ∀ H', Kp x H H' → H' x = some (.ins a.C_Frame dx [("mark", .str m), ("at", .int n), ("quote", .str (S q))]) → Q .non H'
theorem ok_Frame___init__ {P : Program} {w : World} {K : PySem.W.Frag} {mg : Str → Option Value} {base : Heap} {a : Ads} (T : Txt w K mg a) :
    FnOk P w K mg base CX0 1 a.Frame___init__ a.d_Frame___init__ ["self", "mark", "at", "quote"] (sp_Frame___init__ K a) := by
  refine T.F_Frame___init__.ok sc_Frame___init__ (fun vs H Q E h => ?_) (fun cdv A outer s H vs Q E hr h => ?_)
  · obtain ⟨_, _, _, _, _, rfl, _⟩ := h; rfl
  · obtain ⟨x, dx, m, n, q, rfl, hx, k⟩ := h
    refine ⟨_, (pss_cons (ps_fld (pv 0) (pv 1) rfl)
      (pss_cons (ps_fld (pv 0) (pv 2) rfl)
      (pss_one (ps_fld (pv 0) (pv 3) rfl)))), ?_⟩
    have t := scT T
    refine q_fldI hx t.cF t.mark (by simp) rfl (ev_var rfl) fun H1 k1 h1 => ?_
    refine q_fldI h1 t.cF t.fat (by show (1 : Nat) < 100; decide) rfl (ev_var rfl) fun H2 k2 h2 => ?_
    refine s_fldI h2 t.cF t.quote (by show (2 : Nat) < 100; decide) rfl (ev_var rfl) fun H3 k3 h3 => ?_
    exact k _ ((k1.trans k2).trans k3) h3
/-- Frame(mark, at, quote) -/
theorem frame_made {K : PySem.W.Frag} {a : Ads} {E : XK} {σ : L2.St} {H : Hp} {t1 t2 t3 : TE} {f : Frm} (h1 : Ev t1 σ H (.str f.mark.txt)) (h2 : Ev t2 σ H (.int (f.at_ : Int))) (h3 : Ev t3 σ H (.str (S f.q))) :
    ∀ H1, Ex H H1 → ∀ Q : VK, (∀ v H2, Ex H1 H2 → FrV a.C_Frame H2 v f → Q v H2) → tMake a.C_Frame (sp_Frame___init__ K a) [] E (tCons t1 (tCons t2 (tCons t3 tNil))) σ H1 Q := fun H1 e1 Q q => by
  refine (ea_cons h1 (ea_cons h2 (ea_cons h3 ea_nil)) : EvA _ σ H [_, _, _]) H1 e1 _ fun H2 e2 x dx hx hdx hne => ?_
  refine ⟨x, dx, f.mark.txt, f.at_, f.q, rfl, upd_same, fun H3 k3 h4 => ⟨rfl, ?_⟩⟩
  exact q _ _ (e2.trans (made_ex hx hdx k3)) ⟨x, dx, rfl, h4⟩
def sp_Scanner___init__ (_ : PySem.W.Frag) (a : Ads) : Sp := fun vs H Q _ => ∃ (x dx : Addr), vs = [.ref x] ∧ H x = some (.ins a.C_Scanner dx []) ∧
  ∀ (o : Own) (H' : Hp), o.x = x → H o.l = none → H o.f = none → H o.g = none → Kp x H H' → Rp a.C_Scanner a.C_Frame o H' Sc.new → Q .non H'
theorem ok_Scanner___init__ {P : Program} {w : World} {K : PySem.W.Frag} {mg : Str → Option Value} {base : Heap} {a : Ads} (T : Txt w K mg a) :
    FnOk P w K mg base CX0 1 a.Scanner___init__ a.d_Scanner___init__ ["self"] (sp_Scanner___init__ K a) := by
  refine T.F_Scanner___init__.ok sc_Scanner___init__ (fun vs H Q E h => ?_) (fun cdv A outer s H vs Q E hr h => ?_)
  · obtain ⟨_, _, rfl, _⟩ := h; rfl
  · obtain ⟨x, dx, rfl, hx, k⟩ := h
    refine ⟨_, (pss_cons (ps_fld (pv 0) pe_str rfl)
      (pss_cons (ps_fld (pv 0) pe_int rfl)
      (pss_cons (ps_fld (pv 0) (pe_lst (pa_cons (pe_tup (pa_cons pe_int (pa_cons pe_int pa_nil))) pa_nil)) rfl)
      (pss_cons (ps_fld (pv 0) (pe_lst pa_nil) rfl)
      (pss_cons (ps_fld (pv 0) (pe_lst pa_nil) rfl)
      (pss_cons (ps_fld (pv 0) pe_non rfl)
      (pss_cons (ps_fld (pv 0) pe_bl rfl)
      (pss_cons (ps_fld (pv 0) pe_bl rfl)
      (pss_cons (ps_fld (pv 0) pe_bl rfl)
      (pss_cons (ps_fld (pv 0) pe_bl rfl)
      (pss_one (ps_fld (pv 0) (pe_un un_neg pe_int) rfl)))))))))))), ?_⟩
    have t := scT T
    refine q_fldI hx t.c t.text (by simp) rfl (ev_cS (l := []) rfl) fun H1 k1 h1 => ?_
    refine q_fldI h1 t.c t.at_ (by show (1 : Nat) < 100; decide) rfl ev_c fun H2 k2 h2 => ?_
    refine q_fldLU h2 t.c t.levels (by show (2 : Nat) < 100; decide) rfl (eu_tup (vs := [.int 0, .int 0]) (ea_cons ev_c (ea_cons ev_c ea_nil)) (by decide)) fun l p0 H3 hl hp0 nlp k3 hl3 hp3 h3 => ?_
    refine q_fldL h3 t.c t.frames (by show (3 : Nat) < 100; decide) rfl (el_lst ea_nil (by decide)) fun f H4 hf k4 hf4 h4 => ?_
    refine q_fldL h4 t.c t.found (by show (4 : Nat) < 100; decide) rfl (el_lst ea_nil (by decide)) fun g H5 hg k5 hg5 h5 => ?_
    refine q_fldI h5 t.c t.failure (by show (5 : Nat) < 100; decide) rfl ev_c fun H6 k6 h6 => ?_
    refine q_fldI h6 t.c t.fresh (by show (6 : Nat) < 100; decide) rfl ev_c fun H7 k7 h7 => ?_
    refine q_fldI h7 t.c t.begun (by show (7 : Nat) < 100; decide) rfl ev_c fun H8 k8 h8 => ?_
    refine q_fldI h8 t.c t.fin (by show (8 : Nat) < 100; decide) rfl ev_c fun H9 k9 h9 => ?_
    refine q_fldI h9 t.c t.over (by show (9 : Nat) < 100; decide) rfl ev_c fun H10 k10 h10 => ?_
    refine s_fldI h10 t.c t.join (by show (10 : Nat) < 100; decide) rfl (ev_un ev_c ru_neg) fun H11 k11 h11 => ?_
    have kk2 := k1.trans k2
    have nlx : l ≠ x := Ne.symm (ne_of_none h2 hl)
    have npx : p0 ≠ x := Ne.symm (ne_of_none h2 hp0)
    have nfx : f ≠ x := Ne.symm (ne_of_none h3 hf)
    have ngx : g ≠ x := Ne.symm (ne_of_none h4 hg)
    have k5e := (((((k6.trans k7).trans k8).trans k9).trans k10).trans k11)
    have back : ∀ {Ha Hb : Hp} {y : Addr}, Kp x Ha Hb → y ≠ x → Hb y = none → Ha y = none := fun {Ha Hb y} kab hy hb => by
      cases e : Ha y with
      | none => rfl
      | some u => rw [kab _ _ e hy] at hb; cases hb
    refine k ⟨x, dx, l, f, g⟩ _ rfl (back kk2 nlx hl) (back (kk2.trans k3) nfx hf) (back ((kk2.trans k3).trans k4) ngx hg) ((((kk2.trans k3).trans k4).trans k5).trans k5e) ?_
    refine ⟨⟨.non, h11, rfl⟩, ⟨[.ref p0], ((k4.trans k5).trans k5e) _ _ hl3 nlx, .cons ⟨p0, rfl, ((k4.trans k5).trans k5e) _ _ hp3 npx⟩ .nil⟩, ⟨[], (k5.trans k5e) _ _ hf4 nfx, .nil⟩, ⟨[], k5e _ _ hg5 ngx, .nil⟩, ?_, ?_, ?_⟩
    · exact ne_of_none hl3 hf
    · exact ne_of_none (k4 _ _ hl3 nlx) hg
    · exact ne_of_none hf4 hg

abbrev Bd (s : Sc) : Prop := s.text.length ≤ 20000 ∧ s.found.length < 90000
def sp_Scanner_add (_ : PySem.W.Frag) (a : Ads) : Sp := fun vs H Q _ => ∃ (o : Own) (s : Sc) (k : Str) (e : Nat), vs = [.ref o.x, .str k, .int e] ∧ Rp a.C_Scanner a.C_Frame o H s ∧ Bd s ∧ Does a.C_Scanner a.C_Frame o H (s.add k e) .non Q
theorem ok_Scanner_add {P : Program} {w : World} {K : PySem.W.Frag} {mg : Str → Option Value} {base : Heap} {a : Ads} (T : Txt w K mg a) :
    FnOk P w K mg base CX0 1 a.Scanner_add a.d_Scanner_add ["self", "kind", "end"] (sp_Scanner_add K a) := by
  refine T.F_Scanner_add.ok sc_Scanner_add (fun vs H Q E h => ?_) (fun cdv A outer s H vs Q E hr h => ?_)
  · obtain ⟨_, _, _, _, rfl, _⟩ := h; rfl
  · obtain ⟨o, s, kd, e, rfl, r, bd, k⟩ := h
    refine ⟨_, (pss_cons (ps_expr (pe_bm PySem.F.plainAttrs_list PySem.F.slot_list_append PySem.F.type_list_append mt_append (pe_fld (pv 0) rfl) (pa_cons (pe_tup (pa_cons (pv 1) (pa_cons (pe_slice sl_str (pe_fld (pv 0) rfl) (po_some (pe_fld (pv 0) rfl)) (po_some (pv 2))) (pa_cons (pe_fld (pv 0) rfl) pa_nil)))) pa_nil)))
      (pss_cons (ps_fld (pv 0) (pv 2) rfl)
      (pss_one (ps_fld (pv 0) (pe_un un_neg pe_int) rfl)))), ?_⟩
    have t := scT T
    refine q_appTk t r bd.2 (ev_var rfl) (eu_tup (ea_cons (ev_var rfl) (ea_cons (ev_slAB (K := K) (ev_text t r (ev_var rfl)) (ev_pos t r (ev_var rfl)) (ev_var rfl) (by have := bd.1; omega)) (ea_cons (ev_pos t r (ev_var rfl)) ea_nil))) (by simp)) fun H1 k1 r1 => ?_
    refine q_setX t r1 { s with found := s.found ++ [⟨kd, s.part s.at_ e, s.at_⟩], at_ := e } t.at_ (ev_var rfl) (ev_var rfl) (fun _ => rfl) ⟨rfl, rfl, rfl, rfl⟩ fun H2 k2 r2 => ?_
    refine s_setX t r2 (s.add kd e) t.join (ev_un ev_c ru_neg) (ev_var rfl) (fun _ => rfl) ⟨rfl, rfl, rfl, rfl⟩ fun H3 k3 r3 => ?_
    exact k _ ((k1.trans k2).trans k3) r3
def sp_Scanner_add_lexeme (_ : PySem.W.Frag) (a : Ads) : Sp := fun vs H Q _ => ∃ (o : Own) (s : Sc) (k : Str) (e : Nat), vs = [.ref o.x, .str k, .int e] ∧ Rp a.C_Scanner a.C_Frame o H s ∧ Bd s ∧ Does a.C_Scanner a.C_Frame o H (s.lex k e) .non Q
theorem ok_Scanner_add_lexeme {P : Program} {w : World} {K : PySem.W.Frag} {mg : Str → Option Value} {base : Heap} {a : Ads} (T : Txt w K mg a) (G_Scanner_add : FnOk P w K mg base CX0 1 a.Scanner_add a.d_Scanner_add ["self", "kind", "end"] (sp_Scanner_add K a)) :
    FnOk P w K mg base CX0 2 a.Scanner_add_lexeme a.d_Scanner_add_lexeme ["self", "kind", "end"] (sp_Scanner_add_lexeme K a) := by
  refine T.F_Scanner_add_lexeme.ok sc_Scanner_add_lexeme (fun vs H Q E h => ?_) (fun cdv A outer s H vs Q E hr h => ?_)
  · obtain ⟨_, _, _, _, rfl, _⟩ := h; rfl
  · obtain ⟨o, s, kd, e, rfl, r, bd, k⟩ := h
    refine ⟨_, (pss_cons (ps_fld (pv 0) pe_bl rfl)
      (pss_one (ps_expr (pe_meth (pv 0) T.c_Scanner T.t_Scanner_add G_Scanner_add (hr.mono (by decide)) T.b_Scanner_add .nil pass0 (pa_cons (pv 1) (pa_cons (pv 2) pa_nil)))))), ?_⟩
    have t := scT T
    refine q_setX t r { s with begun := true } t.begun ev_c (ev_var rfl) (fun _ => rfl) ⟨rfl, rfl, rfl, rfl⟩ fun H1 k1 r1 => ?_
    refine s_meth r1 (ev_var rfl) (fun _ => rfl) (ea_cons (ev_var rfl) (ea_cons (ev_var rfl) ea_nil)) fun H2 e2 r2 => ?_
    exact ⟨o, { s with begun := true }, kd, e, rfl, r2, bd, fun H3 k3 r3 => k _ ((k1.trans (KO.of e2)).trans k3) r3⟩
def sp_Scanner_fail (_ : PySem.W.Frag) (a : Ads) : Sp := fun vs H Q _ => ∃ (o : Own) (s : Sc) (k : Str) (z : Int), vs = [.ref o.x, .str k, .int z] ∧ Rp a.C_Scanner a.C_Frame o H s ∧ Does a.C_Scanner a.C_Frame o H (s.failed k z) (.bl false) Q
theorem ok_Scanner_fail {P : Program} {w : World} {K : PySem.W.Frag} {mg : Str → Option Value} {base : Heap} {a : Ads} (T : Txt w K mg a) :
    FnOk P w K mg base CX0 1 a.Scanner_fail a.d_Scanner_fail ["self", "kind", "at"] (sp_Scanner_fail K a) := by
  refine T.F_Scanner_fail.ok sc_Scanner_fail (fun vs H Q E h => ?_) (fun cdv A outer s H vs Q E hr h => ?_)
  · obtain ⟨_, _, _, _, rfl, _⟩ := h; rfl
  · obtain ⟨o, s, kd, z, rfl, r, k⟩ := h
    refine ⟨_, (pss_cons (ps_fld (pv 0) (pe_tup (pa_cons (pv 1) (pa_cons (pv 2) pa_nil))) rfl)
      (pss_cons (ps_fld (pv 0) pe_bl rfl)
      (pss_one (ps_ret pe_bl)))), ?_⟩
    have t := scT T
    refine q_setFail t r (eu_tup (ea_cons (ev_var rfl) (ea_cons (ev_var rfl) ea_nil)) (by simp)) (ev_var rfl) fun H1 k1 r1 => ?_
    refine q_setX t r1 (s.failed kd z) t.over ev_c (ev_var rfl) (fun _ => rfl) ⟨rfl, rfl, rfl, rfl⟩ fun H2 k2 r2 => ?_
    exact s_ret ev_c fun H3 e3 => k _ ((k1.trans k2).trans (KO.of e3)) (r2.ex e3)
/-- return self.fail(kind, z) -/
theorem r_fail {K : PySem.W.Frag} {a : Ads} {o : Own} {H H0 : Hp} {s : Sc} {σ : L2.St} {D : Ends} {E : XK} {ta tk tz : TE} {kd : Str} {z : Int} (r : Rp a.C_Scanner a.C_Frame o H s) (ho : Ev ta σ H (.ref o.x)) (hk : Ev tk σ H (.str kd)) (hz : Ev tz σ H (.int z))
    (k0 : KO o H0 H) (k : Does a.C_Scanner a.C_Frame o H0 (s.failed kd z) (.bl false) D.rt) : tRet (tMeth a.C_Scanner "fail" (sp_Scanner_fail K a) [] E ta (tCons tk (tCons tz tNil))) D σ H :=
  r_meth r ho (fun _ => rfl) (ea_cons hk (ea_cons hz ea_nil)) fun H1 e1 r1 => ⟨o, s, kd, z, rfl, r1, k.go (k0.trans (KO.of e1))⟩
/-- self.add(kind, end), then .. -/
theorem q_add {K : PySem.W.Frag} {a : Ads} {o : Own} {H : Hp} {s : Sc} {σ : L2.St} {D : Ends} {tu : TS} {E : XK} {ta tk tz : TE} {kd : Str} {e : Nat} (r : Rp a.C_Scanner a.C_Frame o H s) (bd : Bd s) (ho : Ev ta σ H (.ref o.x)) (hk : Ev tk σ H (.str kd)) (hz : Ev tz σ H (.int (e : Int)))
    (k : ∀ H1, KO o H H1 → Rp a.C_Scanner a.C_Frame o H1 (s.add kd e) → tu D σ H1) : tSeq (tDrop (tMeth a.C_Scanner "add" (sp_Scanner_add K a) [] E ta (tCons tk (tCons tz tNil)))) tu D σ H :=
  q_meth r ho (fun _ => rfl) (ea_cons hk (ea_cons hz ea_nil)) fun H1 e1 r1 => ⟨o, s, kd, e, rfl, r1, bd, fun H2 k2 r2 => k _ ((KO.of e1).trans k2) r2⟩
theorem s_add {K : PySem.W.Frag} {a : Ads} {o : Own} {H : Hp} {s : Sc} {σ : L2.St} {D : Ends} {E : XK} {ta tk tz : TE} {kd : Str} {e : Nat} (r : Rp a.C_Scanner a.C_Frame o H s) (bd : Bd s) (ho : Ev ta σ H (.ref o.x)) (hk : Ev tk σ H (.str kd)) (hz : Ev tz σ H (.int (e : Int)))
    (k : ∀ H1, KO o H H1 → Rp a.C_Scanner a.C_Frame o H1 (s.add kd e) → D.nx σ H1) : tDrop (tMeth a.C_Scanner "add" (sp_Scanner_add K a) [] E ta (tCons tk (tCons tz tNil))) D σ H :=
  s_meth r ho (fun _ => rfl) (ea_cons hk (ea_cons hz ea_nil)) fun H1 e1 r1 => ⟨o, s, kd, e, rfl, r1, bd, fun H2 k2 r2 => k _ ((KO.of e1).trans k2) r2⟩
theorem q_lex {K : PySem.W.Frag} {a : Ads} {o : Own} {H : Hp} {s : Sc} {σ : L2.St} {D : Ends} {tu : TS} {E : XK} {ta tk tz : TE} {kd : Str} {e : Nat} (r : Rp a.C_Scanner a.C_Frame o H s) (bd : Bd s) (ho : Ev ta σ H (.ref o.x)) (hk : Ev tk σ H (.str kd)) (hz : Ev tz σ H (.int (e : Int)))
    (k : ∀ H1, KO o H H1 → Rp a.C_Scanner a.C_Frame o H1 (s.lex kd e) → tu D σ H1) : tSeq (tDrop (tMeth a.C_Scanner "add_lexeme" (sp_Scanner_add_lexeme K a) [] E ta (tCons tk (tCons tz tNil)))) tu D σ H :=
  q_meth r ho (fun _ => rfl) (ea_cons hk (ea_cons hz ea_nil)) fun H1 e1 r1 => ⟨o, s, kd, e, rfl, r1, bd, fun H2 k2 r2 => k _ ((KO.of e1).trans k2) r2⟩
theorem Ok.bd {s : Sc} (h : Ok s) : Bd s := ⟨h.hl, by have := h.found_le; omega⟩
def sp_Scanner_comment_end (_ : PySem.W.Frag) (a : Ads) : Sp := fun vs H Q _ => ∃ (o : Own) (s : Sc) (n : Nat), vs = [.ref o.x, .int n] ∧ Rp a.C_Scanner a.C_Frame o H s ∧ s.text.length ≤ 20000 ∧ n ≤ s.text.length ∧ RetV (match s.commentEnd n with | some e => .int (e : Int) | none => .int (-1)) H Q
theorem ok_Scanner_comment_end {P : Program} {w : World} {K : PySem.W.Frag} {mg : Str → Option Value} {base : Heap} {a : Ads} (T : Txt w K mg a) :
    FnOk P w K mg base CX0 1 a.Scanner_comment_end a.d_Scanner_comment_end ["self", "at"] (sp_Scanner_comment_end K a) := by
  refine T.F_Scanner_comment_end.ok sc_Scanner_comment_end (fun vs H Q E h => ?_) (fun cdv A outer s H vs Q E hr h => ?_)
  · obtain ⟨_, _, _, rfl, _⟩ := h; rfl
  · obtain ⟨o, s, n, rfl, r, hl, hn, k⟩ := h
    refine ⟨_, (pss_cons (ps_set (i := 2) sc_Scanner_comment_end.nd rfl (Or.inl rfl) (pe_bm PySem.F.plainAttrs_str PySem.F.slot_str_find PySem.F.type_str_find mt_find3 (pe_fld (pv 0) rfl) (pa_cons pe_str (pa_cons (pv 1) pa_nil))))
      (pss_cons (ps_if (pt_cmpR op_ge (pv 2) pe_int (nomark _)) (pss_one (ps_ret (pv 2))) pss_nil)
      (pss_one (ps_ret (pe_ifExp (pt_val (pe_fld (pv 0) rfl)) (pe_callB call_len_str (by rfl) T.n_len b_len (pa_cons (pe_fld (pv 0) rfl) pa_nil)) (pe_gint T.m_MORE)))))), ?_⟩
    have t := scT T
    refine q_asg (ev_findLf (K := K) (l := s.text) (n := n) (ev_text t r (ev_var rfl)) ev_c (ev_var rfl) hn) fun H1 e1 => ?_
    unfold Sc.commentEnd at k
    by_cases hlt : runEnd Sc.notLf s.text n < s.text.length
    · rw [if_pos hlt] at k ⊢
      refine q_when (b := true) (et_is (et_test (ev_op (ev_var rfl) ev_c rv_I0)) (decide_eq_true (by omega))) (fun _ H2 e2 => ?_) (fun z => nomatch z)
      exact s_ret (ev_var rfl) fun H3 e3 => k _ ((e1.trans e2).trans e3)
    · rw [if_neg hlt] at k ⊢
      refine q_when (b := false) (et_is (et_test (ev_op (ev_var rfl) ev_c rv_I0)) (decide_eq_false (by decide))) (fun z => nomatch z) (fun _ H2 e2 => ?_)
      have r2 := r.ex (e1.trans e2)
      refine s_ret (v := .int (if s.fin = true then (s.text.length : Int) else -1)) (ev_if (et_B (ev_fin t r2 (ev_var rfl))) (fun z => ?_) (fun z => ?_)) fun H3 e3 => ?_
      · rw [if_pos z]; exact ev_len t r2 (ev_var rfl) hl
      · rw [if_neg (by rw [z]; exact Bool.false_ne_true)]; exact ev_c
      · cases hf : s.fin with
        | true => rw [if_pos rfl]; rw [hf, if_pos rfl] at k; exact k _ ((e1.trans e2).trans e3)
        | false => rw [if_neg Bool.false_ne_true]; rw [hf, if_neg Bool.false_ne_true] at k; exact k _ ((e1.trans e2).trans e3)

def sp_Scanner_finish (_ : PySem.W.Frag) (a : Ads) : Sp := fun vs H Q _ => ∃ (o : Own) (s : Sc), vs = [.ref o.x] ∧ Rp a.C_Scanner a.C_Frame o H s ∧ Ok s ∧ s.over = false ∧ Does a.C_Scanner a.C_Frame o H s.finish (.bl false) Q
theorem ok_Scanner_finish {P : Program} {w : World} {K : PySem.W.Frag} {mg : Str → Option Value} {base : Heap} {a : Ads} (T : Txt w K mg a) (G_Scanner_fail : FnOk P w K mg base CX0 1 a.Scanner_fail a.d_Scanner_fail ["self", "kind", "at"] (sp_Scanner_fail K a)) (G_Scanner_add : FnOk P w K mg base CX0 1 a.Scanner_add a.d_Scanner_add ["self", "kind", "end"] (sp_Scanner_add K a)) :
    FnOk P w K mg base CX0 2 a.Scanner_finish a.d_Scanner_finish ["self"] (sp_Scanner_finish K a) := by
  refine T.F_Scanner_finish.ok sc_Scanner_finish (fun vs H Q E h => ?_) (fun cdv A outer s H vs Q E hr h => ?_)
  · obtain ⟨_, _, rfl, _⟩ := h; rfl
  · obtain ⟨o, s, rfl, r, ok, ho, k⟩ := h
    refine ⟨_, (pss_cons (ps_if (pt_cmpR op_ge (pe_fld (pv 0) rfl) pe_int (nomark _)) (pss_one (ps_ret (pe_meth (pv 0) T.c_Scanner T.t_Scanner_fail G_Scanner_fail (hr.mono (by decide)) T.b_Scanner_fail .nil pass0 (pa_cons pe_str (pa_cons (pe_fld (pv 0) rfl) pa_nil))))) pss_nil)
      (pss_cons (ps_if (pt_cmpR (op_neE (u00 hr)) (pe_fld (pv 0) rfl) (pe_lst pa_nil) (nomark _)) (pss_one (ps_ret (pe_meth (pv 0) T.c_Scanner T.t_Scanner_fail G_Scanner_fail (hr.mono (by decide)) T.b_Scanner_fail .nil pass0 (pa_cons pe_str (pa_cons (pe_fld (pe_ix ix_list (pe_fld (pv 0) rfl) (pe_un un_neg pe_int) (fun _ _ => rfl)) rfl) pa_nil))))) pss_nil)
      (pss_cons (ps_if (pt_val (pe_fld (pv 0) rfl)) (pss_one (ps_expr (pe_meth (pv 0) T.c_Scanner T.t_Scanner_add G_Scanner_add (hr.mono (by decide)) T.b_Scanner_add .nil pass0 (pa_cons pe_str (pa_cons (pe_fld (pv 0) rfl) pa_nil))))) pss_nil)
      (pss_cons (ps_for PassesOwn.never rfl (pi_list (pe_slice sl_list (pe_fld (pv 0) rfl) (po_some pe_int) po_none)) (pg_name (i := 1) sc_Scanner_finish.nd rfl (Or.inl rfl)) (pss_one (ps_expr (pe_meth (pv 0) T.c_Scanner T.t_Scanner_add G_Scanner_add (hr.mono (by decide)) T.b_Scanner_add .nil pass0 (pa_cons pe_str (pa_cons (pe_fld (pv 0) rfl) pa_nil))))))
      (pss_cons (ps_expr (pe_meth (pv 0) T.c_Scanner T.t_Scanner_add G_Scanner_add (hr.mono (by decide)) T.b_Scanner_add .nil pass0 (pa_cons pe_str (pa_cons (pe_fld (pv 0) rfl) pa_nil))))
      (pss_cons (ps_fld (pv 0) pe_bl rfl)
      (pss_one (ps_ret pe_bl)))))))), ?_⟩
    have t := scT T
    unfold Sc.finish at k
    refine q_when (et_test (ev_op (ev_join t r (ev_var rfl)) ev_c rv_I0)) (fun hb H1 e1 => ?_) (fun hb H1 e1 => ?_)
    · rw [if_pos (of_decide_eq_true hb)] at k
      have r1 := r.ex e1
      exact r_fail r1 (ev_var rfl) ev_c (ev_join t r1 (ev_var rfl)) (KO.of e1) k
    · rw [if_neg (of_decide_eq_false hb)] at k
      have r1 := r.ex e1
      refine q_when (et_test (ev_frNe t r1 (ev_var rfl))) (fun hb2 H2 e2 => ?_) (fun hb2 H2 e2 => ?_)
      · have r2 := r1.ex e2
        cases hf : s.fr with
        | nil => rw [hf] at hb2; cases hb2
        | cons f fs =>
          rw [hf] at k
          obtain ⟨v, hv, ev⟩ := ev_top (K := K) (σ := [some (.ref o.x), none]) (ta := tVar 0) t r2 (ev_var rfl) hf
          exact r_fail r2 (ev_var rfl) ev_c (ev_fat t hv ev) ((KO.of e1).trans (KO.of e2)) k
      · have hf : s.fr = [] := by simpa using hb2
        rw [hf] at k
        dsimp only at k
        have r2 := r1.ex e2
        have k02 := (KO.of (o := o) e1).trans (KO.of e2)
        have hlv : 0 < s.lv.length := List.length_pos_iff.mpr ok.lv
        have bd := Ok.bd ok
        have hc := ok.cnt' ho
        have hal := ok.ha
        have hln := ok.hl
        obtain ⟨s1, hs1⟩ : ∃ s1, s1 = (if s.begun = true then s.add "NEWLINE" s.at_ else s) := ⟨_, rfl⟩
        rw [← hs1] at k
        have f1 : s1.text = s.text ∧ s1.lv = s.lv ∧ s1.at_ = s.at_ ∧ s1.found.length ≤ s.found.length + 1 := by
          rw [hs1]
          split
          · exact ⟨rfl, rfl, rfl, by show (s.found ++ [_]).length ≤ _; simp⟩
          · exact ⟨rfl, rfl, rfl, by omega⟩
        refine q_ifM (fun σ' H' => σ' = [some (.ref o.x), none] ∧ KO o H H' ∧ Rp a.C_Scanner a.C_Frame o H' s1) (et_B (ev_begun t r2 (ev_var rfl))) (fun kk hb3 H3 e3 => ?_) (fun hb3 H3 e3 => ?_) ?_
        · have r3 := r2.ex e3
          refine s_add r3 bd (ev_var rfl) ev_c (ev_pos t r3 (ev_var rfl)) fun H4 k4 r4 => kk _ _ ⟨rfl, (k02.trans (KO.of e3)).trans k4, ?_⟩
          rw [hs1, if_pos hb3]; exact r4
        · refine ⟨rfl, k02.trans (KO.of e3), ?_⟩
          rw [hs1, if_neg (by rw [hb3]; exact Bool.false_ne_true)]; exact r2.ex e3
        rintro σ' H3 ⟨rfl, k3, r3⟩
        obtain ⟨_, ⟨vs, hl1, hl2⟩, _⟩ := id r3
        have hvl : vs.length = s.lv.length := by rw [hl2.len, f1.2.1]
        obtain ⟨LL, hLL⟩ : ∃ LL, LL = s.lv.reverse.drop 1 := ⟨_, rfl⟩
        rw [← hLL] at k
        have hLl : LL.length = s.lv.length - 1 := by rw [hLL]; simp
        have hxl : (vs.reverse.drop 1).length = LL.length := by rw [List.length_drop, List.length_reverse, hvl, hLl]
        have sl : EvL (tSl (rSlL K) (tFld K (tVar 0) "levels") (tPart (tC (.int 1))) tNoPart) [some (.ref o.x), none] H3 (vs.reverse.drop 1) := by
          have h := el_sl (K := K) (ev_lvs t r3 (ev_var (σ := [some (.ref o.x), none]) (i := 0) rfl)) (eo_some (ev_c (v := .int ((1 : Nat) : Int)))) eo_none (sq_of hl1)
          rw [cutV_n] at h
          exact h
        refine q_forNLn sl (fun p i σ' H' => ∃ (v1 : Option V) (s' : Sc), σ' = [some (.ref o.x), v1] ∧ KO o H3 H' ∧ Rp a.C_Scanner a.C_Frame o H' s' ∧ H' p = some (.lst (vs.reverse.drop 1)) ∧ (p ≠ o.x ∧ p ≠ o.l ∧ p ≠ o.f ∧ p ≠ o.g) ∧ Sc.dedents LL s1 = Sc.dedents (LL.drop i) s' ∧ s'.text = s.text ∧ s'.found.length ≤ s.found.length + 1 + i)
          (fun p H4 hp e4 h4 => ⟨none, s1, rfl, KO.of e4, r3.ex e4, h4, r3.fresh hp, rfl, f1.1, by omega⟩) (fun p i σ' H' _ ⟨_, _, _, _, _, h4, _⟩ => sq_of h4) ?_ ?_
        · rintro p i x σ' H4 hx ⟨v1, s', rfl, k4, r4, h4, n4, d4, t4, c4⟩
          have hi := (List.getElem?_eq_some_iff.mp hx).1
          refine s_add (e := s'.at_) r4 ⟨by rw [t4]; exact hln, by omega⟩ (ev_var rfl) ev_c (ev_pos t r4 (ev_var rfl)) fun H5 k5 r5 => ?_
          refine ⟨_, _, rfl, k4.trans k5, r5, KO.keep k5 r4 h4 n4, n4, ?_, t4, ?_⟩
          · rw [d4]
            obtain ⟨y, hy⟩ : ∃ y, LL[i]? = some y := ⟨_, List.getElem?_eq_getElem (by omega)⟩
            rw [drop_at' hy]
            rfl
          · show (s'.found ++ [_]).length ≤ _
            rw [List.length_append, List.length_singleton]; omega
        · rintro p σ' H4 ⟨v1, s', rfl, k4, r4, h4, n4, d4, t4, c4⟩
          rw [hxl, List.drop_length] at d4
          rw [d4] at k
          refine q_add (e := s'.at_) r4 ⟨by rw [t4]; exact hln, by omega⟩ (ev_var rfl) ev_c (ev_pos t r4 (ev_var rfl)) fun H5 k5 r5 => ?_
          refine q_setX t r5 { s'.add "ENDMARKER" s'.at_ with over := true } t.over ev_c (ev_var rfl) (fun _ => rfl) ⟨rfl, rfl, rfl, rfl⟩ fun H6 k6 r6 => ?_
          exact s_ret ev_c fun H7 e7 => k _ ((((k3.trans k4).trans k5).trans k6).trans (KO.of e7)) (r6.ex e7)

def sp_Scanner_read_join (_ : PySem.W.Frag) (a : Ads) : Sp := fun vs H Q _ => ∃ (o : Own) (s : Sc), vs = [.ref o.x] ∧ Rp a.C_Scanner a.C_Frame o H s ∧ Ok s ∧ Does a.C_Scanner a.C_Frame o H s.readJoin.1 (.bl s.readJoin.2) Q
theorem ok_Scanner_read_join {P : Program} {w : World} {K : PySem.W.Frag} {mg : Str → Option Value} {base : Heap} {a : Ads} (T : Txt w K mg a) (G_Scanner_fail : FnOk P w K mg base CX0 1 a.Scanner_fail a.d_Scanner_fail ["self", "kind", "at"] (sp_Scanner_fail K a)) :
    FnOk P w K mg base CX0 2 a.Scanner_read_join a.d_Scanner_read_join ["self"] (sp_Scanner_read_join K a) := by
  refine T.F_Scanner_read_join.ok sc_Scanner_read_join (fun vs H Q E h => ?_) (fun cdv A outer s H vs Q E hr h => ?_)
  · obtain ⟨_, _, rfl, _⟩ := h; rfl
  · obtain ⟨o, s, rfl, r, ok, k⟩ := h
    refine ⟨_, (pss_cons (ps_if (PW.pt (pw_and (pt_cmpR op_eq (pe_op op_add (pe_fld (pv 0) rfl) pe_int) (pe_callB call_len_str (by rfl) T.n_len b_len (pa_cons (pe_fld (pv 0) rfl) pa_nil)) (nomark _)) (pw_and (pt_not (pt_val (pe_fld (pv 0) rfl))) (pw_and1 (PW.pt (pw_or (pt_val (pe_fld (pv 0) rfl)) (pw_or1 (pt_cmpR (op_neE (u00 hr)) (pe_fld (pv 0) rfl) (pe_lst pa_nil) (nomark _))))))))) (pss_one (ps_ret pe_bl)) pss_nil)
      (pss_cons (ps_if (PW.pt (pw_or (pt_cmpR op_ne (pe_slice sl_str (pe_fld (pv 0) rfl) (po_some (pe_op op_add (pe_fld (pv 0) rfl) pe_int)) (po_some (pe_op op_add (pe_fld (pv 0) rfl) pe_int))) pe_str (nomark _)) (pw_or1 (PW.pt (pw_and (pt_not (pt_val (pe_fld (pv 0) rfl))) (pw_and1 (pt_cmpR (op_eqE (u00 hr)) (pe_fld (pv 0) rfl) (pe_lst pa_nil) (nomark _)))))))) (pss_one (ps_ret (pe_meth (pv 0) T.c_Scanner T.t_Scanner_fail G_Scanner_fail (hr.mono (by decide)) T.b_Scanner_fail .nil pass0 (pa_cons pe_str (pa_cons (pe_fld (pv 0) rfl) pa_nil))))) pss_nil)
      (pss_cons (ps_fld (pv 0) (pe_fld (pv 0) rfl) rfl)
      (pss_cons (ps_fldaug (pv 0) pe_int in_add)
      (pss_one (ps_ret pe_bl)))))), ?_⟩
    have t := scT T
    have hl := ok.hl
    unfold Sc.readJoin at k
    refine q_when (b := decide (s.at_ + 1 = s.text.length) && (!s.fin && (s.begun || !decide (s.fr = [])))) (et_and (et_is (et_test (ev_op (ev_op (ev_pos t r (ev_var rfl)) ev_c rv_I0) (ev_len t r (ev_var rfl) hl) rv_eqI)) (decide_eq_decide.mpr (by omega))) fun _ => et_and (et_not (et_B (ev_fin t r (ev_var rfl)))) fun _ => et_or (et_B (ev_begun t r (ev_var rfl))) fun _ => et_test (ev_frNe t r (ev_var rfl))) (fun hb H1 e1 => ?_) (fun hb H1 e1 => ?_)
    · have hc : s.at_ + 1 = s.text.length ∧ s.fin = false ∧ (s.begun = true ∨ s.fr ≠ []) := by simpa using hb
      rw [if_pos hc] at k
      exact s_ret ev_c fun H2 e2 => k _ (KO.of (e1.trans e2)) (r.ex (e1.trans e2))
    · have hc : ¬ (s.at_ + 1 = s.text.length ∧ s.fin = false ∧ (s.begun = true ∨ s.fr ≠ [])) := fun z => by
        have : (decide (s.at_ + 1 = s.text.length) && (!s.fin && (s.begun || !decide (s.fr = [])))) = true := by simpa using z
        rw [hb] at this; cases this
      rw [if_neg hc] at k
      have r1 := r.ex e1
      have sl : Ev (tSl rSlS (tFld K (tVar 0) "text") (tPart (tOp (rI0 fun i j => .int (i + j)) (tFld K (tVar 0) "at") (tC (.int 1)))) (tPart (tOp (rI0 fun i j => .int (i + j)) (tFld K (tVar 0) "at") (tC (.int 2))))) [some (.ref o.x)] H1 (.str (S ((s.text.drop (s.at_ + 1)).take 1))) := by
        have h := ev_slAB (K := K) (i := s.at_ + 1) (j := s.at_ + 2) (ev_text t r1 (ev_var (σ := [some (.ref o.x)]) (i := 0) rfl)) (ev_op (ev_pos t r1 (ev_var (i := 0) rfl)) (ev_c (v := .int 1)) (rv_I0 (g := fun i j => .int (i + j)))) (ev_op (ev_pos t r1 (ev_var (i := 0) rfl)) (ev_c (v := .int 2)) (rv_I0 (g := fun i j => .int (i + j)))) (by omega)
        have e : s.at_ + 2 - (s.at_ + 1) = 1 := by omega
        rw [e] at h
        exact h
      refine q_when (b := (!decide ((s.text.drop (s.at_ + 1)).take 1 = [10])) || (!s.begun && decide (s.fr = []))) (et_or (et_test (ev_op sl (ev_cS rfl) rv_neS)) fun _ => et_and (et_not (et_B (ev_begun t r1 (ev_var rfl)))) fun _ => et_test (ev_frEq t r1 (ev_var rfl))) (fun hb2 H2 e2 => ?_) (fun hb2 H2 e2 => ?_)
      · have hc2 : (s.text.drop (s.at_ + 1)).take 1 ≠ [10] ∨ (s.begun = false ∧ s.fr = []) := by simpa using hb2
        rw [if_pos hc2] at k
        have r2 := r1.ex e2
        exact r_fail r2 (ev_var rfl) ev_c (ev_pos t r2 (ev_var rfl)) (KO.of (e1.trans e2)) k
      · have hc2 : ¬ ((s.text.drop (s.at_ + 1)).take 1 ≠ [10] ∨ (s.begun = false ∧ s.fr = [])) := fun z => by
          have : ((!decide ((s.text.drop (s.at_ + 1)).take 1 = [10])) || (!s.begun && decide (s.fr = []))) = true := by simpa using z
          rw [hb2] at this; cases this
        rw [if_neg hc2] at k
        have r2 := r1.ex e2
        refine q_setX t r2 { s with join := s.at_ } t.join (ev_pos t r2 (ev_var rfl)) (ev_var rfl) (fun _ => rfl) ⟨rfl, rfl, rfl, rfl⟩ fun H3 k3 r3 => ?_
        refine q_augAt t r3 (n := 2) (fun H4 e4 => ev_var rfl) (fun H4 e4 => ev_c) fun H4 k4 r4 => ?_
        exact s_ret ev_c fun H5 e5 => k _ (((KO.of (e1.trans e2)).trans (k3.trans k4)).trans (KO.of e5)) (r4.ex e5)
/-- self.comment_end(at) -/
theorem ev_cend {K : PySem.W.Frag} {a : Ads} {o : Own} {H : Hp} {s : Sc} {σ : L2.St} {E : XK} {ta tn : TE} {n : Nat} (r : Rp a.C_Scanner a.C_Frame o H s) (hl : s.text.length ≤ 20000) (hn : n ≤ s.text.length) (ho : Ev ta σ H (.ref o.x)) (h1 : Ev tn σ H (.int (n : Int))) :
    Ev (tMeth a.C_Scanner "comment_end" (sp_Scanner_comment_end K a) [] E ta (tCons tn tNil)) σ H (match s.commentEnd n with | some e => .int (e : Int) | none => .int (-1)) :=
  ev_meth r ho (fun _ => rfl) (ea_cons h1 ea_nil) fun H1 e1 Q q E => ⟨o, s, n, rfl, r.ex e1, hl, hn, fun H2 e2 => q H2 e2⟩
def sp_Scanner_read_comment (_ : PySem.W.Frag) (a : Ads) : Sp := fun vs H Q _ => ∃ (o : Own) (s : Sc), vs = [.ref o.x] ∧ Rp a.C_Scanner a.C_Frame o H s ∧ Ok s ∧ Does a.C_Scanner a.C_Frame o H s.readComment.1 (.bl s.readComment.2) Q
theorem ok_Scanner_read_comment {P : Program} {w : World} {K : PySem.W.Frag} {mg : Str → Option Value} {base : Heap} {a : Ads} (T : Txt w K mg a) (G_Scanner_comment_end : FnOk P w K mg base CX0 1 a.Scanner_comment_end a.d_Scanner_comment_end ["self", "at"] (sp_Scanner_comment_end K a)) (G_Scanner_add : FnOk P w K mg base CX0 1 a.Scanner_add a.d_Scanner_add ["self", "kind", "end"] (sp_Scanner_add K a)) :
    FnOk P w K mg base CX0 2 a.Scanner_read_comment a.d_Scanner_read_comment ["self"] (sp_Scanner_read_comment K a) := by
  refine T.F_Scanner_read_comment.ok sc_Scanner_read_comment (fun vs H Q E h => ?_) (fun cdv A outer s H vs Q E hr h => ?_)
  · obtain ⟨_, _, rfl, _⟩ := h; rfl
  · obtain ⟨o, s, rfl, r, ok, k⟩ := h
    refine ⟨_, (pss_cons (ps_set (i := 1) sc_Scanner_read_comment.nd rfl (Or.inl rfl) (pe_meth (pv 0) T.c_Scanner T.t_Scanner_comment_end G_Scanner_comment_end (hr.mono (by decide)) T.b_Scanner_comment_end .nil pass0 (pa_cons (pe_fld (pv 0) rfl) pa_nil)))
      (pss_cons (ps_if (pt_cmpR op_eq (pv 1) (pe_gint T.m_MORE) (nomark _)) (pss_one (ps_ret pe_bl)) pss_nil)
      (pss_cons (ps_expr (pe_meth (pv 0) T.c_Scanner T.t_Scanner_add G_Scanner_add (hr.mono (by decide)) T.b_Scanner_add .nil pass0 (pa_cons pe_str (pa_cons (pv 1) pa_nil))))
      (pss_one (ps_ret pe_bl))))), ?_⟩
    have t := scT T
    refine q_asg (ev_cend r ok.hl ok.ha (ev_var rfl) (ev_pos t r (ev_var rfl))) fun H1 e1 => ?_
    have r1 := r.ex e1
    unfold Sc.readComment at k
    cases he : s.commentEnd s.at_ with
    | none =>
      rw [he] at k
      refine q_when (b := true) (et_test (ev_op (ev_var rfl) ev_c rv_eqI)) (fun _ H2 e2 => ?_) (fun z => nomatch z)
      exact s_ret ev_c fun H3 e3 => k _ (KO.of ((e1.trans e2).trans e3)) (r1.ex (e2.trans e3))
    | some e =>
      rw [he] at k
      refine q_when (b := false) (et_is (et_test (ev_op (ev_var rfl) ev_c rv_eqI)) (decide_eq_false (by omega))) (fun z => nomatch z) (fun _ H2 e2 => ?_)
      refine q_add (r1.ex e2) (Ok.bd ok) (ev_var rfl) ev_c (ev_var rfl) fun H3 k3 r3 => ?_
      exact s_ret ev_c fun H4 e4 => k _ (((KO.of (e1.trans e2)).trans k3).trans (KO.of e4)) (r3.ex e4)
def sp_Scanner_read_line_feed (_ : PySem.W.Frag) (a : Ads) : Sp := fun vs H Q _ => ∃ (o : Own) (s : Sc), vs = [.ref o.x] ∧ Rp a.C_Scanner a.C_Frame o H s ∧ Ok s ∧ Does a.C_Scanner a.C_Frame o H s.readLineFeed .non Q
theorem ok_Scanner_read_line_feed {P : Program} {w : World} {K : PySem.W.Frag} {mg : Str → Option Value} {base : Heap} {a : Ads} (T : Txt w K mg a) (G_Scanner_add : FnOk P w K mg base CX0 1 a.Scanner_add a.d_Scanner_add ["self", "kind", "end"] (sp_Scanner_add K a)) :
    FnOk P w K mg base CX0 2 a.Scanner_read_line_feed a.d_Scanner_read_line_feed ["self"] (sp_Scanner_read_line_feed K a) := by
  refine T.F_Scanner_read_line_feed.ok sc_Scanner_read_line_feed (fun vs H Q E h => ?_) (fun cdv A outer s H vs Q E hr h => ?_)
  · obtain ⟨_, _, rfl, _⟩ := h; rfl
  · obtain ⟨o, s, rfl, r, ok, k⟩ := h
    refine ⟨_, (pss_cons (ps_if (pt_cmpR (op_neE (u00 hr)) (pe_fld (pv 0) rfl) (pe_lst pa_nil) (nomark _)) (pss_cons (ps_expr (pe_meth (pv 0) T.c_Scanner T.t_Scanner_add G_Scanner_add (hr.mono (by decide)) T.b_Scanner_add .nil pass0 (pa_cons pe_str (pa_cons (pe_op op_add (pe_fld (pv 0) rfl) pe_int) pa_nil))))
      (pss_one ps_retN)) pss_nil)
      (pss_cons (ps_expr (pe_meth (pv 0) T.c_Scanner T.t_Scanner_add G_Scanner_add (hr.mono (by decide)) T.b_Scanner_add .nil pass0 (pa_cons pe_str (pa_cons (pe_op op_add (pe_fld (pv 0) rfl) pe_int) pa_nil))))
      (pss_cons (ps_fld (pv 0) pe_bl rfl)
      (pss_one (ps_fld (pv 0) pe_bl rfl))))), ?_⟩
    have t := scT T
    unfold Sc.readLineFeed at k
    refine q_when (et_test (ev_frNe t r (ev_var rfl))) (fun hb H1 e1 => ?_) (fun hb H1 e1 => ?_)
    · have r1 := r.ex e1
      cases hf : s.fr with
      | nil => rw [hf] at hb; cases hb
      | cons f fs =>
        rw [hf] at k
        refine q_add (e := s.at_ + 1) r1 (Ok.bd ok) (ev_var rfl) ev_c (ev_op (ev_pos t r1 (ev_var rfl)) ev_c rv_I0) fun H2 k2 r2 => ?_
        exact k _ ((KO.of e1).trans k2) r2
    · have hf : s.fr = [] := by simpa using hb
      rw [hf] at k
      have r1 := r.ex e1
      refine q_add (e := s.at_ + 1) r1 (Ok.bd ok) (ev_var rfl) ev_c (ev_op (ev_pos t r1 (ev_var rfl)) ev_c rv_I0) fun H2 k2 r2 => ?_
      refine q_setX t r2 { s.add "NEWLINE" (s.at_ + 1) with fresh := true } t.fresh ev_c (ev_var rfl) (fun _ => rfl) ⟨rfl, rfl, rfl, rfl⟩ fun H3 k3 r3 => ?_
      refine s_setX t r3 { s.add "NEWLINE" (s.at_ + 1) with fresh := true, begun := false } t.begun ev_c (ev_var rfl) (fun _ => rfl) ⟨rfl, rfl, rfl, rfl⟩ fun H4 k4 r4 => ?_
      exact k _ ((((KO.of e1).trans k2).trans k3).trans k4) r4
def sp_Scanner_read_last_gap (_ : PySem.W.Frag) (a : Ads) : Sp := fun vs H Q _ => ∃ (o : Own) (s : Sc) (e : Nat), vs = [.ref o.x, .int e] ∧ Rp a.C_Scanner a.C_Frame o H s ∧ Ok s ∧ s.over = false ∧ s.at_ ≤ e ∧ e = s.text.length ∧ Does a.C_Scanner a.C_Frame o H (s.readLastGap e) (.bl false) Q
theorem ok_Scanner_read_last_gap {P : Program} {w : World} {K : PySem.W.Frag} {mg : Str → Option Value} {base : Heap} {a : Ads} (T : Txt w K mg a) (G_Scanner_add : FnOk P w K mg base CX0 1 a.Scanner_add a.d_Scanner_add ["self", "kind", "end"] (sp_Scanner_add K a)) (G_Scanner_finish : FnOk P w K mg base CX0 2 a.Scanner_finish a.d_Scanner_finish ["self"] (sp_Scanner_finish K a)) :
    FnOk P w K mg base CX0 3 a.Scanner_read_last_gap a.d_Scanner_read_last_gap ["self", "end"] (sp_Scanner_read_last_gap K a) := by
  refine T.F_Scanner_read_last_gap.ok sc_Scanner_read_last_gap (fun vs H Q E h => ?_) (fun cdv A outer s H vs Q E hr h => ?_)
  · obtain ⟨_, _, _, rfl, _⟩ := h; rfl
  · obtain ⟨o, s, e, rfl, r, ok, ho, he, hE, k⟩ := h
    refine ⟨_, (pss_cons (ps_if (pt_cmpR op_gt (pv 1) (pe_fld (pv 0) rfl) (nomark _)) (pss_cons (ps_fld (pv 0) (pv 1) rfl)
      (pss_one (ps_expr (pe_meth (pv 0) T.c_Scanner T.t_Scanner_add G_Scanner_add (hr.mono (by decide)) T.b_Scanner_add .nil pass0 (pa_cons pe_str (pa_cons (pv 1) pa_nil)))))) pss_nil)
      (pss_one (ps_ret (pe_meth0 (pv 0) T.c_Scanner T.t_Scanner_finish G_Scanner_finish (hr.mono (by decide)) T.b_Scanner_finish .nil pass0)))), ?_⟩
    have t := scT T
    unfold Sc.readLastGap at k
    refine q_ifM (b := decide (s.at_ < e)) (fun σ' H' => σ' = [some (.ref o.x), some (.int e)] ∧ KO o H H' ∧ Rp a.C_Scanner a.C_Frame o H' (if s.at_ < e then Sc.add { s with at_ := e } "NL" e else s)) (et_is (et_test (ev_op (ev_var rfl) (ev_pos t r (ev_var rfl)) rv_I0)) (decide_eq_decide.mpr (by omega))) (fun kk hb H1 e1 => ?_) (fun hb H1 e1 => ?_) ?_
    · have r1 := r.ex e1
      refine q_setX t r1 { s with at_ := e } t.at_ (ev_var rfl) (ev_var rfl) (fun _ => rfl) ⟨rfl, rfl, rfl, rfl⟩ fun H2 k2 r2 => ?_
      refine s_add r2 ⟨ok.hl, by have := ok.found_le; show s.found.length < 90000; omega⟩ (ev_var rfl) ev_c (ev_var rfl) fun H3 k3 r3 => kk _ _ ⟨rfl, ((KO.of e1).trans k2).trans k3, ?_⟩
      rw [if_pos (of_decide_eq_true hb)]; exact r3
    · refine ⟨rfl, KO.of e1, ?_⟩
      rw [if_neg (of_decide_eq_false hb)]; exact r.ex e1
    · rintro σ' H1 ⟨rfl, k1, r1⟩
      have ok1 : Ok (if s.at_ < e then Sc.add { s with at_ := e } "NL" e else s) ∧ (if s.at_ < e then Sc.add { s with at_ := e } "NL" e else s).over = false := by
        split
        · rename_i h3
          have g := ok.lift (s' := { s with at_ := e }) ho rfl rfl rfl rfl he (Nat.le_of_eq hE)
          refine ⟨⟨g.hl, g.ha, g.lv, g.lvn, g.fr, g.frn, Or.inl ?_⟩, ho⟩
          have := ok.cnt' ho
          show (s.found ++ [_]).length + s.lv.length ≤ 2 * e + 1
          rw [List.length_append, List.length_singleton]
          omega
        · exact ⟨ok, ho⟩
      exact r_meth r1 (ev_var rfl) (fun _ => rfl) ea_nil fun H2 e2 r2 => ⟨o, _, rfl, r2, ok1.1, ok1.2, k.go (k1.trans (KO.of e2))⟩
def sp_Scanner_read_empty_line (_ : PySem.W.Frag) (a : Ads) : Sp := fun vs H Q _ => ∃ (o : Own) (s : Sc) (n : Nat), vs = [.ref o.x, .int n] ∧ Rp a.C_Scanner a.C_Frame o H s ∧ Ok s ∧ n ≤ s.text.length ∧ Does a.C_Scanner a.C_Frame o H (s.readEmptyLine n).1 (.bl (s.readEmptyLine n).2) Q
theorem ok_Scanner_read_empty_line {P : Program} {w : World} {K : PySem.W.Frag} {mg : Str → Option Value} {base : Heap} {a : Ads} (T : Txt w K mg a) (G_Scanner_comment_end : FnOk P w K mg base CX0 1 a.Scanner_comment_end a.d_Scanner_comment_end ["self", "at"] (sp_Scanner_comment_end K a)) (G_Scanner_add : FnOk P w K mg base CX0 1 a.Scanner_add a.d_Scanner_add ["self", "kind", "end"] (sp_Scanner_add K a)) :
    FnOk P w K mg base CX0 2 a.Scanner_read_empty_line a.d_Scanner_read_empty_line ["self", "at"] (sp_Scanner_read_empty_line K a) := by
  refine T.F_Scanner_read_empty_line.ok sc_Scanner_read_empty_line (fun vs H Q E h => ?_) (fun cdv A outer s H vs Q E hr h => ?_)
  · obtain ⟨_, _, _, rfl, _⟩ := h; rfl
  · obtain ⟨o, s, n, rfl, r, ok, hn, k⟩ := h
    refine ⟨_, (pss_cons (ps_set (i := 2) sc_Scanner_read_empty_line.nd rfl (Or.inl rfl) (pe_meth (pv 0) T.c_Scanner T.t_Scanner_comment_end G_Scanner_comment_end (hr.mono (by decide)) T.b_Scanner_comment_end .nil pass0 (pa_cons (pv 1) pa_nil)))
      (pss_cons (ps_if (pt_cmpR op_eq (pv 2) (pe_gint T.m_MORE) (nomark _)) (pss_one (ps_ret pe_bl)) pss_nil)
      (pss_cons (ps_fld (pv 0) (pv 1) rfl)
      (pss_cons (ps_if (pt_cmpR op_gt (pv 2) (pv 1) (nomark _)) (pss_one (ps_expr (pe_meth (pv 0) T.c_Scanner T.t_Scanner_add G_Scanner_add (hr.mono (by decide)) T.b_Scanner_add .nil pass0 (pa_cons pe_str (pa_cons (pv 2) pa_nil))))) pss_nil)
      (pss_cons (ps_expr (pe_meth (pv 0) T.c_Scanner T.t_Scanner_add G_Scanner_add (hr.mono (by decide)) T.b_Scanner_add .nil pass0 (pa_cons pe_str (pa_cons (pe_callB (call_min2 rfl) (by rfl) T.n_min b_min (pa_cons (pe_op op_add (pv 2) pe_int) (pa_cons (pe_callB call_len_str (by rfl) T.n_len b_len (pa_cons (pe_fld (pv 0) rfl) pa_nil)) pa_nil))) pa_nil))))
      (pss_one (ps_ret pe_bl))))))), ?_⟩
    have t := scT T
    refine q_asg (ev_cend r ok.hl hn (ev_var rfl) (ev_var rfl)) fun H1 e1 => ?_
    have r1 := r.ex e1
    unfold Sc.readEmptyLine at k
    cases he : s.commentEnd n with
    | none =>
      rw [he] at k
      refine q_when (b := true) (et_test (ev_op (ev_var rfl) ev_c rv_eqI)) (fun _ H2 e2 => ?_) (fun z => nomatch z)
      exact s_ret ev_c fun H3 e3 => k _ (KO.of ((e1.trans e2).trans e3)) (r1.ex (e2.trans e3))
    | some e =>
      rw [he] at k
      dsimp only at k
      obtain ⟨h3, h4⟩ := commentEnd_le he hn
      refine q_when (b := false) (et_is (et_test (ev_op (ev_var rfl) ev_c rv_eqI)) (decide_eq_false (by omega))) (fun z => nomatch z) (fun _ H2 e2 => ?_)
      refine q_setX t (r1.ex e2) { s with at_ := n } t.at_ (ev_var rfl) (ev_var rfl) (fun _ => rfl) ⟨rfl, rfl, rfl, rfl⟩ fun H3 k3 r3 => ?_
      have k03 := (KO.of (o := o) (e1.trans e2)).trans k3
      have bd := Ok.bd ok
      have hfl := ok.found_le
      refine q_ifM (b := decide (n < e)) (fun σ' H' => σ' = [some (.ref o.x), some (.int n), some (.int e)] ∧ KO o H H' ∧ Rp a.C_Scanner a.C_Frame o H' (if n < e then Sc.add { s with at_ := n } "COMMENT" e else { s with at_ := n })) (et_is (et_test (ev_op (ev_var rfl) (ev_var rfl) rv_I0)) (decide_eq_decide.mpr (by omega))) (fun kk hb H4 e4 => ?_) (fun hb H4 e4 => ?_) ?_
      · refine s_add (r3.ex e4) bd (ev_var rfl) ev_c (ev_var rfl) fun H5 k5 r5 => kk _ _ ⟨rfl, (k03.trans (KO.of e4)).trans k5, ?_⟩
        rw [if_pos (of_decide_eq_true hb)]; exact r5
      · refine ⟨rfl, k03.trans (KO.of e4), ?_⟩
        rw [if_neg (of_decide_eq_false hb)]; exact r3.ex e4
      · rintro σ' H4 ⟨rfl, k4, r4⟩
        obtain ⟨s2, hs2⟩ : ∃ s2, s2 = (if n < e then Sc.add { s with at_ := n } "COMMENT" e else { s with at_ := n }) := ⟨_, rfl⟩
        rw [← hs2] at r4 k
        have f2 : s2.text = s.text ∧ s2.found.length ≤ s.found.length + 1 := by
          rw [hs2]
          split
          · exact ⟨rfl, by show (s.found ++ [_]).length ≤ _; simp⟩
          · exact ⟨rfl, by show s.found.length ≤ _; omega⟩
        have hl2 : s2.text.length ≤ 20000 := by rw [f2.1]; exact ok.hl
        refine q_add (e := min (e + 1) s.text.length) r4 ⟨hl2, by omega⟩ (ev_var rfl) ev_c (ev_is (ev_cb (ea_cons (ev_op (ev_var rfl) ev_c rv_I0) (ea_cons (ev_len t r4 (ev_var rfl) hl2) ea_nil)) (fun H5 _ Q q => ⟨_, _, rfl, q H5 (Ex.refl _)⟩)) ?_) fun H5 k5 r5 => ?_
        · rw [f2.1]
          congr 1
          split <;> omega
        · exact s_ret ev_c fun H6 e6 => k _ ((k4.trans k5).trans (KO.of e6)) (r5.ex e6)

def sp_Scanner_compare_indentation (_ : PySem.W.Frag) (a : Ads) : Sp := fun vs H Q _ => ∃ (o : Own) (s : Sc) (g : List Nat) (e : Nat), vs = [.ref o.x, .str (S g), .int e] ∧ Rp a.C_Scanner a.C_Frame o H s ∧ Ok s ∧ g.length ≤ 20000 ∧ Does a.C_Scanner a.C_Frame o H (s.compare g e).1 (.bl (s.compare g e).2) Q
/-- the loop over the levels: what stands still -/
theorem pop_found {w e : Nat} : ∀ (lv : List (Nat × Nat)) (s : Sc), (Sc.popLv w e lv s).text = s.text
  | [], s => rfl
  | p :: r, s => by
    rw [Sc.popLv]
    split
    · exact (pop_found r _).trans rfl
    · rfl
theorem ok_Scanner_compare_indentation {P : Program} {w : World} {K : PySem.W.Frag} {mg : Str → Option Value} {base : Heap} {a : Ads} (T : Txt w K mg a) (G_width_of : FnOk P w K mg base CX0 1 a.width_of a.d_width_of ["gap"] (sp_width_of K a)) (G_Scanner_fail : FnOk P w K mg base CX0 1 a.Scanner_fail a.d_Scanner_fail ["self", "kind", "at"] (sp_Scanner_fail K a)) (G_Scanner_add : FnOk P w K mg base CX0 1 a.Scanner_add a.d_Scanner_add ["self", "kind", "end"] (sp_Scanner_add K a)) :
    FnOk P w K mg base CX0 2 a.Scanner_compare_indentation a.d_Scanner_compare_indentation ["self", "gap", "end"] (sp_Scanner_compare_indentation K a) := by
  refine T.F_Scanner_compare_indentation.ok sc_Scanner_compare_indentation (fun vs H Q E h => ?_) (fun cdv A outer s H vs Q E hr h => ?_)
  · obtain ⟨_, _, _, _, rfl, _⟩ := h; rfl
  · obtain ⟨o, s, g, e, rfl, r, ok, hg, k⟩ := h
    refine ⟨_, (pss_cons (ps_par (i := 3) (j := 4) (by rfl) sc_Scanner_compare_indentation.nd rfl rfl (by decide) rfl rfl (pa_cons (pe_call G_width_of (hr.mono (by decide)) rfl T.m_width_of T.F_width_of.kp T.b_width_of .nil pass0 (pa_cons (pv 1) pa_nil)) (pa_cons (pe_callB call_len_str (by rfl) T.n_len b_len (pa_cons (pv 1) pa_nil)) pa_nil)) (by rfl))
      (pss_cons (ps_if (PW.pt (pw_and (pt_cmpR op_gt (pv 3) (pe_ix ix_tup (pe_ix ix_list (pe_fld (pv 0) rfl) (pe_un un_neg pe_int) (fun _ _ => rfl)) pe_int (fun _ _ => rfl)) (nomark _)) (pw_and1 (pt_cmpR op_gt (pv 4) (pe_ix ix_tup (pe_ix ix_list (pe_fld (pv 0) rfl) (pe_un un_neg pe_int) (fun _ _ => rfl)) pe_int (fun _ _ => rfl)) (nomark _))))) (pss_cons (ps_if (pt_cmpR op_gt (pe_callB call_len_seq (by rfl) T.n_len b_len (pa_cons (pe_fld (pv 0) rfl) pa_nil)) (pe_gint T.m_MOST_LEVELS) (nomark _)) (pss_one (ps_ret (pe_meth (pv 0) T.c_Scanner T.t_Scanner_fail G_Scanner_fail (hr.mono (by decide)) T.b_Scanner_fail .nil pass0 (pa_cons pe_str (pa_cons (pv 2) pa_nil))))) pss_nil)
      (pss_cons (ps_expr (pe_bm PySem.F.plainAttrs_list PySem.F.slot_list_append PySem.F.type_list_append mt_append (pe_fld (pv 0) rfl) (pa_cons (pe_tup (pa_cons (pv 3) (pa_cons (pv 4) pa_nil))) pa_nil)))
      (pss_one (ps_expr (pe_meth (pv 0) T.c_Scanner T.t_Scanner_add G_Scanner_add (hr.mono (by decide)) T.b_Scanner_add .nil pass0 (pa_cons pe_str (pa_cons (pv 2) pa_nil))))))) (pss_one (ps_if (pt_cmpR op_lt (pv 3) (pe_ix ix_tup (pe_ix ix_list (pe_fld (pv 0) rfl) (pe_un un_neg pe_int) (fun _ _ => rfl)) pe_int (fun _ _ => rfl)) (nomark _)) (pss_cons (ps_if (pt_cmpR op_notIn_seq (pv 3) (pe_lc (own := [("level", 5)]) (g := gName 5) rfl sc_Scanner_compare_indentation.nd (pi_list (pe_fld (pv 0) rfl)) (blkOk_by (N := N_Scanner_compare_indentation) (sc := defScope s_Scanner_compare_indentation) (by decide +kernel)) (fun _ _ _ _ _ => (pg_name (i := 5) sc_Scanner_compare_indentation.nd rfl (Or.inl rfl))) (fun _ _ _ _ _ => pts_nil) (fun _ _ _ _ _ => (pe_ix (r := rIxT K) ix_tup (pv 5) pe_int (fun _ _ => rfl)))) (by rfl)) (pss_one (ps_ret (pe_meth (pv 0) T.c_Scanner T.t_Scanner_fail G_Scanner_fail (hr.mono (by decide)) T.b_Scanner_fail .nil pass0 (pa_cons pe_str (pa_cons (pv 2) pa_nil))))) pss_nil)
      (pss_cons (ps_if (pt_cmpR (op_notInD (u65 hr)) (pe_tup (pa_cons (pv 3) (pa_cons (pv 4) pa_nil))) (pe_fld (pv 0) rfl) (by rfl)) (pss_one (ps_ret (pe_meth (pv 0) T.c_Scanner T.t_Scanner_fail G_Scanner_fail (hr.mono (by decide)) T.b_Scanner_fail .nil pass0 (pa_cons pe_str (pa_cons (pv 2) pa_nil))))) pss_nil)
      (pss_cons (ps_fld (pv 0) (pv 2) rfl)
      (pss_one (ps_while PassesOwn.never (pt_cmpR op_gt (pe_ix ix_tup (pe_ix ix_list (pe_fld (pv 0) rfl) (pe_un un_neg pe_int) (fun _ _ => rfl)) pe_int (fun _ _ => rfl)) (pv 3) (nomark _)) (pss_cons (ps_delL (pe_fld (pv 0) rfl) (pe_un un_neg pe_int))
      (pss_one (ps_expr (pe_meth (pv 0) T.c_Scanner T.t_Scanner_add G_Scanner_add (hr.mono (by decide)) T.b_Scanner_add .nil pass0 (pa_cons pe_str (pa_cons (pv 2) pa_nil))))))))))) (pss_one (ps_if (pt_cmpR (op_neD hr.units) (pe_tup (pa_cons (pv 3) (pa_cons (pv 4) pa_nil))) (pe_ix ix_list (pe_fld (pv 0) rfl) (pe_un un_neg pe_int) (fun _ _ => rfl)) (nomark _)) (pss_one (ps_ret (pe_meth (pv 0) T.c_Scanner T.t_Scanner_fail G_Scanner_fail (hr.mono (by decide)) T.b_Scanner_fail .nil pass0 (pa_cons pe_str (pa_cons (pv 2) pa_nil))))) pss_nil)))))
      (pss_cons (ps_fld (pv 0) (pv 2) rfl)
      (pss_cons (ps_fld (pv 0) pe_bl rfl)
      (pss_one (ps_ret pe_bl)))))), ?_⟩
    have t := scT T
    obtain ⟨p, ps, hlv⟩ : ∃ p ps, s.lv = p :: ps := by
      cases h : s.lv with
      | nil => exact absurd h ok.lv
      | cons p ps => exact ⟨p, ps, rfl⟩
    have bd := Ok.bd ok
    have hlvn := ok.lvn
    unfold Sc.compare at k
    dsimp only at k
    have htop : s.lv.headD (0, 0) = p := by rw [hlv]; rfl
    rw [htop] at k
    refine q_par (ev_call (ea_cons (ev_var rfl) ea_nil) (spv_width_of hg)) (ev_cb (ea_cons (ev_var rfl) ea_nil) (rc_lenS (by omega))) fun H1 e1 => ?_
    have r1 := r.ex e1
    generalize hw : Sc.widthOf g = w at *
    have tup : ∀ {H' : Hp}, EvU (tTup (tCons (tVar 3) (tCons (tVar 4) tNil))) [some (.ref o.x), some (.str (S g)), some (.int e), some (.int w), some (.int g.length), none] H' [.int (w : Int), .int (g.length : Int)] := fun {H'} => eu_tup (ea_cons (ev_var rfl) (ea_cons (ev_var rfl) ea_nil)) (by simp)
    refine q_if2M (b := decide (p.1 < w) && decide (p.2 < g.length)) (fun σ' H' => σ' = [some (.ref o.x), some (.str (S g)), some (.int e), some (.int w), some (.int g.length), none] ∧ ∃ s' : Sc, KO o H H' ∧ Rp a.C_Scanner a.C_Frame o H' s' ∧ Does a.C_Scanner a.C_Frame o H { s' with at_ := e, fresh := false } (.bl true) Q)
      (et_and (et_is (et_test (ev_op (ev_var rfl) (ev_lv0 t r1 (ev_var rfl) hlv) rv_I0)) (decide_eq_decide.mpr (by omega))) fun _ => et_is (et_test (ev_op (ev_var rfl) (ev_lv1 t r1 (ev_var rfl) hlv) rv_I0)) (decide_eq_decide.mpr (by omega))) (fun kk hb H2 e2 => ?_) (fun kk hb H2 e2 => ?_) ?_
    · have hc : p.1 < w ∧ p.2 < g.length := by simpa using hb
      rw [if_pos hc] at k
      have r2 := r1.ex e2
      refine q_when (b := decide (12 < s.lv.length)) (et_is (et_test (ev_op (ev_lvLen t r2 (ev_var rfl)) ev_c rv_I0)) (decide_eq_decide.mpr (by omega))) (fun hb2 H3 e3 => ?_) (fun hb2 H3 e3 => ?_)
      · rw [if_pos (of_decide_eq_true hb2)] at k
        exact r_fail (r2.ex e3) (ev_var rfl) ev_c (ev_var rfl) (KO.of ((e1.trans e2).trans e3)) k
      · rw [if_neg (of_decide_eq_false hb2)] at k
        refine q_appLv t (r2.ex e3) (by omega) (ev_var rfl) tup fun H4 k4 r4 => ?_
        refine s_add r4 bd (ev_var rfl) ev_c (ev_var rfl) fun H5 k5 r5 => kk _ _ ⟨rfl, _, ((KO.of ((e1.trans e2).trans e3)).trans k4).trans k5, r5, k⟩
    · have hc : ¬ (p.1 < w ∧ p.2 < g.length) := fun z => by
        have : (decide (p.1 < w) && decide (p.2 < g.length)) = true := by simpa using z
        rw [hb] at this; cases this
      rw [if_neg hc] at k
      have r2 := r1.ex e2
      refine s_if (b := decide (w < p.1)) (et_is (et_test (ev_op (ev_var rfl) (ev_lv0 t r2 (ev_var rfl) hlv) rv_I0)) (decide_eq_decide.mpr (by omega))) (fun hb2 H3 e3 => ?_) (fun hb2 H3 e3 => ?_)
      · rw [if_pos (of_decide_eq_true hb2)] at k
        have r3 := r2.ex e3
        refine q_when (et_test (ev_notW t r3 (ev_var rfl) (by omega) (ev_var rfl) (fun _ => rfl) (fun _ => rfl))) (fun hb3 H4 e4 => ?_) (fun hb3 H4 e4 => ?_)
        · have hn : w ∉ s.lv.map (·.1) := by simpa using hb3
          rw [if_pos hn] at k
          exact r_fail (r3.ex e4) (ev_var rfl) ev_c (ev_var rfl) (KO.of (((e1.trans e2).trans e3).trans e4)) k
        · have hn : ¬ w ∉ s.lv.map (·.1) := by simpa using hb3
          rw [if_neg hn] at k
          have r4 := r3.ex e4
          refine q_when (et_test (ev_notLv (p := (w, g.length)) t r4 (ev_var rfl) tup)) (fun hb5 H5 e5 => ?_) (fun hb5 H5 e5 => ?_)
          · have hn2 : (w, g.length) ∉ s.lv := by simpa using hb5
            rw [if_pos hn2] at k
            exact r_fail (r4.ex e5) (ev_var rfl) ev_c (ev_var rfl) (KO.of ((((e1.trans e2).trans e3).trans e4).trans e5)) k
          · have hn2 : ¬ (w, g.length) ∉ s.lv := by simpa using hb5
            rw [if_neg hn2] at k
            refine q_setX t (r4.ex e5) { s with at_ := e } t.at_ (ev_var rfl) (ev_var rfl) (fun _ => rfl) ⟨rfl, rfl, rfl, rfl⟩ fun H6 k6 r6 => ?_
            have hw' : ∃ q ∈ s.lv, q.1 = w := by
              obtain ⟨q, hq, hqw⟩ := List.mem_map.mp (Classical.byContradiction hn)
              exact ⟨q, hq, hqw⟩
            have k06 := (KO.of (o := o) ((((e1.trans e2).trans e3).trans e4).trans e5)).trans k6
            have hfl := ok.found_le
            refine s_while (fun m σ' H' => ∃ (lv : List (Nat × Nat)) (s' : Sc), σ' = [some (.ref o.x), some (.str (S g)), some (.int e), some (.int w), some (.int g.length), none] ∧ KO o H H' ∧ Rp a.C_Scanner a.C_Frame o H' s' ∧ s'.lv = lv ∧ m = lv.length ∧ (∃ q ∈ lv, q.1 = w) ∧ s'.text = s.text ∧ s'.found.length + lv.length ≤ s.found.length + s.lv.length ∧ Sc.popLv w e s.lv { s with at_ := e } = Sc.popLv w e lv s')
              s.lv.length ⟨s.lv, { s with at_ := e }, rfl, k06, r6, rfl, rfl, hw', rfl, Nat.le_refl _, rfl⟩ ?_
            rintro m σ' H7 ⟨lv, s', rfl, k7, r7, hlv', hm, hq, ht, hc', hp⟩
            cases lv with
            | nil => obtain ⟨q, hq, _⟩ := hq; cases hq
            | cons q qs =>
              refine ⟨decide (w < q.1), et_is (et_test (ev_op (ev_lv0 t r7 (ev_var rfl) hlv') (ev_var rfl) rv_I0)) (decide_eq_decide.mpr (by omega)), fun hb8 H8 e8 => ?_, fun hb8 H8 e8 => ?_⟩
              · have hlt := of_decide_eq_true hb8
                rw [Sc.popLv, if_pos hlt] at hp
                refine ⟨fun σ2 H2' => ∃ (lv : List (Nat × Nat)) (s' : Sc), σ2 = [some (.ref o.x), some (.str (S g)), some (.int e), some (.int w), some (.int g.length), none] ∧ KO o H H2' ∧ Rp a.C_Scanner a.C_Frame o H2' s' ∧ s'.lv = lv ∧ lv = qs ∧ (∃ q ∈ lv, q.1 = w) ∧ s'.text = s.text ∧ s'.found.length + lv.length ≤ s.found.length + s.lv.length ∧ Sc.popLv w e s.lv { s with at_ := e } = Sc.popLv w e lv s',
                  fun σ2 H2' ⟨lv, s', a1, a2, a3, a4, a5, a6, a7, a8, a9⟩ => ⟨qs.length, by rw [hm, List.length_cons]; exact Nat.lt_succ_self _, lv, s', a1, a2, a3, a4, by rw [a5], a6, a7, a8, a9⟩, ?_⟩
                refine q_delLv t (r7.ex e8) hlv' (ev_var rfl) (ev_un ev_c ru_neg) fun H9 k9 r9 => ?_
                rw [List.length_cons] at hc'
                refine s_add r9 ⟨by show s'.text.length ≤ _; rw [ht]; exact ok.hl, by show s'.found.length < _; omega⟩ (ev_var rfl) ev_c (ev_var rfl) fun H10 k10 r10 => ?_
                refine ⟨qs, _, rfl, ((k7.trans (KO.of e8)).trans k9).trans k10, r10, rfl, rfl, ?_, ht, ?_, hp⟩
                · obtain ⟨q', hq', hqw⟩ := hq
                  rcases List.mem_cons.mp hq' with z | z
                  · rw [z] at hqw; omega
                  · exact ⟨q', z, hqw⟩
                · show (s'.found ++ [_]).length + qs.length ≤ _
                  rw [List.length_append, List.length_singleton]; omega
              · rw [Sc.popLv, if_neg (of_decide_eq_false hb8)] at hp
                rw [hp] at k
                exact kk _ _ ⟨rfl, _, k7.trans (KO.of e8), r7.ex e8, by
                  have e' : ({ s' with lv := q :: qs } : Sc) = s' := by rw [← hlv']
                  rw [e'] at k
                  exact k⟩
      · rw [if_neg (of_decide_eq_false hb2)] at k
        have r3 := r2.ex e3
        refine s_when (et_test (ev_neTop (p := (w, g.length)) t r3 (ev_var rfl) hlv tup)) (fun hb3 H4 e4 => ?_) (fun hb3 H4 e4 => ?_)
        · have hn : (w, g.length) ≠ p := by simpa using hb3
          rw [if_pos hn] at k
          exact r_fail (r3.ex e4) (ev_var rfl) ev_c (ev_var rfl) (KO.of (((e1.trans e2).trans e3).trans e4)) k
        · have hn : ¬ (w, g.length) ≠ p := by simpa using hb3
          rw [if_neg hn] at k
          exact kk _ _ ⟨rfl, s, KO.of (((e1.trans e2).trans e3).trans e4), r3.ex e4, k⟩
    · rintro σ' H2 ⟨rfl, s', k2, r2, d⟩
      refine q_setX t r2 { s' with at_ := e } t.at_ (ev_var rfl) (ev_var rfl) (fun _ => rfl) ⟨rfl, rfl, rfl, rfl⟩ fun H3 k3 r3 => ?_
      refine q_setX t r3 { s' with at_ := e, fresh := false } t.fresh ev_c (ev_var rfl) (fun _ => rfl) ⟨rfl, rfl, rfl, rfl⟩ fun H4 k4 r4 => ?_
      exact s_ret ev_c fun H5 e5 => d _ (((k2.trans k3).trans k4).trans (KO.of e5)) (r4.ex e5)
def sp_Scanner_read_indentation (_ : PySem.W.Frag) (a : Ads) : Sp := fun vs H Q _ => ∃ (o : Own) (s : Sc), vs = [.ref o.x] ∧ Rp a.C_Scanner a.C_Frame o H s ∧ Ok s ∧ s.over = false ∧ Does a.C_Scanner a.C_Frame o H s.readIndentation.1 (.bl s.readIndentation.2) Q
theorem ok_Scanner_read_indentation {P : Program} {w : World} {K : PySem.W.Frag} {mg : Str → Option Value} {base : Heap} {a : Ads} (T : Txt w K mg a) (G_Scanner_read_last_gap : FnOk P w K mg base CX0 3 a.Scanner_read_last_gap a.d_Scanner_read_last_gap ["self", "end"] (sp_Scanner_read_last_gap K a)) (G_Scanner_read_empty_line : FnOk P w K mg base CX0 2 a.Scanner_read_empty_line a.d_Scanner_read_empty_line ["self", "at"] (sp_Scanner_read_empty_line K a)) (G_Scanner_compare_indentation : FnOk P w K mg base CX0 2 a.Scanner_compare_indentation a.d_Scanner_compare_indentation ["self", "gap", "end"] (sp_Scanner_compare_indentation K a)) :
    FnOk P w K mg base CX0 4 a.Scanner_read_indentation a.d_Scanner_read_indentation ["self"] (sp_Scanner_read_indentation K a) := by
  refine T.F_Scanner_read_indentation.ok sc_Scanner_read_indentation (fun vs H Q E h => ?_) (fun cdv A outer s H vs Q E hr h => ?_)
  · obtain ⟨_, _, rfl, _⟩ := h; rfl
  · obtain ⟨o, s, rfl, r, ok, ho, k⟩ := h
    refine ⟨_, (pss_cons (ps_set (i := 1) sc_Scanner_read_indentation.nd rfl (Or.inl rfl) (pe_fld (pv 0) rfl))
      (pss_cons (ps_while PassesOwn.never (PW.pt (pw_and (pt_cmpR op_lt (pv 1) (pe_callB call_len_str (by rfl) T.n_len b_len (pa_cons (pe_fld (pv 0) rfl) pa_nil)) (nomark _)) (pw_and1 (pt_cmpR op_in_sign (pe_ix ix_str (pe_fld (pv 0) rfl) (pv 1) (fun _ _ => rfl)) (pe_gstr T.m_GAPS) rfl)))) (pss_one (ps_aug (i := 1) sc_Scanner_read_indentation.nd rfl (Or.inl rfl) pe_int ip_add)))
      (pss_cons (ps_if (pt_cmpR op_eq (pv 1) (pe_callB call_len_str (by rfl) T.n_len b_len (pa_cons (pe_fld (pv 0) rfl) pa_nil)) (nomark _)) (pss_one (ps_ret (pe_and (pe_fld (pv 0) rfl) (pe_one (pe_meth (pv 0) T.c_Scanner T.t_Scanner_read_last_gap G_Scanner_read_last_gap (hr.mono (by decide)) T.b_Scanner_read_last_gap .nil pass0 (pa_cons (pv 1) pa_nil)))))) pss_nil)
      (pss_cons (ps_if (pt_cmpR op_in_sign (pe_ix ix_str (pe_fld (pv 0) rfl) (pv 1) (fun _ _ => rfl)) pe_str rfl) (pss_one (ps_ret (pe_meth (pv 0) T.c_Scanner T.t_Scanner_read_empty_line G_Scanner_read_empty_line (hr.mono (by decide)) T.b_Scanner_read_empty_line .nil pass0 (pa_cons (pv 1) pa_nil)))) pss_nil)
      (pss_one (ps_ret (pe_meth (pv 0) T.c_Scanner T.t_Scanner_compare_indentation G_Scanner_compare_indentation (hr.mono (by decide)) T.b_Scanner_compare_indentation .nil pass0 (pa_cons (pe_slice sl_str (pe_fld (pv 0) rfl) (po_some (pe_fld (pv 0) rfl)) (po_some (pv 1))) (pa_cons (pv 1) pa_nil))))))))), ?_⟩
    have t := scT T
    have hl := ok.hl
    have ha := ok.ha
    unfold Sc.readIndentation at k
    dsimp only at k
    have hge := runEnd_ge (p := isG) (l := s.text) (j := s.at_)
    have hle := runEnd_le (p := isG) ha
    refine q_asg (ev_pos t r (ev_var rfl)) fun H1 e1 => ?_
    refine q_while (fun m σ' H' => ∃ j : Nat, σ' = [some (.ref o.x), some (.int j)] ∧ Ex H H' ∧ j + m = s.text.length ∧ runEnd isG s.text s.at_ = runEnd isG s.text j) (s.text.length - s.at_) ⟨s.at_, rfl, e1, by omega, rfl⟩ ?_
    rintro m σ' H2 ⟨j, rfl, e2, hm, hj⟩
    have r2 := r.ex e2
    have lt := et_test (ev_op (σ := [some (.ref o.x), some (.int j)]) (H := H2) (ev_var (i := 1) rfl) (ev_len t r2 (ev_var (i := 0) rfl) hl) (rv_I0 (g := fun i j => .bl (decide (i < j)))))
    by_cases hlt : j < s.text.length ∧ ∃ c, s.text[j]? = some c ∧ isG c = true
    · obtain ⟨h1, c, hc, hgc⟩ := hlt
      refine ⟨true && true, et_and (et_is lt (decide_eq_true (by omega))) fun _ => et_is (et_test (ev_op (ev_sign t r2 (ev_var rfl) hl (ev_var rfl) hc) ev_c rv_inS)) hgc, fun _ H3 e3 => ?_, fun z => nomatch z⟩
      refine ⟨fun σ2 H2' => ∃ j' : Nat, σ2 = [some (.ref o.x), some (.int j')] ∧ Ex H H2' ∧ j' + (m - 1) = s.text.length ∧ runEnd isG s.text s.at_ = runEnd isG s.text j', fun σ2 H2' z => ⟨m - 1, by omega, z⟩, ?_⟩
      exact s_aug rfl ev_c fun H4 e4 => ⟨j + 1, rfl, (e2.trans e3).trans e4, by omega, hj.trans (runEnd_more hc hgc)⟩
    · have hjE : runEnd isG s.text s.at_ = j := by
        rw [hj]
        by_cases h1 : j < s.text.length
        · obtain ⟨c, hc⟩ : ∃ c, s.text[j]? = some c := ⟨_, List.getElem?_eq_getElem h1⟩
          refine runEnd_stop hc ?_
          cases z : isG c with
          | false => rfl
          | true => exact absurd ⟨h1, c, hc, z⟩ hlt
        · exact runEnd_end (by omega)
      rw [hjE] at k hge hle
      refine ⟨false, ?_, (fun z => nomatch z), fun _ H3 e3 => ?_⟩
      · by_cases h1 : j < s.text.length
        · obtain ⟨c, hc⟩ : ∃ c, s.text[j]? = some c := ⟨_, List.getElem?_eq_getElem h1⟩
          have hgc : isG c = false := by
            cases z : isG c with
            | false => rfl
            | true => exact absurd ⟨h1, c, hc, z⟩ hlt
          exact et_is (et_and (et_is lt (decide_eq_true (by omega))) fun _ => et_is (et_test (ev_op (ev_sign t r2 (ev_var rfl) hl (ev_var rfl) hc) ev_c rv_inS)) hgc) rfl
        · exact et_is (et_and (a := false) (b := true) (et_is lt (decide_eq_false (by omega))) fun z => nomatch z) rfl
      · have r3 := r2.ex e3
        have e03 := e2.trans e3
        cases hc : s.text[j]? with
        | none =>
          have hjl := List.getElem?_eq_none_iff.mp hc
          rw [hc] at k
          dsimp only at k
          refine q_when (b := true) (et_is (et_test (ev_op (ev_var rfl) (ev_len t r3 (ev_var rfl) hl) rv_eqI)) (decide_eq_true (by omega))) (fun _ H4 e4 => ?_) (fun z => nomatch z)
          have r4 := r3.ex e4
          refine s_retQ ((ev_fin t r4 (ev_var rfl)) H4 (Ex.refl _) _ fun H5 e5 => ⟨s.fin, rfl, ?_⟩)
          have r5 := r4.ex e5
          cases hf : s.fin with
          | false =>
            rw [hf, if_neg Bool.false_ne_true] at k
            exact k _ (KO.of ((e03.trans e4).trans e5)) r5
          | true =>
            rw [hf, if_pos rfl] at k
            rw [if_pos rfl]
            exact te_meth r5 (ev_var rfl) (fun _ => rfl) (ea_cons (ev_var rfl) ea_nil) fun H6 e6 r6 => ⟨o, s, j, rfl, r6, ok, ho, hge, by omega, k.go (KO.of (((e03.trans e4).trans e5).trans e6))⟩
        | some c =>
          have hjl := (List.getElem?_eq_some_iff.mp hc).1
          rw [hc] at k
          dsimp only at k
          refine q_when (b := false) (et_is (et_test (ev_op (ev_var rfl) (ev_len t r3 (ev_var rfl) hl) rv_eqI)) (decide_eq_false (by omega))) (fun z => nomatch z) (fun _ H4 e4 => ?_)
          have r4 := r3.ex e4
          refine q_when (b := decide (c = 35 ∨ c = 10)) (et_is (et_test (ev_op (ev_sign t r4 (ev_var rfl) hl (ev_var rfl) hc) ev_c rv_inS)) ?_) (fun hb H5 e5 => ?_) (fun hb H5 e5 => ?_)
          · refine decide_eq_decide.mpr ?_
            show c ∈ ([35, 10] : List Nat) ↔ _
            simp
          · rw [if_pos (of_decide_eq_true hb)] at k
            exact r_meth (r4.ex e5) (ev_var rfl) (fun _ => rfl) (ea_cons (ev_var rfl) ea_nil) fun H6 e6 r6 => ⟨o, s, j, rfl, r6, ok, hle, k.go (KO.of (((e03.trans e4).trans e5).trans e6))⟩
          · rw [if_neg (of_decide_eq_false hb)] at k
            have r5 := r4.ex e5
            refine r_meth r5 (ev_var rfl) (fun _ => rfl) (ea_cons (ev_slAB (K := K) (ev_text t r5 (ev_var rfl)) (ev_pos t r5 (ev_var rfl)) (ev_var rfl) (by omega)) (ea_cons (ev_var rfl) ea_nil)) fun H6 e6 r6 => ⟨o, s, s.part s.at_ j, j, rfl, r6, ok, ?_, k.go (KO.of (((e03.trans e4).trans e5).trans e6))⟩
            rw [part_len hge hle]; omega

/-- the brackets' table -/
theorem closer_at {w : World} {K : PySem.W.Frag} {mg : Str → Option Value} {a : Ads} (T : Txt w K mg a) {m : Mark} {c : Nat} (h : m.closer = some c) : KDct K w a.r_CLOSERS m.txt (.str (S [c])) := by
  have one : ∀ (k : Str) (z : Str), (k, PyData.str z) ∈ kv_CLOSERS → KDct K w a.r_CLOSERS k (.str z) := fun k z hk => by
    obtain ⟨v, h1, h2⟩ := T.q_CLOSERS k _ hk
    have h3 := h2 (fun _ => none)
    cases h3
    exact h1
  cases m <;> cases h
  · exact one "(" ")" (by simp [kv_CLOSERS])
  · exact one "[" "]" (by simp [kv_CLOSERS])
  · exact one "{" "}" (by simp [kv_CLOSERS])
  · exact one "field" "}" (by simp [kv_CLOSERS])
theorem closer_in {w : World} {K : PySem.W.Frag} {mg : Str → Option Value} {a : Ads} (T : Txt w K mg a) (m : Mark) : ∃ r, PySem.W.nsIn K a.r_CLOSERS m.txt = some r ∧ r.isSome = m.closer.isSome := by
  cases h : m.closer with
  | some c =>
    obtain ⟨es, n, u, _, _, e, _⟩ := closer_at T h
    exact ⟨_, e, rfl⟩
  | none =>
    refine ⟨none, T.x_CLOSERS m.txt ?_, rfl⟩
    cases m <;> first | (cases h; done) | exact List.mem_cons_self | exact List.mem_cons_of_mem _ List.mem_cons_self
def sp_Scanner_read_string (_ : PySem.W.Frag) (a : Ads) : Sp := fun vs H Q _ => ∃ (o : Own) (s : Sc) (n : Nat), vs = [.ref o.x, .int n] ∧ Rp a.C_Scanner a.C_Frame o H s ∧ Ok s ∧ n < s.text.length ∧ Does a.C_Scanner a.C_Frame o H (s.readString n).1 (.bl (s.readString n).2) Q
theorem ok_Scanner_read_string {P : Program} {w : World} {K : PySem.W.Frag} {mg : Str → Option Value} {base : Heap} {a : Ads} (T : Txt w K mg a) (G_quote_at : FnOk P w K mg base CX0 1 a.quote_at a.d_quote_at ["text", "at", "is_final"] (sp_quote_at K a)) (G_string_end : FnOk P w K mg base CX0 1 a.string_end a.d_string_end ["text", "at", "quote", "is_final"] (sp_string_end K a)) (G_Scanner_fail : FnOk P w K mg base CX0 1 a.Scanner_fail a.d_Scanner_fail ["self", "kind", "at"] (sp_Scanner_fail K a)) (G_Scanner_add_lexeme : FnOk P w K mg base CX0 2 a.Scanner_add_lexeme a.d_Scanner_add_lexeme ["self", "kind", "end"] (sp_Scanner_add_lexeme K a)) :
    FnOk P w K mg base CX0 3 a.Scanner_read_string a.d_Scanner_read_string ["self", "at"] (sp_Scanner_read_string K a) := by
  refine T.F_Scanner_read_string.ok sc_Scanner_read_string (fun vs H Q E h => ?_) (fun cdv A outer s H vs Q E hr h => ?_)
  · obtain ⟨_, _, _, rfl, _⟩ := h; rfl
  · obtain ⟨o, s, n, rfl, r, ok, hn, k⟩ := h
    refine ⟨_, (pss_cons (ps_set (i := 2) sc_Scanner_read_string.nd rfl (Or.inl rfl) (pe_call G_quote_at (hr.mono (by decide)) rfl T.m_quote_at T.F_quote_at.kp T.b_quote_at .nil pass0 (pa_cons (pe_fld (pv 0) rfl) (pa_cons (pv 1) (pa_cons (pe_fld (pv 0) rfl) pa_nil)))))
      (pss_cons (ps_if (pt_cmpR op_eq (pv 2) pe_str (nomark _)) (pss_one (ps_ret pe_bl)) pss_nil)
      (pss_cons (ps_set (i := 3) sc_Scanner_read_string.nd rfl (Or.inl rfl) (pe_call G_string_end (hr.mono (by decide)) rfl T.m_string_end T.F_string_end.kp T.b_string_end .nil pass0 (pa_cons (pe_fld (pv 0) rfl) (pa_cons (pe_op op_add (pv 1) (pe_callB call_len_str (by rfl) T.n_len b_len (pa_cons (pv 2) pa_nil))) (pa_cons (pv 2) (pa_cons (pe_fld (pv 0) rfl) pa_nil))))))
      (pss_cons (ps_if (pt_cmpR op_eq (pv 3) (pe_gint T.m_WRONG) (nomark _)) (pss_one (ps_ret (pe_meth (pv 0) T.c_Scanner T.t_Scanner_fail G_Scanner_fail (hr.mono (by decide)) T.b_Scanner_fail .nil pass0 (pa_cons (pe_ifExp (pt_cmpR op_eq (pe_callB call_len_str (by rfl) T.n_len b_len (pa_cons (pv 2) pa_nil)) pe_int (nomark _)) pe_str pe_str) (pa_cons (pe_fld (pv 0) rfl) pa_nil))))) pss_nil)
      (pss_cons (ps_if (pt_cmpR op_eq (pv 3) (pe_gint T.m_MORE) (nomark _)) (pss_one (ps_ret pe_bl)) pss_nil)
      (pss_cons (ps_expr (pe_meth (pv 0) T.c_Scanner T.t_Scanner_add_lexeme G_Scanner_add_lexeme (hr.mono (by decide)) T.b_Scanner_add_lexeme .nil pass0 (pa_cons pe_str (pa_cons (pv 3) pa_nil))))
      (pss_one (ps_ret pe_bl)))))))), ?_⟩
    have t := scT T
    have hl := ok.hl
    unfold Sc.readString at k
    dsimp only at k
    have hq3 := quoteAt_len s.text n s.fin
    refine q_asg (ev_call (ea_cons (ev_text t r (ev_var rfl)) (ea_cons (ev_var rfl) (ea_cons (ev_fin t r (ev_var rfl)) ea_nil))) (spv_quote_at (by omega) hn)) fun H1 e1 => ?_
    generalize quoteAt s.text n s.fin = q at *
    refine q_when (b := decide (q = [])) (et_test (ev_op (ev_var rfl) (ev_cS rfl) rv_eqS)) (fun hb H2 e2 => ?_) (fun hb H2 e2 => ?_)
    · rw [if_pos (of_decide_eq_true hb)] at k
      exact s_ret ev_c fun H3 e3 => k _ (KO.of ((e1.trans e2).trans e3)) (r.ex ((e1.trans e2).trans e3))
    · rw [if_neg (of_decide_eq_false hb)] at k
      have r2 := r.ex (e1.trans e2)
      have st : SpV (sp_string_end K a) [.str (S s.text), .int ((n : Int) + (q.length : Int)), .str (S q), .bl s.fin] H2 (.int (stringEnd s.text (n + q.length) q s.fin)) := by
        have := spv_string_end (K := K) (a := a) (H := H2) (l := s.text) (q := q) (n := n + q.length) (fin := s.fin) (by omega) hq3
        rw [Int.natCast_add] at this
        exact this
      refine q_asg (ev_call (ea_cons (ev_text t r2 (ev_var rfl)) (ea_cons (ev_op (ev_var rfl) (ev_cb (ea_cons (ev_var rfl) ea_nil) (rc_lenS (by omega))) rv_I0) (ea_cons (ev_var rfl) (ea_cons (ev_fin t r2 (ev_var rfl)) ea_nil)))) st) fun H3 e3 => ?_
      have hqe : q ≠ [] := of_decide_eq_false hb
      have hcase := stringEnd_le (l := s.text) (q := q) (fin := s.fin) hqe _ (n + q.length) rfl
      have hneg := stringEnd_neg (l := s.text) (q := q) (fin := s.fin) _ (n + q.length) rfl
      generalize stringEnd s.text (n + q.length) q s.fin = e at *
      have r3 := r2.ex e3
      refine q_when (b := decide (e = -2)) (et_test (ev_op (ev_var rfl) ev_c rv_eqI)) (fun hb2 H4 e4 => ?_) (fun hb2 H4 e4 => ?_)
      · rw [if_pos (of_decide_eq_true hb2)] at k
        have r4 := r3.ex e4
        refine r_fail r4 (ev_var rfl) (ev_if (b := decide (q.length = 1)) (v := .str (if q.length = 1 then "string" else "triple")) (et_is (et_test (ev_op (ev_cb (ea_cons (ev_var rfl) ea_nil) (rc_lenS (by omega))) ev_c rv_eqI)) (decide_eq_decide.mpr (by omega))) (fun z => ?_) (fun z => ?_)) (ev_pos t r4 (ev_var rfl)) (KO.of (((e1.trans e2).trans e3).trans e4)) k
        · rw [if_pos (of_decide_eq_true z)]; exact ev_c
        · rw [if_neg (of_decide_eq_false z)]; exact ev_c
      · rw [if_neg (of_decide_eq_false hb2)] at k
        refine q_when (b := decide (e = -1)) (et_test (ev_op (ev_var rfl) ev_c rv_eqI)) (fun hb3 H5 e5 => ?_) (fun hb3 H5 e5 => ?_)
        · rw [if_pos (of_decide_eq_true hb3)] at k
          exact s_ret ev_c fun H6 e6 => k _ (KO.of (((((e1.trans e2).trans e3).trans e4).trans e5).trans e6)) (r3.ex ((e4.trans e5).trans e6))
        · rw [if_neg (of_decide_eq_false hb3)] at k
          have he : (e.toNat : Int) = e := by
            refine Int.toNat_of_nonneg ?_
            rcases hcase with z | ⟨e', rfl, _, _⟩
            · rcases hneg z with y | y
              · exact absurd y (of_decide_eq_false hb2)
              · exact absurd y (of_decide_eq_false hb3)
            · omega
          rw [← he]
          refine q_lex (r3.ex (e4.trans e5)) (Ok.bd ok) (ev_var rfl) ev_c (ev_var rfl) fun H6 k6 r6 => ?_
          rw [← he] at k
          exact s_ret ev_c fun H7 e7 => k _ (((KO.of ((((e1.trans e2).trans e3).trans e4).trans e5)).trans k6).trans (KO.of e7)) (r6.ex e7)
def sp_Scanner_begin_string (_ : PySem.W.Frag) (a : Ads) : Sp := fun vs H Q _ => ∃ (o : Own) (s : Sc) (n : Nat), vs = [.ref o.x, .int n] ∧ Rp a.C_Scanner a.C_Frame o H s ∧ Ok s ∧ n < s.text.length ∧ Does a.C_Scanner a.C_Frame o H (s.beginString n).1 (.bl (s.beginString n).2) Q
theorem ok_Scanner_begin_string {P : Program} {w : World} {K : PySem.W.Frag} {mg : Str → Option Value} {base : Heap} {a : Ads} (T : Txt w K mg a) (G_Scanner_fail : FnOk P w K mg base CX0 1 a.Scanner_fail a.d_Scanner_fail ["self", "kind", "at"] (sp_Scanner_fail K a)) (G_quote_at : FnOk P w K mg base CX0 1 a.quote_at a.d_quote_at ["text", "at", "is_final"] (sp_quote_at K a)) (G_Frame___init__ : FnOk P w K mg base CX0 1 a.Frame___init__ a.d_Frame___init__ ["self", "mark", "at", "quote"] (sp_Frame___init__ K a)) (G_Scanner_add_lexeme : FnOk P w K mg base CX0 2 a.Scanner_add_lexeme a.d_Scanner_add_lexeme ["self", "kind", "end"] (sp_Scanner_add_lexeme K a)) :
    FnOk P w K mg base CX0 3 a.Scanner_begin_string a.d_Scanner_begin_string ["self", "at"] (sp_Scanner_begin_string K a) := by
  refine T.F_Scanner_begin_string.ok sc_Scanner_begin_string (fun vs H Q E h => ?_) (fun cdv A outer s H vs Q E hr h => ?_)
  · obtain ⟨_, _, _, rfl, _⟩ := h; rfl
  · obtain ⟨o, s, n, rfl, r, ok, hn, k⟩ := h
    refine ⟨_, (pss_cons (ps_if (pt_cmpR op_eq (pe_callB call_len_seq (by rfl) T.n_len b_len (pa_cons (pe_lc (own := [("frame", 3)]) (g := gName 3) rfl sc_Scanner_begin_string.nd (pi_list (pe_fld (pv 0) rfl)) (blkOk_by (N := N_Scanner_begin_string) (sc := defScope s_Scanner_begin_string) (by decide +kernel)) (fun _ _ _ _ _ => (pg_name (i := 3) sc_Scanner_begin_string.nd rfl (Or.inl rfl))) (fun _ _ _ _ _ => (pts_one (pt_cmpR op_eq (pe_fldK (K := K) rfl (pv 3) rfl) pe_str (nomark _)))) (fun _ _ _ _ _ => (pv 3))) pa_nil)) (pe_gint T.m_MOST_STRINGS) (nomark _)) (pss_one (ps_ret (pe_meth (pv 0) T.c_Scanner T.t_Scanner_fail G_Scanner_fail (hr.mono (by decide)) T.b_Scanner_fail .nil pass0 (pa_cons pe_str (pa_cons (pe_fld (pv 0) rfl) pa_nil))))) pss_nil)
      (pss_cons (ps_set (i := 2) sc_Scanner_begin_string.nd rfl (Or.inl rfl) (pe_call G_quote_at (hr.mono (by decide)) rfl T.m_quote_at T.F_quote_at.kp T.b_quote_at .nil pass0 (pa_cons (pe_fld (pv 0) rfl) (pa_cons (pv 1) (pa_cons (pe_fld (pv 0) rfl) pa_nil)))))
      (pss_cons (ps_if (pt_cmpR op_eq (pv 2) pe_str (nomark _)) (pss_one (ps_ret pe_bl)) pss_nil)
      (pss_cons (ps_expr (pe_bm PySem.F.plainAttrs_list PySem.F.slot_list_append PySem.F.type_list_append mt_append (pe_fld (pv 0) rfl) (pa_cons (pe_make T.M_Frame G_Frame___init__ (hr.mono (by decide)) rfl T.m_Frame T.b_Frame___init__ .nil pass0 (pa_cons pe_str (pa_cons (pe_fld (pv 0) rfl) (pa_cons (pv 2) pa_nil)))) pa_nil)))
      (pss_cons (ps_expr (pe_meth (pv 0) T.c_Scanner T.t_Scanner_add_lexeme G_Scanner_add_lexeme (hr.mono (by decide)) T.b_Scanner_add_lexeme .nil pass0 (pa_cons pe_str (pa_cons (pe_op op_add (pv 1) (pe_callB call_len_str (by rfl) T.n_len b_len (pa_cons (pv 2) pa_nil))) pa_nil))))
      (pss_one (ps_ret pe_bl))))))), ?_⟩
    have t := scT T
    have hl := ok.hl
    have hfn : s.fr.length ≤ 20000 := by have := ok.frn; have := ok.ha; omega
    unfold Sc.beginString at k
    dsimp only at k
    refine q_when (b := decide ((s.fr.filter fun f => f.mark.isStr).length = 4)) (et_is (et_test (ev_op (ev_countF (K := K) (g := Mark.isStr) (f := fun v => decide (V.str (mkOf H v) = .str "string")) t r (ev_var rfl) (by omega) (fun v f hv => by rw [mkOf_fr hv]; exact mark_S _) (fun _ => rfl) (fun _ => rfl) (fun v f hv H1 e1 => et_is (et_test (ev_op (ev_mark t ((Ke.of e1).fr hv) (ev_var rfl)) ev_c (rv_eq rfl))) (mark_S _))) ev_c rv_eqI)) (decide_eq_decide.mpr (by omega))) (fun hb H1 e1 => ?_) (fun hb H1 e1 => ?_)
    · rw [if_pos (of_decide_eq_true hb)] at k
      have r1 := r.ex e1
      exact r_fail r1 (ev_var rfl) ev_c (ev_pos t r1 (ev_var rfl)) (KO.of e1) k
    · rw [if_neg (of_decide_eq_false hb)] at k
      have r1 := r.ex e1
      have hq3 := quoteAt_len s.text n s.fin
      refine q_asg (ev_call (ea_cons (ev_text t r1 (ev_var rfl)) (ea_cons (ev_var rfl) (ea_cons (ev_fin t r1 (ev_var rfl)) ea_nil))) (spv_quote_at (by omega) hn)) fun H2 e2 => ?_
      generalize quoteAt s.text n s.fin = q at *
      have r2 := r1.ex e2
      refine q_when (b := decide (q = [])) (et_test (ev_op (ev_var rfl) (ev_cS rfl) rv_eqS)) (fun hb2 H3 e3 => ?_) (fun hb2 H3 e3 => ?_)
      · rw [if_pos (of_decide_eq_true hb2)] at k
        exact s_ret ev_c fun H4 e4 => k _ (KO.of (((e1.trans e2).trans e3).trans e4)) (r2.ex (e3.trans e4))
      · rw [if_neg (of_decide_eq_false hb2)] at k
        have r3 := r2.ex e3
        refine q_appFr (f := ⟨.str, s.at_, q⟩) t r3 (by omega) (ev_var rfl) (frame_made ev_c (ev_pos t r3 (ev_var rfl)) (ev_var rfl)) fun H4 k4 r4 => ?_
        refine q_lex (e := n + q.length) r4 ⟨ok.hl, (Ok.bd ok).2⟩ (ev_var rfl) ev_c (ev_op (ev_var rfl) (ev_cb (ea_cons (ev_var rfl) ea_nil) (rc_lenS (by omega))) rv_I0) fun H5 k5 r5 => ?_
        exact s_ret ev_c fun H6 e6 => k _ ((((KO.of ((e1.trans e2).trans e3)).trans k4).trans k5).trans (KO.of e6)) (r5.ex e6)
theorem prefixes_P : tv_PLAIN_PREFIXES = Sc.pfP.map fun z => V.str (S z) := by decide +kernel
theorem prefixes_F : tv_FORMATTED_PREFIXES = Sc.pfF.map fun z => V.str (S z) := by decide +kernel
theorem in_texts (x : List Nat) (l : List (List Nat)) : inV (.str (S x)) (l.map fun z => V.str (S z)) = decide (x ∈ l) := by
  unfold inV
  induction l with
  | nil => rfl
  | cons y l ih =>
    rw [List.map_cons, List.any_cons, ih]
    have e : eqV (V.str (S y)) (V.str (S x)) = decide (y = x) := by
      show decide (S y = S x) = _
      exact decide_eq_decide.mpr ⟨S_inj, fun h => by rw [h]⟩
    rw [e]
    by_cases h : y = x
    · subst h; simp
    · have h2 : ¬ x = y := fun z => h z.symm
      rw [decide_eq_false h, Bool.false_or]
      exact decide_eq_decide.mpr (by simp [h2])
theorem flat_P : tv_PLAIN_PREFIXES.all flatV = true := by decide +kernel
theorem flat_F : tv_FORMATTED_PREFIXES.all flatV = true := by decide +kernel
theorem word_asc : ∀ c, isW c = true → c < 128 := by
  intro c h
  rcases Bool.or_eq_true_iff.mp h with z | z
  · exact of_decide_eq_true (List.all_eq_true.mp (show kLET.all (fun c => decide (c < 128)) = true by decide +kernel) c (of_decide_eq_true z))
  · exact of_decide_eq_true (List.all_eq_true.mp (show kDIG.all (fun c => decide (c < 128)) = true by decide +kernel) c (of_decide_eq_true z))
def sp_Scanner_read_word (_ : PySem.W.Frag) (a : Ads) : Sp := fun vs H Q _ => ∃ (o : Own) (s : Sc), vs = [.ref o.x] ∧ Rp a.C_Scanner a.C_Frame o H s ∧ Ok s ∧ Does a.C_Scanner a.C_Frame o H s.readWord.1 (.bl s.readWord.2) Q
theorem ok_Scanner_read_word {P : Program} {w : World} {K : PySem.W.Frag} {mg : Str → Option Value} {base : Heap} {a : Ads} (T : Txt w K mg a) (G_name_end : FnOk P w K mg base CX0 2 a.name_end a.d_name_end ["text", "at"] (sp_name_end K a)) (G_Scanner_read_string : FnOk P w K mg base CX0 3 a.Scanner_read_string a.d_Scanner_read_string ["self", "at"] (sp_Scanner_read_string K a)) (G_Scanner_begin_string : FnOk P w K mg base CX0 3 a.Scanner_begin_string a.d_Scanner_begin_string ["self", "at"] (sp_Scanner_begin_string K a)) (G_Scanner_add_lexeme : FnOk P w K mg base CX0 2 a.Scanner_add_lexeme a.d_Scanner_add_lexeme ["self", "kind", "end"] (sp_Scanner_add_lexeme K a)) :
    FnOk P w K mg base CX0 4 a.Scanner_read_word a.d_Scanner_read_word ["self"] (sp_Scanner_read_word K a) := by
  refine T.F_Scanner_read_word.ok sc_Scanner_read_word (fun vs H Q E h => ?_) (fun cdv A outer s H vs Q E hr h => ?_)
  · obtain ⟨_, _, rfl, _⟩ := h; rfl
  · obtain ⟨o, s, rfl, r, ok, k⟩ := h
    refine ⟨_, (pss_cons (ps_set (i := 1) sc_Scanner_read_word.nd rfl (Or.inl rfl) (pe_call G_name_end (hr.mono (by decide)) rfl T.m_name_end T.F_name_end.kp T.b_name_end .nil pass0 (pa_cons (pe_fld (pv 0) rfl) (pa_cons (pe_fld (pv 0) rfl) pa_nil))))
      (pss_cons (ps_if (PW.pt (pw_and (pt_cmpR op_eq (pv 1) (pe_callB call_len_str (by rfl) T.n_len b_len (pa_cons (pe_fld (pv 0) rfl) pa_nil)) (nomark _)) (pw_and1 (pt_not (pt_val (pe_fld (pv 0) rfl)))))) (pss_one (ps_ret pe_bl)) pss_nil)
      (pss_cons (ps_set (i := 2) sc_Scanner_read_word.nd rfl (Or.inl rfl) (pe_lower (pe_slice sl_str (pe_fld (pv 0) rfl) (po_some (pe_fld (pv 0) rfl)) (po_some (pv 1)))))
      (pss_cons (ps_if (PW.pt (pw_and (pt_cmpR op_lt (pv 1) (pe_callB call_len_str (by rfl) T.n_len b_len (pa_cons (pe_fld (pv 0) rfl) pa_nil)) (nomark _)) (pw_and1 (pt_cmpR op_in_sign (pe_ix ix_str (pe_fld (pv 0) rfl) (pv 1) (fun _ _ => rfl)) (pe_gstr T.m_QUOTES) rfl)))) (pss_cons (ps_if (pt_cmpR op_in_seq (pv 2) (pe_gref T.m_PLAIN_PREFIXES) (by rfl)) (pss_one (ps_ret (pe_meth (pv 0) T.c_Scanner T.t_Scanner_read_string G_Scanner_read_string (hr.mono (by decide)) T.b_Scanner_read_string .nil pass0 (pa_cons (pv 1) pa_nil)))) pss_nil)
      (pss_one (ps_if (pt_cmpR op_in_seq (pv 2) (pe_gref T.m_FORMATTED_PREFIXES) (by rfl)) (pss_one (ps_ret (pe_meth (pv 0) T.c_Scanner T.t_Scanner_begin_string G_Scanner_begin_string (hr.mono (by decide)) T.b_Scanner_begin_string .nil pass0 (pa_cons (pv 1) pa_nil)))) pss_nil))) pss_nil)
      (pss_cons (ps_expr (pe_meth (pv 0) T.c_Scanner T.t_Scanner_add_lexeme G_Scanner_add_lexeme (hr.mono (by decide)) T.b_Scanner_add_lexeme .nil pass0 (pa_cons pe_str (pa_cons (pv 1) pa_nil))))
      (pss_one (ps_ret pe_bl))))))), ?_⟩
    have t := scT T
    have hl := ok.hl
    have ha := ok.ha
    have hge := runEnd_ge (p := isW) (l := s.text) (j := s.at_)
    have hle := runEnd_le (p := isW) ha
    have hasc : ∀ c ∈ s.part s.at_ (nameEnd s.text s.at_), c < 128 := fun c hc => by
      obtain ⟨i, hi1, hi2⟩ := take_at hc
      rw [List.getElem?_drop] at hi2
      obtain ⟨d, hd, hw⟩ := runEnd_at (p := isW) (l := s.text) (j := s.at_) (i := s.at_ + i) (by omega) (by show s.at_ + i < nameEnd s.text s.at_; omega)
      rw [hi2] at hd
      cases hd
      exact word_asc _ hw
    have hpl : (s.part s.at_ (nameEnd s.text s.at_)).length ≤ 20000 := by rw [part_len hge hle]; show runEnd isW s.text s.at_ - _ ≤ _; omega
    unfold Sc.readWord at k
    dsimp only at k
    refine q_asg (ev_call (ea_cons (ev_text t r (ev_var rfl)) (ea_cons (ev_pos t r (ev_var rfl)) ea_nil)) (spv_name_end (by omega) ha)) fun H1 e1 => ?_
    have hle' : nameEnd s.text s.at_ ≤ s.text.length := hle
    generalize nameEnd s.text s.at_ = e at *
    have r1 := r.ex e1
    refine q_when (b := decide (e = s.text.length) && !s.fin) (et_and (et_is (et_test (ev_op (ev_var rfl) (ev_len t r1 (ev_var rfl) hl) rv_eqI)) (decide_eq_decide.mpr (by omega))) fun _ => et_not (et_B (ev_fin t r1 (ev_var rfl)))) (fun hb H2 e2 => ?_) (fun hb H2 e2 => ?_)
    · have hc : e = s.text.length ∧ s.fin = false := by simpa using hb
      rw [if_pos hc] at k
      exact s_ret ev_c fun H3 e3 => k _ (KO.of ((e1.trans e2).trans e3)) (r1.ex (e2.trans e3))
    · have hc : ¬ (e = s.text.length ∧ s.fin = false) := fun z => by
        have : (decide (e = s.text.length) && !s.fin) = true := by simpa using z
        rw [hb] at this; cases this
      rw [if_neg hc] at k
      have r2 := r1.ex e2
      have e02 := e1.trans e2
      refine q_asg (ev_lower (ev_slAB (K := K) (ev_text t r2 (ev_var rfl)) (ev_pos t r2 (ev_var rfl)) (ev_var rfl) (by omega)) hasc (by show (s.part s.at_ e).length ≤ _; omega)) fun H3 e3 => ?_
      have r3 := r2.ex e3
      have e03 := e02.trans e3
      have named : ∀ H4, Ex H3 H4 → Does a.C_Scanner a.C_Frame o H (s.lex "NAME" e) (.bl true) Q → tSeq (tDrop (tMeth a.C_Scanner "add_lexeme" (sp_Scanner_add_lexeme K a) [] E0 (tVar 0) (tCons (tC (.str "NAME")) (tCons (tVar 1) tNil)))) (tRet (tC (.bl true))) { nx := fun _ H' => Q .non H', rt := Q } [some (.ref o.x), some (.int e), some (.str (S ((s.part s.at_ e).map lo1)))] H4 := fun H4 e4 d => by
        refine q_lex (r3.ex e4) (Ok.bd ok) (ev_var rfl) ev_c (ev_var rfl) fun H5 k5 r5 => ?_
        exact s_ret ev_c fun H6 e6 => d _ (((KO.of (e03.trans e4)).trans k5).trans (KO.of e6)) (r5.ex e6)
      cases hce : s.text[e]? with
      | none =>
        have hge2 := List.getElem?_eq_none_iff.mp hce
        rw [hce] at k
        refine q_when (b := false && true) (et_and (et_is (et_test (ev_op (ev_var rfl) (ev_len t r3 (ev_var rfl) hl) rv_I0)) (decide_eq_false (by omega))) fun z => nomatch z) (fun z => nomatch z) (fun _ H4 e4 => named H4 e4 k)
      | some c =>
        have hlt := (List.getElem?_eq_some_iff.mp hce).1
        rw [hce] at k
        dsimp only at k
        refine q_when (b := true && isQ c) (et_and (et_is (et_test (ev_op (ev_var rfl) (ev_len t r3 (ev_var rfl) hl) rv_I0)) (decide_eq_true (by omega))) fun _ => et_test (ev_op (ev_sign t r3 (ev_var rfl) hl (ev_var rfl) hce) ev_c rv_inS)) (fun hb2 H4 e4 => ?_) (fun hb2 H4 e4 => ?_)
        · have hq : isQ c = true := hb2
          refine q_when (b := decide ((s.part s.at_ e).map lo1 ∈ Sc.pfP)) (et_is (et_test (ev_op (ev_var rfl) ev_c (rv_isT (T.q_PLAIN_PREFIXES _) rfl flat_P))) (by rw [prefixes_P]; exact in_texts _ _)) (fun hb3 H5 e5 => ?_) (fun hb3 H5 e5 => ?_)
          · rw [if_pos ⟨hq, of_decide_eq_true hb3⟩] at k
            exact r_meth (r3.ex (e4.trans e5)) (ev_var rfl) (fun _ => rfl) (ea_cons (ev_var rfl) ea_nil) fun H6 e6 r6 => ⟨o, s, e, rfl, r6, ok, hlt, k.go (KO.of (((e03.trans e4).trans e5).trans e6))⟩
          · rw [if_neg (fun z => of_decide_eq_false hb3 z.2)] at k
            refine s_when (b := decide ((s.part s.at_ e).map lo1 ∈ Sc.pfF)) (et_is (et_test (ev_op (ev_var rfl) ev_c (rv_isT (T.q_FORMATTED_PREFIXES _) rfl flat_F))) (by rw [prefixes_F]; exact in_texts _ _)) (fun hb6 H6 e6 => ?_) (fun hb6 H6 e6 => ?_)
            · rw [if_pos ⟨hq, of_decide_eq_true hb6⟩] at k
              exact r_meth (r3.ex ((e4.trans e5).trans e6)) (ev_var rfl) (fun _ => rfl) (ea_cons (ev_var rfl) ea_nil) fun H7 e7 r7 => ⟨o, s, e, rfl, r7, ok, hlt, k.go (KO.of ((((e03.trans e4).trans e5).trans e6).trans e7))⟩
            · rw [if_neg (fun z => of_decide_eq_false hb6 z.2)] at k
              exact named H6 ((e4.trans e5).trans e6) k
        · have hq : ¬ isQ c = true := by rw [show isQ c = false from hb2]; exact Bool.false_ne_true
          rw [if_neg (fun z => hq z.1), if_neg (fun z => hq z.1)] at k
          exact named H4 e4 k

theorem mark_C (m : Mark) : (!decide (m.txt = "string") && !decide (m.txt = "format")) = m.closer.isSome := by cases m <;> decide +kernel
theorem ev_inC {w : World} {K : PySem.W.Frag} {mg : Str → Option Value} {a : Ads} (T : Txt w K mg a) {σ : L2.St} {H : Hp} {te : TE} {m : Mark} (h : Ev te σ H (.str m.txt)) : Ev (tOp (rInKD K w) te (tC (.ref a.r_CLOSERS))) σ H (.bl m.closer.isSome) := by
  obtain ⟨r, h1, h2⟩ := closer_in T m
  rw [← h2]
  exact ev_op h ev_c fun H1 _ Q q => ⟨m.txt, a.r_CLOSERS, r, rfl, rfl, T.k_CLOSERS, h1, q H1 (Ex.refl _)⟩
def sp_Scanner_open_bracket (_ : PySem.W.Frag) (a : Ads) : Sp := fun vs H Q _ => ∃ (o : Own) (s : Sc) (m : Mark) (q : List Nat), vs = [.ref o.x, .str m.txt, .str (S q)] ∧ Rp a.C_Scanner a.C_Frame o H s ∧ Ok s ∧ Does a.C_Scanner a.C_Frame o H (s.openBracket m q).1 (.bl (s.openBracket m q).2) Q
theorem ok_Scanner_open_bracket {P : Program} {w : World} {K : PySem.W.Frag} {mg : Str → Option Value} {base : Heap} {a : Ads} (T : Txt w K mg a) (G_Scanner_fail : FnOk P w K mg base CX0 1 a.Scanner_fail a.d_Scanner_fail ["self", "kind", "at"] (sp_Scanner_fail K a)) (G_Frame___init__ : FnOk P w K mg base CX0 1 a.Frame___init__ a.d_Frame___init__ ["self", "mark", "at", "quote"] (sp_Frame___init__ K a)) (G_Scanner_add_lexeme : FnOk P w K mg base CX0 2 a.Scanner_add_lexeme a.d_Scanner_add_lexeme ["self", "kind", "end"] (sp_Scanner_add_lexeme K a)) :
    FnOk P w K mg base CX0 3 a.Scanner_open_bracket a.d_Scanner_open_bracket ["self", "mark", "quote"] (sp_Scanner_open_bracket K a) := by
  refine T.F_Scanner_open_bracket.ok sc_Scanner_open_bracket (fun vs H Q E h => ?_) (fun cdv A outer s H vs Q E hr h => ?_)
  · obtain ⟨_, _, _, _, rfl, _⟩ := h; rfl
  · obtain ⟨o, s, m, q, rfl, r, ok, k⟩ := h
    refine ⟨_, (pss_cons (ps_if (pt_cmpR op_eq (pe_callB call_len_seq (by rfl) T.n_len b_len (pa_cons (pe_lc (own := [("frame", 3)]) (g := gName 3) rfl sc_Scanner_open_bracket.nd (pi_list (pe_fld (pv 0) rfl)) (blkOk_by (N := N_Scanner_open_bracket) (sc := defScope s_Scanner_open_bracket) (by decide +kernel)) (fun _ _ _ _ _ => (pg_name (i := 3) sc_Scanner_open_bracket.nd rfl (Or.inl rfl))) (fun _ _ _ _ _ => (pts_one (pt_cmpR (r := rInKD K w) op_inKD (pe_fldK (K := K) rfl (pv 3) rfl) (pe_gref T.m_CLOSERS) rfl))) (fun _ _ _ _ _ => (pv 3))) pa_nil)) (pe_gint T.m_MOST_BRACKETS) (nomark _)) (pss_one (ps_ret (pe_meth (pv 0) T.c_Scanner T.t_Scanner_fail G_Scanner_fail (hr.mono (by decide)) T.b_Scanner_fail .nil pass0 (pa_cons pe_str (pa_cons (pe_fld (pv 0) rfl) pa_nil))))) pss_nil)
      (pss_cons (ps_expr (pe_bm PySem.F.plainAttrs_list PySem.F.slot_list_append PySem.F.type_list_append mt_append (pe_fld (pv 0) rfl) (pa_cons (pe_make T.M_Frame G_Frame___init__ (hr.mono (by decide)) rfl T.m_Frame T.b_Frame___init__ .nil pass0 (pa_cons (pv 1) (pa_cons (pe_fld (pv 0) rfl) (pa_cons (pv 2) pa_nil)))) pa_nil)))
      (pss_cons (ps_expr (pe_meth (pv 0) T.c_Scanner T.t_Scanner_add_lexeme G_Scanner_add_lexeme (hr.mono (by decide)) T.b_Scanner_add_lexeme .nil pass0 (pa_cons pe_str (pa_cons (pe_op op_add (pe_fld (pv 0) rfl) pe_int) pa_nil))))
      (pss_one (ps_ret pe_bl))))), ?_⟩
    have t := scT T
    have hfn : s.fr.length ≤ 20000 := by have := ok.frn; have := ok.ha; have := ok.hl; omega
    unfold Sc.openBracket at k
    refine q_when (b := decide ((s.fr.filter fun f => f.mark.closer.isSome).length = 20)) (et_is (et_test (ev_op (ev_countF (K := K) (g := fun m => m.closer.isSome) (f := fun v => !decide (mkOf H v = "string") && !decide (mkOf H v = "format")) t r (ev_var rfl) (by omega) (fun v f hv => by rw [mkOf_fr hv]; exact mark_C _) (fun _ => rfl) (fun _ => rfl) (fun v f hv H1 e1 => et_test (ev_inC T (ev_mark t ((Ke.of e1).fr hv) (ev_var rfl))))) ev_c rv_eqI)) (decide_eq_decide.mpr (by omega))) (fun hb H1 e1 => ?_) (fun hb H1 e1 => ?_)
    · rw [if_pos (of_decide_eq_true hb)] at k
      have r1 := r.ex e1
      exact r_fail r1 (ev_var rfl) ev_c (ev_pos t r1 (ev_var rfl)) (KO.of e1) k
    · rw [if_neg (of_decide_eq_false hb)] at k
      have r1 := r.ex e1
      refine q_appFr (f := ⟨m, s.at_, q⟩) t r1 (by omega) (ev_var rfl) (frame_made (ev_var rfl) (ev_pos t r1 (ev_var rfl)) (ev_var rfl)) fun H2 k2 r2 => ?_
      refine q_lex (e := s.at_ + 1) r2 ⟨ok.hl, (Ok.bd ok).2⟩ (ev_var rfl) ev_c (ev_op (ev_pos t r2 (ev_var rfl)) ev_c rv_I0) fun H3 k3 r3 => ?_
      exact s_ret ev_c fun H4 e4 => k _ ((((KO.of e1).trans k2).trans k3).trans (KO.of e4)) (r3.ex e4)
def sp_Scanner_read_operator (_ : PySem.W.Frag) (a : Ads) : Sp := fun vs H Q _ => ∃ (o : Own) (s : Sc) (c : Nat), vs = [.ref o.x, .str (S [c])] ∧ Rp a.C_Scanner a.C_Frame o H s ∧ Ok s ∧ s.over = false ∧ s.text[s.at_]? = some c ∧ s.topPart = none ∧ Does a.C_Scanner a.C_Frame o H (s.readOperator c).1 (.bl (s.readOperator c).2) Q
theorem sgn_eq (c d : Nat) : decide ([c] = [d]) = decide (c = d) := decide_eq_decide.mpr (by simp)
theorem ok_Scanner_read_operator {P : Program} {w : World} {K : PySem.W.Frag} {mg : Str → Option Value} {base : Heap} {a : Ads} (T : Txt w K mg a) (G_Frame___init__ : FnOk P w K mg base CX0 1 a.Frame___init__ a.d_Frame___init__ ["self", "mark", "at", "quote"] (sp_Frame___init__ K a)) (G_Scanner_add_lexeme : FnOk P w K mg base CX0 2 a.Scanner_add_lexeme a.d_Scanner_add_lexeme ["self", "kind", "end"] (sp_Scanner_add_lexeme K a)) (G_operator_end : FnOk P w K mg base CX0 1 a.operator_end a.d_operator_end ["text", "at", "is_final"] (sp_operator_end K a)) (G_Scanner_fail : FnOk P w K mg base CX0 1 a.Scanner_fail a.d_Scanner_fail ["self", "kind", "at"] (sp_Scanner_fail K a)) (G_Scanner_open_bracket : FnOk P w K mg base CX0 3 a.Scanner_open_bracket a.d_Scanner_open_bracket ["self", "mark", "quote"] (sp_Scanner_open_bracket K a)) :
    FnOk P w K mg base CX0 4 a.Scanner_read_operator a.d_Scanner_read_operator ["self", "character"] (sp_Scanner_read_operator K a) := by
  refine T.F_Scanner_read_operator.ok sc_Scanner_read_operator (fun vs H Q E h => ?_) (fun cdv A outer s H vs Q E hr h => ?_)
  · obtain ⟨_, _, _, rfl, _⟩ := h; rfl
  · obtain ⟨o, s, c, rfl, r, ok, ho, hc, htp, k⟩ := h
    refine ⟨_, (pss_cons (ps_set (i := 2) sc_Scanner_read_operator.nd rfl (Or.inl rfl) (pe_and (pe_cmpR (op_neE (u00 hr)) (pe_fld (pv 0) rfl) (pe_lst pa_nil) (nomark _)) (pe_one (pe_cmpR op_eq (pe_fld (pe_ix ix_list (pe_fld (pv 0) rfl) (pe_un un_neg pe_int) (fun _ _ => rfl)) rfl) pe_str (nomark _)))))
      (pss_cons (ps_if (PW.pt (pw_and (pt_val (pv 2)) (pw_and1 (pt_cmpR op_eq (pv 1) pe_str (nomark _))))) (pss_cons (ps_set (i := 3) sc_Scanner_read_operator.nd rfl (Or.inl rfl) (pe_ix ix_list (pe_fld (pv 0) rfl) (pe_un un_neg pe_int) (fun _ _ => rfl)))
      (pss_cons (ps_expr (pe_bm PySem.F.plainAttrs_list PySem.F.slot_list_append PySem.F.type_list_append mt_append (pe_fld (pv 0) rfl) (pa_cons (pe_make T.M_Frame G_Frame___init__ (hr.mono (by decide)) rfl T.m_Frame T.b_Frame___init__ .nil pass0 (pa_cons pe_str (pa_cons (pe_fld (pv 3) rfl) (pa_cons (pe_fld (pv 3) rfl) pa_nil)))) pa_nil)))
      (pss_cons (ps_expr (pe_meth (pv 0) T.c_Scanner T.t_Scanner_add_lexeme G_Scanner_add_lexeme (hr.mono (by decide)) T.b_Scanner_add_lexeme .nil pass0 (pa_cons pe_str (pa_cons (pe_op op_add (pe_fld (pv 0) rfl) pe_int) pa_nil))))
      (pss_one (ps_ret pe_bl))))) pss_nil)
      (pss_cons (ps_set (i := 4) sc_Scanner_read_operator.nd rfl (Or.inl rfl) (pe_call G_operator_end (hr.mono (by decide)) rfl T.m_operator_end T.F_operator_end.kp T.b_operator_end .nil pass0 (pa_cons (pe_fld (pv 0) rfl) (pa_cons (pe_fld (pv 0) rfl) (pa_cons (pe_fld (pv 0) rfl) pa_nil)))))
      (pss_cons (ps_if (pt_cmpR op_eq (pv 4) (pe_gint T.m_MORE) (nomark _)) (pss_one (ps_ret pe_bl)) pss_nil)
      (pss_cons (ps_if (PW.pt (pw_and (pt_cmpR op_eq (pv 4) (pe_gint T.m_WRONG) (nomark _)) (pw_and (pt_val (pv 2)) (pw_and1 (pt_cmpR op_eq (pv 1) pe_str (nomark _)))))) (pss_one (ps_set (i := 4) sc_Scanner_read_operator.nd rfl (Or.inl rfl) (pe_op op_add (pe_fld (pv 0) rfl) pe_int))) pss_nil)
      (pss_cons (ps_if (pt_cmpR op_eq (pv 4) (pe_gint T.m_WRONG) (nomark _)) (pss_one (ps_ret (pe_meth (pv 0) T.c_Scanner T.t_Scanner_fail G_Scanner_fail (hr.mono (by decide)) T.b_Scanner_fail .nil pass0 (pa_cons pe_str (pa_cons (pe_fld (pv 0) rfl) pa_nil))))) pss_nil)
      (pss_cons (ps_if (pt_cmpR op_in_sign (pv 1) pe_str rfl) (pss_one (ps_ret (pe_meth (pv 0) T.c_Scanner T.t_Scanner_open_bracket G_Scanner_open_bracket (hr.mono (by decide)) T.b_Scanner_open_bracket .nil pass0 (pa_cons (pv 1) (pa_cons pe_str pa_nil))))) pss_nil)
      (pss_cons (ps_if (pt_cmpR op_in_sign (pv 1) pe_str rfl) (pss_cons (ps_if (PW.pt (pw_or (pt_cmpR (op_eqE (u00 hr)) (pe_fld (pv 0) rfl) (pe_lst pa_nil) (nomark _)) (pw_or1 (pt_cmpR op_ne (pe_ix ix_kdict (pe_gref T.m_CLOSERS) (pe_fld (pe_ix ix_list (pe_fld (pv 0) rfl) (pe_un un_neg pe_int) (fun _ _ => rfl)) rfl) (fun _ _ => rfl)) (pv 1) (nomark _))))) (pss_one (ps_ret (pe_meth (pv 0) T.c_Scanner T.t_Scanner_fail G_Scanner_fail (hr.mono (by decide)) T.b_Scanner_fail .nil pass0 (pa_cons pe_str (pa_cons (pe_fld (pv 0) rfl) pa_nil))))) pss_nil)
      (pss_one (ps_delL (pe_fld (pv 0) rfl) (pe_un un_neg pe_int)))) pss_nil)
      (pss_cons (ps_expr (pe_meth (pv 0) T.c_Scanner T.t_Scanner_add_lexeme G_Scanner_add_lexeme (hr.mono (by decide)) T.b_Scanner_add_lexeme .nil pass0 (pa_cons pe_str (pa_cons (pv 4) pa_nil))))
      (pss_one (ps_ret pe_bl))))))))))), ?_⟩
    have t := scT T
    have hl := ok.hl
    have hfn : s.fr.length ≤ 20000 := by have := ok.frn; have := ok.ha; omega
    -- is_own
    refine q_asg (v := .bl s.topFld.isSome) ?_ fun H1 e1 => ?_
    · cases hf : s.fr with
      | nil =>
        have e : s.topFld.isSome = (false && true) := by unfold Sc.topFld; rw [hf]; rfl
        rw [e]
        refine ev_andV (ev_is (ev_frNe t r (ev_var rfl)) (by rw [hf]; rfl)) (fun z => nomatch z)
      | cons f fs =>
        obtain ⟨v, hv, ev⟩ := ev_top (K := K) (σ := [some (.ref o.x), some (.str (S [c])), none, none, none]) (ta := tVar 0) t r (ev_var rfl) hf
        have e : s.topFld.isSome = (true && decide (f.mark = .fld)) := by
          unfold Sc.topFld
          rw [hf]
          dsimp only
          by_cases z : f.mark = .fld
          · rw [if_pos z, decide_eq_true z]; rfl
          · rw [if_neg z, decide_eq_false z]; rfl
        rw [e]
        refine ev_andV (ev_is (ev_frNe t r (ev_var rfl)) (by rw [hf]; rfl)) fun _ => ev_is (ev_op (ev_mark t hv ev) ev_c (rv_eq rfl)) (congrArg V.bl (mark_fld _))
    have r1 := r.ex e1
    have col := et_and (a := s.topFld.isSome) (et_B (ev_var (σ := [some (.ref o.x), some (.str (S [c])), some (.bl s.topFld.isSome), none, none]) (H := H1) (i := 2) rfl)) (fun _ => et_is (et_test (ev_op (ev_var (i := 1) rfl) (ev_cS (x := ":") (l := [58]) rfl) rv_eqS)) (sgn_eq c 58))
    refine q_when col (fun hb H2 e2 => ?_) (fun hb H2 e2 => ?_)
    · have hcc : s.topFld.isSome = true ∧ c = 58 := by simpa using hb
      obtain ⟨f, hf⟩ := Option.isSome_iff_exists.mp hcc.1
      obtain ⟨fs, hfs, _⟩ := topFld_some hf
      unfold Sc.readOperator at k
      rw [hf] at k
      dsimp only at k
      rw [if_pos hcc.2] at k
      have r2 := r1.ex e2
      obtain ⟨v, hv, ev⟩ := ev_top (K := K) (σ := [some (.ref o.x), some (.str (S [c])), some (.bl s.topFld.isSome), none, none]) (ta := tVar 0) t r2 (ev_var rfl) hfs
      refine q_asg ev fun H3 e3 => ?_
      have r3 := r2.ex e3
      have hv3 := (Ke.of e3).fr hv
      refine q_appFr (f := ⟨.fmt, f.at_, f.q⟩) t r3 (by omega) (ev_var rfl) (frame_made ev_c (ev_fat (f := f) t hv3 (ev_var rfl)) (ev_quote (f := f) t hv3 (ev_var rfl))) fun H4 k4 r4 => ?_
      refine q_lex (e := s.at_ + 1) r4 ⟨hl, (Ok.bd ok).2⟩ (ev_var rfl) ev_c (ev_op (ev_pos t r4 (ev_var rfl)) ev_c rv_I0) fun H5 k5 r5 => ?_
      exact s_ret ev_c fun H6 e6 => k _ ((((KO.of ((e1.trans e2).trans e3)).trans k4).trans k5).trans (KO.of e6)) (r5.ex e6)
    · have k2 : Does a.C_Scanner a.C_Frame o H (Sc.readOperator.rest s c s.topFld.isSome).1 (.bl (Sc.readOperator.rest s c s.topFld.isSome).2) Q := by
        unfold Sc.readOperator at k
        cases hf : s.topFld with
        | none => rw [hf] at k; exact k
        | some f =>
          rw [hf] at k hb
          dsimp only at k
          have : ¬ c = 58 := by simpa using hb
          rw [if_neg this] at k
          exact k
      clear k
      generalize hown : s.topFld.isSome = own at *
      unfold Sc.readOperator.rest at k2
      dsimp only at k2
      have r2 := r1.ex e2
      refine q_asg (ev_call (ea_cons (ev_text t r2 (ev_var rfl)) (ea_cons (ev_pos t r2 (ev_var rfl)) (ea_cons (ev_fin t r2 (ev_var rfl)) ea_nil))) (spv_operator_end hl)) fun H3 e3 => ?_
      have hcase := opEnd_le (l := s.text) (fin := s.fin) ok.ha
      have hneg := opEnd_neg (l := s.text) (n := s.at_) (fin := s.fin)
      generalize opEnd s.text s.at_ s.fin = e0 at *
      have r3 := r2.ex e3
      have e03 := (e1.trans e2).trans e3
      refine q_when (b := decide (e0 = -1)) (et_test (ev_op (ev_var rfl) ev_c rv_eqI)) (fun hb2 H4 e4 => ?_) (fun hb2 H4 e4 => ?_)
      · rw [if_pos (of_decide_eq_true hb2)] at k2
        exact s_ret ev_c fun H5 e5 => k2 _ (KO.of ((e03.trans e4).trans e5)) (r3.ex (e4.trans e5))
      · rw [if_neg (of_decide_eq_false hb2)] at k2
        have r4 := r3.ex e4
        obtain ⟨e', he'⟩ : ∃ e', e' = (if e0 = -2 ∧ own = true ∧ c = 33 then (s.at_ + 1 : Int) else e0) := ⟨_, rfl⟩
        rw [← he'] at k2
        refine q_ifM (b := decide (e0 = -2) && (own && decide (c = 33))) (fun σ' H' => σ' = [some (.ref o.x), some (.str (S [c])), some (.bl own), none, some (.int e')] ∧ Ex H H') (et_and (et_test (ev_op (ev_var rfl) ev_c rv_eqI)) fun _ => et_and (et_B (ev_var rfl)) fun _ => et_is (et_test (ev_op (ev_var rfl) (ev_cS (l := [33]) rfl) rv_eqS)) (sgn_eq c 33)) (fun kk hb3 H5 e5 => ?_) (fun hb3 H5 e5 => ?_) ?_
        · have hcc : e0 = -2 ∧ own = true ∧ c = 33 := by simpa using hb3
          refine s_asg (ev_op (ev_pos t (r4.ex e5) (ev_var rfl)) ev_c rv_I0) fun H6 e6 => kk _ _ ⟨?_, ((e03.trans e4).trans e5).trans e6⟩
          rw [he', if_pos hcc]
          rfl
        · have hcc : ¬ (e0 = -2 ∧ own = true ∧ c = 33) := fun z => by
            have : (decide (e0 = -2) && (own && decide (c = 33))) = true := by simpa using z
            rw [hb3] at this; cases this
          refine ⟨?_, (e03.trans e4).trans e5⟩
          rw [he', if_neg hcc]
          rfl
        · rintro σ' H5 ⟨rfl, e5⟩
          have r5 := r.ex e5
          refine q_when (b := decide (e' = -2)) (et_test (ev_op (ev_var rfl) ev_c rv_eqI)) (fun hb6 H6 e6 => ?_) (fun hb6 H6 e6 => ?_)
          · rw [if_pos (of_decide_eq_true hb6)] at k2
            have r6 := r5.ex e6
            exact r_fail r6 (ev_var rfl) ev_c (ev_pos t r6 (ev_var rfl)) (KO.of (e5.trans e6)) k2
          · rw [if_neg (of_decide_eq_false hb6)] at k2
            have r6 := r5.ex e6
            have hnat : (e'.toNat : Int) = e' := by
              refine Int.toNat_of_nonneg ?_
              have h2 := of_decide_eq_false hb6
              rw [he'] at h2 ⊢
              split at h2
              · rename_i z; rw [if_pos z]; omega
              · rename_i z
                rw [if_neg z]
                rcases hcase with y | ⟨e'', rfl, _, _⟩
                · rcases hneg y with x | x
                  · exact absurd x h2
                  · exact absurd x (of_decide_eq_false hb2)
                · omega
            refine q_when (b := (Sc.opener c).isSome) (et_is (et_test (ev_op (ev_var rfl) ev_c rv_inS)) ?_) (fun hb7 H7 e7 => ?_) (fun hb7 H7 e7 => ?_)
            · show decide (c ∈ ([40, 91, 123] : List Nat)) = _
              unfold Sc.opener
              by_cases h1 : c = 40
              · rw [if_pos h1, h1]; rfl
              · by_cases h2 : c = 91
                · rw [if_neg h1, if_pos h2, h2]; rfl
                · by_cases h3 : c = 123
                  · rw [if_neg h1, if_neg h2, if_pos h3, h3]; rfl
                  · rw [if_neg h1, if_neg h2, if_neg h3]
                    simp [h1, h2, h3]
            · obtain ⟨m, hm⟩ := Option.isSome_iff_exists.mp hb7
              rw [hm] at k2
              dsimp only at k2
              have htx : S [c] = m.txt := by
                unfold Sc.opener at hm
                split at hm
                · rename_i z; cases hm; rw [z]; rfl
                · split at hm
                  · rename_i z; cases hm; rw [z]; rfl
                  · split at hm
                    · rename_i z; cases hm; rw [z]; rfl
                    · cases hm
              refine r_meth (r6.ex e7) (ev_var rfl) (fun _ => rfl) (ea_cons (ev_var rfl) (ea_cons (ev_cS (l := []) rfl) ea_nil)) fun H8 e8 r8 => ⟨o, s, m, [], by rw [← htx]; rfl, r8, ok, k2.go (KO.of (((e5.trans e6).trans e7).trans e8))⟩
            · have hno : Sc.opener c = none := by
                cases z : Sc.opener c with
                | none => rfl
                | some m => rw [z] at hb7; cases hb7
              rw [hno] at k2
              dsimp only at k2
              have r7 := r6.ex e7
              have e57 := (e5.trans e6).trans e7
              have endop : ∀ (s' : Sc) (H8 : Hp), s'.text = s.text → s'.found = s.found → KO o H H8 → Rp a.C_Scanner a.C_Frame o H8 s' → Does a.C_Scanner a.C_Frame o H (s'.lex "OP" e'.toNat) (.bl true) Q → tSeq (tDrop (tMeth a.C_Scanner "add_lexeme" (sp_Scanner_add_lexeme K a) [] E0 (tVar 0) (tCons (tC (.str "OP")) (tCons (tVar 4) tNil)))) (tRet (tC (.bl true))) { nx := fun _ H' => Q .non H', rt := Q } [some (.ref o.x), some (.str (S [c])), some (.bl own), none, some (.int e')] H8 := fun s' H8 h1 h2 k8 r8 d => by
                refine q_lex (e := e'.toNat) r8 ⟨by rw [h1]; exact hl, by rw [h2]; exact (Ok.bd ok).2⟩ (ev_var rfl) ev_c (by rw [hnat]; exact ev_var rfl) fun H9 k9 r9 => ?_
                exact s_ret ev_c fun H10 e10 => d _ ((k8.trans k9).trans (KO.of e10)) (r9.ex e10)
              refine q_when (b := Sc.isCloser c) (et_test (ev_op (ev_var rfl) ev_c rv_inS)) (fun hb8 H8 e8 => ?_) (fun hb8 H8 e8 => ?_)
              · rw [if_pos hb8] at k2
                have r8 := r7.ex e8
                cases hf : s.fr with
                | nil =>
                  rw [hf] at k2
                  refine q_when (b := true || true) (et_or (et_is (et_test (ev_frEq t r8 (ev_var rfl))) (by rw [hf]; rfl)) fun z => nomatch z) (fun _ H9 e9 => ?_) (fun z => nomatch z)
                  have r9 := r8.ex e9
                  exact r_fail r9 (ev_var rfl) ev_c (ev_pos t r9 (ev_var rfl)) (KO.of ((e57.trans e8).trans e9)) k2
                | cons f fs =>
                  rw [hf] at k2
                  dsimp only at k2
                  obtain ⟨d, hd⟩ : ∃ d, f.mark.closer = some d := by
                    cases z : f.mark.closer with
                    | some d => exact ⟨d, rfl⟩
                    | none =>
                      have : f.mark = .str ∨ f.mark = .fmt := by
                        cases y : f.mark <;> rw [y] at z <;> first | (cases z; done) | exact Or.inl rfl | exact Or.inr rfl
                      unfold Sc.topPart at htp
                      rw [hf] at htp
                      dsimp only at htp
                      rw [if_pos this] at htp
                      cases htp
                  obtain ⟨v, hv, ev⟩ := ev_top (K := K) (σ := [some (.ref o.x), some (.str (S [c])), some (.bl own), none, some (.int e')]) (ta := tVar 0) t r8 (ev_var rfl) hf
                  refine q_when (b := false || !decide (d = c)) (et_or (et_is (et_test (ev_frEq t r8 (ev_var rfl))) (by rw [hf]; rfl)) fun _ => et_is (et_test (ev_op (ev_op ev_c (ev_mark t hv ev) (fun H9 _ Q' q' => ⟨_, _, _, rfl, rfl, closer_at T hd, q' H9 (Ex.refl _)⟩)) (ev_var rfl) rv_neS)) (by rw [sgn_eq])) (fun hb9 H9 e9 => ?_) (fun hb9 H9 e9 => ?_)
                  · have hne : ¬ f.mark.closer = some c := by rw [hd]; simpa using hb9
                    rw [if_neg hne] at k2
                    have r9 := r8.ex e9
                    exact r_fail r9 (ev_var rfl) ev_c (ev_pos t r9 (ev_var rfl)) (KO.of ((e57.trans e8).trans e9)) k2
                  · have heq : f.mark.closer = some c := by rw [hd]; simpa using hb9
                    rw [if_pos heq] at k2
                    refine s_delFr t (r8.ex e9) hf (ev_var rfl) (ev_un ev_c ru_neg) fun H10 k10 r10 => ?_
                    exact endop { s with fr := fs } H10 rfl rfl ((KO.of ((e57.trans e8).trans e9)).trans k10) r10 k2
              · rw [if_neg (by rw [hb8]; exact Bool.false_ne_true)] at k2
                exact endop s H8 rfl rfl (KO.of (e57.trans e8)) (r7.ex e8) k2
def sp_Scanner_read_lexeme (_ : PySem.W.Frag) (a : Ads) : Sp := fun vs H Q _ => ∃ (o : Own) (s : Sc) (c : Nat), vs = [.ref o.x, .str (S [c])] ∧ Rp a.C_Scanner a.C_Frame o H s ∧ Ok s ∧ s.over = false ∧ s.text[s.at_]? = some c ∧ s.topPart = none ∧ Does a.C_Scanner a.C_Frame o H (s.readLexeme c).1 (.bl (s.readLexeme c).2) Q
theorem ok_Scanner_read_lexeme {P : Program} {w : World} {K : PySem.W.Frag} {mg : Str → Option Value} {base : Heap} {a : Ads} (T : Txt w K mg a) (G_Scanner_read_word : FnOk P w K mg base CX0 4 a.Scanner_read_word a.d_Scanner_read_word ["self"] (sp_Scanner_read_word K a)) (G_Scanner_read_string : FnOk P w K mg base CX0 3 a.Scanner_read_string a.d_Scanner_read_string ["self", "at"] (sp_Scanner_read_string K a)) (G_number_end : FnOk P w K mg base CX0 2 a.number_end a.d_number_end ["text", "at", "is_final"] (sp_number_end K a)) (G_Scanner_fail : FnOk P w K mg base CX0 1 a.Scanner_fail a.d_Scanner_fail ["self", "kind", "at"] (sp_Scanner_fail K a)) (G_Scanner_add_lexeme : FnOk P w K mg base CX0 2 a.Scanner_add_lexeme a.d_Scanner_add_lexeme ["self", "kind", "end"] (sp_Scanner_add_lexeme K a)) (G_Scanner_read_operator : FnOk P w K mg base CX0 4 a.Scanner_read_operator a.d_Scanner_read_operator ["self", "character"] (sp_Scanner_read_operator K a)) :
    FnOk P w K mg base CX0 5 a.Scanner_read_lexeme a.d_Scanner_read_lexeme ["self", "character"] (sp_Scanner_read_lexeme K a) := by
  refine T.F_Scanner_read_lexeme.ok sc_Scanner_read_lexeme (fun vs H Q E h => ?_) (fun cdv A outer s H vs Q E hr h => ?_)
  · obtain ⟨_, _, _, rfl, _⟩ := h; rfl
  · obtain ⟨o, s, c, rfl, r, ok, ho, hc, htp, k⟩ := h
    refine ⟨_, (pss_cons (ps_if (pt_cmpR op_in_sign (pv 1) (pe_gstr T.m_LETTERS) rfl) (pss_one (ps_ret (pe_meth0 (pv 0) T.c_Scanner T.t_Scanner_read_word G_Scanner_read_word (hr.mono (by decide)) T.b_Scanner_read_word .nil pass0))) pss_nil)
      (pss_cons (ps_if (pt_cmpR op_in_sign (pv 1) (pe_gstr T.m_QUOTES) rfl) (pss_one (ps_ret (pe_meth (pv 0) T.c_Scanner T.t_Scanner_read_string G_Scanner_read_string (hr.mono (by decide)) T.b_Scanner_read_string .nil pass0 (pa_cons (pe_fld (pv 0) rfl) pa_nil)))) pss_nil)
      (pss_cons (ps_set (i := 2) sc_Scanner_read_lexeme.nd rfl (Or.inl rfl) (pe_slice sl_str (pe_fld (pv 0) rfl) (po_some (pe_op op_add (pe_fld (pv 0) rfl) pe_int)) (po_some (pe_op op_add (pe_fld (pv 0) rfl) pe_int))))
      (pss_cons (ps_if (PW.pt (pw_or (pt_cmpR op_in_sign (pv 1) (pe_gstr T.m_DIGITS) rfl) (pw_or1 (PW.pt (pw_and (pt_cmpR op_eq (pv 1) pe_str (nomark _)) (pw_and (pt_cmpR op_ne (pv 2) pe_str (nomark _)) (pw_and1 (pt_cmpR op_in_sign (pv 2) (pe_gstr T.m_DIGITS) rfl)))))))) (pss_cons (ps_set (i := 3) sc_Scanner_read_lexeme.nd rfl (Or.inl rfl) (pe_call G_number_end (hr.mono (by decide)) rfl T.m_number_end T.F_number_end.kp T.b_number_end .nil pass0 (pa_cons (pe_fld (pv 0) rfl) (pa_cons (pe_fld (pv 0) rfl) (pa_cons (pe_fld (pv 0) rfl) pa_nil)))))
      (pss_cons (ps_if (pt_cmpR op_eq (pv 3) (pe_gint T.m_WRONG) (nomark _)) (pss_one (ps_ret (pe_meth (pv 0) T.c_Scanner T.t_Scanner_fail G_Scanner_fail (hr.mono (by decide)) T.b_Scanner_fail .nil pass0 (pa_cons pe_str (pa_cons (pe_fld (pv 0) rfl) pa_nil))))) pss_nil)
      (pss_cons (ps_if (pt_cmpR op_eq (pv 3) (pe_gint T.m_MORE) (nomark _)) (pss_one (ps_ret pe_bl)) pss_nil)
      (pss_cons (ps_expr (pe_meth (pv 0) T.c_Scanner T.t_Scanner_add_lexeme G_Scanner_add_lexeme (hr.mono (by decide)) T.b_Scanner_add_lexeme .nil pass0 (pa_cons pe_str (pa_cons (pv 3) pa_nil))))
      (pss_one (ps_ret pe_bl)))))) pss_nil)
      (pss_one (ps_ret (pe_meth (pv 0) T.c_Scanner T.t_Scanner_read_operator G_Scanner_read_operator (hr.mono (by decide)) T.b_Scanner_read_operator .nil pass0 (pa_cons (pv 1) pa_nil)))))))), ?_⟩
    have t := scT T
    have hl := ok.hl
    have hlt := (List.getElem?_eq_some_iff.mp hc).1
    unfold Sc.readLexeme at k
    refine q_when (b := decide (c ∈ kLET)) (et_test (ev_op (ev_var rfl) ev_c rv_inS)) (fun hb H1 e1 => ?_) (fun hb H1 e1 => ?_)
    · rw [if_pos (of_decide_eq_true hb)] at k
      exact r_meth (r.ex e1) (ev_var rfl) (fun _ => rfl) ea_nil fun H2 e2 r2 => ⟨o, s, rfl, r2, ok, k.go (KO.of (e1.trans e2))⟩
    · rw [if_neg (of_decide_eq_false hb)] at k
      refine q_when (b := isQ c) (et_test (ev_op (ev_var rfl) ev_c rv_inS)) (fun hb2 H2 e2 => ?_) (fun hb2 H2 e2 => ?_)
      · rw [if_pos hb2] at k
        have r2 := r.ex (e1.trans e2)
        exact r_meth r2 (ev_var rfl) (fun _ => rfl) (ea_cons (ev_pos t r2 (ev_var rfl)) ea_nil) fun H3 e3 r3 => ⟨o, s, s.at_, rfl, r3, ok, hlt, k.go (KO.of ((e1.trans e2).trans e3))⟩
      · rw [if_neg (by rw [hb2]; exact Bool.false_ne_true)] at k
        have r2 := r.ex (e1.trans e2)
        have e02 := e1.trans e2
        have sl : Ev (tSl rSlS (tFld K (tVar 0) "text") (tPart (tOp (rI0 fun i j => .int (i + j)) (tFld K (tVar 0) "at") (tC (.int 1)))) (tPart (tOp (rI0 fun i j => .int (i + j)) (tFld K (tVar 0) "at") (tC (.int 2))))) [some (.ref o.x), some (.str (S [c])), none, none] H2 (.str (S ((s.text.drop (s.at_ + 1)).take 1))) := by
          have h := ev_slAB (K := K) (i := s.at_ + 1) (j := s.at_ + 2) (ev_text t r2 (ev_var (σ := [some (.ref o.x), some (.str (S [c])), none, none]) (i := 0) rfl)) (ev_op (ev_pos t r2 (ev_var (i := 0) rfl)) (ev_c (v := .int 1)) (rv_I0 (g := fun i j => .int (i + j)))) (ev_op (ev_pos t r2 (ev_var (i := 0) rfl)) (ev_c (v := .int 2)) (rv_I0 (g := fun i j => .int (i + j)))) (by omega)
          have e : s.at_ + 2 - (s.at_ + 1) = 1 := by omega
          rw [e] at h
          exact h
        refine q_asg sl fun H3 e3 => ?_
        have r3 := r2.ex e3
        have e03 := e02.trans e3
        obtain ⟨u, hu⟩ : ∃ u, u = (s.text.drop (s.at_ + 1)).take 1 := ⟨_, rfl⟩
        rw [← hu]
        have hd : EvT (tAnd (tTest (tOp rEq (tVar 1) (tC (.str ".")))) (tAnd (tTest (tOp rNe (tVar 2) (tC (.str "")))) (tTest (tOp (fun x y H Q => ∃ (c : Nat) (z : Str), x = .str ⟨#[c]⟩ ∧ y = .str z ∧ Q (.bl (decide (c ∈ z.cps.toList))) H) (tVar 2) (tC (.str z_DIGITS)))))) [some (.ref o.x), some (.str (S [c])), some (.str (S u)), none] H3 (decide (c = 46 ∧ ∃ d, s.text[s.at_ + 1]? = some d ∧ d ∈ kDIG)) := by
          cases hn : s.text[s.at_ + 1]? with
          | none =>
            have hu0 : u = [] := by
              have := List.getElem?_eq_none_iff.mp hn
              rw [hu, List.drop_of_length_le this]; rfl
            have e : decide (c = 46 ∧ ∃ d, (none : Option Nat) = some d ∧ d ∈ kDIG) = (decide (c = 46) && (false && true)) := by simp
            rw [e]
            refine et_and (et_is (et_test (ev_op (ev_var rfl) (ev_cS (l := [46]) rfl) rv_eqS)) (sgn_eq c 46)) fun _ => et_and (et_is (et_test (ev_op (ev_var rfl) (ev_cS (l := []) rfl) rv_neS)) (by rw [hu0]; rfl)) fun z => nomatch z
          | some d =>
            have hu1 : u = [d] := by rw [hu, drop_at hn]; rfl
            have e : decide (c = 46 ∧ ∃ d', some d = some d' ∧ d' ∈ kDIG) = (decide (c = 46) && (true && decide (d ∈ kDIG))) := by simp
            rw [e]
            refine et_and (et_is (et_test (ev_op (ev_var rfl) (ev_cS (l := [46]) rfl) rv_eqS)) (sgn_eq c 46)) fun _ => et_and (et_is (et_test (ev_op (ev_var rfl) (ev_cS (l := []) rfl) rv_neS)) (by rw [hu1]; rfl)) fun _ => by
              rw [hu1]
              exact et_test (ev_op (ev_var rfl) ev_c rv_inS)
        refine q_when (b := decide (c ∈ kDIG) || decide (c = 46 ∧ ∃ d, s.text[s.at_ + 1]? = some d ∧ d ∈ kDIG)) (et_or (et_test (ev_op (ev_var rfl) ev_c rv_inS)) fun _ => hd) (fun hb4 H4 e4 => ?_) (fun hb4 H4 e4 => ?_)
        · have hcc : c ∈ kDIG ∨ (c = 46 ∧ ∃ d, s.text[s.at_ + 1]? = some d ∧ d ∈ kDIG) := by
            rcases Bool.or_eq_true_iff.mp hb4 with z | z
            · exact Or.inl (of_decide_eq_true z)
            · exact Or.inr (of_decide_eq_true z)
          rw [if_pos hcc] at k
          dsimp only at k
          have r4 := r3.ex e4
          refine q_asg (ev_call (ea_cons (ev_text t r4 (ev_var rfl)) (ea_cons (ev_pos t r4 (ev_var rfl)) (ea_cons (ev_fin t r4 (ev_var rfl)) ea_nil))) (spv_number_end hl ok.ha)) fun H5 e5 => ?_
          have hcase := numberEnd_le (l := s.text) (fin := s.fin) ok.ha
          have hneg := numberEnd_neg (l := s.text) (n := s.at_) (fin := s.fin)
          generalize numberEnd s.text s.at_ s.fin = e at *
          have r5 := r4.ex e5
          have e05 := (e03.trans e4).trans e5
          refine q_when (b := decide (e = -2)) (et_test (ev_op (ev_var rfl) ev_c rv_eqI)) (fun hb6 H6 e6 => ?_) (fun hb6 H6 e6 => ?_)
          · rw [if_pos (of_decide_eq_true hb6)] at k
            have r6 := r5.ex e6
            exact r_fail r6 (ev_var rfl) ev_c (ev_pos t r6 (ev_var rfl)) (KO.of (e05.trans e6)) k
          · rw [if_neg (of_decide_eq_false hb6)] at k
            refine q_when (b := decide (e = -1)) (et_test (ev_op (ev_var rfl) ev_c rv_eqI)) (fun hb7 H7 e7 => ?_) (fun hb7 H7 e7 => ?_)
            · rw [if_pos (of_decide_eq_true hb7)] at k
              exact s_ret ev_c fun H8 e8 => k _ (KO.of (((e05.trans e6).trans e7).trans e8)) (r5.ex ((e6.trans e7).trans e8))
            · rw [if_neg (of_decide_eq_false hb7)] at k
              have he : (e.toNat : Int) = e := by
                refine Int.toNat_of_nonneg ?_
                rcases hcase with z | ⟨e', rfl, _⟩
                · rcases hneg z with y | y
                  · exact absurd y (of_decide_eq_false hb6)
                  · exact absurd y (of_decide_eq_false hb7)
                · omega
              rw [← he]
              refine q_lex (r5.ex (e6.trans e7)) (Ok.bd ok) (ev_var rfl) ev_c (ev_var rfl) fun H8 k8 r8 => ?_
              rw [← he] at k
              exact s_ret ev_c fun H9 e9 => k _ (((KO.of ((e05.trans e6).trans e7)).trans k8).trans (KO.of e9)) (r8.ex e9)
        · have hcc : ¬ (c ∈ kDIG ∨ (c = 46 ∧ ∃ d, s.text[s.at_ + 1]? = some d ∧ d ∈ kDIG)) := fun z => by
            rcases z with z | z
            · rw [decide_eq_true z] at hb4; cases hb4
            · rw [decide_eq_true z, Bool.or_true] at hb4; cases hb4
          rw [if_neg hcc] at k
          exact r_meth (r3.ex e4) (ev_var rfl) (fun _ => rfl) (ea_cons (ev_var rfl) ea_nil) fun H5 e5 r5 => ⟨o, s, c, rfl, r5, ok, ho, hc, htp, k.go (KO.of ((e03.trans e4).trans e5))⟩

def sp_Scanner_add_part (_ : PySem.W.Frag) (a : Ads) : Sp := fun vs H Q _ => ∃ (o : Own) (s : Sc) (e : Nat), vs = [.ref o.x, .int e] ∧ Rp a.C_Scanner a.C_Frame o H s ∧ Bd s ∧ Does a.C_Scanner a.C_Frame o H (s.addPart e) .non Q
theorem ok_Scanner_add_part {P : Program} {w : World} {K : PySem.W.Frag} {mg : Str → Option Value} {base : Heap} {a : Ads} (T : Txt w K mg a) (G_Scanner_add : FnOk P w K mg base CX0 1 a.Scanner_add a.d_Scanner_add ["self", "kind", "end"] (sp_Scanner_add K a)) :
    FnOk P w K mg base CX0 2 a.Scanner_add_part a.d_Scanner_add_part ["self", "end"] (sp_Scanner_add_part K a) := by
  refine T.F_Scanner_add_part.ok sc_Scanner_add_part (fun vs H Q E h => ?_) (fun cdv A outer s H vs Q E hr h => ?_)
  · obtain ⟨_, _, _, rfl, _⟩ := h; rfl
  · obtain ⟨o, s, e, rfl, r, bd, k⟩ := h
    refine ⟨_, (pss_one (ps_if (pt_cmpR op_gt (pv 1) (pe_fld (pv 0) rfl) (nomark _)) (pss_one (ps_expr (pe_meth (pv 0) T.c_Scanner T.t_Scanner_add G_Scanner_add (hr.mono (by decide)) T.b_Scanner_add .nil pass0 (pa_cons pe_str (pa_cons (pv 1) pa_nil))))) pss_nil)), ?_⟩
    have t := scT T
    unfold Sc.addPart at k
    refine s_when (b := decide (s.at_ < e)) (et_is (et_test (ev_op (ev_var rfl) (ev_pos t r (ev_var rfl)) rv_I0)) (decide_eq_decide.mpr (by omega))) (fun hb H1 e1 => ?_) (fun hb H1 e1 => ?_)
    · rw [if_pos (of_decide_eq_true hb)] at k
      exact s_add (r.ex e1) bd (ev_var rfl) ev_c (ev_var rfl) fun H2 k2 r2 => k _ ((KO.of e1).trans k2) r2
    · rw [if_neg (of_decide_eq_false hb)] at k
      exact k _ (KO.of e1) (r.ex e1)
def sp_Scanner_part_end (_ : PySem.W.Frag) (a : Ads) : Sp := fun vs H Q _ => ∃ (o : Own) (s : Sc) (f : Frm) (v : V), vs = [.ref o.x, v] ∧ Rp a.C_Scanner a.C_Frame o H s ∧ s.text.length ≤ 20000 ∧ f.q.length ≤ 3 ∧ FrV a.C_Frame H v f ∧ RetV (.int (s.partEnd f)) H Q
theorem ok_Scanner_part_end {P : Program} {w : World} {K : PySem.W.Frag} {mg : Str → Option Value} {base : Heap} {a : Ads} (T : Txt w K mg a) :
    FnOk P w K mg base CX0 1 a.Scanner_part_end a.d_Scanner_part_end ["self", "frame"] (sp_Scanner_part_end K a) := by
  refine T.F_Scanner_part_end.ok sc_Scanner_part_end (fun vs H Q E h => ?_) (fun cdv A outer s H vs Q E hr h => ?_)
  · obtain ⟨_, _, _, _, rfl, _⟩ := h; rfl
  · obtain ⟨o, s, f, v, rfl, r, hl, hq, hv, k⟩ := h
    refine ⟨_, (pss_cons (ps_par3 (i := 2) (j := 3) (l := 4) (by rfl) sc_Scanner_part_end.nd rfl rfl rfl (by decide) (by decide) (by decide) rfl rfl rfl (pa_cons (pe_fld (pv 0) rfl) (pa_cons (pe_fld (pv 1) rfl) (pa_cons (pe_fld (pv 0) rfl) pa_nil))) (by rfl))
      (pss_cons (ps_while PassesOwn.never (pt_cmpR op_lt (pv 4) (pe_callB call_len_str (by rfl) T.n_len b_len (pa_cons (pv 2) pa_nil)) (nomark _)) (pss_cons (ps_set (i := 5) sc_Scanner_part_end.nd rfl (Or.inl rfl) (pe_slice sl_str (pv 2) (po_some (pv 4)) (po_some (pe_op op_add (pv 4) pe_int))))
      (pss_cons (ps_if (PW.pt (pw_and (pt_cmpR op_eq (pv 5) pe_str (nomark _)) (pw_and1 (pt_not (pt_val (pe_fld (pv 0) rfl)))))) (pss_one (ps_ret (pe_gint T.m_MORE))) pss_nil)
      (pss_one (ps_if (pt_cmpR op_eq (pe_ix ix_str (pv 2) (pv 4) (fun _ _ => rfl)) pe_str (nomark _)) (pss_one (ps_aug (i := 4) sc_Scanner_part_end.nd rfl (Or.inl rfl) (pe_ifExp (pt_cmpR op_in_seq (pe_slice sl_str (pv 5) (po_some pe_int) po_none) (pe_tup (pa_cons pe_str (pa_cons pe_str pa_nil))) (by rfl)) pe_int pe_int) ip_add)) (pss_one (ps_if (pt_cmpR op_eq (pe_slice sl_str (pv 2) (po_some (pv 4)) (po_some (pe_op op_add (pv 4) (pe_callB call_len_str (by rfl) T.n_len b_len (pa_cons (pv 3) pa_nil))))) (pv 3) (nomark _)) (pss_one (ps_ret (pv 4))) (pss_one (ps_if (PW.pt (pw_and (pt_cmpR op_eq (pe_ix ix_str (pv 2) (pv 4) (fun _ _ => rfl)) pe_str (nomark _)) (pw_and1 (pt_cmpR op_eq (pe_callB call_len_str (by rfl) T.n_len b_len (pa_cons (pv 3) pa_nil)) pe_int (nomark _))))) (pss_one (ps_ret (pe_gint T.m_WRONG))) (pss_one (ps_if (PW.pt (pw_and (pt_cmpR op_in_sign (pe_ix ix_str (pv 2) (pv 4) (fun _ _ => rfl)) pe_str rfl) (pw_and (pt_cmpR op_eq (pe_fld (pv 1) rfl) pe_str (nomark _)) (pw_and1 (pt_cmpR op_eq (pv 5) (pe_op op_mul_str (pe_ix ix_str (pv 2) (pv 4) (fun _ _ => rfl)) pe_int) (nomark _)))))) (pss_one (ps_aug (i := 4) sc_Scanner_part_end.nd rfl (Or.inl rfl) pe_int ip_add)) (pss_one (ps_if (PW.pt (pw_and (pt_cmpR op_in_sign (pe_ix ix_str (pv 2) (pv 4) (fun _ _ => rfl)) pe_str rfl) (pw_and (pt_cmpR op_eq (pe_fld (pv 1) rfl) pe_str (nomark _)) (pw_and (pt_cmpR op_eq (pe_callB call_len_str (by rfl) T.n_len b_len (pa_cons (pv 5) pa_nil)) pe_int (nomark _)) (pw_and1 (pt_not (pt_val (pe_fld (pv 0) rfl)))))))) (pss_one (ps_ret (pe_gint T.m_MORE))) (pss_one (ps_if (pt_cmpR op_in_sign (pe_ix ix_str (pv 2) (pv 4) (fun _ _ => rfl)) pe_str rfl) (pss_one (ps_ret (pv 4))) (pss_one (ps_aug (i := 4) sc_Scanner_part_end.nd rfl (Or.inl rfl) pe_int ip_add)))))))))))))))))
      (pss_one (ps_ret (pe_ifExp (pt_val (pe_fld (pv 0) rfl)) (pe_gint T.m_WRONG) (pe_gint T.m_MORE)))))), ?_⟩
    have t := scT T
    have hl' : s.text.length ≤ 16000000 := by omega
    unfold Sc.partEnd at k
    refine q_par3 (ev_text t r (ev_var rfl)) (ev_quote t hv (ev_var rfl)) (ev_pos t r (ev_var rfl)) fun H1 e1 => ?_
    have qlen : ∀ {H' : Hp} {σ : L2.St}, σ[3]? = some (some (.str (S f.q))) → Ev (tCB (fun xs H Q => ∃ z, xs = [V.str z] ∧ z.length ≤ sizeLine ∧ Q (.int z.length) H) (tCons (tVar 3) tNil)) σ H' (.int (f.q.length : Int)) := fun h => ev_cb (ea_cons (ev_var h) ea_nil) (rc_lenS (by omega))
    have len : ∀ {H' : Hp} {σ : L2.St}, σ[2]? = some (some (.str (S s.text))) → Ev (tCB (fun xs H Q => ∃ z, xs = [V.str z] ∧ z.length ≤ sizeLine ∧ Q (.int z.length) H) (tCons (tVar 2) tNil)) σ H' (.int (s.text.length : Int)) := fun h => ev_cb (ea_cons (ev_var h) ea_nil) (rc_lenS hl')
    refine q_while (fun m σ' H' => ∃ (j : Nat) (v5 : Option V), σ' = [some (.ref o.x), some v, some (.str (S s.text)), some (.str (S f.q)), some (.int j), v5] ∧ Ex H H' ∧ m = s.text.length - j ∧ Sc.partGo f.q f.mark.isStr s.fin (s.text.drop s.at_) s.at_ = Sc.partGo f.q f.mark.isStr s.fin (s.text.drop j) j) (s.text.length - s.at_) ⟨s.at_, none, rfl, e1, rfl, rfl⟩ ?_
    rintro m σ' H2 ⟨j, v5, rfl, e2, hm, hj⟩
    refine ⟨decide ((j : Int) < s.text.length), et_test (ev_op (ev_var rfl) (len rfl) rv_I0), fun hb H3 e3 => ?_, fun hb H3 e3 => ?_⟩
    · have hlt : j < s.text.length := by have := of_decide_eq_true hb; omega
      obtain ⟨c, hc⟩ : ∃ c, s.text[j]? = some c := ⟨_, List.getElem?_eq_getElem hlt⟩
      have hdr := drop_at hc
      obtain ⟨rs, hrs⟩ : ∃ rs, rs = s.text.drop (j + 1) := ⟨_, rfl⟩
      have hd2 : s.text.drop (j + 2) = rs.drop 1 := by rw [hrs, List.drop_drop]
      rw [← hrs] at hdr
      rw [hdr, partGo_cons] at hj
      refine ⟨fun σ2 H2' => ∃ (j' : Nat) (v5 : Option V), σ2 = [some (.ref o.x), some v, some (.str (S s.text)), some (.str (S f.q)), some (.int j'), v5] ∧ Ex H H2' ∧ j < j' ∧ Sc.partGo f.q f.mark.isStr s.fin (s.text.drop s.at_) s.at_ = Sc.partGo f.q f.mark.isStr s.fin (s.text.drop j') j', fun σ2 H2' ⟨j', v5, a, b, c, d⟩ => ⟨s.text.length - j', by omega, j', v5, a, b, rfl, d⟩, ?_⟩
      refine q_asg (ev_slNN 2 (ev_var rfl) (ev_var rfl) (ev_op (ev_var rfl) ev_c rv_I0) hl') fun H4 e4 => ?_
      rw [hdr]
      have e04 := (e2.trans e3).trans e4
      have r4 := r.ex e04
      have hv4 := (Ke.of e04).fr hv
      have sg : ∀ {H' : Hp} {σ : L2.St}, σ[2]? = some (some (.str (S s.text))) → σ[4]? = some (some (.int (j : Int))) → Ev (tOp rIxS (tVar 2) (tVar 4)) σ H' (.str (S [c])) := fun h1 h2 => ev_op (ev_var h1) (ev_var h2) (rv_ixSn hl' hc)
      have one : decide ((c :: rs).take 2 = [92]) = decide (c = 92 ∧ rs = []) := by
        refine decide_eq_decide.mpr ?_
        cases rs <;> simp
      refine q_when (b := decide (c = 92 ∧ rs = []) && !s.fin) (et_and (et_is (et_test (ev_op (ev_var rfl) (ev_cS (l := [92]) rfl) rv_eqS)) one) fun _ => et_not (et_B (ev_fin t r4 (ev_var rfl)))) (fun hb5 H5 e5 => ?_) (fun hb5 H5 e5 => ?_)
      · have hcc : c = 92 ∧ rs = [] ∧ s.fin = false := by
          obtain ⟨b1, b2⟩ := Bool.and_eq_true_iff.mp hb5
          exact ⟨(of_decide_eq_true b1).1, (of_decide_eq_true b1).2, by simpa using b2⟩
        rw [if_pos hcc] at hj
        rw [hj] at k
        exact s_ret ev_c fun H6 e6 => k _ ((e04.trans e5).trans e6)
      · have hcc : ¬ (c = 92 ∧ rs = [] ∧ s.fin = false) := fun z => by
          rw [decide_eq_true ⟨z.1, z.2.1⟩, z.2.2] at hb5; cases hb5
        rw [if_neg hcc] at hj
        refine s_if (b := decide (c = 92)) (et_is (et_test (ev_op (sg rfl rfl) (ev_cS (l := [92]) rfl) rv_eqS)) (sgn_eq c 92)) (fun hb6 H6 e6 => ?_) (fun hb6 H6 e6 => ?_)
        · rw [if_pos (of_decide_eq_true hb6)] at hj
          have inb : inV (.str (S (rs.take 1))) [V.str (S [123]), .str (S [125])] = decide (rs.head? = some 123 ∨ rs.head? = some 125) := by
            have := in_texts (rs.take 1) [[123], [125]]
            refine Eq.trans this (decide_eq_decide.mpr ?_)
            cases rs <;> simp
          have cut1 : ((c :: rs).take 2).drop 1 = rs.take 1 := by cases rs <;> rfl
          have tst : EvT (tTest (tOp (rIn K false) (tSl rSlS (tVar 5) (tPart (tC (.int 1))) tNoPart) (tTup (tCons (tC (.str "{")) (tCons (tC (.str "}")) tNil))))) [some (.ref o.x), some v, some (.str (S s.text)), some (.str (S f.q)), some (.int j), some (.str (S ((c :: rs).take 2)))] H6 (decide (rs.head? = some 123 ∨ rs.head? = some 125)) := by
            have h := ev_inU (K := K) (xs := [V.str (S [123]), .str (S [125])]) (ev_slN (n := 1) (ev_var (σ := [some (.ref o.x), some v, some (.str (S s.text)), some (.str (S f.q)), some (.int j), some (.str (S ((c :: rs).take 2)))]) (H := H6) (i := 5) rfl) (ev_c (v := .int 1)) (by have := List.length_take_le 2 (c :: rs); omega)) (eu_tup (ta := tCons (tC (.str "{")) (tCons (tC (.str "}")) tNil)) (ea_cons (ev_cS (l := [123]) rfl) (ea_cons (ev_cS (l := [125]) rfl) ea_nil)) (by decide)) rfl rfl
            rw [cut1, inb] at h
            exact et_test h
          by_cases hh : rs.head? = some 123 ∨ rs.head? = some 125
          · rw [if_pos hh] at hj
            refine s_aug (b := 1) rfl (ev_if tst (fun _ => ev_c) (fun z => absurd (decide_eq_true hh) (by rw [z]; exact Bool.false_ne_true))) fun H7 e7 => ⟨j + 1, _, rfl, ((e04.trans e5).trans e6).trans e7, by omega, by rw [← hrs]; exact hj⟩
          · rw [if_neg hh] at hj
            refine s_aug (b := 2) rfl (ev_if tst (fun z => absurd (of_decide_eq_true z) hh) (fun _ => ev_c)) fun H7 e7 => ⟨j + 2, _, rfl, ((e04.trans e5).trans e6).trans e7, by omega, by rw [hd2]; exact hj⟩
        · rw [if_neg (of_decide_eq_false hb6)] at hj
          have e06 := (e04.trans e5).trans e6
          refine s_if (b := decide ((c :: rs).take f.q.length = f.q)) (et_is (et_test (ev_op (ev_slNN f.q.length (ev_var rfl) (ev_var rfl) (ev_op (ev_var rfl) (qlen rfl) rv_I0) hl') (ev_var rfl) rv_eqS)) (by rw [hdr])) (fun hb7 H7 e7 => ?_) (fun hb7 H7 e7 => ?_)
          · rw [if_pos (of_decide_eq_true hb7)] at hj
            rw [hj] at k
            exact s_ret (ev_var rfl) fun H8 e8 => k _ ((e06.trans e7).trans e8)
          · rw [if_neg (of_decide_eq_false hb7)] at hj
            refine s_if (b := decide (c = 10) && decide (f.q.length = 1)) (et_and (et_is (et_test (ev_op (sg rfl rfl) (ev_cS (l := [10]) rfl) rv_eqS)) (sgn_eq c 10)) fun _ => et_is (et_test (ev_op (qlen rfl) ev_c rv_eqI)) (decide_eq_decide.mpr (by omega))) (fun hb8 H8 e8 => ?_) (fun hb8 H8 e8 => ?_)
            · have hcc2 : c = 10 ∧ f.q.length = 1 := by simpa using hb8
              rw [if_pos hcc2] at hj
              rw [hj] at k
              exact s_ret ev_c fun H9 e9 => k _ (((e06.trans e7).trans e8).trans e9)
            · have hcc2 : ¬ (c = 10 ∧ f.q.length = 1) := fun z => by rw [decide_eq_true z.1, decide_eq_true z.2] at hb8; cases hb8
              rw [if_neg hcc2] at hj
              have e08 := (e06.trans e7).trans e8
              have hv8 := (Ke.of e08).fr hv
              have r8 := r.ex e08
              have brc : ∀ {H' : Hp} {σ : L2.St}, σ[2]? = some (some (.str (S s.text))) → σ[4]? = some (some (.int (j : Int))) → EvT (tTest (tOp (fun x y H Q => ∃ (c : Nat) (z : Str), x = .str ⟨#[c]⟩ ∧ y = .str z ∧ Q (.bl (decide (c ∈ z.cps.toList))) H) (tOp rIxS (tVar 2) (tVar 4)) (tC (.str "{}")))) σ H' (decide (c = 123 ∨ c = 125)) := fun h1 h2 => et_is (et_test (ev_op (sg h1 h2) ev_c rv_inS)) (decide_eq_decide.mpr (by show c ∈ ([123, 125] : List Nat) ↔ _; simp))
              have isS : ∀ {H' : Hp} {σ : L2.St}, Ex H8 H' → σ[1]? = some (some v) → EvT (tTest (tOp rEq (tFld K (tVar 1) "mark") (tC (.str "string")))) σ H' f.mark.isStr := fun e h => et_is (et_test (ev_op (ev_mark t ((Ke.of e).fr hv8) (ev_var h)) ev_c (rv_eq rfl))) (mark_S _)
              have dbl : decide ((c :: rs).take 2 = List.replicate 2 c) = decide (rs.head? = some c) := decide_eq_decide.mpr (by cases rs <;> simp [List.replicate])
              refine s_if (b := decide (c = 123 ∨ c = 125) && (f.mark.isStr && decide (rs.head? = some c))) (et_and (brc rfl rfl) fun _ => et_and (isS (Ex.refl _) rfl) fun _ => et_is (et_test (ev_op (ev_var rfl) (ev_mulC 2 (sg rfl rfl) (by decide)) rv_eqS)) dbl) (fun hb9 H9 e9 => ?_) (fun hb9 H9 e9 => ?_)
              · have hcc3 : (c = 123 ∨ c = 125) ∧ f.mark.isStr = true ∧ rs.head? = some c := by simpa using hb9
                rw [if_pos hcc3] at hj
                exact s_aug rfl ev_c fun H10 e10 => ⟨j + 2, _, rfl, (e08.trans e9).trans e10, by omega, by rw [hd2]; exact hj⟩
              · have hcc3 : ¬ ((c = 123 ∨ c = 125) ∧ f.mark.isStr = true ∧ rs.head? = some c) := fun z => by rw [decide_eq_true z.1, z.2.1, decide_eq_true z.2.2] at hb9; cases hb9
                rw [if_neg hcc3] at hj
                have e09 := e08.trans e9
                have lenr : decide ((((c :: rs).take 2).length : Int) = 1) = decide (rs = []) := decide_eq_decide.mpr (by cases rs <;> simp)
                refine s_if (b := decide (c = 123 ∨ c = 125) && (f.mark.isStr && (decide (rs = []) && !s.fin))) (et_and (brc rfl rfl) fun _ => et_and (isS e9 rfl) fun _ => et_and (et_is (et_test (ev_op (ev_cb (ea_cons (ev_var rfl) ea_nil) (rc_lenS (l := (c :: rs).take 2) (by have := List.length_take_le 2 (c :: rs); omega))) ev_c rv_eqI)) lenr) fun _ => et_not (et_B (ev_fin t (r8.ex e9) (ev_var rfl)))) (fun hb10 H10 e10 => ?_) (fun hb10 H10 e10 => ?_)
                · have hcc4 : (c = 123 ∨ c = 125) ∧ f.mark.isStr = true ∧ rs = [] ∧ s.fin = false := by simpa using hb10
                  rw [if_pos hcc4] at hj
                  rw [hj] at k
                  exact s_ret ev_c fun H11 e11 => k _ ((e09.trans e10).trans e11)
                · have hcc4 : ¬ ((c = 123 ∨ c = 125) ∧ f.mark.isStr = true ∧ rs = [] ∧ s.fin = false) := fun z => by rw [decide_eq_true z.1, z.2.1, decide_eq_true z.2.2.1, z.2.2.2] at hb10; cases hb10
                  rw [if_neg hcc4] at hj
                  refine s_if (brc rfl rfl) (fun hb11 H11 e11 => ?_) (fun hb11 H11 e11 => ?_)
                  · rw [if_pos (of_decide_eq_true hb11)] at hj
                    rw [hj] at k
                    exact s_ret (ev_var rfl) fun H12 e12 => k _ (((e09.trans e10).trans e11).trans e12)
                  · rw [if_neg (of_decide_eq_false hb11)] at hj
                    exact s_aug rfl ev_c fun H12 e12 => ⟨j + 1, _, rfl, ((e09.trans e10).trans e11).trans e12, by omega, by rw [← hrs]; exact hj⟩
    · have hge : s.text.length ≤ j := by have := of_decide_eq_false hb; omega
      rw [hj, List.drop_of_length_le hge, Sc.partGo] at k
      have r3 := r.ex (e2.trans e3)
      refine s_ret (v := .int (if s.fin = true then -2 else -1)) (ev_if (et_B (ev_fin t r3 (ev_var rfl))) (fun z => ?_) (fun z => ?_)) fun H4 e4 => k _ ((e2.trans e3).trans e4)
      · rw [if_pos z]; exact ev_c
      · rw [if_neg (by rw [z]; exact Bool.false_ne_true)]; exact ev_c

def sp_Scanner_end_format (_ : PySem.W.Frag) (a : Ads) : Sp := fun vs H Q _ => ∃ (o : Own) (s : Sc) (f : Frm) (v : V), vs = [.ref o.x, v] ∧ Rp a.C_Scanner a.C_Frame o H s ∧ Ok s ∧ FrV a.C_Frame H v f ∧ (∃ fs, s.fr = f :: fs) ∧ (f.mark = .str ∨ f.mark = .fmt) ∧ Does a.C_Scanner a.C_Frame o H (s.endFormat f).1 (.bl (s.endFormat f).2) Q
theorem ok_Scanner_end_format {P : Program} {w : World} {K : PySem.W.Frag} {mg : Str → Option Value} {base : Heap} {a : Ads} (T : Txt w K mg a) (G_Scanner_fail : FnOk P w K mg base CX0 1 a.Scanner_fail a.d_Scanner_fail ["self", "kind", "at"] (sp_Scanner_fail K a)) (G_Scanner_add : FnOk P w K mg base CX0 1 a.Scanner_add a.d_Scanner_add ["self", "kind", "end"] (sp_Scanner_add K a)) :
    FnOk P w K mg base CX0 2 a.Scanner_end_format a.d_Scanner_end_format ["self", "frame"] (sp_Scanner_end_format K a) := by
  refine T.F_Scanner_end_format.ok sc_Scanner_end_format (fun vs H Q E h => ?_) (fun cdv A outer s H vs Q E hr h => ?_)
  · obtain ⟨_, _, _, _, rfl, _⟩ := h; rfl
  · obtain ⟨o, s, f, v, rfl, r, ok, hv, ⟨fs, hf⟩, hm, k⟩ := h
    refine ⟨_, (pss_cons (ps_if (pt_cmpR op_eq (pe_fld (pv 1) rfl) pe_str (nomark _)) (pss_one (ps_ret (pe_meth (pv 0) T.c_Scanner T.t_Scanner_fail G_Scanner_fail (hr.mono (by decide)) T.b_Scanner_fail .nil pass0 (pa_cons pe_str (pa_cons (pe_fld (pv 0) rfl) pa_nil))))) pss_nil)
      (pss_cons (ps_delTail (pe_fld (pv 0) rfl) (pe_un un_neg pe_int))
      (pss_cons (ps_expr (pe_meth (pv 0) T.c_Scanner T.t_Scanner_add G_Scanner_add (hr.mono (by decide)) T.b_Scanner_add .nil pass0 (pa_cons pe_str (pa_cons (pe_op op_add (pe_fld (pv 0) rfl) pe_int) pa_nil))))
      (pss_one (ps_ret pe_bl))))), ?_⟩
    have t := scT T
    unfold Sc.endFormat at k
    refine q_when (b := decide (f.mark = .str)) (et_is (et_test (ev_op (ev_mark t hv (ev_var rfl)) ev_c (rv_eq rfl))) (mark_str _)) (fun hb H1 e1 => ?_) (fun hb H1 e1 => ?_)
    · rw [if_pos (of_decide_eq_true hb)] at k
      have r1 := r.ex e1
      exact r_fail r1 (ev_var rfl) ev_c (ev_pos t r1 (ev_var rfl)) (KO.of e1) k
    · rw [if_neg (of_decide_eq_false hb)] at k
      have hfm : f.mark = .fmt := hm.resolve_left (of_decide_eq_false hb)
      obtain ⟨g, gs, hgs⟩ : ∃ g gs, fs = g :: gs := by
        have z := ok.fr
        rw [hf] at z
        have z2 := z.2.2
        rw [hfm] at z2
        obtain ⟨_, g, gs, e, _⟩ := z2
        exact ⟨g, gs, e⟩
      rw [hgs] at hf
      have r1 := r.ex e1
      refine q_delFr2 t r1 hf (ev_var rfl) (ev_un ev_c ru_neg) fun H2 k2 r2 => ?_
      refine q_add (e := s.at_ + 1) r2 ⟨ok.hl, (Ok.bd ok).2⟩ (ev_var rfl) ev_c (ev_op (ev_pos t r2 (ev_var rfl)) ev_c rv_I0) fun H3 k3 r3 => ?_
      have e : s.fr.drop 2 = gs := by rw [hf]; rfl
      rw [e] at k
      exact s_ret ev_c fun H4 e4 => k _ ((((KO.of e1).trans k2).trans k3).trans (KO.of e4)) (r3.ex e4)
def sp_Scanner_read_part (_ : PySem.W.Frag) (a : Ads) : Sp := fun vs H Q _ => ∃ (o : Own) (s : Sc) (f : Frm) (v : V), vs = [.ref o.x, v] ∧ Rp a.C_Scanner a.C_Frame o H s ∧ Ok s ∧ s.over = false ∧ FrV a.C_Frame H v f ∧ (∃ fs, s.fr = f :: fs) ∧ (f.mark = .str ∨ f.mark = .fmt) ∧ Does a.C_Scanner a.C_Frame o H (s.readPart f).1 (.bl (s.readPart f).2) Q
theorem ok_Scanner_read_part {P : Program} {w : World} {K : PySem.W.Frag} {mg : Str → Option Value} {base : Heap} {a : Ads} (T : Txt w K mg a) (G_Scanner_part_end : FnOk P w K mg base CX0 1 a.Scanner_part_end a.d_Scanner_part_end ["self", "frame"] (sp_Scanner_part_end K a)) (G_Scanner_fail : FnOk P w K mg base CX0 1 a.Scanner_fail a.d_Scanner_fail ["self", "kind", "at"] (sp_Scanner_fail K a)) (G_Scanner_add_part : FnOk P w K mg base CX0 2 a.Scanner_add_part a.d_Scanner_add_part ["self", "end"] (sp_Scanner_add_part K a)) (G_Scanner_open_bracket : FnOk P w K mg base CX0 3 a.Scanner_open_bracket a.d_Scanner_open_bracket ["self", "mark", "quote"] (sp_Scanner_open_bracket K a)) (G_Scanner_end_format : FnOk P w K mg base CX0 2 a.Scanner_end_format a.d_Scanner_end_format ["self", "frame"] (sp_Scanner_end_format K a)) (G_Scanner_add : FnOk P w K mg base CX0 1 a.Scanner_add a.d_Scanner_add ["self", "kind", "end"] (sp_Scanner_add K a)) :
    FnOk P w K mg base CX0 4 a.Scanner_read_part a.d_Scanner_read_part ["self", "frame"] (sp_Scanner_read_part K a) := by
  refine T.F_Scanner_read_part.ok sc_Scanner_read_part (fun vs H Q E h => ?_) (fun cdv A outer s H vs Q E hr h => ?_)
  · obtain ⟨_, _, _, _, rfl, _⟩ := h; rfl
  · obtain ⟨o, s, f, v, rfl, r, ok, ho, hv, ⟨fs, hf⟩, hm, k⟩ := h
    refine ⟨_, (pss_cons (ps_set (i := 2) sc_Scanner_read_part.nd rfl (Or.inl rfl) (pe_meth (pv 0) T.c_Scanner T.t_Scanner_part_end G_Scanner_part_end (hr.mono (by decide)) T.b_Scanner_part_end .nil pass0 (pa_cons (pv 1) pa_nil)))
      (pss_cons (ps_if (pt_cmpR op_eq (pv 2) (pe_gint T.m_MORE) (nomark _)) (pss_one (ps_ret pe_bl)) pss_nil)
      (pss_cons (ps_if (pt_cmpR op_eq (pv 2) (pe_gint T.m_WRONG) (nomark _)) (pss_cons (ps_set (i := 3) sc_Scanner_read_part.nd rfl (Or.inl rfl) (pe_ix ix_list (pe_lc (own := [("other", 4)]) (g := gName 4) rfl sc_Scanner_read_part.nd (pi_list (pe_fld (pv 0) rfl)) (blkOk_by (N := N_Scanner_read_part) (sc := defScope s_Scanner_read_part) (by decide +kernel)) (fun _ _ _ _ _ => (pg_name (i := 4) sc_Scanner_read_part.nd rfl (Or.inl rfl))) (fun _ _ _ _ _ => (pts_one (pt_cmpR op_eq (pe_fldK (K := K) rfl (pv 4) rfl) pe_str (nomark _)))) (fun _ _ _ _ _ => (pv 4))) (pe_un un_neg pe_int) (fun _ _ => rfl)))
      (pss_one (ps_ret (pe_meth (pv 0) T.c_Scanner T.t_Scanner_fail G_Scanner_fail (hr.mono (by decide)) T.b_Scanner_fail .nil pass0 (pa_cons (pe_ifExp (pt_cmpR op_eq (pe_callB call_len_str (by rfl) T.n_len b_len (pa_cons (pe_fld (pv 1) rfl) pa_nil)) pe_int (nomark _)) pe_str pe_str) (pa_cons (pe_fld (pv 3) rfl) pa_nil)))))) pss_nil)
      (pss_cons (ps_expr (pe_meth (pv 0) T.c_Scanner T.t_Scanner_add_part G_Scanner_add_part (hr.mono (by decide)) T.b_Scanner_add_part .nil pass0 (pa_cons (pv 2) pa_nil)))
      (pss_cons (ps_if (pt_cmpR op_eq (pe_ix ix_str (pe_fld (pv 0) rfl) (pv 2) (fun _ _ => rfl)) pe_str (nomark _)) (pss_one (ps_ret (pe_meth (pv 0) T.c_Scanner T.t_Scanner_open_bracket G_Scanner_open_bracket (hr.mono (by decide)) T.b_Scanner_open_bracket .nil pass0 (pa_cons pe_str (pa_cons (pe_fld (pv 1) rfl) pa_nil))))) pss_nil)
      (pss_cons (ps_if (pt_cmpR op_eq (pe_ix ix_str (pe_fld (pv 0) rfl) (pv 2) (fun _ _ => rfl)) pe_str (nomark _)) (pss_one (ps_ret (pe_meth (pv 0) T.c_Scanner T.t_Scanner_end_format G_Scanner_end_format (hr.mono (by decide)) T.b_Scanner_end_format .nil pass0 (pa_cons (pv 1) pa_nil)))) pss_nil)
      (pss_cons (ps_if (pt_cmpR op_eq (pe_fld (pv 1) rfl) pe_str (nomark _)) (pss_one (ps_ret (pe_meth (pv 0) T.c_Scanner T.t_Scanner_fail G_Scanner_fail (hr.mono (by decide)) T.b_Scanner_fail .nil pass0 (pa_cons pe_str (pa_cons (pe_fld (pv 1) rfl) pa_nil))))) pss_nil)
      (pss_cons (ps_delL (pe_fld (pv 0) rfl) (pe_un un_neg pe_int))
      (pss_cons (ps_expr (pe_meth (pv 0) T.c_Scanner T.t_Scanner_add G_Scanner_add (hr.mono (by decide)) T.b_Scanner_add .nil pass0 (pa_cons pe_str (pa_cons (pe_op op_add (pv 2) (pe_callB call_len_str (by rfl) T.n_len b_len (pa_cons (pe_fld (pv 1) rfl) pa_nil))) pa_nil))))
      (pss_one (ps_ret pe_bl))))))))))), ?_⟩
    have t := scT T
    have hl := ok.hl
    have hfn : s.fr.length ≤ 20000 := by have := ok.frn; have := ok.ha; omega
    have hok := ok.fr
    rw [hf] at hok
    have hq3 := hok.2.1
    unfold Sc.readPart at k
    dsimp only at k
    refine q_asg (ev_meth r (ev_var rfl) (fun _ => rfl) (ea_cons (ev_var rfl) ea_nil) (fun H1 e1 Q' q' E' => ⟨o, s, f, v, rfl, r.ex e1, hl, hq3, (Ke.of e1).fr hv, fun H2 e2 => q' H2 e2⟩)) fun H1 e1 => ?_
    have hcase := partEnd_le (f := f) ok
    generalize s.partEnd f = e at *
    have r1 := r.ex e1
    have hv1 := (Ke.of e1).fr hv
    refine q_when (b := decide (e = -1)) (et_test (ev_op (ev_var rfl) ev_c rv_eqI)) (fun hb2 H2 e2 => ?_) (fun hb2 H2 e2 => ?_)
    · rw [if_pos (of_decide_eq_true hb2)] at k
      exact s_ret ev_c fun H3 e3 => k _ (KO.of ((e1.trans e2).trans e3)) (r1.ex (e2.trans e3))
    · rw [if_neg (of_decide_eq_false hb2)] at k
      have r2 := r1.ex e2
      have hv2 := (Ke.of e2).fr hv1
      refine q_when (b := decide (e = -2)) (et_test (ev_op (ev_var rfl) ev_c rv_eqI)) (fun hb3 H3 e3 => ?_) (fun hb3 H3 e3 => ?_)
      · rw [if_pos (of_decide_eq_true hb3)] at k
        have r3 := r2.ex e3
        have hv3 := (Ke.of e3).fr hv2
        have hst : ∃ g ∈ s.fr, g.mark = .str := by rw [hf]; exact fr_has_str _ (Nat.le_refl _) hok hm
        obtain ⟨u, g, hu, hga, ev⟩ := ev_begunF (K := K) (σ := [some (.ref o.x), some v, some (.int e), none, none]) (ta := tVar 0) (j := 4) (vs0 := [4]) t r3 (ev_var rfl) (by omega) hst (fun _ => rfl) (fun _ => rfl)
        refine q_asg ev fun H4 e4 => ?_
        have r4 := r3.ex e4
        have hv4 := (Ke.of e4).fr hv3
        rw [← hga] at k
        refine r_fail r4 (ev_var rfl) (ev_if (b := decide (f.q.length = 1)) (v := .str (if f.q.length = 1 then "string" else "triple")) (et_is (et_test (ev_op (ev_cb (ea_cons (ev_quote t hv4 (ev_var rfl)) ea_nil) (rc_lenS (by omega))) ev_c rv_eqI)) (decide_eq_decide.mpr (by omega))) (fun z => ?_) (fun z => ?_)) (ev_fat t ((Ke.of e4).fr hu) (ev_var rfl)) (KO.of (((e1.trans e2).trans e3).trans e4)) k
        · rw [if_pos (of_decide_eq_true z)]; exact ev_c
        · rw [if_neg (of_decide_eq_false z)]; exact ev_c
      · rw [if_neg (of_decide_eq_false hb3)] at k
        obtain ⟨n, rfl, hn1, hn2⟩ : ∃ n : Nat, e = n ∧ s.at_ ≤ n ∧ n < s.text.length := by
          rcases hcase with (z | z) | z
          · exact absurd z (of_decide_eq_false hb3)
          · exact absurd z (of_decide_eq_false hb2)
          · exact z
        rw [Int.toNat_natCast] at k
        have r3 := r2.ex e3
        have e03 := (e1.trans e2).trans e3
        refine q_meth r3 (ev_var rfl) (fun _ => rfl) (ea_cons (ev_var rfl) ea_nil) fun H4 e4 r4 => ⟨o, s, n, rfl, r4, Ok.bd ok, fun H5 k5 r5 => ?_⟩
        have k05 := (KO.of (o := o) (e03.trans e4)).trans k5
        have hv5 := k05.fr r hv
        obtain ⟨g, go, gt, ga, gf, _⟩ := addPart_eq (e := n) ok ho hn1 (Nat.le_of_lt hn2)
        obtain ⟨s1, hs1⟩ : ∃ s1, s1 = s.addPart n := ⟨_, rfl⟩
        rw [← hs1] at k r5 g go gt ga gf
        have hl1 := g.hl
        obtain ⟨c, hc⟩ : ∃ c, s1.text[n]? = some c := ⟨_, List.getElem?_eq_getElem (by rw [gt]; exact hn2)⟩
        have hct : s.text[n]? = some c := by rw [← gt]; exact hc
        rw [hct] at k
        refine q_when (b := decide (c = 123)) (et_is (et_test (ev_op (ev_sign t r5 (ev_var rfl) hl1 (ev_var rfl) hc) (ev_cS (l := [123]) rfl) rv_eqS)) (sgn_eq c 123)) (fun hb6 H6 e6 => ?_) (fun hb6 H6 e6 => ?_)
        · have h123 := of_decide_eq_true hb6
          subst h123
          have r6 := r5.ex e6
          exact r_meth r6 (ev_var rfl) (fun _ => rfl) (ea_cons ev_c (ea_cons (ev_quote t ((Ke.of e6).fr hv5) (ev_var rfl)) ea_nil)) fun H7 e7 r7 => ⟨o, s1, .fld, f.q, rfl, r7, g, k.go (k05.trans (KO.of (e6.trans e7)))⟩
        · have h123 := of_decide_eq_false hb6
          have r6 := r5.ex e6
          refine q_when (b := decide (c = 125)) (et_is (et_test (ev_op (ev_sign t r6 (ev_var rfl) hl1 (ev_var rfl) hc) (ev_cS (l := [125]) rfl) rv_eqS)) (sgn_eq c 125)) (fun hb7 H7 e7 => ?_) (fun hb7 H7 e7 => ?_)
          · have h125 := of_decide_eq_true hb7
            subst h125
            exact r_meth (r6.ex e7) (ev_var rfl) (fun _ => rfl) (ea_cons (ev_var rfl) ea_nil) fun H8 e8 r8 => ⟨o, s1, f, v, rfl, r8, g, (Ke.of ((e6.trans e7).trans e8)).fr hv5, ⟨fs, by rw [gf, hf]⟩, hm, k.go (k05.trans (KO.of ((e6.trans e7).trans e8)))⟩
          · have h125 := of_decide_eq_false hb7
            have k2 : Does a.C_Scanner a.C_Frame o H (if f.mark = .fmt then (s1.failed "open" f.at_, false) else (Sc.add { s1 with fr := s1.fr.drop 1 } "FSTRING_END" (n + f.q.length), true)).1 (.bl (if f.mark = .fmt then (s1.failed "open" f.at_, false) else (Sc.add { s1 with fr := s1.fr.drop 1 } "FSTRING_END" (n + f.q.length), true)).2) Q := by
              revert k
              split
              · rename_i z; cases z; exact absurd rfl h123
              · rename_i z; cases z; exact absurd rfl h125
              · exact fun z => z
            clear k
            have r7 := r6.ex e7
            have hv7 := (Ke.of (e6.trans e7)).fr hv5
            refine q_when (b := decide (f.mark = .fmt)) (et_is (et_test (ev_op (ev_mark t hv7 (ev_var rfl)) ev_c (rv_eq rfl))) (mark_fmt _)) (fun hb8 H8 e8 => ?_) (fun hb8 H8 e8 => ?_)
            · rw [if_pos (of_decide_eq_true hb8)] at k2
              exact r_fail (r7.ex e8) (ev_var rfl) ev_c (ev_fat t ((Ke.of e8).fr hv7) (ev_var rfl)) (k05.trans (KO.of ((e6.trans e7).trans e8))) k2
            · rw [if_neg (of_decide_eq_false hb8)] at k2
              have r8 := r7.ex e8
              have hv8 := (Ke.of e8).fr hv7
              have hf1 : s1.fr = f :: fs := by rw [gf, hf]
              have hdr : s1.fr.drop 1 = fs := by rw [hf1]; rfl
              rw [hdr] at k2
              refine q_delFr t r8 hf1 (ev_var rfl) (ev_un ev_c ru_neg) fun H9 k9 r9 => ?_
              have hv9 := k9.fr r8 hv8
              refine q_add (e := n + f.q.length) r9 ⟨hl1, (Ok.bd g).2⟩ (ev_var rfl) ev_c (ev_op (ev_var rfl) (ev_cb (ea_cons (ev_quote t hv9 (ev_var rfl)) ea_nil) (rc_lenS (by omega))) rv_I0) fun H10 k10 r10 => ?_
              exact s_ret ev_c fun H11 e11 => k2 _ ((((k05.trans (KO.of ((e6.trans e7).trans e8))).trans k9).trans k10).trans (KO.of e11)) (r10.ex e11)
def sp_Scanner_read_step (_ : PySem.W.Frag) (a : Ads) : Sp := fun vs H Q _ => ∃ (o : Own) (s : Sc), vs = [.ref o.x] ∧ Rp a.C_Scanner a.C_Frame o H s ∧ Ok s ∧ s.over = false ∧ Does a.C_Scanner a.C_Frame o H (Sc.step s).1 (.bl (Sc.step s).2) Q
theorem ok_Scanner_read_step {P : Program} {w : World} {K : PySem.W.Frag} {mg : Str → Option Value} {base : Heap} {a : Ads} (T : Txt w K mg a) (G_Scanner_read_part : FnOk P w K mg base CX0 4 a.Scanner_read_part a.d_Scanner_read_part ["self", "frame"] (sp_Scanner_read_part K a)) (G_Scanner_read_indentation : FnOk P w K mg base CX0 4 a.Scanner_read_indentation a.d_Scanner_read_indentation ["self"] (sp_Scanner_read_indentation K a)) (G_Scanner_finish : FnOk P w K mg base CX0 2 a.Scanner_finish a.d_Scanner_finish ["self"] (sp_Scanner_finish K a)) (G_Scanner_read_join : FnOk P w K mg base CX0 2 a.Scanner_read_join a.d_Scanner_read_join ["self"] (sp_Scanner_read_join K a)) (G_Scanner_read_comment : FnOk P w K mg base CX0 2 a.Scanner_read_comment a.d_Scanner_read_comment ["self"] (sp_Scanner_read_comment K a)) (G_Scanner_read_line_feed : FnOk P w K mg base CX0 2 a.Scanner_read_line_feed a.d_Scanner_read_line_feed ["self"] (sp_Scanner_read_line_feed K a)) (G_Scanner_read_lexeme : FnOk P w K mg base CX0 5 a.Scanner_read_lexeme a.d_Scanner_read_lexeme ["self", "character"] (sp_Scanner_read_lexeme K a)) :
    FnOk P w K mg base CX0 6 a.Scanner_read_step a.d_Scanner_read_step ["self"] (sp_Scanner_read_step K a) := by
  refine T.F_Scanner_read_step.ok sc_Scanner_read_step (fun vs H Q E h => ?_) (fun cdv A outer s H vs Q E hr h => ?_)
  · obtain ⟨_, _, rfl, _⟩ := h; rfl
  · obtain ⟨o, s, rfl, r, ok, ho, k⟩ := h
    refine ⟨_, (pss_cons (ps_if (PW.pt (pw_and (pt_cmpR (op_neE (u00 hr)) (pe_fld (pv 0) rfl) (pe_lst pa_nil) (nomark _)) (pw_and1 (pt_cmpR op_in_seq (pe_fld (pe_ix ix_list (pe_fld (pv 0) rfl) (pe_un un_neg pe_int) (fun _ _ => rfl)) rfl) (pe_tup (pa_cons pe_str (pa_cons pe_str pa_nil))) (by rfl))))) (pss_one (ps_ret (pe_meth (pv 0) T.c_Scanner T.t_Scanner_read_part G_Scanner_read_part (hr.mono (by decide)) T.b_Scanner_read_part .nil pass0 (pa_cons (pe_ix ix_list (pe_fld (pv 0) rfl) (pe_un un_neg pe_int) (fun _ _ => rfl)) pa_nil)))) pss_nil)
      (pss_cons (ps_if (PW.pt (pw_and (pt_val (pe_fld (pv 0) rfl)) (pw_and1 (pt_cmpR (op_eqE (u00 hr)) (pe_fld (pv 0) rfl) (pe_lst pa_nil) (nomark _))))) (pss_one (ps_ret (pe_meth0 (pv 0) T.c_Scanner T.t_Scanner_read_indentation G_Scanner_read_indentation (hr.mono (by decide)) T.b_Scanner_read_indentation .nil pass0))) pss_nil)
      (pss_cons (ps_while PassesOwn.never (PW.pt (pw_and (pt_cmpR op_lt (pe_fld (pv 0) rfl) (pe_callB call_len_str (by rfl) T.n_len b_len (pa_cons (pe_fld (pv 0) rfl) pa_nil)) (nomark _)) (pw_and1 (pt_cmpR op_in_sign (pe_ix ix_str (pe_fld (pv 0) rfl) (pe_fld (pv 0) rfl) (fun _ _ => rfl)) (pe_gstr T.m_GAPS) rfl)))) (pss_cons (ps_fldaug (pv 0) pe_int in_add)
      (pss_one (ps_fld (pv 0) (pe_un un_neg pe_int) rfl))))
      (pss_cons (ps_if (pt_cmpR op_eq (pe_fld (pv 0) rfl) (pe_callB call_len_str (by rfl) T.n_len b_len (pa_cons (pe_fld (pv 0) rfl) pa_nil)) (nomark _)) (pss_one (ps_ret (pe_and (pe_fld (pv 0) rfl) (pe_one (pe_meth0 (pv 0) T.c_Scanner T.t_Scanner_finish G_Scanner_finish (hr.mono (by decide)) T.b_Scanner_finish .nil pass0))))) pss_nil)
      (pss_cons (ps_set (i := 1) sc_Scanner_read_step.nd rfl (Or.inl rfl) (pe_ix ix_str (pe_fld (pv 0) rfl) (pe_fld (pv 0) rfl) (fun _ _ => rfl)))
      (pss_cons (ps_if (pt_cmpR op_eq (pv 1) pe_str (nomark _)) (pss_one (ps_ret (pe_meth0 (pv 0) T.c_Scanner T.t_Scanner_read_join G_Scanner_read_join (hr.mono (by decide)) T.b_Scanner_read_join .nil pass0))) pss_nil)
      (pss_cons (ps_if (pt_cmpR op_eq (pv 1) pe_str (nomark _)) (pss_one (ps_ret (pe_meth0 (pv 0) T.c_Scanner T.t_Scanner_read_comment G_Scanner_read_comment (hr.mono (by decide)) T.b_Scanner_read_comment .nil pass0))) pss_nil)
      (pss_cons (ps_if (pt_cmpR op_eq (pv 1) pe_str (nomark _)) (pss_cons (ps_expr (pe_meth0 (pv 0) T.c_Scanner T.t_Scanner_read_line_feed G_Scanner_read_line_feed (hr.mono (by decide)) T.b_Scanner_read_line_feed .nil pass0))
      (pss_one (ps_ret pe_bl))) pss_nil)
      (pss_one (ps_ret (pe_meth (pv 0) T.c_Scanner T.t_Scanner_read_lexeme G_Scanner_read_lexeme (hr.mono (by decide)) T.b_Scanner_read_lexeme .nil pass0 (pa_cons (pv 1) pa_nil)))))))))))), ?_⟩
    have t := scT T
    have hl := ok.hl
    unfold Sc.step at k
    have tst : EvT (tAnd (tTest (tOp (rNeE K) (tFld K (tVar 0) "frames") (tLst tNil))) (tTest (tOp (rIn K false) (tFld K (tOp (rIxL K) (tFld K (tVar 0) "frames") (tUn (rU fun i => .int (-i)) (tC (.int 1)))) "mark") (tTup (tCons (tC (.str "string")) (tCons (tC (.str "format")) tNil)))))) [some (.ref o.x), none] H s.topPart.isSome := by
      cases hf : s.fr with
      | nil =>
        have e : s.topPart.isSome = (false && true) := by unfold Sc.topPart; rw [hf]; rfl
        rw [e]
        exact et_and (et_is (et_test (ev_frNe t r (ev_var rfl))) (by rw [hf]; rfl)) (fun z => nomatch z)
      | cons f fs =>
        obtain ⟨v, hv, ev⟩ := ev_top (K := K) (σ := [some (.ref o.x), none]) (ta := tVar 0) t r (ev_var rfl) hf
        have e : s.topPart.isSome = (true && decide (f.mark = .str ∨ f.mark = .fmt)) := by
          unfold Sc.topPart
          rw [hf]
          dsimp only
          by_cases z : f.mark = .str ∨ f.mark = .fmt
          · rw [if_pos z, decide_eq_true z]; rfl
          · rw [if_neg z, decide_eq_false z]; rfl
        rw [e]
        exact et_and (et_is (et_test (ev_frNe t r (ev_var rfl))) (by rw [hf]; rfl)) fun _ => et_is (et_test (ev_inU (K := K) (ev_mark t hv ev) (eu_tup (ea_cons ev_c (ea_cons ev_c ea_nil)) (by decide)) rfl rfl)) (mark_part _)
    refine q_when tst (fun hb H1 e1 => ?_) (fun hb H1 e1 => ?_)
    · obtain ⟨f, hf⟩ := Option.isSome_iff_exists.mp hb
      obtain ⟨fs, hfs, hm⟩ := topPart_some hf
      rw [hf] at k
      have r1 := r.ex e1
      obtain ⟨v, hv, ev⟩ := ev_top (K := K) (σ := [some (.ref o.x), none]) (ta := tVar 0) t r1 (ev_var rfl) hfs
      exact r_meth r1 (ev_var rfl) (fun _ => rfl) (ea_cons ev ea_nil) fun H2 e2 r2 => ⟨o, s, f, v, rfl, r2, ok, ho, (Ke.of e2).fr hv, ⟨fs, hfs⟩, hm, k.go (KO.of (e1.trans e2))⟩
    · have hno : s.topPart = none := by
        cases z : s.topPart with
        | none => rfl
        | some f => rw [z] at hb; cases hb
      rw [hno] at k
      dsimp only at k
      have r1 := r.ex e1
      refine q_when (b := s.fresh && decide (s.fr = [])) (et_and (et_B (ev_fresh t r1 (ev_var rfl))) fun _ => et_test (ev_frEq t r1 (ev_var rfl))) (fun hb2 H2 e2 => ?_) (fun hb2 H2 e2 => ?_)
      · have hcc : s.fresh = true ∧ s.fr = [] := by simpa using hb2
        rw [if_pos hcc] at k
        exact r_meth (r1.ex e2) (ev_var rfl) (fun _ => rfl) ea_nil fun H3 e3 r3 => ⟨o, s, rfl, r3, ok, ho, k.go (KO.of ((e1.trans e2).trans e3))⟩
      · have hcc : ¬ (s.fresh = true ∧ s.fr = []) := fun z => by rw [z.1, decide_eq_true z.2] at hb2; cases hb2
        rw [if_neg hcc] at k
        have r2 := r1.ex e2
        obtain ⟨gok, gov, gtx, gle, gfr, gfs, gat⟩ := skip_eq ok ho
        have hge := runEnd_ge (p := isG) (l := s.text) (j := s.at_)
        have hle := runEnd_le (p := isG) ok.ha
        -- the gap
        refine q_while (fun m σ' H' => ∃ (s' : Sc), σ' = [some (.ref o.x), none] ∧ KO o H H' ∧ Rp a.C_Scanner a.C_Frame o H' s' ∧ s'.text = s.text ∧ s'.at_ ≤ s.text.length ∧ m = s.text.length - s'.at_ ∧ s'.skip = s.skip) (s.text.length - s.at_) ⟨s, rfl, KO.of (e1.trans e2), r2, rfl, ok.ha, rfl, rfl⟩ ?_
        rintro m σ' H3 ⟨s', rfl, k3, r3, htx, hat, hm, hsk⟩
        have hl' : s'.text.length ≤ 20000 := by rw [htx]; exact hl
        have lt := et_test (ev_op (σ := [some (.ref o.x), none]) (H := H3) (ev_pos t r3 (ev_var (i := 0) rfl)) (ev_len t r3 (ev_var (i := 0) rfl) hl') (rv_I0 (g := fun i j => .bl (decide (i < j)))))
        by_cases hlt : ∃ c, s'.text[s'.at_]? = some c ∧ isG c = true
        · obtain ⟨c, hc, hgc⟩ := hlt
          have h1 := (List.getElem?_eq_some_iff.mp hc).1
          refine ⟨true && true, et_and (et_is lt (decide_eq_true (by omega))) fun _ => et_is (et_test (ev_op (ev_sign t r3 (ev_var rfl) hl' (ev_pos t r3 (ev_var rfl)) hc) ev_c rv_inS)) hgc, fun _ H4 e4 => ?_, fun z => nomatch z⟩
          refine ⟨fun σ2 H2' => ∃ (s'' : Sc), σ2 = [some (.ref o.x), none] ∧ KO o H H2' ∧ Rp a.C_Scanner a.C_Frame o H2' s'' ∧ s''.text = s.text ∧ s''.at_ ≤ s.text.length ∧ s'.at_ < s''.at_ ∧ s''.skip = s.skip, fun σ2 H2' ⟨s'', a1, a2, a3, a4, a5, a6, a7⟩ => ⟨s.text.length - s''.at_, by omega, s'', a1, a2, a3, a4, a5, rfl, a7⟩, ?_⟩
          refine q_augAt t (r3.ex e4) (n := 1) (fun H5 e5 => ev_var rfl) (fun H5 e5 => ev_c) fun H5 k5 r5 => ?_
          refine s_setX t r5 { s' with at_ := s'.at_ + 1, join := -1 } t.join (ev_un ev_c ru_neg) (ev_var rfl) (fun _ => rfl) ⟨rfl, rfl, rfl, rfl⟩ fun H6 k6 r6 => ?_
          refine ⟨_, rfl, ((k3.trans (KO.of e4)).trans k5).trans k6, r6, htx, by show s'.at_ + 1 ≤ _; rw [← htx]; exact h1, Nat.lt_succ_self _, ?_⟩
          rw [← hsk]
          have hmore := runEnd_more (p := isG) hc hgc
          have hge2 := runEnd_ge (p := isG) (l := s'.text) (j := s'.at_ + 1)
          unfold Sc.skip
          dsimp only
          rw [if_pos (show s'.at_ < runEnd isG s'.text s'.at_ by omega), hmore]
          split
          · rfl
          · have : runEnd isG s'.text (s'.at_ + 1) = s'.at_ + 1 := by omega
            rw [this]
        · have hend : runEnd isG s'.text s'.at_ = s'.at_ := by
            cases hc : s'.text[s'.at_]? with
            | none => exact runEnd_end (List.getElem?_eq_none_iff.mp hc)
            | some c =>
              refine runEnd_stop hc ?_
              cases z : isG c with
              | false => rfl
              | true => exact absurd ⟨c, hc, z⟩ hlt
          have hs' : s'.skip = s' := by unfold Sc.skip; rw [if_neg (by omega)]
          rw [hs'] at hsk
          rw [← hsk] at k gok gov gtx gfr gfs
          refine ⟨false, ?_, (fun z => nomatch z), fun _ H4 e4 => ?_⟩
          · cases hc : s'.text[s'.at_]? with
            | none =>
              have := List.getElem?_eq_none_iff.mp hc
              exact et_is (et_and (a := false) (b := true) (et_is lt (decide_eq_false (by omega))) fun z => nomatch z) rfl
            | some c =>
              have h1 := (List.getElem?_eq_some_iff.mp hc).1
              have hgc : isG c = false := by
                cases z : isG c with
                | false => rfl
                | true => exact absurd ⟨c, hc, z⟩ hlt
              exact et_is (et_and (et_is lt (decide_eq_true (by omega))) fun _ => et_is (et_test (ev_op (ev_sign t r3 (ev_var rfl) hl' (ev_pos t r3 (ev_var rfl)) hc) ev_c rv_inS)) hgc) rfl
          · have r4 := r3.ex e4
            have k4 := k3.trans (KO.of e4)
            have htp : s'.topPart = none := by unfold Sc.topPart at hno ⊢; rw [gfr]; exact hno
            unfold Sc.readOn1 at k
            cases hc : s'.text[s'.at_]? with
            | none =>
              have hge3 := List.getElem?_eq_none_iff.mp hc
              rw [hc] at k
              dsimp only at k
              have ha' := gok.ha
              refine q_when (b := true) (et_is (et_test (ev_op (ev_pos t r4 (ev_var rfl)) (ev_len t r4 (ev_var rfl) hl') rv_eqI)) (decide_eq_true (by omega))) (fun _ H5 e5 => ?_) (fun z => nomatch z)
              have r5 := r4.ex e5
              refine s_retQ ((ev_fin t r5 (ev_var rfl)) H5 (Ex.refl _) _ fun H6 e6 => ⟨s'.fin, rfl, ?_⟩)
              have r6 := r5.ex e6
              cases hfi : s'.fin with
              | false =>
                rw [hfi, if_neg Bool.false_ne_true] at k
                exact k _ (k4.trans (KO.of (e5.trans e6))) r6
              | true =>
                rw [hfi, if_pos rfl] at k
                rw [if_pos rfl]
                exact te_meth r6 (ev_var rfl) (fun _ => rfl) ea_nil fun H7 e7 r7 => ⟨o, s', rfl, r7, gok, gov, k.go (k4.trans (KO.of ((e5.trans e6).trans e7)))⟩
            | some c =>
              have h1 := (List.getElem?_eq_some_iff.mp hc).1
              rw [hc] at k
              dsimp only at k
              refine q_when (b := false) (et_is (et_test (ev_op (ev_pos t r4 (ev_var rfl)) (ev_len t r4 (ev_var rfl) hl') rv_eqI)) (decide_eq_false (by omega))) (fun z => nomatch z) (fun _ H5 e5 => ?_)
              have r5 := r4.ex e5
              refine q_asg (ev_sign t r5 (ev_var rfl) hl' (ev_pos t r5 (ev_var rfl)) hc) fun H6 e6 => ?_
              have r6 := r5.ex e6
              have k6 := k4.trans (KO.of (e5.trans e6))
              refine q_when (b := decide (c = 92)) (et_is (et_test (ev_op (ev_var rfl) (ev_cS (l := [92]) rfl) rv_eqS)) (sgn_eq c 92)) (fun hb7 H7 e7 => ?_) (fun hb7 H7 e7 => ?_)
              · rw [if_pos (of_decide_eq_true hb7)] at k
                exact r_meth (r6.ex e7) (ev_var rfl) (fun _ => rfl) ea_nil fun H8 e8 r8 => ⟨o, s', rfl, r8, gok, k.go (k6.trans (KO.of (e7.trans e8)))⟩
              · rw [if_neg (of_decide_eq_false hb7)] at k
                refine q_when (b := decide (c = 35)) (et_is (et_test (ev_op (ev_var rfl) (ev_cS (l := [35]) rfl) rv_eqS)) (sgn_eq c 35)) (fun hb8 H8 e8 => ?_) (fun hb8 H8 e8 => ?_)
                · rw [if_pos (of_decide_eq_true hb8)] at k
                  exact r_meth (r6.ex (e7.trans e8)) (ev_var rfl) (fun _ => rfl) ea_nil fun H9 e9 r9 => ⟨o, s', rfl, r9, gok, k.go (k6.trans (KO.of ((e7.trans e8).trans e9)))⟩
                · rw [if_neg (of_decide_eq_false hb8)] at k
                  refine q_when (b := decide (c = 10)) (et_is (et_test (ev_op (ev_var rfl) (ev_cS (l := [10]) rfl) rv_eqS)) (sgn_eq c 10)) (fun hb9 H9 e9 => ?_) (fun hb9 H9 e9 => ?_)
                  · rw [if_pos (of_decide_eq_true hb9)] at k
                    refine q_meth (r6.ex ((e7.trans e8).trans e9)) (ev_var rfl) (fun _ => rfl) ea_nil fun H10 e10 r10 => ⟨o, s', rfl, r10, gok, fun H11 k11 r11 => ?_⟩
                    exact s_ret ev_c fun H12 e12 => k _ (((k6.trans (KO.of (((e7.trans e8).trans e9).trans e10))).trans k11).trans (KO.of e12)) (r11.ex e12)
                  · rw [if_neg (of_decide_eq_false hb9)] at k
                    exact r_meth (r6.ex ((e7.trans e8).trans e9)) (ev_var rfl) (fun _ => rfl) (ea_cons (ev_var rfl) ea_nil) fun H10 e10 r10 => ⟨o, s', c, rfl, r10, gok, gov, hc, htp, k.go (k6.trans (KO.of (((e7.trans e8).trans e9).trans e10)))⟩

/-- the tokens from the n-th on, as a new list -/
def NewFrom (H : Hp) (ts : List Tk) (p : Addr) : Prop := ∃ vs, H p = some (.lst vs) ∧ A2 (TkV H) vs ts
def sp_Scanner_read_on (_ : PySem.W.Frag) (a : Ads) : Sp := fun vs H Q _ => ∃ (o : Own) (s : Sc), vs = [.ref o.x] ∧ Rp a.C_Scanner a.C_Frame o H s ∧ Ok s ∧
  ∀ (p : Addr) (H' : Hp), H p = none → KO o H H' → Rp a.C_Scanner a.C_Frame o H' s.go → NewFrom H' (s.go.found.drop s.found.length) p → Q (.ref p) H'
theorem keep_none {o : Own} {H H' : Hp} {C CF : Addr} {s : Sc} {p : Addr} (r : Rp C CF o H s) (r' : ∃ s', Rp C CF o H' s') (k : KO o H H') (hp : H' p = none) : H p = none := by
  obtain ⟨s', r'⟩ := r'
  have n := r'.fresh hp
  cases e : H p with
  | none => rfl
  | some u => rw [k p u e n.1 n.2.1 n.2.2.1 n.2.2.2] at hp; cases hp
theorem ok_Scanner_read_on {P : Program} {w : World} {K : PySem.W.Frag} {mg : Str → Option Value} {base : Heap} {a : Ads} (T : Txt w K mg a) (G_Scanner_read_step : FnOk P w K mg base CX0 6 a.Scanner_read_step a.d_Scanner_read_step ["self"] (sp_Scanner_read_step K a)) :
    FnOk P w K mg base CX0 7 a.Scanner_read_on a.d_Scanner_read_on ["self"] (sp_Scanner_read_on K a) := by
  refine T.F_Scanner_read_on.ok sc_Scanner_read_on (fun vs H Q E h => ?_) (fun cdv A outer s H vs Q E hr h => ?_)
  · obtain ⟨_, _, rfl, _⟩ := h; rfl
  · obtain ⟨o, s, rfl, r, ok, k⟩ := h
    refine ⟨_, (pss_cons (ps_set (i := 1) sc_Scanner_read_on.nd rfl (Or.inl rfl) (pe_callB call_len_seq (by rfl) T.n_len b_len (pa_cons (pe_fld (pv 0) rfl) pa_nil)))
      (pss_cons (ps_while PassesOwn.never (PW.pt (pw_and (pt_not (pt_val (pe_fld (pv 0) rfl))) (pw_and1 (pt_val (pe_meth0 (pv 0) T.c_Scanner T.t_Scanner_read_step G_Scanner_read_step (hr.mono (by decide)) T.b_Scanner_read_step .nil pass0))))) (pss_one ps_pass))
      (pss_one (ps_ret (pe_slice sl_list (pe_fld (pv 0) rfl) (po_some (pv 1)) po_none))))), ?_⟩
    have t := scT T
    have cnt : Ev (tCB (fun xs H Q => ∃ p ys, xs = [V.ref p] ∧ (SqL K H p ys ∨ SqT K H p ys) ∧ Q (.int ys.length) H) (tCons (tFld K (tVar 0) "found") tNil)) [some (.ref o.x), none] H (.int (s.found.length : Int)) := by
      obtain ⟨_, _, _, ⟨vs, h1, h2⟩, _⟩ := id r
      rw [← h2.len]
      exact ev_cb (ea_cons (ev_fnd t r (ev_var rfl)) ea_nil) fun H1 e1 Q q => ⟨o.g, _, rfl, Or.inl (sq_of (e1 _ _ h1)), q H1 (Ex.refl _)⟩
    refine q_asg cnt fun H1 e1 => ?_
    have fin : ∀ (H2 : Hp), KO o H H2 → Rp a.C_Scanner a.C_Frame o H2 s.go → tRet (tSl (rSlL K) (tFld K (tVar 0) "found") (tPart (tVar 1)) tNoPart) { nx := fun _ H' => Q .non H', rt := Q } [some (.ref o.x), some (.int (s.found.length : Int))] H2 := fun H2 k2 r2 => by
      obtain ⟨_, _, _, ⟨vs, h1, h2⟩, _⟩ := id r2
      have sl := el_sl (K := K) (ev_fnd t r2 (ev_var (σ := [some (.ref o.x), some (.int (s.found.length : Int))]) (i := 0) rfl)) (eo_some (ev_var (i := 1) rfl)) eo_none (sq_of h1)
      rw [cutV_n] at sl
      refine s_retL sl fun p H3 hp e3 h3 => ?_
      exact k p H3 (keep_none r ⟨_, r2⟩ k2 hp) (k2.trans (KO.of e3)) (r2.ex e3) ⟨_, h3, (h2.imp fun _ _ => (Ke.of e3).tk).drop _⟩
    refine ⟨fun m σ' H' => ∃ s' : Sc, σ' = [some (.ref o.x), some (.int (s.found.length : Int))] ∧ KO o H H' ∧ Rp a.C_Scanner a.C_Frame o H' s' ∧ Ok s' ∧ m = Sc.word s' + 1 ∧ s'.go = s.go, ⟨_, s, rfl, KO.of e1, r.ex e1, ok, rfl, rfl⟩, ?_⟩
    rintro m σ' H2 ⟨s', rfl, k2, r2, ok2, hm, hg⟩
    refine and_Q (a := !s'.over) (et_not (et_B (ev_over t r2 (ev_var rfl)))) fun H3 e3 => ?_
    have r3 := r2.ex e3
    have k3 := k2.trans (KO.of e3)
    cases ho : s'.over with
    | true =>
      rw [go_over ho] at hg
      rw [hg] at r3
      rw [if_neg (by decide)]
      exact fin H3 k3 r3
    | false =>
      rw [if_pos (by decide)]
      refine tB_Q (te_meth r3 (ev_var rfl) (fun _ => rfl) ea_nil fun H4 e4 r4 => ⟨o, s', rfl, r4, ok2, ho, fun H5 k5 r5 => ⟨(Sc.step s').2, rfl, ?_⟩⟩)
      have k05 := (k3.trans (KO.of e4)).trans k5
      cases hb : (Sc.step s').2 with
      | false =>
        rw [go_stop ho hb] at hg
        rw [hg] at r5
        rw [if_neg (by decide)]
        exact fin H5 k05 r5
      | true =>
        have g := step_ok ok2 ho
        rw [if_pos rfl]
        refine ⟨fun σ2 H6 => ∃ s'' : Sc, σ2 = [some (.ref o.x), some (.int (s.found.length : Int))] ∧ KO o H H6 ∧ Rp a.C_Scanner a.C_Frame o H6 s'' ∧ Ok s'' ∧ Sc.word s'' < Sc.word s' ∧ s''.go = s.go, fun σ2 H6 ⟨s'', a1, a2, a3, a4, a5, a6⟩ => ⟨_, by omega, s'', a1, a2, a3, a4, rfl, a6⟩, ?_⟩
        exact ⟨_, rfl, k05, r5, g.1, (g.2 hb).1, by rw [← go_turn ok2 ho hb]; exact hg⟩
def sp_Scanner_feed (_ : PySem.W.Frag) (a : Ads) : Sp := fun vs H Q _ => ∃ (o : Own) (s : Sc) (l : List Nat), vs = [.ref o.x, .str (S l)] ∧ Rp a.C_Scanner a.C_Frame o H s ∧ Ok s ∧ s.text.length + l.length ≤ 20000 ∧
  ∀ (p : Addr) (H' : Hp), H p = none → KO o H H' → Rp a.C_Scanner a.C_Frame o H' (s.feed l) → NewFrom H' ((s.feed l).found.drop s.found.length) p → Q (.ref p) H'
theorem feed_pre {s : Sc} {l : List Nat} (h : Ok s) (hp : s.text.length + l.length ≤ 20000) : Ok { s with text := s.text ++ l } := by
  refine ⟨by show (s.text ++ l).length ≤ _; rw [List.length_append]; exact hp, by show s.at_ ≤ (s.text ++ l).length; rw [List.length_append]; have := h.ha; omega, h.lv, h.lvn, h.fr, h.frn, ?_⟩
  rcases h.cnt with c | ⟨c, d⟩
  · exact Or.inl c
  · refine Or.inr ⟨c, ?_⟩
    show s.found.length ≤ 2 * (s.text ++ l).length + 2
    rw [List.length_append]; omega
theorem ok_Scanner_feed {P : Program} {w : World} {K : PySem.W.Frag} {mg : Str → Option Value} {base : Heap} {a : Ads} (T : Txt w K mg a) (G_Scanner_read_on : FnOk P w K mg base CX0 7 a.Scanner_read_on a.d_Scanner_read_on ["self"] (sp_Scanner_read_on K a)) :
    FnOk P w K mg base CX0 8 a.Scanner_feed a.d_Scanner_feed ["self", "piece"] (sp_Scanner_feed K a) := by
  refine T.F_Scanner_feed.ok sc_Scanner_feed (fun vs H Q E h => ?_) (fun cdv A outer s H vs Q E hr h => ?_)
  · obtain ⟨_, _, _, rfl, _⟩ := h; rfl
  · obtain ⟨o, s, l, rfl, r, ok, hl, k⟩ := h
    refine ⟨_, (pss_cons (ps_fldaug (pv 0) (pv 1) in_addS)
      (pss_one (ps_ret (pe_meth0 (pv 0) T.c_Scanner T.t_Scanner_read_on G_Scanner_read_on (hr.mono (by decide)) T.b_Scanner_read_on .nil pass0)))), ?_⟩
    have t := scT T
    obtain ⟨⟨fv, h1, h2⟩, _⟩ := id r
    refine ⟨_, rfl, o.x, _, o.dx, _, _, rfl, h1, t.c, t.text, rfl, ⟨_, rfl, S s.text, S l, rfl, rfl, by rw [S_len, S_len]; exact sz24 (by omega), o.dx, _, h1, by show (11 : Nat) < 1000; decide, ?_⟩⟩
    rw [S_app]
    have r2 : Rp a.C_Scanner a.C_Frame o (upd H o.x (.ins a.C_Scanner o.dx (fsOf { s with text := s.text ++ l } o fv))) { s with text := s.text ++ l } := r.setX ⟨rfl, rfl, rfl⟩ h2
    rw [show putF "text" (V.str (S (s.text ++ l))) (fsOf s o fv) = fsOf { s with text := s.text ++ l } o fv from rfl]
    refine r_meth r2 (ev_var rfl) (fun _ => rfl) ea_nil fun H3 e3 r3 => ⟨o, _, rfl, r3, feed_pre ok hl, fun p H4 hp k4 r4 n4 => ?_⟩
    have k03 : KO o H H3 := KO.x.trans (KO.of e3)
    exact k p H4 (keep_none r ⟨_, r3⟩ k03 hp) (k03.trans k4) r4 n4
def sp_Scanner_close (_ : PySem.W.Frag) (a : Ads) : Sp := fun vs H Q _ => ∃ (o : Own) (s : Sc), vs = [.ref o.x] ∧ Rp a.C_Scanner a.C_Frame o H s ∧ Ok s ∧
  ∀ (p : Addr) (H' : Hp), H p = none → KO o H H' → Rp a.C_Scanner a.C_Frame o H' s.close → NewFrom H' (s.close.found.drop s.found.length) p → Q (.ref p) H'
theorem ok_Scanner_close {P : Program} {w : World} {K : PySem.W.Frag} {mg : Str → Option Value} {base : Heap} {a : Ads} (T : Txt w K mg a) (G_Scanner_read_on : FnOk P w K mg base CX0 7 a.Scanner_read_on a.d_Scanner_read_on ["self"] (sp_Scanner_read_on K a)) :
    FnOk P w K mg base CX0 8 a.Scanner_close a.d_Scanner_close ["self"] (sp_Scanner_close K a) := by
  refine T.F_Scanner_close.ok sc_Scanner_close (fun vs H Q E h => ?_) (fun cdv A outer s H vs Q E hr h => ?_)
  · obtain ⟨_, _, rfl, _⟩ := h; rfl
  · obtain ⟨o, s, rfl, r, ok, k⟩ := h
    refine ⟨_, (pss_cons (ps_fld (pv 0) pe_bl rfl)
      (pss_one (ps_ret (pe_meth0 (pv 0) T.c_Scanner T.t_Scanner_read_on G_Scanner_read_on (hr.mono (by decide)) T.b_Scanner_read_on .nil pass0)))), ?_⟩
    have t := scT T
    refine q_setX t r { s with fin := true } t.fin ev_c (ev_var rfl) (fun _ => rfl) ⟨rfl, rfl, rfl, rfl⟩ fun H2 k2 r2 => ?_
    refine r_meth r2 (ev_var rfl) (fun _ => rfl) ea_nil fun H3 e3 r3 => ⟨o, _, rfl, r3, ⟨ok.hl, ok.ha, ok.lv, ok.lvn, ok.fr, ok.frn, ok.cnt⟩, fun p H4 hp k4 r4 n4 => ?_⟩
    have k03 : KO o H H3 := k2.trans (KO.of e3)
    exact k p H4 (keep_none r ⟨_, r3⟩ k03 hp) (k03.trans k4) r4 n4

/-! ### read -/
theorem ko_ex {o : Own} {H H1 H2 : Hp} (e : Ex H H1) (k : KO o H1 H2) (h : H o.x = none ∧ H o.l = none ∧ H o.f = none ∧ H o.g = none) : Ex H H2 := fun a u q =>
  k a u (e a u q) (ne_of_none q h.1) (ne_of_none q h.2.1) (ne_of_none q h.2.2.1) (ne_of_none q h.2.2.2)
def sp_read (_ : PySem.W.Frag) (_ : Ads) : Sp := fun vs H Q _ => ∃ l : List Nat, vs = [.str (S l)] ∧ l.length ≤ 20000 ∧
  ∀ (p q : Addr) (fv : V) (H' : Hp), H p = none → H q = none → p ≠ q → Ex H H' → H' p = some (.tup [.ref q, fv]) → NewFrom H' (scanned l).found q → FlV H' fv (scanned l).fail → Q (.ref p) H'
theorem ok_read {P : Program} {w : World} {K : PySem.W.Frag} {mg : Str → Option Value} {base : Heap} {a : Ads} (T : Txt w K mg a) (G_Scanner___init__ : FnOk P w K mg base CX0 1 a.Scanner___init__ a.d_Scanner___init__ ["self"] (sp_Scanner___init__ K a)) (G_Scanner_feed : FnOk P w K mg base CX0 8 a.Scanner_feed a.d_Scanner_feed ["self", "piece"] (sp_Scanner_feed K a)) (G_Scanner_close : FnOk P w K mg base CX0 8 a.Scanner_close a.d_Scanner_close ["self"] (sp_Scanner_close K a)) :
    FnOk P w K mg base CX0 9 a.read a.d_read ["text"] (sp_read K a) := by
  refine T.F_read.ok sc_read (fun vs H Q E h => ?_) (fun cdv A outer s H vs Q E hr h => ?_)
  · obtain ⟨_, rfl, _⟩ := h; rfl
  · obtain ⟨l, rfl, hl, k⟩ := h
    refine ⟨_, (pss_cons (ps_set (i := 1) sc_read.nd rfl (Or.inl rfl) (pe_make0 T.M_Scanner G_Scanner___init__ (hr.mono (by decide)) rfl T.m_Scanner T.b_Scanner___init__ .nil pass0))
      (pss_cons (ps_set (i := 2) sc_read.nd rfl (Or.inl rfl) (pe_meth (pv 1) T.c_Scanner T.t_Scanner_feed G_Scanner_feed (hr.mono (by decide)) T.b_Scanner_feed .nil pass0 (pa_cons (pv 0) pa_nil)))
      (pss_one (ps_ret (pe_tup (pa_cons (pe_op op_cat (pv 2) (pe_meth0 (pv 1) T.c_Scanner T.t_Scanner_close G_Scanner_close (hr.mono (by decide)) T.b_Scanner_close .nil pass0)) (pa_cons (pe_fld (pv 1) rfl) pa_nil))))))), ?_⟩
    have t := scT T
    refine q_asgQ (show tMake _ _ _ _ _ _ _ _ from fun x dx hx hdx hne => ⟨x, dx, rfl, upd_same, fun o H1 hox h1 h2 h3 kp rp => ⟨rfl, ?_⟩⟩)
    subst hox
    have hno : H o.x = none ∧ H o.l = none ∧ H o.f = none ∧ H o.g = none := by
      have back : ∀ b, (L2.upd (L2.upd H dx (.own o.x)) o.x (.ins a.C_Scanner dx [])) b = none → H b = none := fun b hb => by
        cases e : H b with
        | none => rfl
        | some u =>
          rw [upd_ne (ne_of_none e hx), upd_ne (ne_of_none e hdx), e] at hb
          cases hb
      exact ⟨hx, back _ h1, back _ h2, back _ h3⟩
    have e1 : Ex H H1 := made_ex hx hdx kp
    refine q_asgQ (te_meth rp (ev_var rfl) (fun _ => rfl) (ea_cons (ev_var rfl) ea_nil) fun H2 e2 r2 => ⟨o, Sc.new, l, rfl, r2, new_ok, by show 0 + l.length ≤ _; omega, fun p H3 hp k3 r3 n3 => ?_⟩)
    have n0 := r2.fresh hp
    have okf : Ok (Sc.new.feed l) := feed_ok new_ok (by show 0 + l.length ≤ _; omega)
    refine s_retQ (tup_Q (ea_q (op_q ⟨_, rfl, ?_⟩)))
    refine te_meth r3 (ev_var rfl) (fun _ => rfl) ea_nil fun H4 e4 r4 => ⟨o, _, rfl, r4, okf, fun p2 H5 hp2 k5 r5 n5 => ?_⟩
    obtain ⟨xs, hxs, axs⟩ := n3
    obtain ⟨ys, hys, ays⟩ := n5
    have hxs5 : H5 p = some (.lst xs) := KO.keep k5 r4 (e4 _ _ hxs) n0
    have axs5 : A2 (TkV H5) xs (Sc.new.feed l).found := by
      refine A2.imp (fun v tk h => ?_) (axs : A2 (TkV H3) xs ((Sc.new.feed l).found.drop 0))
      obtain ⟨q, rfl, hq⟩ := h
      have hq4 := e4 _ _ hq
      refine ⟨q, rfl, k5 q _ hq4 (fun z => ?_) (fun z => ?_) (fun z => ?_) (fun z => ?_)⟩
      · obtain ⟨⟨fv, g1, _⟩, _⟩ := r4; rw [z, g1] at hq4; cases hq4
      · obtain ⟨_, ⟨vs, g1, _⟩, _⟩ := r4; rw [z, g1] at hq4; cases hq4
      · obtain ⟨_, _, ⟨vs, g1, _⟩, _⟩ := r4; rw [z, g1] at hq4; cases hq4
      · obtain ⟨_, _, _, ⟨vs, g1, _⟩, _⟩ := r4; rw [z, g1] at hq4; cases hq4
    have okc : Ok (scanned l) := close_ok okf
    have hfl := okc.found_le
    have hall : (Sc.new.feed l).found ++ (Sc.close (Sc.new.feed l)).found.drop (Sc.new.feed l).found.length = (scanned l).found := pf_parts pf_close
    have hlen : xs.length + ys.length ≤ 100000 := by
      have := congrArg List.length hall
      rw [List.length_append] at this
      rw [axs5.len, ays.len]
      omega
    refine ⟨p, p2, xs, ys, rfl, rfl, hxs5, hys, sz_of hlen, fun n hn => ?_⟩
    have en : Ex H5 (L2.upd H5 n (.lst (xs ++ ys))) := Ex.new hn
    have r6 := r5.ex en
    obtain ⟨⟨fv, g1, g2⟩, _⟩ := id r6
    refine ea_q (ev_fld (ev_var rfl) g1 t.c t.failure rfl _ (Ex.refl _) _ fun H7 e7 => ea_n ⟨sz_of (by simp), fun p3 hp3 => ?_⟩)
    have ke := (ko_ex e1 ((KO.of e2).trans k3) hno)
    have ex5 : Ex H H5 := ko_ex e1 ((((KO.of e2).trans k3).trans (KO.of e4)).trans k5) hno
    have ex7 : Ex H H7 := (ex5.trans en).trans e7
    have e8 : Ex H7 (L2.upd H7 p3 (.tup [.ref n, fv])) := Ex.new hp3
    have hn7 : H7 n = some (.lst (xs ++ ys)) := e7 _ _ upd_same
    refine k p3 n fv _ (fresh_back ex7 hp3) (fresh_back ex5 hn) (fun z => by rw [z, hn7] at hp3; cases hp3) (ex7.trans e8) upd_same ⟨xs ++ ys, e8 _ _ hn7, ?_⟩ ?_
    · rw [← hall]
      exact (axs5.app ays).imp fun _ _ => (Ke.of ((en.trans e7).trans e8)).tk
    · exact (Ke.of (e7.trans e8)).fl g2

/-! ### the bag of numbers that a law draws from -/
abbrev sp__law_bag (K : PySem.W.Frag) (_ : Ads) : Sp := spBag K
abbrev sp__law_take (_ : PySem.W.Frag) (_ : Ads) : Sp := spTake
theorem ok__law_bag {P : Program} {w : World} {K : PySem.W.Frag} {mg : Str → Option Value} {base : Heap} {a : Ads} (T : Txt w K mg a) :
    FnOk P w K mg base CX0 1 a._law_bag a.d__law_bag ["_law_script", "_law_at"] (sp__law_bag K a) := by
  refine T.F__law_bag.ok sc__law_bag (fun vs H Q E h => ?_) (fun cdv A outer s H vs Q E hr h => ?_)
  · obtain ⟨_, _, _, rfl, _⟩ := h; rfl
  · obtain ⟨b, i, ns, rfl, hS, i0, i1, k⟩ := h
    refine ⟨_, (pss_cons (ps_set (i := 2) sc__law_bag.nd rfl (Or.inl rfl) (pe_ifExp (pt_cmpR op_lt (pv 1) (pe_callB call_len_seq (by rfl) T.n_len b_len (pa_cons (pv 0) pa_nil)) (nomark _)) (pe_ix ix_list (pv 0) (pv 1) (fun _ _ => rfl)) pe_int))
      (pss_cons (ps_set (i := 3) sc__law_bag.nd rfl (Or.inl rfl) (pe_ifExp (pt_cmpR op_ge (pe_callB call_abs (by rfl) T.n_abs b_abs (pa_cons (pv 2) pa_nil)) (pe_op op_pow pe_int pe_int) (nomark _)) (pe_callB call_abs (by rfl) T.n_abs b_abs (pa_cons (pv 2) pa_nil)) pe_int))
      (pss_one (ps_ret (pe_lst (pa_cons (pv 3) (pa_cons (pe_op op_mod (pe_op op_pow (pe_op op_add (pe_op op_add (pe_op op_mod (pv 2) pe_int) (pe_op op_mul pe_int (pv 1))) pe_int) pe_int) pe_int) (pa_cons pe_int pa_nil)))))))), ?_⟩
    obtain ⟨cell, hc⟩ : ∃ cell : Int, if i < ((ns.map V.int).length : Int) then atI (ns.map V.int) i = some (.int cell) else cell = 0 := by
      by_cases hi : i < ((ns.map V.int).length : Int)
      · have hj : i.toNat < ns.length := by rw [List.length_map] at hi; omega
        refine ⟨ns[i.toNat], ?_⟩
        rw [if_pos hi]
        have e : atI (ns.map V.int) ((i.toNat : Nat) : Int) = some (.int ns[i.toNat]) := atI_nat (by rw [List.getElem?_map, List.getElem?_eq_getElem hj]; rfl)
        rw [Int.toNat_of_nonneg i0] at e
        exact e
      · exact ⟨0, by rw [if_neg hi]⟩
    refine q_asg (v := .int cell) (ev_if (et_test (ev_op (ev_var rfl) (ev_cb (ea_cons (ev_var rfl) ea_nil) (fun H1 e Q q => ⟨b, _, rfl, Or.inl (ex_l e hS), q H1 (Ex.refl _)⟩)) rv_I0))
      (fun hb => ev_op (ev_var rfl) (ev_var rfl) (rv_ixL hS ?_)) (fun hb => ?_)) (fun H1 e1 => ?_)
    · rw [if_pos (of_decide_eq_true hb)] at hc; exact hc
    · rw [if_neg (of_decide_eq_false hb)] at hc; subst hc; exact ev_c
    refine q_asg (v := .int (if 10 ^ 18 ≤ (if cell < 0 then -cell else cell) then (if cell < 0 then -cell else cell) else 0)) (ev_if (b := decide (10 ^ 18 ≤ (if cell < 0 then -cell else cell)))
      (et_test (ev_op (ev_cb (ea_cons (ev_var rfl) ea_nil) (fun H1 _ Q q => ⟨cell, rfl, q H1 (Ex.refl _)⟩)) (ev_op ev_c ev_c (rv_I ⟨by decide, by decide, by decide⟩)) rv_I0))
      (fun hb => ?_) (fun hb => ?_)) (fun H2 e2 => ?_)
    · rw [if_pos (of_decide_eq_true hb)]
      exact ev_cb (ea_cons (ev_var rfl) ea_nil) (fun H1 _ Q q => ⟨cell, rfl, q H1 (Ex.refl _)⟩)
    · rw [if_neg (of_decide_eq_false hb)]; exact ev_c
    have h1 := mod_lt cell (n := 2147483647) (by decide)
    refine s_retL (xs := [.int _, .int _, .int 0]) (el_lst (ea_cons (ev_var rfl) (ea_cons (ev_op (ev_op (ev_op (ev_op (ev_op (ev_var rfl) ev_c (rv_I (by decide))) (ev_op ev_c (ev_var rfl) (rv_I (Or.inl ⟨by decide, by decide⟩))) rv_I0) ev_c rv_I0) ev_c (rv_I ⟨by decide, by decide, ?_⟩)) ev_c (rv_I (by decide)))
      (ea_cons ev_c ea_nil))) (by simp)) (fun p H3 hp e3 h3 => ?_)
    · exact nat64 (by omega) (by omega)
    · have h2 := mod_lt ((cell % 2147483647 + 7121 * i + 11) ^ 3) (n := 2147483629) (by decide)
      refine k p H3 (fresh_back (e1.trans e2) hp) ((e1.trans e2).trans e3) ⟨_, _, _, h3, ?_, Int.le_refl _⟩
      refine ⟨?_, h2.1, Int.lt_trans h2.2 (by decide), by decide⟩
      split <;> split <;> omega
theorem ok__law_take {P : Program} {w : World} {K : PySem.W.Frag} {mg : Str → Option Value} {base : Heap} {a : Ads} (T : Txt w K mg a) :
    FnOk P w K mg base CX0 1 a._law_take a.d__law_take ["_law_bag_here", "_law_many"] (sp__law_take K a) := by
  refine T.F__law_take.ok sc__law_take (fun vs H Q E h => ?_) (fun cdv A outer s H vs Q E hr h => ?_)
  · obtain ⟨_, _, _, rfl, _⟩ := h; rfl
  · obtain ⟨b, n, cm, rfl, ⟨d, m, c, hb, g, cle⟩, cl, n0, n1, k⟩ := h
    refine ⟨_, (pss_cons (ps_if (pt_cmpR op_gt (pe_ix ix_list (pv 0) pe_int (fun _ _ => rfl)) pe_int (nomark _)) (pss_cons (ps_set (i := 2) sc__law_take.nd rfl (Or.inl rfl) (pe_op op_mod (pe_ix ix_list (pv 0) pe_int (fun _ _ => rfl)) (pv 1)))
      (pss_cons (ps_asg (pe_op op_fdiv (pe_ix ix_list (pv 0) pe_int (fun _ _ => rfl)) (pv 1)) (pg_sub (pv 0) pe_int set_list))
      (pss_one (ps_ret (pv 2))))) pss_nil)
      (pss_cons (ps_asg (pe_op op_add (pe_ix ix_list (pv 0) pe_int (fun _ _ => rfl)) pe_int) (pg_sub (pv 0) pe_int set_list))
      (pss_cons (ps_asg (pe_op op_mod (pe_op op_add (pe_op op_add (pe_op op_mul (pe_ix ix_list (pv 0) pe_int (fun _ _ => rfl)) pe_int) (pe_op op_mul (pe_op op_mul pe_int (pe_ix ix_list (pv 0) pe_int (fun _ _ => rfl))) (pe_ix ix_list (pv 0) pe_int (fun _ _ => rfl)))) pe_int) pe_int) (pg_sub (pv 0) pe_int set_list))
      (pss_one (ps_ret (pe_op op_mod (pe_op op_mod (pe_op op_pow (pe_op op_fdiv (pe_ix ix_list (pv 0) pe_int (fun _ _ => rfl)) pe_int) pe_int) pe_int) (pv 1))))))), ?_⟩
    obtain ⟨d0, m0, m1, c0⟩ := g
    have sb : ∀ {H1 : Hp}, Ex H H1 → SqL K H1 b [.int d, .int m, .int c] := fun e => sq_of (e _ _ hb)
    refine q_when (et_test (ev_op (ev_op (ev_var rfl) ev_c (rv_ixL (sb (Ex.refl _)) rfl)) ev_c rv_I0)) (fun hd H1 e1 => ?_) (fun hd H1 e1 => ?_)
    · refine q_asg (ev_op (ev_op (ev_var rfl) ev_c (rv_ixL (sb e1) rfl)) (ev_var rfl) (rv_I n0)) (fun H2 e2 => ?_)
      have b2 := (e1.trans e2) _ _ hb
      refine q_setL (j := 0) b2 (ev_op (ev_op (ev_var rfl) ev_c (rv_ixL (sb (e1.trans e2)) rfl)) (ev_var rfl) (rv_I ⟨n0, by omega⟩)) (ev_var rfl) ev_c (by simp) (fun H3 e3 => ?_)
      refine s_ret (ev_var rfl) (fun H4 e4 => ?_)
      have hr := mod_lt d n0
      refine k _ H4 hr.1 hr.2 ?_ ⟨_, _, _, e4 _ _ upd_same, ⟨Int.ediv_nonneg d0 (by omega), m0, m1, c0⟩, by omega⟩
      exact (Kp.of ((e1.trans e2).trans e3)).trans ((Kp.upd b H3 _).trans (Kp.of e4))
    · refine q_setL (j := 2) (e1 _ _ hb) (ev_op (ev_op (ev_var rfl) ev_c (rv_ixL (sb e1) rfl)) ev_c rv_I0) (ev_var rfl) ev_c (by simp) (fun H2 e2 => ?_)
      have b3 : SqL K (upd H2 b (.lst [.int d, .int m, .int (c + 1)])) b [.int d, .int m, .int (c + 1)] := sq_of upd_same
      refine q_setL (j := 1) (xs := [.int d, .int m, .int (c + 1)]) upd_same (ev_op (ev_op (ev_op (ev_op (ev_op (ev_var rfl) ev_c (rv_ixL b3 rfl)) ev_c (rv_I (Or.inl ⟨by omega, by omega⟩)))
        (ev_op (ev_op ev_c (ev_op (ev_var rfl) ev_c (rv_ixL b3 rfl)) (rv_I (Or.inl ⟨by decide, by decide⟩))) (ev_op (ev_var rfl) ev_c (rv_ixL b3 rfl)) (rv_I (Or.inr ⟨by omega, by omega⟩))) rv_I0) ev_c rv_I0) ev_c (rv_I (by decide))) (ev_var rfl) ev_c (by simp) (fun H3 e3 => ?_)
      have hm := mod_lt (m * 48271 + 6607 * (c + 1) * (c + 1) + 5) (n := 2147483647) (by decide)
      have b4 : SqL K (upd H3 b (.lst [.int d, .int ((m * 48271 + 6607 * (c + 1) * (c + 1) + 5) % 2147483647), .int (c + 1)])) b [.int d, .int ((m * 48271 + 6607 * (c + 1) * (c + 1) + 5) % 2147483647), .int (c + 1)] := sq_of upd_same
      refine s_ret (ev_op (ev_op (ev_op (ev_op (ev_op (ev_var rfl) ev_c (rv_ixL b4 rfl)) ev_c (rv_I ⟨by decide, by decide⟩)) ev_c (rv_I ⟨by decide, by decide, ?_⟩)) ev_c (rv_I (by decide))) (ev_var rfl) (rv_I n0)) (fun H4 e4 => ?_)
      · exact nat64 (Int.ediv_nonneg hm.1 (by decide)) (by omega)
      · have hr := mod_lt (((m * 48271 + 6607 * (c + 1) * (c + 1) + 5) % 2147483647 / 16) ^ 3 % 2147483587) n0
        refine k _ H4 hr.1 hr.2 ?_ ⟨_, _, _, e4 _ _ upd_same, ⟨d0, hm.1, hm.2, by omega⟩, by omega⟩
        exact ((Kp.of (e1.trans e2)).trans (Kp.upd b H2 _)).trans ((Kp.of e3).trans ((Kp.upd b H3 _).trans (Kp.of e4)))

end K26

set_option Elab.async false
set_option linter.all false
set_option maxRecDepth 100000
set_option maxHeartbeats 4000000
namespace K26
open PySem PySem.Spec PyProof.Rows L2 Evl Kt
/-! ### drawn texts: pick, plain -/
def sp__law_pick (K : PySem.W.Frag) (_ : Ads) : Sp := fun vs H Q _ => ∃ (b p : Addr) (xs : List V) (c : Int), vs = [.ref b, .ref p] ∧ Bag H b c ∧ c ≤ 900000000 ∧ SqL K H p xs ∧ p ≠ b ∧ 0 < xs.length ∧ xs.length ≤ 1000 ∧
  ∀ (v : V) (H' : Hp), v ∈ xs → Kp b H H' → Bag H' b (c + 1) → Q v H'
theorem ok__law_pick {P : Program} {w : World} {K : PySem.W.Frag} {mg : Str → Option Value} {base : Heap} {a : Ads} (T : Txt w K mg a) (G__law_take : FnOk P w K mg base CX0 1 a._law_take a.d__law_take ["_law_bag_here", "_law_many"] (sp__law_take K a)) :
    FnOk P w K mg base CX0 2 a._law_pick a.d__law_pick ["_law_bag_here", "_law_menu"] (sp__law_pick K a) := by
  refine T.F__law_pick.ok sc__law_pick (fun vs H Q E h => ?_) (fun cdv A outer s H vs Q E hr h => ?_)
  · obtain ⟨_, _, _, _, rfl, _⟩ := h; rfl
  · obtain ⟨b, p, xs, c, rfl, hb, hc, hp, np, x0, x1, k⟩ := h
    refine ⟨_, (pss_one (ps_ret (pe_ix ix_list (pv 1) (pe_call G__law_take (hr.mono (by decide)) rfl T.m__law_take T.F__law_take.kp T.b__law_take .nil pass0 (pa_cons (pv 0) (pa_cons (pe_callB call_len_seq (by rfl) T.n_len b_len (pa_cons (pv 1) pa_nil)) pa_nil))) (fun _ _ => rfl)))), ?_⟩
    refine s_retQ ?_
    refine rd_pick (xs := xs) (n := xs.length) (ev_var rfl) (ev_var rfl) (ev_cb (ea_cons (ev_var rfl) ea_nil) fun H1 e Q q => ⟨p, _, rfl, Or.inl (ex_l e hp), q H1 (Ex.refl _)⟩) hp np hb (by omega) (by omega) (by omega) (by omega) fun v H' hv kp bg => k v H' hv kp bg
/-- a text is drawn: no longer than n, of the signs that a text may have; the bag has given at most m more -/
def DrawQ (b : Addr) (H : Hp) (c : Int) (n : Nat) (m : Int) (Q : VK) : Prop := ∀ (z : List Nat) (H' : Hp), Kp b H H' → Bag H' b (c + m) → z.length ≤ n → Txc z → Q (.str (S z)) H'
def gNames : List V := [.str "a", .str "if", .str "x1", .str "_", .str "rb", .str "f", .str "B", .str "bar", .str "e5", .str "J2", .str "aVeryLongName"]
def gNumbers : List V := [.str "0", .str "00_0", .str "1_000", .str "0xF_f", .str "0b_1", .str "0o17", .str ".5", .str "1.", .str "1.5e-3", .str "2j", .str "1E5", .str "0777.5", .str "9_9.e+1J"]
def gStrings : List V := [.str "''", .str "'a'", .str "\"b\\\"c\"", .str "r'\\''", .str "b\"\"", .str "'''x\ny'''", .str "\"\"\"a\"b\"\"\"", .str "u'x'", .str "'a\\\nb'", .str "Rb'#{'"]
def gSigns : List V := [.str "+", .str "**", .str "//=", .str "->", .str ":=", .str "...", .str "<<", .str "!=", .str ",", .str ":", .str ";", .str "=", .str ".", .str "@", .str "~", .str "-", .str "<", .str ">=", .str "*"]
def sp__law_plain (_ : PySem.W.Frag) (_ : Ads) : Sp := fun vs H Q _ => ∃ (b : Addr) (c : Int), vs = [.ref b] ∧ Bag H b c ∧ c ≤ 800000000 ∧ DrawQ b H c 20 2 Q
theorem ok__law_plain {P : Program} {w : World} {K : PySem.W.Frag} {mg : Str → Option Value} {base : Heap} {a : Ads} (T : Txt w K mg a) (G__law_pick : FnOk P w K mg base CX0 2 a._law_pick a.d__law_pick ["_law_bag_here", "_law_menu"] (sp__law_pick K a)) (G__law_take : FnOk P w K mg base CX0 1 a._law_take a.d__law_take ["_law_bag_here", "_law_many"] (sp__law_take K a)) :
    FnOk P w K mg base CX0 3 a._law_plain a.d__law_plain ["_law_bag_here"] (sp__law_plain K a) := by
  refine T.F__law_plain.ok sc__law_plain (fun vs H Q E h => ?_) (fun cdv A outer s H vs Q E hr h => ?_)
  · obtain ⟨_, _, rfl, _⟩ := h; rfl
  · obtain ⟨b, c, rfl, hb, hc, k⟩ := h
    refine ⟨_, (pss_cons (ps_set (i := 1) sc__law_plain.nd rfl (Or.inl rfl) (pe_lst (pa_cons pe_str (pa_cons pe_str (pa_cons pe_str (pa_cons pe_str (pa_cons pe_str (pa_cons pe_str (pa_cons pe_str (pa_cons pe_str (pa_cons pe_str (pa_cons pe_str (pa_cons pe_str pa_nil)))))))))))))
      (pss_cons (ps_set (i := 2) sc__law_plain.nd rfl (Or.inl rfl) (pe_lst (pa_cons pe_str (pa_cons pe_str (pa_cons pe_str (pa_cons pe_str (pa_cons pe_str (pa_cons pe_str (pa_cons pe_str (pa_cons pe_str (pa_cons pe_str (pa_cons pe_str (pa_cons pe_str (pa_cons pe_str (pa_cons pe_str pa_nil)))))))))))))))
      (pss_cons (ps_set (i := 3) sc__law_plain.nd rfl (Or.inl rfl) (pe_lst (pa_cons pe_str (pa_cons pe_str (pa_cons pe_str (pa_cons pe_str (pa_cons pe_str (pa_cons pe_str (pa_cons pe_str (pa_cons pe_str (pa_cons pe_str (pa_cons pe_str pa_nil))))))))))))
      (pss_cons (ps_set (i := 4) sc__law_plain.nd rfl (Or.inl rfl) (pe_lst (pa_cons pe_str (pa_cons pe_str (pa_cons pe_str (pa_cons pe_str (pa_cons pe_str (pa_cons pe_str (pa_cons pe_str (pa_cons pe_str (pa_cons pe_str (pa_cons pe_str (pa_cons pe_str (pa_cons pe_str (pa_cons pe_str (pa_cons pe_str (pa_cons pe_str (pa_cons pe_str (pa_cons pe_str (pa_cons pe_str (pa_cons pe_str pa_nil)))))))))))))))))))))
      (pss_one (ps_ret (pe_call G__law_pick (hr.mono (by decide)) rfl T.m__law_pick T.F__law_pick.kp T.b__law_pick .nil pass0 (pa_cons (pv 0) (pa_cons (pe_ix ix_list (pe_lst (pa_cons (pv 1) (pa_cons (pv 1) (pa_cons (pv 2) (pa_cons (pv 3) (pa_cons (pv 4) (pa_cons (pv 4) pa_nil))))))) (pe_call G__law_take (hr.mono (by decide)) rfl T.m__law_take T.F__law_take.kp T.b__law_take .nil pass0 (pa_cons (pv 0) (pa_cons pe_int pa_nil))) (fun _ _ => rfl)) pa_nil))))))))), ?_⟩
    refine q_asgL (xs := gNames) (el_lst (by repeat' first | exact ea_nil | refine ea_cons ev_c ?_) (by decide)) fun p1 H1 hp1 e1 h1 => ?_
    refine q_asgL (xs := gNumbers) (el_lst (by repeat' first | exact ea_nil | refine ea_cons ev_c ?_) (by decide)) fun p2 H2 hp2 e2 h2 => ?_
    refine q_asgL (xs := gStrings) (el_lst (by repeat' first | exact ea_nil | refine ea_cons ev_c ?_) (by decide)) fun p3 H3 hp3 e3 h3 => ?_
    refine q_asgL (xs := gSigns) (el_lst (by repeat' first | exact ea_nil | refine ea_cons ev_c ?_) (by decide)) fun p4 H4 hp4 e4 h4 => ?_
    have bg4 := (((hb.ex e1).ex e2).ex e3).ex e4
    have n1 : p1 ≠ b := Ne.symm (hb.ne hp1)
    have n2 : p2 ≠ b := Ne.symm ((hb.ex e1).ne hp2)
    have n3 : p3 ≠ b := Ne.symm (((hb.ex e1).ex e2).ne hp3)
    have n4 : p4 ≠ b := Ne.symm ((((hb.ex e1).ex e2).ex e3).ne hp4)
    have e04 : Ex H H4 := ((e1.trans e2).trans e3).trans e4
    refine s_retQ (call_Q (ea_q ⟨_, rfl, ea_q ?_⟩))
    refine rd_pickN (xs := [.ref p1, .ref p1, .ref p2, .ref p3, .ref p4, .ref p4]) (el_lst (ea_cons (ev_var rfl) (ea_cons (ev_var rfl) (ea_cons (ev_var rfl) (ea_cons (ev_var rfl) (ea_cons (ev_var rfl) (ea_cons (ev_var rfl) ea_nil)))))) (by simp)) (ev_var rfl) ev_c bg4 (by omega) (by decide) (by decide) (by simp) fun v H5 hv kp5 bg5 => ?_
    have fin : ∀ (p : Addr) (xs : List V), H5 p = some (.lst xs) → p ≠ b → xs.all (txB 20) = true → 0 < xs.length → xs.length ≤ 1000 → sp__law_pick K a [.ref b, .ref p] H5 Q E0 := fun p xs hp np hz l0 l1 =>
      ⟨b, p, xs, c + 1, rfl, bg5, by omega, sq_of hp, np, l0, l1, fun u H6 hu kp6 bg6 => by
        obtain ⟨z, rfl, lz, az⟩ := tx_all hz u hu
        exact k z H6 (((Kp.of e04).trans kp5).trans kp6) (bg6.mono (by omega)) lz az⟩
    simp only [List.mem_cons, List.not_mem_nil, or_false] at hv
    rcases hv with rfl | rfl | rfl | rfl | rfl | rfl
    · exact fin p1 _ (kp5 _ _ (e4 _ _ (e3 _ _ (e2 _ _ h1))) n1) n1 (by decide +kernel) (by decide) (by decide)
    · exact fin p1 _ (kp5 _ _ (e4 _ _ (e3 _ _ (e2 _ _ h1))) n1) n1 (by decide +kernel) (by decide) (by decide)
    · exact fin p2 _ (kp5 _ _ (e4 _ _ (e3 _ _ h2)) n2) n2 (by decide +kernel) (by decide) (by decide)
    · exact fin p3 _ (kp5 _ _ (e4 _ _ h3) n3) n3 (by decide +kernel) (by decide) (by decide)
    · exact fin p4 _ (kp5 _ _ h4 n4) n4 (by decide +kernel) (by decide) (by decide)
    · exact fin p4 _ (kp5 _ _ h4 n4) n4 (by decide +kernel) (by decide) (by decide)

/-! ### atoms, rows, formatted strings: each other's, with a falling depth -/
def nF (n : Nat) : Nat := 10 + 3 * (n + 10)
def nR (n : Nat) : Nat := 5 * n + 30
def nA : Nat → Nat
  | 0 => 20
  | d + 1 => 22 + nR (nA d) + nF (nA d)
def mF (m : Int) : Int := 4 + 3 * (m + 2)
def mR (m : Int) : Int := 6 + 5 * m
def mA : Nat → Int
  | 0 => 4
  | d + 1 => 4 + mR (mA d) + mF (mA d)
def spAtom (d : Nat) : Sp := fun vs H Q _ => ∃ (b : Addr) (c : Int), vs = [.ref b, .int d] ∧ Bag H b c ∧ c + mA d ≤ 700000000 ∧ DrawQ b H c (nA d) (mA d) Q
def spRow (d : Nat) : Sp := fun vs H Q _ => ∃ (b : Addr) (c : Int) (i : Bool), vs = [.ref b, .int d, .bl i] ∧ Bag H b c ∧ c + mR (mA d) ≤ 700000000 ∧ DrawQ b H c (nR (nA d)) (mR (mA d)) Q
def spFmt (d : Nat) : Sp := fun vs H Q _ => ∃ (b : Addr) (c : Int), vs = [.ref b, .int d] ∧ Bag H b c ∧ c + mF (mA d) ≤ 700000000 ∧ DrawQ b H c (nF (nA d)) (mF (mA d)) Q
def spNo : Sp := fun _ _ _ _ => False
def spRow' : Nat → Sp
  | 0 => spNo
  | d + 1 => spRow d
def spFmt' : Nat → Sp
  | 0 => spNo
  | d + 1 => spFmt d
def gPairs : List V := [.str "()", .str "[]", .str "{}"]
theorem pair_two : ∀ v ∈ gPairs, ∃ x y : Nat, v = .str (S [x, y]) ∧ okC x = true ∧ okC y = true := by
  intro v hv
  simp only [gPairs, List.mem_cons, List.not_mem_nil, or_false] at hv
  rcases hv with rfl | rfl | rfl
  · exact ⟨40, 41, rfl, by decide, by decide⟩
  · exact ⟨91, 93, rfl, by decide, by decide⟩
  · exact ⟨123, 125, rfl, by decide, by decide⟩
theorem add_Q {a b : List Nat} {H : Hp} {Q : VK} (h : a.length + b.length ≤ 16000000) (k : Q (.str (S (a ++ b))) H) : ∃ i j, V.str (S a) = V.str i ∧ V.str (S b) = V.str j ∧ i.length + j.length ≤ sizeLine ∧ Q (.str (i ++ j)) H :=
  ⟨S a, S b, rfl, rfl, by rw [S_len, S_len]; exact sz24 h, by rw [S_app]; exact k⟩
theorem mA_nn : ∀ d : Nat, 0 ≤ mA d
  | 0 => by decide
  | d + 1 => by have := mA_nn d; unfold mA mR mF; omega
theorem ok_atom {P : Program} {w : World} {K : PySem.W.Frag} {mg : Str → Option Value} {base : Heap} {a : Ads} (T : Txt w K mg a) (d k0 : Nat) (hk : 3 ≤ k0) (hd : nA d ≤ 5000)
    (G__law_take : FnOk P w K mg base CX0 (1) a._law_take a.d__law_take ["_law_bag_here", "_law_many"] (sp__law_take K a)) (G__law_plain : FnOk P w K mg base CX0 (3) a._law_plain a.d__law_plain ["_law_bag_here"] (sp__law_plain K a)) (G__law_pick : FnOk P w K mg base CX0 (2) a._law_pick a.d__law_pick ["_law_bag_here", "_law_menu"] (sp__law_pick K a))
    (G__law_row : FnOk P w K mg base CX0 (k0) a._law_row a.d__law_row ["_law_bag_here", "_law_depth", "_law_is_inside"] (spRow' d)) (G__law_formatted : FnOk P w K mg base CX0 (k0) a._law_formatted a.d__law_formatted ["_law_bag_here", "_law_depth"] (spFmt' d)) : FnOk P w K mg base CX0 (k0 + 1) a._law_atom a.d__law_atom ["_law_bag_here", "_law_depth"] (spAtom d) := by
  refine T.F__law_atom.ok sc__law_atom (fun vs H Q E h => ?_) (fun cdv A outer s H vs Q E hr h => ?_)
  · obtain ⟨_, _, rfl, _⟩ := h; rfl
  · obtain ⟨b, c, rfl, hb, hc, k⟩ := h
    refine ⟨_, (pss_cons (ps_set (i := 2) sc__law_atom.nd rfl (Or.inl rfl) (pe_call G__law_take (hr.mono (by omega)) rfl T.m__law_take T.F__law_take.kp T.b__law_take .nil pass0 (pa_cons (pv 0) (pa_cons pe_int pa_nil))))
      (pss_cons (ps_if (PW.pt (pw_or (pt_cmpR op_eq (pv 1) pe_int (nomark _)) (pw_or1 (pt_cmpR op_lt (pv 2) pe_int (nomark _))))) (pss_one (ps_ret (pe_call G__law_plain (hr.mono (by omega)) rfl T.m__law_plain T.F__law_plain.kp T.b__law_plain .nil pass0 (pa_cons (pv 0) pa_nil)))) pss_nil)
      (pss_cons (ps_if (pt_cmpR op_lt (pv 2) pe_int (nomark _)) (pss_cons (ps_set (i := 3) sc__law_atom.nd rfl (Or.inl rfl) (pe_call G__law_pick (hr.mono (by omega)) rfl T.m__law_pick T.F__law_pick.kp T.b__law_pick .nil pass0 (pa_cons (pv 0) (pa_cons (pe_lst (pa_cons pe_str (pa_cons pe_str (pa_cons pe_str pa_nil)))) pa_nil))))
      (pss_one (ps_ret (pe_op op_add_str (pe_op op_add_str (pe_ix ix_str (pv 3) pe_int (fun _ _ => rfl)) (pe_call G__law_row (hr.mono (by omega)) rfl T.m__law_row T.F__law_row.kp T.b__law_row .nil pass0 (pa_cons (pv 0) (pa_cons (pe_op op_sub (pv 1) pe_int) (pa_cons pe_bl pa_nil))))) (pe_ix ix_str (pv 3) pe_int (fun _ _ => rfl)))))) pss_nil)
      (pss_one (ps_ret (pe_call G__law_formatted (hr.mono (by omega)) rfl T.m__law_formatted T.F__law_formatted.kp T.b__law_formatted .nil pass0 (pa_cons (pv 0) (pa_cons (pe_op op_sub (pv 1) pe_int) pa_nil)))))))), ?_⟩
    have m0 := mA_nn d
    refine q_asgQ ?_
    refine rd_take (n := 8) (ev_var rfl) ev_c hb (by omega) (by decide) (by decide) fun way H1 w0 w1 kp1 bg1 => ?_
    refine q_when (b := decide ((d : Int) = 0) || decide (way < 5)) (et_or (et_test (ev_op (ev_var rfl) ev_c rv_eqI)) fun _ => et_test (ev_op (ev_var rfl) ev_c rv_I0)) (fun hb1 H2 e2 => ?_) (fun hb1 H2 e2 => ?_)
    · refine s_retQ (call_Q (ea_q ⟨_, rfl, ea_n ⟨b, c + 1, rfl, bg1.ex e2, by omega, fun z H3 kp3 bg3 lz az => ?_⟩⟩))
      refine k z H3 ((kp1.trans (Kp.of e2)).trans kp3) (bg3.mono ?_) ?_ az
      · cases d with
        | zero => show c + 1 + 2 ≤ c + 4; omega
        | succ d => have := mA_nn d; unfold mA mR mF; omega
      · cases d with
        | zero => exact lz
        | succ d => unfold nA; omega
    · cases d with
      | zero => cases hb1
      | succ d =>
        have m1 := mA_nn d
        have hd' : nA (d + 1) = 22 + nR (nA d) + nF (nA d) := rfl
        have hm' : mA (d + 1) = 4 + mR (mA d) + mF (mA d) := rfl
        have hR : 0 ≤ mR (mA d) := by unfold mR; omega
        have hF : 0 ≤ mF (mA d) := by unfold mF; omega
        have hsub : (((d + 1 : Nat) : Int) - 1) = (d : Int) := by omega
        have bg2 := bg1.ex e2
        refine q_when (et_test (ev_op (ev_var rfl) ev_c rv_I0)) (fun hb3 H3 e3 => ?_) (fun hb3 H3 e3 => ?_)
        · refine q_asgQ (call_Q (ea_q ⟨_, rfl, ea_q ?_⟩))
          refine (el_lst (vs := gPairs) (by repeat' first | exact ea_nil | refine ea_cons ev_c ?_) (by decide)) H3 (Ex.refl _) _ fun p H4 hp e4 h4 => ?_
          have bg4 := (bg2.ex e3).ex e4
          have np : p ≠ b := Ne.symm ((bg2.ex e3).ne hp)
          refine ea_n ⟨b, p, gPairs, c + 1, rfl, bg4, by omega, sq_of h4, np, by decide, by decide, fun v H5 hv kp5 bg5 => ?_⟩
          obtain ⟨x, y, rfl, hx, hy⟩ := pair_two v hv
          have hz : nR (nA d) ≤ 5000 := by omega
          refine s_retQ (op_q (op_l (ev_op (ev_var rfl) ev_c (rv_ixSn (j := 0) (l := [x, y]) (by simp) rfl)) fun H6 e6 => ?_))
          refine call_Q (ea_q ⟨_, rfl, ea_l (ev_is (ev_op (ev_var rfl) ev_c rv_I0) (congrArg V.int hsub)) fun H7 e7 => ea_l ev_c fun H8 e8 => ea_n ⟨b, c + 1 + 1, true, rfl, ((bg5.ex e6).ex e7).ex e8, by omega, fun z H9 kp9 bg9 lz az => ?_⟩⟩)
          refine ⟨S [x], S z, rfl, rfl, by rw [S_len, S_len]; exact sz24 (by simp; omega), ?_⟩
          rw [S_app]
          show tOp _ _ _ _ H9 _
          refine ev_Q (ev_op (ev_var rfl) ev_c (rv_ixSn (j := 1) (l := [x, y]) (by simp) rfl)) fun H11 e11 => ?_
          refine ⟨S ([x] ++ z), S [y], rfl, rfl, by rw [S_len, S_len]; exact sz24 (by simp; omega), ?_⟩
          rw [S_app]
          have kk : Kp b H H11 := (((((kp1.trans (Kp.of (e2.trans (e3.trans e4)))).trans kp5).trans (Kp.of ((e6.trans e7).trans e8))).trans kp9).trans (Kp.of e11))
          refine k _ H11 kk ((bg9.ex e11).mono ?_) ?_ ?_
          · have : 0 ≤ mF (mA d) := by unfold mF; omega
            omega
          · simp only [List.length_append, List.length_cons, List.length_nil]; omega
          · have a1 : ∀ q, okC q = true → Txc [q] := fun q hq w hw => by rw [List.mem_singleton.mp hw]; exact hq
            exact ((a1 x hx).app az).app (a1 y hy)
        · refine s_retQ (call_Q (ea_q ⟨_, rfl, ea_l (ev_is (ev_op (ev_var rfl) ev_c rv_I0) (congrArg V.int hsub)) fun H4 e4 => ea_n ⟨b, c + 1, rfl, (bg2.ex e3).ex e4, by omega, fun z H5 kp5 bg5 lz az => ?_⟩⟩))
          have : 0 ≤ mR (mA d) := by unfold mR; omega
          exact k z H5 ((kp1.trans (Kp.of (e2.trans (e3.trans e4)))).trans kp5) (bg5.mono (by omega)) (by omega) az
/-- [..] * int(b), new -/
theorem el_repB {σ : L2.St} {H : Hp} {ta tb : TE} {xs : List V} {b : Bool} (h : EvL ta σ H xs) (k : Ev tb σ H (.int (if b then 1 else 0))) (hx : xs.length ≤ 50000) : EvL (tOp rRep ta tb) σ H (if b then xs else []) := fun H1 e Q q =>
  h H1 e _ fun p H2 hp e2 hp2 => k H2 (e.trans e2) _ fun H3 e3 => ⟨p, _, xs, rfl, rfl, e3 _ _ hp2, by split <;> decide, by split <;> decide, by
    cases b
    · simp
    · simp; exact sz_of (by omega), fun r hr => by
    have e4 : (List.replicate (if b = true then (1 : Int) else 0).toNat xs).flatten = if b then xs else [] := by cases b <;> simp
    rw [e4]
    exact q r _ (fresh_back (e2.trans e3) hr) ((e2.trans e3).trans (Ex.new hr)) upd_same⟩
theorem el_catN {σ : L2.St} {H : Hp} {ta tb : TE} {xs ys : List V} (h : EvL ta σ H xs) (k : EvL tb σ H ys) (hl : xs.length + ys.length ≤ 100000) : EvL (tOp rCat ta tb) σ H (xs ++ ys) := fun H1 e Q q =>
  h H1 e _ fun p H2 hp e2 hp2 => k H2 (e.trans e2) _ fun r H3 hr e3 hr3 => ⟨p, r, xs, ys, rfl, rfl, e3 _ _ hp2, hr3, sz_of hl, fun n hn => q n _ (fresh_back (e2.trans e3) hn) ((e2.trans e3).trans (Ex.new hn)) upd_same⟩
def gGapsA : List V := [.str " ", .str " ", .str "", .str "  ", .str "\t", .str " \\\n "]
def gGapsB : List V := [.str "\n", .str " # in\n", .str "\n\n  "]
theorem ok_row {P : Program} {w : World} {K : PySem.W.Frag} {mg : Str → Option Value} {base : Heap} {a : Ads} (T : Txt w K mg a) (d k0 : Nat) (hk : 3 ≤ k0) (hd : nA d ≤ 5000)
    (G__law_take : FnOk P w K mg base CX0 (1) a._law_take a.d__law_take ["_law_bag_here", "_law_many"] (sp__law_take K a)) (G__law_pick : FnOk P w K mg base CX0 (2) a._law_pick a.d__law_pick ["_law_bag_here", "_law_menu"] (sp__law_pick K a)) (G__law_atom : FnOk P w K mg base CX0 (k0) a._law_atom a.d__law_atom ["_law_bag_here", "_law_depth"] (spAtom d)) : FnOk P w K mg base CX0 (k0 + 1) a._law_row a.d__law_row ["_law_bag_here", "_law_depth", "_law_is_inside"] (spRow d) := by
  refine T.F__law_row.ok sc__law_row (fun vs H Q E h => ?_) (fun cdv A outer s H vs Q E hr h => ?_)
  · obtain ⟨_, _, _, rfl, _⟩ := h; rfl
  · obtain ⟨b, c, i, rfl, hb, hc, k⟩ := h
    refine ⟨_, (pss_cons (ps_set (i := 3) sc__law_row.nd rfl (Or.inl rfl) (pe_op op_cat (pe_lst (pa_cons pe_str (pa_cons pe_str (pa_cons pe_str (pa_cons pe_str (pa_cons pe_str (pa_cons pe_str pa_nil))))))) (pe_op op_rep (pe_lst (pa_cons pe_str (pa_cons pe_str (pa_cons pe_str pa_nil)))) (pe_callTy call_int1 (by rfl) T.n_int b_int (pa_cons (pv 2) pa_nil)))))
      (pss_cons (ps_set (i := 4) sc__law_row.nd rfl (Or.inl rfl) (pe_call G__law_atom (hr.mono (by omega)) rfl T.m__law_atom T.F__law_atom.kp T.b__law_atom .nil pass0 (pa_cons (pv 0) (pa_cons (pv 1) pa_nil))))
      (pss_cons (ps_for PassesOwn.never rfl (pi_range1 rfl T.n_range (pa_cons (pe_call G__law_take (hr.mono (by omega)) rfl T.m__law_take T.F__law_take.kp T.b__law_take .nil pass0 (pa_cons (pv 0) (pa_cons pe_int pa_nil))) pa_nil)) (pg_name (i := 5) sc__law_row.nd rfl (Or.inl rfl)) (pss_one (ps_set (i := 4) sc__law_row.nd rfl (Or.inl rfl) (pe_op op_add_str (pe_op op_add_str (pv 4) (pe_call G__law_pick (hr.mono (by omega)) rfl T.m__law_pick T.F__law_pick.kp T.b__law_pick .nil pass0 (pa_cons (pv 0) (pa_cons (pv 3) pa_nil)))) (pe_call G__law_atom (hr.mono (by omega)) rfl T.m__law_atom T.F__law_atom.kp T.b__law_atom .nil pass0 (pa_cons (pv 0) (pa_cons (pv 1) pa_nil)))))))
      (pss_one (ps_ret (pv 4)))))), ?_⟩
    have m0 := mA_nn d
    have hmr : mR (mA d) = 6 + 5 * mA d := rfl
    have hnr : nR (nA d) = 5 * nA d + 30 := rfl
    refine q_asgL (xs := gGapsA ++ (if i then gGapsB else [])) (el_catN (el_lst (by repeat' first | exact ea_nil | refine ea_cons ev_c ?_) (by decide)) (el_repB (el_lst (by repeat' first | exact ea_nil | refine ea_cons ev_c ?_) (by decide)) (ev_intB (ev_var rfl)) (by decide)) (by cases i <;> decide)) fun p H1 hp e1 h1 => ?_
    have gz : ∀ v ∈ gGapsA ++ (if i then gGapsB else []), Tx 6 v := by cases i <;> exact tx_all (by decide +kernel)
    have gl : 0 < (gGapsA ++ (if i then gGapsB else [])).length ∧ (gGapsA ++ (if i then gGapsB else [])).length ≤ 1000 := by cases i <;> decide
    have bg1 := hb.ex e1
    have np : p ≠ b := Ne.symm (hb.ne hp)
    generalize gGapsA ++ (if i then gGapsB else []) = gs at *
    refine q_asgQ (call_Q (ea_q ⟨_, rfl, ea_q ⟨_, rfl, ea_n ⟨b, c, rfl, bg1, by omega, fun z H2 kp2 bg2 lz az => ?_⟩⟩⟩))
    have h2 := kp2 _ _ h1 np
    refine q_forDraw (c := c + mA d) (n := 5) (ev_var rfl) ev_c bg2 (by omega) (by decide) (by decide)
      (fun j σ' H' => ∃ (u : List Nat) (v5 : Option V), σ' = [some (.ref b), some (.int d), some (.bl i), some (.ref p), some (.str (S u)), v5] ∧ Kp b H H' ∧ Bag H' b (c + mA d + 1 + j * (mA d + 1)) ∧ H' p = some (.lst gs) ∧ u.length ≤ nA d + j * (nA d + 6) ∧ Txc u)
      (fun H3 kp3 bg3 => ⟨z, none, rfl, ((Kp.of e1).trans kp2).trans kp3, bg3.mono (by simp), kp3 _ _ h2 np, by omega, az⟩) ?_ ?_
    · rintro j σ' H3 hj ⟨u, v5, rfl, kp3, bg3, h3, lu, au⟩
      have hj4 : j ≤ 3 := by omega
      have hjm : (j : Int) * (mA d + 1) ≤ 3 * (mA d + 1) := Int.mul_le_mul_of_nonneg_right (by omega) (by omega)
      have hjn : j * (nA d + 6) ≤ 3 * (nA d + 6) := Nat.mul_le_mul_right _ hj4
      have hj1 : ((j + 1 : Nat) : Int) * (mA d + 1) = j * (mA d + 1) + (mA d + 1) := by rw [Int.natCast_add, Int.add_mul]; simp
      have hj2 : (j + 1) * (nA d + 6) = j * (nA d + 6) + (nA d + 6) := by rw [Nat.add_mul]; simp
      refine s_asgQ (op_q (op_l (ev_var rfl) fun H4 e4 => ?_))
      refine call_Q (ea_q ⟨_, rfl, ea_q ⟨_, rfl, ea_n ⟨b, p, gs, _, rfl, bg3.ex e4, by omega, sq_of (e4 _ _ h3), np, gl.1, gl.2, fun v H5 hv kp5 bg5 => ?_⟩⟩⟩)
      obtain ⟨g, rfl, lg, ag⟩ := gz v hv
      refine ⟨S u, S g, rfl, rfl, by rw [S_len, S_len]; exact sz24 (by omega), ?_⟩
      rw [S_app]
      show tCall _ _ _ _ _ H5 _
      refine call_Q (ea_q ⟨_, rfl, ea_q ⟨_, rfl, ea_n ⟨b, _, rfl, bg5, by omega, fun y H6 kp6 bg6 ly ay => ?_⟩⟩⟩)
      refine ⟨S (u ++ g), S y, rfl, rfl, by rw [S_len, S_len, List.length_append]; exact sz24 (by omega), ?_⟩
      rw [S_app]
      have kp46 := ((Kp.of (b := b) e4).trans kp5).trans kp6
      exact ⟨_, _, rfl, kp3.trans kp46, bg6.mono (by omega), kp46 _ _ h3 np, by rw [List.length_append, List.length_append]; omega, (au.app ag).app ay⟩
    · rintro j σ' H3 hj ⟨u, v5, rfl, kp3, bg3, h3, lu, au⟩
      have hj4 : j ≤ 4 := by omega
      have hjm : (j : Int) * (mA d + 1) ≤ 4 * (mA d + 1) := Int.mul_le_mul_of_nonneg_right (by omega) (by omega)
      have hjn : j * (nA d + 6) ≤ 4 * (nA d + 6) := Nat.mul_le_mul_right _ hj4
      exact s_ret (ev_var rfl) fun H4 e4 => k u H4 (kp3.trans (Kp.of e4)) ((bg3.ex e4).mono (by omega)) (by omega) au
def gQuo : List V := [.str "'", .str "\"", .str "'''", .str "\"\"\""]
def gPre : List V := [.str "f", .str "F", .str "rf", .str "fR"]
def gTails : List V := [.str "", .str "!r", .str ":>5", .str "=", .str ":{w}", .str "!s:^{n}", .str ":=1", .str " ", .str ":"]
def gParts : List V := [.str "ab", .str "{{", .str "}}", .str "\\q", .str "#", .str " ", .str "\\\\"]
/-- pick(bag, [..]) of a written menu; of a menu that stands -/
theorem pick_lit {K : PySem.W.Frag} {a : Ads} {E : XK} {σ : L2.St} {H : Hp} {ta : TA} {b : Addr} {c : Int} {n : Nat} {xs : List V} {Q : VK} (h0 : σ[0]? = some (some (.ref b))) (ha : EvA ta σ H xs) (hb : Bag H b c) (hc : c ≤ 900000000) (hz : xs.all (txB n) = true) (l0 : 0 < xs.length) (l1 : xs.length ≤ 1000)
    (k : ∀ (z : List Nat) (H' : Hp), V.str (S z) ∈ xs → Kp b H H' → Bag H' b (c + 1) → z.length ≤ n → Txc z → Q (.str (S z)) H') : tCall (sp__law_pick K a) [] E (tCons (tVar 0) (tCons (tLst ta) tNil)) σ H Q :=
  call_Q (ea_q ⟨_, h0, ea_q (el_lst ha (by omega) H (Ex.refl _) _ fun p H1 hp e1 h1 => ea_n ⟨b, p, xs, c, rfl, hb.ex e1, hc, sq_of h1, Ne.symm (hb.ne hp), l0, l1, fun v H2 hv kp2 bg2 => by
    obtain ⟨z, rfl, lz, az⟩ := tx_all hz v hv
    exact k z H2 hv ((Kp.of e1).trans kp2) bg2 lz az⟩)⟩)
theorem pick_var {K : PySem.W.Frag} {a : Ads} {E : XK} {σ : L2.St} {H : Hp} {b p : Addr} {j : Nat} {c : Int} {n : Nat} {xs : List V} {Q : VK} (h0 : σ[0]? = some (some (.ref b))) (hj : σ[j]? = some (some (.ref p))) (hp : H p = some (.lst xs)) (np : p ≠ b) (hb : Bag H b c) (hc : c ≤ 900000000) (hz : ∀ v ∈ xs, Tx n v) (l0 : 0 < xs.length) (l1 : xs.length ≤ 1000)
    (k : ∀ (z : List Nat) (H' : Hp), V.str (S z) ∈ xs → Kp b H H' → Bag H' b (c + 1) → z.length ≤ n → Txc z → Q (.str (S z)) H') : tCall (sp__law_pick K a) [] E (tCons (tVar 0) (tCons (tVar j) tNil)) σ H Q :=
  call_Q (ea_q ⟨_, h0, ea_q ⟨_, hj, ea_n ⟨b, p, xs, c, rfl, hb, hc, sq_of hp, np, l0, l1, fun v H2 hv kp2 bg2 => by
    obtain ⟨z, rfl, lz, az⟩ := hz v hv
    exact k z H2 hv kp2 bg2 lz az⟩⟩⟩)
theorem ok_formatted {P : Program} {w : World} {K : PySem.W.Frag} {mg : Str → Option Value} {base : Heap} {a : Ads} (T : Txt w K mg a) (d k0 : Nat) (hk : 3 ≤ k0) (hd : nA d ≤ 5000)
    (G__law_take : FnOk P w K mg base CX0 (1) a._law_take a.d__law_take ["_law_bag_here", "_law_many"] (sp__law_take K a)) (G__law_pick : FnOk P w K mg base CX0 (2) a._law_pick a.d__law_pick ["_law_bag_here", "_law_menu"] (sp__law_pick K a)) (G__law_atom : FnOk P w K mg base CX0 (k0) a._law_atom a.d__law_atom ["_law_bag_here", "_law_depth"] (spAtom d)) : FnOk P w K mg base CX0 (k0 + 1) a._law_formatted a.d__law_formatted ["_law_bag_here", "_law_depth"] (spFmt d) := by
  refine T.F__law_formatted.ok sc__law_formatted (fun vs H Q E h => ?_) (fun cdv A outer s H vs Q E hr h => ?_)
  · obtain ⟨_, _, rfl, _⟩ := h; rfl
  · obtain ⟨b, c, rfl, hb, hc, k⟩ := h
    refine ⟨_, (pss_cons (ps_set (i := 2) sc__law_formatted.nd rfl (Or.inl rfl) (pe_call G__law_pick (hr.mono (by omega)) rfl T.m__law_pick T.F__law_pick.kp T.b__law_pick .nil pass0 (pa_cons (pv 0) (pa_cons (pe_lst (pa_cons pe_str (pa_cons pe_str (pa_cons pe_str (pa_cons pe_str pa_nil))))) pa_nil))))
      (pss_cons (ps_set (i := 3) sc__law_formatted.nd rfl (Or.inl rfl) (pe_op op_add_str (pe_call G__law_pick (hr.mono (by omega)) rfl T.m__law_pick T.F__law_pick.kp T.b__law_pick .nil pass0 (pa_cons (pv 0) (pa_cons (pe_lst (pa_cons pe_str (pa_cons pe_str (pa_cons pe_str (pa_cons pe_str pa_nil))))) pa_nil))) (pv 2)))
      (pss_cons (ps_set (i := 4) sc__law_formatted.nd rfl (Or.inl rfl) (pe_lst (pa_cons pe_str (pa_cons pe_str (pa_cons pe_str (pa_cons pe_str (pa_cons pe_str (pa_cons pe_str (pa_cons pe_str (pa_cons pe_str (pa_cons pe_str pa_nil)))))))))))
      (pss_cons (ps_set (i := 5) sc__law_formatted.nd rfl (Or.inl rfl) (pe_lst (pa_cons pe_str (pa_cons pe_str (pa_cons pe_str (pa_cons pe_str (pa_cons pe_str (pa_cons pe_str (pa_cons pe_str (pa_cons (pe_op op_mul_str pe_str (pe_op op_fdiv (pe_callB call_len_str (by rfl) T.n_len b_len (pa_cons (pv 2) pa_nil)) pe_int)) (pa_cons (pe_op op_mul_str pe_str (pe_op op_fdiv (pe_callB call_len_str (by rfl) T.n_len b_len (pa_cons (pv 2) pa_nil)) pe_int)) pa_nil)))))))))))
      (pss_cons (ps_for PassesOwn.never rfl (pi_range1 rfl T.n_range (pa_cons (pe_call G__law_take (hr.mono (by omega)) rfl T.m__law_take T.F__law_take.kp T.b__law_take .nil pass0 (pa_cons (pv 0) (pa_cons pe_int pa_nil))) pa_nil)) (pg_name (i := 6) sc__law_formatted.nd rfl (Or.inl rfl)) (pss_cons (ps_set (i := 7) sc__law_formatted.nd rfl (Or.inl rfl) (pe_call G__law_take (hr.mono (by omega)) rfl T.m__law_take T.F__law_take.kp T.b__law_take .nil pass0 (pa_cons (pv 0) (pa_cons pe_int pa_nil))))
      (pss_one (ps_if (pt_cmpR op_lt (pv 7) pe_int (nomark _)) (pss_one (ps_set (i := 3) sc__law_formatted.nd rfl (Or.inl rfl) (pe_op op_add_str (pv 3) (pe_call G__law_pick (hr.mono (by omega)) rfl T.m__law_pick T.F__law_pick.kp T.b__law_pick .nil pass0 (pa_cons (pv 0) (pa_cons (pv 5) pa_nil)))))) (pss_one (ps_set (i := 3) sc__law_formatted.nd rfl (Or.inl rfl) (pe_op op_add_str (pe_op op_add_str (pe_op op_add_str (pe_op op_add_str (pv 3) pe_str) (pe_call G__law_atom (hr.mono (by omega)) rfl T.m__law_atom T.F__law_atom.kp T.b__law_atom .nil pass0 (pa_cons (pv 0) (pa_cons (pv 1) pa_nil)))) (pe_call G__law_pick (hr.mono (by omega)) rfl T.m__law_pick T.F__law_pick.kp T.b__law_pick .nil pass0 (pa_cons (pv 0) (pa_cons (pv 4) pa_nil)))) pe_str)))))))
      (pss_one (ps_ret (pe_op op_add_str (pv 3) (pv 2))))))))), ?_⟩
    have m0 := mA_nn d
    have hmf : mF (mA d) = 4 + 3 * (mA d + 2) := rfl
    have hnf : nF (nA d) = 10 + 3 * (nA d + 10) := rfl
    refine q_asgQ (pick_lit (n := 3) (xs := gQuo) rfl (by repeat' first | exact ea_nil | refine ea_cons ev_c ?_) hb (by omega) (by decide +kernel) (by decide) (by decide) fun q H1 _ kp1 bg1 lq aq => ?_)
    refine q_asgQ (op_q (pick_lit (n := 2) (xs := gPre) rfl (by repeat' first | exact ea_nil | refine ea_cons ev_c ?_) bg1 (by omega) (by decide +kernel) (by decide) (by decide) fun f H2 _ kp2 bg2 lf af => ?_))
    refine ⟨_, rfl, S f, S q, rfl, rfl, by rw [S_len, S_len]; exact sz24 (by omega), ?_⟩
    rw [S_app]
    refine q_asgL (xs := gTails) (el_lst (by repeat' first | exact ea_nil | refine ea_cons ev_c ?_) (by decide)) fun pt H3 hpt e3 h3 => ?_
    have hm : (((q.length : Int) / 2).toNat) = q.length / 2 := by omega
    have mul : ∀ {H' : Hp} {σ : L2.St} (x : Nat), σ[2]? = some (some (.str (S q))) → Ev (tOp rMulS (tC (.str (S [x]))) (tOp (rI CDiv fun i j => .int (i / j)) (tCB (fun xs H Q => ∃ z, xs = [V.str z] ∧ z.length ≤ sizeLine ∧ Q (.int z.length) H) (tCons (tVar 2) tNil)) (tC (.int 2)))) σ H' (.str (S (List.replicate (q.length / 2) x))) := fun {H' σ} x hσ => by
      have h := ev_op (σ := σ) (H := H') (ev_c (v := V.str (S [x]))) (ev_op (ev_cb (ea_cons (ev_var hσ) ea_nil) (rc_lenS (l := q) (by omega))) (ev_c (v := V.int 2)) (rv_I (C := CDiv) (g := fun i j => .int (i / j)) ⟨by decide, by decide⟩)) (rv_mulS (a := [x]) (n := (q.length : Int) / 2) (by omega) (by omega) (by simp; omega))
      rw [hm, rep1] at h
      exact h
    refine q_asgL (xs := gParts ++ [.str (S (List.replicate (q.length / 2) 39)), .str (S (List.replicate (q.length / 2) 10))]) (el_lst (ea_cons ev_c (ea_cons ev_c (ea_cons ev_c (ea_cons ev_c (ea_cons ev_c (ea_cons ev_c (ea_cons ev_c (ea_cons (mul 39 rfl) (ea_cons (mul 10 rfl) ea_nil))))))))) (by simp [gParts])) fun pp H4 hpp e4 h4 => ?_
    have zt : ∀ v ∈ gTails, Tx 7 v := tx_all (by decide +kernel)
    have zp : ∀ v ∈ gParts ++ [V.str (S (List.replicate (q.length / 2) 39)), .str (S (List.replicate (q.length / 2) 10))], Tx 7 v := fun v hv => by
      rcases List.mem_append.mp hv with z | z
      · exact tx_all (xs := gParts) (by decide +kernel) v z
      · simp only [List.mem_cons, List.not_mem_nil, or_false] at z
        rcases z with rfl | rfl
        · exact ⟨_, rfl, by rw [List.length_replicate]; omega, fun x hx => by rw [List.eq_of_mem_replicate hx]; decide⟩
        · exact ⟨_, rfl, by rw [List.length_replicate]; omega, fun x hx => by rw [List.eq_of_mem_replicate hx]; decide⟩
    have zl : (gParts ++ [V.str (S (List.replicate (q.length / 2) 39)), .str (S (List.replicate (q.length / 2) 10))]).length = 9 := rfl
    generalize gParts ++ [V.str (S (List.replicate (q.length / 2) 39)), .str (S (List.replicate (q.length / 2) 10))] = gp at *
    have bg4 := (bg2.ex e3).ex e4
    have nt : pt ≠ b := Ne.symm (bg2.ne hpt)
    have npp : pp ≠ b := Ne.symm ((bg2.ex e3).ne hpp)
    have kp4 : Kp b H H4 := (kp1.trans kp2).trans (Kp.of (e3.trans e4))
    refine q_forDraw (c := c + 1 + 1) (n := 4) (ev_var rfl) ev_c bg4 (by omega) (by decide) (by decide)
      (fun j σ' H' => ∃ (u : List Nat) (v6 v7 : Option V), σ' = [some (.ref b), some (.int d), some (.str (S q)), some (.str (S u)), some (.ref pt), some (.ref pp), v6, v7] ∧ Kp b H H' ∧ Bag H' b (c + 3 + j * (mA d + 2)) ∧ H' pt = some (.lst gTails) ∧ H' pp = some (.lst gp) ∧ u.length ≤ 5 + j * (nA d + 10) ∧ Txc u)
      (fun H5 kp5 bg5 => ⟨f ++ q, none, none, rfl, kp4.trans kp5, bg5.mono (by simp; omega), kp5 _ _ (e4 _ _ h3) nt, kp5 _ _ h4 npp, by rw [List.length_append]; omega, af.app aq⟩) ?_ ?_
    · rintro j σ' H5 hj ⟨u, v6, v7, rfl, kp5, bg5, h5t, h5p, lu, au⟩
      have hj4 : j ≤ 2 := by omega
      have hjm : (j : Int) * (mA d + 2) ≤ 2 * (mA d + 2) := Int.mul_le_mul_of_nonneg_right (by omega) (by omega)
      have hjn : j * (nA d + 10) ≤ 2 * (nA d + 10) := Nat.mul_le_mul_right _ hj4
      have hj1 : ((j + 1 : Nat) : Int) * (mA d + 2) = j * (mA d + 2) + (mA d + 2) := by rw [Int.natCast_add, Int.add_mul]; simp
      have hj2 : (j + 1) * (nA d + 10) = j * (nA d + 10) + (nA d + 10) := by rw [Nat.add_mul]; simp
      refine q_asgQ ?_
      refine rd_take (n := 6) (ev_var rfl) ev_c bg5 (by omega) (by decide) (by decide) fun way H6 w0 w1 kp6 bg6 => ?_
      refine s_if (et_test (ev_op (ev_var rfl) ev_c rv_I0)) (fun hb7 H7 e7 => ?_) (fun hb7 H7 e7 => ?_)
      · refine s_asgQ (op_l (ev_var rfl) fun H8 e8 => ?_)
        refine pick_var (n := 7) (xs := gp) rfl rfl (e8 _ _ (e7 _ _ (kp6 _ _ h5p npp))) npp ((bg6.ex e7).ex e8) (by omega) zp (by rw [zl]; decide) (by rw [zl]; decide) fun z H9 _ kp9 bg9 lz az => ?_
        refine ⟨S u, S z, rfl, rfl, by rw [S_len, S_len]; exact sz24 (by omega), ?_⟩
        rw [S_app]
        have kp59 := (kp6.trans (Kp.of (b := b) (e7.trans e8))).trans kp9
        exact ⟨_, _, _, rfl, kp5.trans kp59, bg9.mono (by omega), kp59 _ _ h5t nt, kp59 _ _ h5p npp, by rw [List.length_append]; omega, au.app az⟩
      · refine s_asgQ (op_q (op_q (op_l (ev_op (ev_var rfl) (ev_cS (l := [123]) rfl) (rv_addS (by simp; omega))) fun H8 e8 => ?_)))
        refine call_Q (ea_q ⟨_, rfl, ea_q ⟨_, rfl, ea_n ⟨b, _, rfl, (bg6.ex e7).ex e8, by omega, fun z H9 kp9 bg9 lz az => ?_⟩⟩⟩)
        refine ⟨S (u ++ [123]), S z, rfl, rfl, by rw [S_len, S_len, List.length_append]; exact sz24 (by simp; omega), ?_⟩
        rw [S_app]
        show tCall _ _ _ _ _ H9 _
        refine pick_var (n := 7) (xs := gTails) rfl rfl (kp9 _ _ (e8 _ _ (e7 _ _ (kp6 _ _ h5t nt))) nt) nt bg9 (by omega) zt (by decide) (by decide) fun y H10 _ kp10 bg10 ly ay => ?_
        refine ⟨S (u ++ [123] ++ z), S y, rfl, rfl, by rw [S_len, S_len, List.length_append, List.length_append]; exact sz24 (by simp; omega), ?_⟩
        rw [S_app]
        refine ⟨S (u ++ [123] ++ z ++ y), S [125], rfl, rfl, by rw [S_len, S_len, List.length_append, List.length_append, List.length_append]; exact sz24 (by simp; omega), ?_⟩
        rw [S_app]
        have kp510 := ((kp6.trans (Kp.of (b := b) (e7.trans e8))).trans kp9).trans kp10
        have a1 : ∀ x, okC x = true → Txc [x] := fun x hx w hw => by rw [List.mem_singleton.mp hw]; exact hx
        exact ⟨_, _, _, rfl, kp5.trans kp510, bg10.mono (by omega), kp510 _ _ h5t nt, kp510 _ _ h5p npp, by simp only [List.length_append, List.length_cons, List.length_nil]; omega, (((au.app (a1 123 (by decide))).app az).app ay).app (a1 125 (by decide))⟩
    · rintro j σ' H5 hj ⟨u, v6, v7, rfl, kp5, bg5, h5t, h5p, lu, au⟩
      have hj4 : j ≤ 3 := by omega
      have hjm : (j : Int) * (mA d + 2) ≤ 3 * (mA d + 2) := Int.mul_le_mul_of_nonneg_right (by omega) (by omega)
      have hjn : j * (nA d + 10) ≤ 3 * (nA d + 10) := Nat.mul_le_mul_right _ hj4
      refine s_ret (ev_op (ev_var rfl) (ev_var rfl) (rv_addS (by omega))) fun H6 e6 => k (u ++ q) H6 (kp5.trans (Kp.of e6)) ((bg5.ex e6).mono (by omega)) (by rw [List.length_append]; omega) (au.app aq)
/-! the three together -/
theorem ok_no {P : Program} {w : World} {K : PySem.W.Frag} {mg : Str → Option Value} {base : Heap} {a : Ads} (T : Txt w K mg a) : FnOk P w K mg base CX0 (3) a._law_row a.d__law_row ["_law_bag_here", "_law_depth", "_law_is_inside"] (spNo) ∧ FnOk P w K mg base CX0 (3) a._law_formatted a.d__law_formatted ["_law_bag_here", "_law_depth"] (spNo) :=
  ⟨T.F__law_row.ok sc__law_row (fun vs H Q E h => h.elim) (fun cdv A outer s H vs Q E hr h => h.elim), T.F__law_formatted.ok sc__law_formatted (fun vs H Q E h => h.elim) (fun cdv A outer s H vs Q E hr h => h.elim)⟩
abbrev sp__law_row (_ : PySem.W.Frag) (_ : Ads) : Sp := spRow 2
theorem ok__law_row {P : Program} {w : World} {K : PySem.W.Frag} {mg : Str → Option Value} {base : Heap} {a : Ads} (T : Txt w K mg a)
    (G__law_take : FnOk P w K mg base CX0 (1) a._law_take a.d__law_take ["_law_bag_here", "_law_many"] (sp__law_take K a)) (G__law_plain : FnOk P w K mg base CX0 (3) a._law_plain a.d__law_plain ["_law_bag_here"] (sp__law_plain K a)) (G__law_pick : FnOk P w K mg base CX0 (2) a._law_pick a.d__law_pick ["_law_bag_here", "_law_menu"] (sp__law_pick K a)) : FnOk P w K mg base CX0 (9) a._law_row a.d__law_row ["_law_bag_here", "_law_depth", "_law_is_inside"] (sp__law_row K a) := by
  obtain ⟨r0, f0⟩ := ok_no (P := P) (base := base) T
  have A0 := ok_atom T 0 3 (by decide) (by decide) G__law_take G__law_plain G__law_pick r0 f0
  have R0 := ok_row T 0 4 (by decide) (by decide) G__law_take G__law_pick A0
  have F0 := ok_formatted T 0 4 (by decide) (by decide) G__law_take G__law_pick A0
  have A1 := ok_atom T 1 5 (by decide) (by decide) G__law_take G__law_plain G__law_pick R0 F0
  have R1 := ok_row T 1 6 (by decide) (by decide) G__law_take G__law_pick A1
  have F1 := ok_formatted T 1 6 (by decide) (by decide) G__law_take G__law_pick A1
  have A2 := ok_atom T 2 7 (by decide) (by decide) G__law_take G__law_plain G__law_pick R1 F1
  exact ok_row T 2 8 (by decide) (by decide) G__law_take G__law_pick A2

/-! ### sources -/
def gLev : List V := [.str " ", .str "  ", .str "\t", .str "    "]
def gEmp : List V := [.str "\n", .str "  \n", .str "# c\n", .str "\t # d\n"]
def gEnd : List V := [.str "\n", .str "\n", .str " # e\n", .str "  \n"]
def strsV (ls : List (List Nat)) : List V := ls.map fun z => V.str (S z)
theorem last_of {L : List (List Nat)} (h : L ≠ []) : ∃ ls z, L = ls ++ [z] := ⟨L.dropLast, L.getLast h, (List.dropLast_concat_getLast h).symm⟩
theorem strs_snoc {ls : List (List Nat)} {z : List Nat} : strsV (ls ++ [z]) = strsV ls ++ [.str (S z)] := by unfold strsV; rw [List.map_append]; rfl
theorem mA2 : mA 2 = 436 ∧ mR (mA 2) = 2186 ∧ nR (nA 2) = 10570 := by decide
def sp__law_source (_ : PySem.W.Frag) (_ : Ads) : Sp := fun vs H Q _ => ∃ (b : Addr) (m c : Int), vs = [.ref b, .int m] ∧ Bag H b c ∧ 0 ≤ m ∧ m ≤ 20 ∧ c ≤ 600000000 ∧ DrawQ b H c 1900 50000 Q
theorem ok__law_source {P : Program} {w : World} {K : PySem.W.Frag} {mg : Str → Option Value} {base : Heap} {a : Ads} (T : Txt w K mg a) (G__law_take : FnOk P w K mg base CX0 1 a._law_take a.d__law_take ["_law_bag_here", "_law_many"] (sp__law_take K a)) (G__law_pick : FnOk P w K mg base CX0 2 a._law_pick a.d__law_pick ["_law_bag_here", "_law_menu"] (sp__law_pick K a)) (G__law_row : FnOk P w K mg base CX0 9 a._law_row a.d__law_row ["_law_bag_here", "_law_depth", "_law_is_inside"] (sp__law_row K a)) :
    FnOk P w K mg base CX0 10 a._law_source a.d__law_source ["_law_bag_here", "_law_most"] (sp__law_source K a) := by
  refine T.F__law_source.ok sc__law_source (fun vs H Q E h => ?_) (fun cdv A outer s H vs Q E hr h => ?_)
  · obtain ⟨_, _, _, rfl, _⟩ := h; rfl
  · obtain ⟨b, m, c, rfl, hb, m0, m20, hc, k⟩ := h
    refine ⟨_, (pss_cons (ps_par (i := 2) (j := 3) (by rfl) sc__law_source.nd rfl rfl (by decide) rfl rfl (pa_cons pe_str (pa_cons (pe_lst (pa_cons pe_str pa_nil)) pa_nil)) (by rfl))
      (pss_cons (ps_for PassesOwn.never rfl (pi_range1 rfl T.n_range (pa_cons (pe_call G__law_take (hr.mono (by decide)) rfl T.m__law_take T.F__law_take.kp T.b__law_take .nil pass0 (pa_cons (pv 0) (pa_cons (pe_op op_add (pv 1) pe_int) pa_nil))) pa_nil)) (pg_name (i := 4) sc__law_source.nd rfl (Or.inl rfl)) (pss_cons (ps_set (i := 5) sc__law_source.nd rfl (Or.inl rfl) (pe_call G__law_take (hr.mono (by decide)) rfl T.m__law_take T.F__law_take.kp T.b__law_take .nil pass0 (pa_cons (pv 0) (pa_cons pe_int pa_nil))))
      (pss_cons (ps_if (pt_cmpR op_lt (pv 5) pe_int (nomark _)) (pss_one (ps_expr (pe_bm PySem.F.plainAttrs_list PySem.F.slot_list_append PySem.F.type_list_append mt_append (pv 3) (pa_cons (pe_op op_add_str (pe_ix ix_list (pv 3) (pe_un un_neg pe_int) (fun _ _ => rfl)) (pe_call G__law_pick (hr.mono (by decide)) rfl T.m__law_pick T.F__law_pick.kp T.b__law_pick .nil pass0 (pa_cons (pv 0) (pa_cons (pe_lst (pa_cons pe_str (pa_cons pe_str (pa_cons pe_str (pa_cons pe_str pa_nil))))) pa_nil)))) pa_nil)))) (pss_one (ps_if (pt_cmpR op_lt (pv 5) pe_int (nomark _)) (pss_one (ps_set (i := 3) sc__law_source.nd rfl (Or.inl rfl) (pe_slice sl_list (pv 3) po_none (po_some (pe_op op_add pe_int (pe_call G__law_take (hr.mono (by decide)) rfl T.m__law_take T.F__law_take.kp T.b__law_take .nil pass0 (pa_cons (pv 0) (pa_cons (pe_callB call_len_seq (by rfl) T.n_len b_len (pa_cons (pv 3) pa_nil)) pa_nil)))))))) pss_nil)))
      (pss_cons (ps_if (pt_cmpR op_eq (pv 5) pe_int (nomark _)) (pss_one (ps_set (i := 2) sc__law_source.nd rfl (Or.inl rfl) (pe_op op_add_str (pv 2) (pe_call G__law_pick (hr.mono (by decide)) rfl T.m__law_pick T.F__law_pick.kp T.b__law_pick .nil pass0 (pa_cons (pv 0) (pa_cons (pe_lst (pa_cons pe_str (pa_cons pe_str (pa_cons pe_str (pa_cons pe_str pa_nil))))) pa_nil)))))) pss_nil)
      (pss_one (ps_set (i := 2) sc__law_source.nd rfl (Or.inl rfl) (pe_op op_add_str (pe_op op_add_str (pe_op op_add_str (pv 2) (pe_ix ix_list (pv 3) (pe_un un_neg pe_int) (fun _ _ => rfl))) (pe_call G__law_row (hr.mono (by decide)) rfl T.m__law_row T.F__law_row.kp T.b__law_row .nil pass0 (pa_cons (pv 0) (pa_cons pe_int (pa_cons pe_bl pa_nil))))) (pe_call G__law_pick (hr.mono (by decide)) rfl T.m__law_pick T.F__law_pick.kp T.b__law_pick .nil pass0 (pa_cons (pv 0) (pa_cons (pe_lst (pa_cons pe_str (pa_cons pe_str (pa_cons pe_str (pa_cons pe_str pa_nil))))) pa_nil))))))))))
      (pss_cons (ps_if (pt_cmpR op_eq (pe_call G__law_take (hr.mono (by decide)) rfl T.m__law_take T.F__law_take.kp T.b__law_take .nil pass0 (pa_cons (pv 0) (pa_cons pe_int pa_nil))) pe_int (nomark _)) (pss_one (ps_set (i := 2) sc__law_source.nd rfl (Or.inl rfl) (pe_slice sl_str (pv 2) po_none (po_some (pe_un un_neg pe_int))))) pss_nil)
      (pss_one (ps_ret (pe_slice sl_str (pv 2) po_none (po_some pe_int))))))), ?_⟩
    obtain ⟨_, hmr, hnr⟩ := mA2
    refine q_parLr (v := .str (S [])) (xs := strsV [[]]) (ev_cS (l := []) rfl) (fun H1 e1 => el_lst (ea_cons (ev_cS (l := []) rfl) ea_nil) (by show 1 ≤ 100000; decide)) fun pl H1 hpl e1 h1 => ?_
    have np : pl ≠ b := Ne.symm (hb.ne hpl)
    refine q_forDraw (c := c) (n := m + 1) (ev_var rfl) (ev_op (ev_var rfl) ev_c rv_I0) (hb.ex e1) (by omega) (by omega) (by omega)
      (fun j σ' H' => ∃ (u : List Nat) (L : List (List Nat)) (pl : Addr) (v4 v5 : Option V), σ' = [some (.ref b), some (.int m), some (.str (S u)), some (.ref pl), v4, v5] ∧ H pl = none ∧ Kp b H H' ∧ Bag H' b (c + 1 + j * 2190) ∧ H' pl = some (.lst (strsV L)) ∧ L ≠ [] ∧ L.length ≤ j + 1 ∧ (∀ z ∈ L, z.length ≤ 4 * j ∧ Txc z) ∧ u.length ≤ j * 10700 ∧ Txc u)
      (fun H2 kp2 bg2 => ⟨[], [[]], pl, none, none, rfl, hpl, (Kp.of e1).trans kp2, bg2.mono (by simp), kp2 _ _ h1 np, by simp, by simp, fun z hz => by rw [List.mem_singleton.mp hz]; exact ⟨by simp, fun c hc => absurd hc List.not_mem_nil⟩, by simp, fun c hc => absurd hc List.not_mem_nil⟩) ?_ ?_
    · rintro j σ' H2 hj ⟨u, L, pl, v4, v5, rfl, hpl, kp2, bg2, h2, hL, lL, aL, lu, au⟩
      have hj20 : j < 20 := by omega
      refine q_asgQ ?_
      refine rd_take (n := 8) (ev_var rfl) ev_c bg2 (by omega) (by decide) (by decide) fun way H3 w0 w1 kp3 bg3 => ?_
      have npl : pl ≠ b := Ne.symm (hb.ne hpl)
      have h3 := kp3 _ _ h2 npl
      have kp03 := kp2.trans kp3
      refine q_if2M (fun σ' H' => ∃ (L : List (List Nat)) (pl : Addr), σ' = [some (.ref b), some (.int m), some (.str (S u)), some (.ref pl), some (.int (j : Int)), some (.int way)] ∧ H pl = none ∧ Kp b H H' ∧ Bag H' b (c + 1 + j * 2190 + 2) ∧ H' pl = some (.lst (strsV L)) ∧ L ≠ [] ∧ L.length ≤ j + 2 ∧ ∀ z ∈ L, z.length ≤ 4 * j + 4 ∧ Txc z)
        (et_test (ev_op (ev_var rfl) ev_c rv_I0)) (fun k' hb1 H4 e4 => ?_) (fun k' hb1 H4 e4 => ?_) ?_
      · -- one level more
        obtain ⟨ls, z, rfl⟩ := last_of hL
        have h4 := e4 _ _ h3
        refine sapp_Q (show tVar 3 _ _ _ from ⟨_, rfl, Or.inl ⟨rfl, _, SqL.of h4⟩, ?_⟩)
        have hlast : atI (strsV (ls ++ [z])) (-1) = some (.str (S z)) := by rw [strs_snoc]; exact atI_last _ _
        refine op_l (ev_op (ev_var rfl) (ev_un ev_c ru_neg) (rv_ixL (sq_of h4) hlast)) fun H5 e5 => ?_
        refine pick_lit (n := 4) (xs := gLev) rfl (by repeat' first | exact ea_nil | refine ea_cons ev_c ?_) ((bg3.ex e4).ex e5) (by omega) (by decide +kernel) (by decide) (by decide) fun y H6 _ kp6 bg6 ly ay => ?_
        refine ⟨S (z), S y, rfl, rfl, by rw [S_len, S_len]; exact sz24 (by have := (aL z (by simp)).1; omega), ?_⟩
        rw [S_app]
        have h6 := kp6 _ _ (e5 _ _ h4) npl
        have l6 : (strsV (ls ++ [z])).length ≤ 22 := by unfold strsV; rw [List.length_map]; omega
        refine ⟨pl, _, _, rfl, rfl, h6, sz_lt (by omega), ?_⟩
        refine k' _ _ ⟨ls ++ [z] ++ [z ++ y], pl, rfl, hpl, ?_, ?_, ?_, by simp, by simp at lL ⊢; omega, fun x hx => ?_⟩
        · exact (((kp03.trans (Kp.of (e4.trans e5))).trans kp6)).mutK hpl
        · exact (bg6.mono (by omega)).upd (Ne.symm npl)
        · rw [upd_same, strs_snoc (ls := ls ++ [z])]
        · have az := aL z (by simp)
          rcases List.mem_append.mp hx with q | q
          · have := aL x q
            exact ⟨by omega, this.2⟩
          · rw [List.mem_singleton.mp q, List.length_append]
            exact ⟨by omega, az.2.app ay⟩
      · refine s_if (et_test (ev_op (ev_var rfl) ev_c rv_I0)) (fun hb2 H5 e5 => ?_) (fun hb2 H5 e5 => ?_)
        · -- some levels less
          have h5 := e5 _ _ (e4 _ _ h3)
          refine s_asgQ (show tSl (rSlL K) (tVar 3) tNoPart (tPart _) _ _ _ from ⟨_, rfl, ?_⟩)
          refine op_l ev_c fun H6 e6 => rd_take (n := (strsV L).length) (ev_var rfl) (ev_cb (ea_cons (ev_var rfl) ea_nil) fun H9 e9 Q' q' => ⟨pl, _, rfl, Or.inl (sq_of ((e6.trans e9) _ _ h5)), q' H9 (Ex.refl _)⟩) (((bg3.ex e4).ex e5).ex e6) (by omega) (by unfold strsV; rw [List.length_map]; have := List.length_pos_iff.mpr hL; omega) (by unfold strsV; rw [List.length_map]; omega) fun r H7 r0 r1 kp7 bg7 => ?_
          refine ⟨1, r, rfl, rfl, _, rfl, pl, _, rfl, sq_of (kp7 _ _ (e6 _ _ h5) npl), fun p2 hp2 => ?_⟩
          have hr : (1 : Int) + r = ((1 + r.toNat : Nat) : Int) := by omega
          rw [hr, cutV_to]
          have kp07 : Kp b H H7 := (kp03.trans (Kp.of ((e4.trans e5).trans e6))).trans kp7
          refine k' _ _ ⟨L.take (1 + r.toNat), p2, rfl, ?_, kp07.trans (Kp.of (Ex.new hp2)), ?_, ?_, ?_, ?_, fun x hx => ?_⟩
          · cases e : H p2 with
            | none => rfl
            | some w =>
              exfalso
              by_cases hpb : p2 = b
              · subst hpb
                obtain ⟨xs, hxs⟩ := bg7.lst
                rw [hxs] at hp2
                cases hp2
              · rw [kp07 _ _ e hpb] at hp2
                cases hp2
          · exact (bg7.mono (by omega)).upd (bg7.ne hp2)
          · rw [upd_same]; unfold strsV; rw [List.map_take]
          · intro e
            have := congrArg List.length e
            rw [List.length_take, List.length_nil] at this
            have := List.length_pos_iff.mpr hL
            omega
          · rw [List.length_take]; omega
          · have := aL x (List.mem_of_mem_take hx)
            exact ⟨by omega, this.2⟩
        · exact k' _ _ ⟨L, pl, rfl, hpl, kp03.trans (Kp.of (e4.trans e5)), ((bg3.ex e4).ex e5).mono (by omega), e5 _ _ (e4 _ _ h3), hL, by omega, fun x hx => ⟨by have := (aL x hx).1; omega, (aL x hx).2⟩⟩
      · clear hpl h2 hL lL aL npl h3
        rintro σ' H4 ⟨L, pl, rfl, hpl, kp4, bg4, h4, hL, lL, aL⟩
        have npl : pl ≠ b := Ne.symm (hb.ne hpl)
        obtain ⟨ls, z, rfl⟩ := last_of hL
        have hlast : atI (strsV (ls ++ [z])) (-1) = some (.str (S z)) := by rw [strs_snoc]; exact atI_last _ _
        refine q_ifM (fun σ' H' => ∃ u : List Nat, σ' = [some (.ref b), some (.int m), some (.str (S u)), some (.ref pl), some (.int (j : Int)), some (.int way)] ∧ Kp b H H' ∧ Bag H' b (c + 1 + j * 2190 + 3) ∧ H' pl = some (.lst (strsV (ls ++ [z]))) ∧ u.length ≤ j * 10700 + 6 ∧ Txc u)
          (et_test (ev_op (ev_var rfl) ev_c rv_eqI)) (fun k' hb1 H5 e5 => ?_) (fun hb1 H5 e5 => ⟨u, rfl, kp4.trans (Kp.of e5), (bg4.ex e5).mono (by omega), e5 _ _ h4, by omega, au⟩) ?_
        · refine s_asgQ (op_l (ev_var rfl) fun H6 e6 => ?_)
          refine pick_lit (n := 6) (xs := gEmp) rfl (by repeat' first | exact ea_nil | refine ea_cons ev_c ?_) ((bg4.ex e5).ex e6) (by omega) (by decide +kernel) (by decide) (by decide) fun y H7 _ kp7 bg7 ly ay => ?_
          refine ⟨S (u), S y, rfl, rfl, by rw [S_len, S_len]; exact sz24 (by omega), ?_⟩
          rw [S_app]
          exact k' _ _ ⟨u ++ y, rfl, (kp4.trans (Kp.of (e5.trans e6))).trans kp7, bg7.mono (by omega), kp7 _ _ (e6 _ _ (e5 _ _ h4)) npl, by rw [List.length_append]; omega, au.app ay⟩
        · rintro σ' H5 ⟨u, rfl, kp5, bg5, h5, lu5, au5⟩
          have az := aL z (by simp)
          refine s_asgQ (op_q (op_l (ev_op (ev_var rfl) (ev_op (ev_var rfl) (ev_un ev_c ru_neg) (rv_ixL (sq_of h5) hlast)) (rv_addS (a := u) (b := z) (by omega))) fun H6 e6 => ?_))
          refine call_Q (ea_q ⟨_, rfl, ea_l ev_c fun H7 e7 => ea_l ev_c fun H8 e8 => ea_n ⟨b, _, false, rfl, ((bg5.ex e6).ex e7).ex e8, by rw [hmr]; omega, fun y H9 kp9 bg9 ly ay => ?_⟩⟩)
          rw [hmr] at bg9
          rw [hnr] at ly
          refine ⟨S (u ++ z), S y, rfl, rfl, by rw [S_len, S_len]; exact sz24 (by rw [List.length_append]; omega), ?_⟩
          rw [S_app]
          show tCall _ _ _ _ _ H9 _
          refine pick_lit (n := 5) (xs := gEnd) rfl (by repeat' first | exact ea_nil | refine ea_cons ev_c ?_) bg9 (by omega) (by decide +kernel) (by decide) (by decide) fun q H10 _ kp10 bg10 lq aq => ?_
          refine ⟨S (u ++ z ++ y), S q, rfl, rfl, by rw [S_len, S_len]; exact sz24 (by rw [List.length_append, List.length_append]; omega), ?_⟩
          rw [S_app]
          have kp510 := ((Kp.of (b := b) ((e6.trans e7).trans e8)).trans kp9).trans kp10
          refine ⟨u ++ z ++ y ++ q, ls ++ [z], pl, _, _, rfl, hpl, kp5.trans kp510, bg10.mono (by omega), kp510 _ _ h5 npl, by simp, by omega, fun x hx => ⟨by have := (aL x hx).1; omega, (aL x hx).2⟩, by simp only [List.length_append]; omega, ((au5.app az.2).app ay).app aq⟩
    · rintro j σ' H2 hj ⟨u, L, pl, v4, v5, rfl, hpl, kp2, bg2, h2, hL, lL, aL, lu, au⟩
      have hj21 : j ≤ 20 := by omega
      refine q_whenM (fun σ' H' => ∃ u : List Nat, σ' = [some (.ref b), some (.int m), some (.str (S u)), some (.ref pl), v4, v5] ∧ Kp b H H' ∧ Bag H' b (c + 50000) ∧ u.length ≤ 300000 ∧ Txc u) (fun k' => ?_) ?_
      · refine op_q (rd_take (n := 4) (ev_var rfl) ev_c bg2 (by omega) (by decide) (by decide) fun r H3 r0 r1 kp3 bg3 => ?_)
        refine ev_c H3 (Ex.refl _) _ fun H4 e4 => rv_eqI H4 (Ex.refl _) _ fun H5 e5 => ⟨_, rfl, ?_⟩
        have kp05 := (kp2.trans kp3).trans (Kp.of (e4.trans e5))
        have bg5 : Bag H5 b (c + 50000) := ((bg3.ex e4).ex e5).mono (by omega)
        split
        · refine s_asg (ev_slAny (ev_var rfl) eo_none (eo_some (ev_un ev_c ru_neg)) (by omega)) fun H6 e6 => ?_
          have hc := cut_sub u none (some (-1))
          exact k' _ _ ⟨_, rfl, kp05.trans (Kp.of e6), bg5.ex e6, by omega, fun x hx => au x (hc.2 x hx)⟩
        · exact k' _ _ ⟨u, rfl, kp05, bg5, by omega, au⟩
      · rintro σ' H3 ⟨u, rfl, kp3, bg3, lu, au⟩
        exact s_ret (ev_slTo (n := 1900) (ev_var rfl) ev_c (by omega)) fun H4 e4 => k (u.take 1900) H4 (kp3.trans (Kp.of e4)) (bg3.ex e4) (by rw [List.length_take]; omega) (au.take _)

/-! ### spoilt texts -/
def gSpo : List Nat := ("'\"\\\n\t {}()[]#f0x_.!:=a$" : Str).cps.toList
theorem gSpo_ok : gSpo.all okC = true ∧ gSpo.length = 23 := by decide +kernel
def sp__law_spoilt (_ : PySem.W.Frag) (_ : Ads) : Sp := fun vs H Q _ => ∃ (b : Addr) (l : List Nat) (c : Int), vs = [.ref b, .str (S l)] ∧ Bag H b c ∧ l.length ≤ 100000 ∧ Txc l ∧ c ≤ 700000000 ∧ DrawQ b H c (l.length + 1) 3 Q
theorem ok__law_spoilt {P : Program} {w : World} {K : PySem.W.Frag} {mg : Str → Option Value} {base : Heap} {a : Ads} (T : Txt w K mg a) (G__law_pick : FnOk P w K mg base CX0 2 a._law_pick a.d__law_pick ["_law_bag_here", "_law_menu"] (sp__law_pick K a)) (G__law_take : FnOk P w K mg base CX0 1 a._law_take a.d__law_take ["_law_bag_here", "_law_many"] (sp__law_take K a)) :
    FnOk P w K mg base CX0 3 a._law_spoilt a.d__law_spoilt ["_law_bag_here", "_law_text"] (sp__law_spoilt K a) := by
  refine T.F__law_spoilt.ok sc__law_spoilt (fun vs H Q E h => ?_) (fun cdv A outer s H vs Q E hr h => ?_)
  · obtain ⟨_, _, _, rfl, _⟩ := h; rfl
  · obtain ⟨b, l, c, rfl, hb, hl, hx, hc, k⟩ := h
    refine ⟨_, (pss_cons (ps_par (i := 2) (j := 3) (by rfl) sc__law_spoilt.nd rfl rfl (by decide) rfl rfl (pa_cons (pe_call G__law_take (hr.mono (by decide)) rfl T.m__law_take T.F__law_take.kp T.b__law_take .nil pass0 (pa_cons (pv 0) (pa_cons (pe_op op_add (pe_callB call_len_str (by rfl) T.n_len b_len (pa_cons (pv 1) pa_nil)) pe_int) pa_nil))) (pa_cons (pe_call G__law_pick (hr.mono (by decide)) rfl T.m__law_pick T.F__law_pick.kp T.b__law_pick .nil pass0 (pa_cons (pv 0) (pa_cons (pe_callTy (call_listS (by rfl)) (by rfl) T.n_list b_list (pa_cons pe_str pa_nil)) pa_nil))) pa_nil)) (by rfl))
      (pss_cons (ps_set (i := 4) sc__law_spoilt.nd rfl (Or.inl rfl) (pe_call G__law_take (hr.mono (by decide)) rfl T.m__law_take T.F__law_take.kp T.b__law_take .nil pass0 (pa_cons (pv 0) (pa_cons pe_int pa_nil))))
      (pss_cons (ps_if (pt_cmpR op_eq (pv 4) pe_int (nomark _)) (pss_one (ps_ret (pe_op op_add_str (pe_op op_add_str (pe_slice sl_str (pv 1) po_none (po_some (pv 2))) (pv 3)) (pe_slice sl_str (pv 1) (po_some (pv 2)) po_none)))) pss_nil)
      (pss_one (ps_ret (pe_op op_add_str (pe_op op_add_str (pe_slice sl_str (pv 1) po_none (po_some (pv 2))) (pe_op op_mul_str (pv 3) (pe_callTy call_int1 (by rfl) T.n_int b_int (pa_cons (pe_cmpR op_eq (pv 4) pe_int (nomark _)) pa_nil)))) (pe_slice sl_str (pv 1) (po_some (pe_op op_add (pv 2) pe_int)) po_none))))))), ?_⟩
    obtain ⟨gok, glen⟩ := gSpo_ok
    refine par_Q (ea_q ?_)
    refine rd_take (n := (l.length : Int) + 1) (ev_var rfl) (ev_op (ev_cb (ea_cons (ev_var rfl) ea_nil) (rc_lenS (by omega))) ev_c rv_I0) hb (by omega) (by omega) (by omega) fun r H1 r0 r1 kp1 bg1 => ?_
    refine ea_q (call_Q (ea_q ⟨_, rfl, ea_q ?_⟩))
    refine (el_listS (l := gSpo) (ev_cS rfl) (by omega)) H1 (Ex.refl _) _ fun p H2 hp e2 h2 => ?_
    refine ea_n ⟨b, p, _, c + 1, rfl, bg1.ex e2, by omega, sq_of h2, Ne.symm (bg1.ne hp), by rw [List.length_map]; omega, by rw [List.length_map]; omega, fun v H3 hv kp3 bg3 => ?_⟩
    obtain ⟨x, hx1, rfl⟩ := List.mem_map.mp hv
    have xok := List.all_eq_true.mp gok x hx1
    obtain ⟨n, rfl⟩ : ∃ n : Nat, r = n := ⟨r.toNat, (Int.toNat_of_nonneg r0).symm⟩
    refine ea_n ⟨.int n, .str (S [x]), rfl, ?_⟩
    refine q_asgQ ?_
    refine rd_take (n := 3) (ev_var rfl) ev_c bg3 (by omega) (by decide) (by decide) fun way H4 w0 w1 kp4 bg4 => ?_
    have kp04 := ((kp1.trans (Kp.of e2)).trans kp3).trans kp4
    have hxx : Txc [x] := fun q hq => by rw [List.mem_singleton.mp hq]; exact xok
    refine q_when (et_test (ev_op (ev_var rfl) ev_c rv_eqI)) (fun hb1 H5 e5 => ?_) (fun hb1 H5 e5 => ?_)
    · refine s_ret (ev_op (ev_op (ev_slTo (n := n) (ev_var rfl) (ev_var rfl) (by omega)) (ev_var rfl) (rv_addS (b := [x]) (by rw [List.length_take]; simp; omega))) (ev_slN (n := n) (ev_var rfl) (ev_var rfl) (by omega)) (rv_addS (by simp only [List.length_append, List.length_take, List.length_drop, List.length_singleton]; omega))) fun H6 e6 => ?_
      refine k _ H6 (kp04.trans (Kp.of (e5.trans e6))) (((bg4.ex e5).ex e6).mono (by omega)) ?_ (((hx.take _).app hxx).app (hx.drop _))
      simp only [List.length_append, List.length_take, List.length_drop, List.length_singleton]
      omega
    · have hm : ∀ c : Bool, (List.replicate (if c = true then (1 : Int) else 0).toNat [x]).flatten = if c then [x] else [] := fun c => by cases c <;> simp
      have mul := ev_op (H := H5) (σ := [some (.ref b), some (.str (S l)), some (.int n), some (.str (S [x])), some (.int way)]) (ev_var (i := 3) (v := .str (S [x])) rfl) (ev_intB (ev_op (ev_var (i := 4) (v := .int way) rfl) (ev_c (v := .int 2)) (rv_eqI (i := way) (j := 2)))) (rv_mulS (a := [x]) (n := if decide (way = 2) = true then 1 else 0) (by split <;> decide) (by split <;> decide) (by split <;> simp))
      rw [hm] at mul
      have h2 : Txc (if decide (way = 2) = true then [x] else []) ∧ (if decide (way = 2) = true then [x] else []).length ≤ 1 := by
        split
        · exact ⟨hxx, by simp⟩
        · exact ⟨fun q hq => absurd hq List.not_mem_nil, by simp⟩
      generalize (if decide (way = 2) = true then [x] else []) = y at mul h2
      refine s_ret (ev_op (ev_op (ev_slTo (n := n) (ev_var rfl) (ev_var rfl) (by omega)) mul (rv_addS (by rw [List.length_take]; omega))) (ev_slN (n := n + 1) (ev_var rfl) (ev_is (ev_op (ev_var rfl) ev_c rv_I0) (congrArg V.int (by omega))) (by omega)) (rv_addS (by simp only [List.length_append, List.length_take, List.length_drop]; omega))) fun H6 e6 => ?_
      refine k _ H6 (kp04.trans (Kp.of (e5.trans e6))) (((bg4.ex e5).ex e6).mono (by omega)) ?_ (((hx.take _).app h2.1).app (hx.drop _))
      simp only [List.length_append, List.length_take, List.length_drop]
      omega


end K26

set_option Elab.async false
set_option linter.all false
set_option maxRecDepth 100000
set_option maxHeartbeats 4000000
namespace K26
open PySem PySem.Spec PyProof.Rows L2 Evl Kt
/-! ### tokens, significant ones, parting -/
def sp_tokens (_ : PySem.W.Frag) (_ : Ads) : Sp := fun vs H Q _ => ∃ l : List Nat, vs = [.str (S l)] ∧ l.length ≤ 20000 ∧ (scanned l).fail = none ∧
  ∀ (q : Addr) (H' : Hp), H q = none → Ex H H' → TkL H' (scanned l).found q → Q (.ref q) H'
theorem ok_tokens {P : Program} {w : World} {K : PySem.W.Frag} {mg : Str → Option Value} {base : Heap} {a : Ads} (T : Txt w K mg a) (G_read : FnOk P w K mg base CX0 9 a.read a.d_read ["text"] (sp_read K a)) :
    FnOk P w K mg base CX0 10 a.tokens a.d_tokens ["text"] (sp_tokens K a) := by
  refine T.F_tokens.ok sc_tokens (fun vs H Q E h => ?_) (fun cdv A outer s H vs Q E hr h => ?_)
  · obtain ⟨_, rfl, _⟩ := h; rfl
  · obtain ⟨l, rfl, hl, hf, k⟩ := h
    refine ⟨_, (pss_cons (ps_asg (pe_call G_read (hr.mono (by decide)) rfl T.m_read T.F_read.kp T.b_read .nil pass0 (pa_cons (pv 0) pa_nil)) (pg_tup rfl (pgs_cons (pg_name (i := 1) sc_tokens.nd rfl (Or.inl rfl)) (pgs_cons (pg_name (i := 2) sc_tokens.nd rfl (Or.inl rfl)) pgs_nil))))
      (pss_cons (ps_if (pt_cmpR op_notN (pv 2) pe_non (nomark _)) (pss_one ps_never) pss_nil)
      (pss_one (ps_ret (pv 1))))), ?_⟩
    refine q_asgG (call_Q (ea_Q (vs := [.str (S l)]) (ea_cons (ev_var rfl) ea_nil) fun H1 e1 => ⟨l, rfl, hl, fun p q fv H2 hp hq hne e2 hpC hnC hfC => ?_⟩))
    refine g_tup2 ⟨p, rfl, hpC⟩ ?_
    rw [hf] at hfC
    cases hfC
    refine q_when (b := false) (et_test (ev_op (ev_var rfl) ev_c (fun H9 _ Q q => ⟨rfl, q H9 (Ex.refl _)⟩))) (fun hb => by cases hb) (fun _ H3 e3 => ?_)
    exact s_ret (ev_var rfl) fun H4 e4 => k q H4 (fresh_back e1 hq) ((e1.trans e2).trans (e3.trans e4)) (TkL.ex (show TkL H2 (scanned l).found q from hnC) (e3.trans e4))
theorem found_max {l : List Nat} (hl : l.length ≤ 20000) : (scanned l).found.length ≤ 40002 := (close_ok (feed_ok new_ok (by show 0 + l.length ≤ _; omega))).found_le
def sp_is_significant (_ : PySem.W.Frag) (_ : Ads) : Sp := fun vs H Q _ => ∃ (v : V) (t : Tk), vs = [v] ∧ TkV H v t ∧ RetV (.bl (sig t)) H Q
theorem ok_is_significant {P : Program} {w : World} {K : PySem.W.Frag} {mg : Str → Option Value} {base : Heap} {a : Ads} (T : Txt w K mg a) :
    FnOk P w K mg base CX0 1 a.is_significant a.d_is_significant ["token"] (sp_is_significant K a) := by
  refine T.F_is_significant.ok sc_is_significant (fun vs H Q E h => ?_) (fun cdv A outer s H vs Q E hr h => ?_)
  · obtain ⟨_, _, rfl, _⟩ := h; rfl
  · obtain ⟨v, t, rfl, hv, k⟩ := h
    refine ⟨_, (pss_one (ps_ret (pe_cmpR op_notIn_seq (pe_ix ix_tup (pv 0) pe_int (fun _ _ => rfl)) (pe_gref T.m_GAPS_OF_KINDS) (by rfl)))), ?_⟩
    exact s_ret (ev_op (ev_tkI (ev_var rfl) hv ev_c rfl) ev_c (rv_niT (xs := gapK) (T.q_GAPS_OF_KINDS _) rfl (by decide +kernel))) fun H1 e1 => k H1 e1
def sp_sense_of (_ : PySem.W.Frag) (_ : Ads) : Sp := fun vs H Q _ => ∃ (v : V) (t : Tk), vs = [v] ∧ TkV H v t ∧ ∀ (y : V) (H' : Hp), Ex H H' → TpV H' y (senR t) → Q y H'
theorem ok_sense_of {P : Program} {w : World} {K : PySem.W.Frag} {mg : Str → Option Value} {base : Heap} {a : Ads} (T : Txt w K mg a) :
    FnOk P w K mg base CX0 1 a.sense_of a.d_sense_of ["token"] (sp_sense_of K a) := by
  refine T.F_sense_of.ok sc_sense_of (fun vs H Q E h => ?_) (fun cdv A outer s H vs Q E hr h => ?_)
  · obtain ⟨_, _, rfl, _⟩ := h; rfl
  · obtain ⟨v, t, rfl, hv, k⟩ := h
    refine ⟨_, (pss_one (ps_ret (pe_tup (pa_cons (pe_ix ix_tup (pv 0) pe_int (fun _ _ => rfl)) (pa_cons (pe_ifExp (pt_cmpR op_in_seq (pe_ix ix_tup (pv 0) pe_int (fun _ _ => rfl)) (pe_gref T.m_BARE) (by rfl)) pe_str (pe_ix ix_tup (pv 0) pe_int (fun _ _ => rfl))) pa_nil))))), ?_⟩
    refine s_retU (xs := senR t) (eu_tup (ea_cons (ev_tkI (ev_var rfl) hv ev_c rfl) (ea_cons (ev_if (b := inV (.str t.kind) bareK) (et_test (ev_op (ev_tkI (ev_var rfl) hv ev_c rfl) ev_c (rv_isT (xs := bareK) (T.q_BARE _) rfl (by decide +kernel)))) (fun hb => ?_) (fun hb => ?_)) ea_nil)) (by show 2 ≤ 100000; decide)) fun p H1 hp e1 h1 => k _ H1 e1 ⟨p, rfl, h1⟩
    · rw [show senS t = [] from by unfold senS; rw [if_pos hb]]
      exact ev_cS rfl
    · rw [show senS t = t.s from by unfold senS; rw [if_neg (by rw [hb]; decide)]]
      exact ev_tkI (ev_var rfl) hv ev_c rfl
/-- the list of the significant tokens of a text | of what counts of them -/
def sp_significant (_ : PySem.W.Frag) (_ : Ads) : Sp := fun vs H Q _ => ∃ l : List Nat, vs = [.str (S l)] ∧ l.length ≤ 20000 ∧ (scanned l).fail = none ∧
  ∀ (q : Addr) (ys : List V) (H' : Hp), H q = none → Ex H H' → H' q = some (.lst ys) → A2 (TpV H') ys ((sigs l).map senR) → Q (.ref q) H'
theorem ok_significant {P : Program} {w : World} {K : PySem.W.Frag} {mg : Str → Option Value} {base : Heap} {a : Ads} (T : Txt w K mg a) (G_tokens : FnOk P w K mg base CX0 10 a.tokens a.d_tokens ["text"] (sp_tokens K a)) (G_is_significant : FnOk P w K mg base CX0 1 a.is_significant a.d_is_significant ["token"] (sp_is_significant K a)) (G_sense_of : FnOk P w K mg base CX0 1 a.sense_of a.d_sense_of ["token"] (sp_sense_of K a)) :
    FnOk P w K mg base CX0 11 a.significant a.d_significant ["text"] (sp_significant K a) := by
  refine T.F_significant.ok sc_significant (fun vs H Q E h => ?_) (fun cdv A outer s H vs Q E hr h => ?_)
  · obtain ⟨_, rfl, _⟩ := h; rfl
  · obtain ⟨l, rfl, hl, hf, k⟩ := h
    refine ⟨_, (pss_one (ps_ret (pe_lc (own := [("token", 1)]) (g := gName 1) rfl sc_significant.nd (pi_list (pe_call G_tokens (hr.mono (by decide)) rfl T.m_tokens T.F_tokens.kp T.b_tokens .nil pass0 (pa_cons (pv 0) pa_nil))) (blkOk_by (N := N_significant) (sc := defScope s_significant) (by decide +kernel)) (fun _ _ _ _ _ => (pg_name (i := 1) sc_significant.nd rfl (Or.inl rfl))) (fun _ _ _ _ _ => (pts_one (pt_val (pe_call G_is_significant (hr.mono (by decide)) rfl T.m_is_significant T.F_is_significant.kp T.b_is_significant .nil pass0 (pa_cons (pv 1) pa_nil))))) (fun _ _ _ _ _ => (pe_call G_sense_of (hr.mono (by decide)) rfl T.m_sense_of T.F_sense_of.kp T.b_sense_of .nil pass0 (pa_cons (pv 1) pa_nil)))))), ?_⟩
    have hfl := found_max hl
    refine s_retQ (lc_Q (call_Q (ea_Q (vs := [.str (S l)]) (ea_cons (ev_var rfl) ea_nil) fun H1 e1 => ⟨l, rfl, hl, hf, fun q H2 hq e2 tq => ?_⟩)))
    obtain ⟨xs, hx, ax⟩ := tq
    refine lc_rel (R := TkV) (R' := TpV) tk_ex tp_ex tp_up hx ax (by omega) sig senR (fun _ => rfl) (fun x t H3 ht e3 r => et_B (ev_call (ea_cons (ev_var rfl) ea_nil) fun H4 e4 Q q E => ⟨x, t, rfl, tk_ex _ _ e4 _ _ r, fun H5 e5 => q H5 e5⟩))
      (fun x t H3 ht hf e3 r Q' q' => call_Q (ea_Q (vs := [x]) (ea_cons (ev_var rfl) ea_nil) fun H4 e4 => ⟨x, t, rfl, tk_ex _ _ e4 _ _ r, fun y H5 e5 ry => q' y H5 (e4.trans e5) ry⟩)) fun D ys H3 hD e3 hy ay => ?_
    exact k D ys H3 (fresh_back (e1.trans e2) hD) ((e1.trans e2).trans e3) hy ay
/-- what parting gives -/
def PaV (H : Hp) (v : V) (a b : List Tk) : Prop := match paI a b with
  | none => v = .non
  | some n => ∃ x y, TpV H v [.int (n : Int), x, y] ∧ OtV H x a[n]? ∧ OtV H y b[n]?
theorem ot_get {H : Hp} {ys : List V} {as : List Tk} (ay : A2 (TkV H) ys as) (n : Nat) : OtV H ((ys[n]?).getD .non) as[n]? := by
  cases e : as[n]? with
  | none =>
    have : ys[n]? = none := by
      rw [List.getElem?_eq_none_iff, ay.len]
      exact List.getElem?_eq_none_iff.mp e
    rw [this]
    rfl
  | some t =>
    obtain ⟨v, hv, tv⟩ := a2_get ay e
    rw [hv]
    exact tv
theorem ev_getOr {K : PySem.W.Frag} {σ : L2.St} {H : Hp} {i j p : Nat} {ys : List V} {pr : Addr} {r : R2} (hr : r = rI0 fun i j => .bl (decide (i < j))) (hi : σ[i]? = some (some (.ref pr))) (hj : σ[j]? = some (some (.int (p : Int)))) (hp : H pr = some (.lst ys)) :
    Ev (tIf (tTest (tOp r (tVar j) (tCB (fun xs H Q => ∃ p ys, xs = [V.ref p] ∧ (SqL K H p ys ∨ SqT K H p ys) ∧ Q (.int ys.length) H) (tCons (tVar i) tNil)))) (tOp (rIxL K) (tVar i) (tVar j)) (tC .non)) σ H ((ys[p]?).getD .non) := by
  subst hr
  refine ev_if (b := decide ((p : Int) < (ys.length : Int))) (et_test (ev_op (ev_var hj) (ev_cb (ea_cons (ev_var hi) ea_nil) fun H1 e1 Q q => ⟨pr, ys, rfl, Or.inl (sq_of (e1 _ _ hp)), q H1 (Ex.refl _)⟩) rv_I0)) (fun hb => ?_) (fun hb => ?_)
  · have h := of_decide_eq_true hb
    have h2 : p < ys.length := by omega
    rw [List.getElem?_eq_getElem h2]
    exact ev_op (ev_var hi) (ev_var hj) (rv_ixL (sq_of hp) (atI_nat (List.getElem?_eq_getElem h2)))
  · have h := of_decide_eq_false hb
    have h2 : ys.length ≤ p := by omega
    rw [List.getElem?_eq_none_iff.mpr h2]
    exact ev_c
def sp_parting (_ : PySem.W.Frag) (_ : Ads) : Sp := fun vs H Q _ => ∃ l m : List Nat, vs = [.str (S l), .str (S m)] ∧ l.length ≤ 20000 ∧ m.length ≤ 20000 ∧ Asc l ∧ Asc m ∧ (scanned l).fail = none ∧ (scanned m).fail = none ∧
  ∀ (v : V) (H' : Hp), Ex H H' → PaV H' v (sigs l) (sigs m) → Q v H'
theorem ok_parting {P : Program} {w : World} {K : PySem.W.Frag} {mg : Str → Option Value} {base : Heap} {a : Ads} (T : Txt w K mg a) (G_tokens : FnOk P w K mg base CX0 10 a.tokens a.d_tokens ["text"] (sp_tokens K a)) (G_is_significant : FnOk P w K mg base CX0 1 a.is_significant a.d_is_significant ["token"] (sp_is_significant K a)) (G_sense_of : FnOk P w K mg base CX0 1 a.sense_of a.d_sense_of ["token"] (sp_sense_of K a)) :
    FnOk P w K mg base CX0 11 a.parting a.d_parting ["one", "other"] (sp_parting K a) := by
  refine T.F_parting.ok sc_parting (fun vs H Q E h => ?_) (fun cdv A outer s H vs Q E hr h => ?_)
  · obtain ⟨_, _, rfl, _⟩ := h; rfl
  · obtain ⟨l, m, rfl, hl, hm, la, ma, hf, hg, k⟩ := h
    refine ⟨_, (pss_cons (ps_setLc (i := 2) (own := [("token", 7)]) (g := gName 7) rfl sc_parting.nd rfl rfl (sw_true rfl rfl rfl (by decide +kernel)) (pi_list (pe_call G_tokens (hr.mono (by decide)) rfl T.m_tokens T.F_tokens.kp T.b_tokens .nil pass0 (pa_cons (pv 0) pa_nil))) (blkOk_by (N := N_parting) (sc := defScope s_parting) (by decide +kernel)) (fun _ _ _ _ _ => (pg_name (i := 7) sc_parting.nd rfl (Or.inl rfl))) (fun _ _ _ _ _ => (pts_one (pt_val (pe_call G_is_significant (hr.mono (by decide)) rfl T.m_is_significant T.F_is_significant.kp T.b_is_significant .nil pass0 (pa_cons (pv 7) pa_nil))))) (fun _ _ _ _ _ => (pv 7)))
      (pss_cons (ps_setLc (i := 3) (own := [("token", 7)]) (g := gName 7) rfl sc_parting.nd rfl rfl (sw_true rfl rfl rfl (by decide +kernel)) (pi_list (pe_call G_tokens (hr.mono (by decide)) rfl T.m_tokens T.F_tokens.kp T.b_tokens .nil pass0 (pa_cons (pv 1) pa_nil))) (blkOk_by (N := N_parting) (sc := defScope s_parting) (by decide +kernel)) (fun _ _ _ _ _ => (pg_name (i := 7) sc_parting.nd rfl (Or.inl rfl))) (fun _ _ _ _ _ => (pts_one (pt_val (pe_call G_is_significant (hr.mono (by decide)) rfl T.m_is_significant T.F_is_significant.kp T.b_is_significant .nil pass0 (pa_cons (pv 7) pa_nil))))) (fun _ _ _ _ _ => (pv 7)))
      (pss_cons (ps_for PassesOwn.never rfl (pi_range1 rfl T.n_range (pa_cons (pe_callB (call_max2 rfl) (by rfl) T.n_max b_max (pa_cons (pe_callB call_len_seq (by rfl) T.n_len b_len (pa_cons (pv 2) pa_nil)) (pa_cons (pe_callB call_len_seq (by rfl) T.n_len b_len (pa_cons (pv 3) pa_nil)) pa_nil))) pa_nil)) (pg_name (i := 4) sc_parting.nd rfl (Or.inl rfl)) (pss_cons (ps_set (i := 5) sc_parting.nd rfl (Or.inl rfl) (pe_ifExp (pt_cmpR op_lt (pv 4) (pe_callB call_len_seq (by rfl) T.n_len b_len (pa_cons (pv 2) pa_nil)) (nomark _)) (pe_ix ix_list (pv 2) (pv 4) (fun _ _ => rfl)) pe_non))
      (pss_cons (ps_set (i := 6) sc_parting.nd rfl (Or.inl rfl) (pe_ifExp (pt_cmpR op_lt (pv 4) (pe_callB call_len_seq (by rfl) T.n_len b_len (pa_cons (pv 3) pa_nil)) (nomark _)) (pe_ix ix_list (pv 3) (pv 4) (fun _ _ => rfl)) pe_non))
      (pss_one (ps_if (PW.pt (pw_or (pt_cmpR op_isN (pv 5) pe_non (nomark _)) (pw_or (pt_cmpR op_isN (pv 6) pe_non (nomark _)) (pw_or1 (pt_cmpR (op_neD hr.units) (pe_call G_sense_of (hr.mono (by decide)) rfl T.m_sense_of T.F_sense_of.kp T.b_sense_of .nil pass0 (pa_cons (pv 5) pa_nil)) (pe_call G_sense_of (hr.mono (by decide)) rfl T.m_sense_of T.F_sense_of.kp T.b_sense_of .nil pass0 (pa_cons (pv 6) pa_nil)) (nomark _)))))) (pss_one (ps_ret (pe_tup (pa_cons (pv 4) (pa_cons (pv 5) (pa_cons (pv 6) pa_nil)))))) pss_nil)))))
      (pss_one (ps_ret pe_non))))), ?_⟩
    have hfl := found_max hl
    have hfm := found_max hm
    have okl := (tg_ok (Sc.tg_scanned (l := l)) la).1.filter sig
    have okm := (tg_ok (Sc.tg_scanned (l := m)) ma).1.filter sig
    refine q_asgQ (lc_Q (call_Q (ea_Q (vs := [.str (S l)]) (ea_cons (ev_var rfl) ea_nil) fun H1 e1 => ⟨l, rfl, hl, hf, fun q H2 hq e2 tq => ?_⟩)))
    obtain ⟨xs, hx, ax⟩ := tq
    refine lc_rel (R := TkV) (R' := TkV) tk_ex tk_ex tk_up hx ax (by omega) sig id (fun _ => rfl) (fun x t H3 ht e3 r => et_B (ev_call (ea_cons (ev_var rfl) ea_nil) fun H4 e4 Q q E => ⟨x, t, rfl, tk_ex _ _ e4 _ _ r, fun H5 e5 => q H5 e5⟩))
      (fun x t H3 ht hf e3 r Q' q' => ev_Q (ev_var rfl) fun H4 e4 => q' x H4 e4 (tk_ex _ _ e4 _ _ r)) fun pm us H3 hpm e3 hus aus => ?_
    rw [List.map_id] at aus
    refine q_asgQ (lc_Q (call_Q (ea_Q (vs := [.str (S m)]) (ea_cons (ev_var rfl) ea_nil) fun H4 e4 => ⟨m, rfl, hm, hg, fun q' H5 hq' e5 tq' => ?_⟩)))
    obtain ⟨xs', hx', ax'⟩ := tq'
    refine lc_rel (R := TkV) (R' := TkV) tk_ex tk_ex tk_up hx' ax' (by omega) sig id (fun _ => rfl) (fun x t H6 ht e6 r => et_B (ev_call (ea_cons (ev_var rfl) ea_nil) fun H7 e7 Q q E => ⟨x, t, rfl, tk_ex _ _ e7 _ _ r, fun H8 e8 => q H8 e8⟩))
      (fun x t H6 ht hf e6 r Q' q' => ev_Q (ev_var rfl) fun H7 e7 => q' x H7 e7 (tk_ex _ _ e7 _ _ r)) fun py ws H6 hpy e6 hws aws => ?_
    rw [List.map_id] at aws
    have e36 := (e4.trans e5).trans e6
    have e06 := ((e1.trans e2).trans e3).trans e36
    have hus6 := e36 _ _ hus
    have aus6 : A2 (TkV H6) us (sigs l) := aus.imp (tk_ex _ _ e36)
    have aws6 : A2 (TkV H6) ws (sigs m) := aws
    have lul := aus6.len
    have lwl := aws6.len
    have ll2 := List.length_filter_le sig (scanned l).found
    have lm2 := List.length_filter_le sig (scanned m).found
    have hsl : (sigs l).length = ((scanned l).found.filter sig).length := rfl
    have hsm : (sigs m).length = ((scanned m).found.filter sig).length := rfl
    refine q_forR1 (n := if (ws.length : Int) > (us.length : Int) then (ws.length : Int) else (us.length : Int))
      (ea_cons (ev_cb (ea_cons (ev_cb (ea_cons (ev_var rfl) ea_nil) fun H9 e9 Q q => ⟨pm, us, rfl, Or.inl (sq_of (e9 _ _ hus6)), q H9 (Ex.refl _)⟩) (ea_cons (ev_cb (ea_cons (ev_var rfl) ea_nil) fun H9 e9 Q q => ⟨py, ws, rfl, Or.inl (sq_of (e9 _ _ hws)), q H9 (Ex.refl _)⟩) ea_nil)) (fun H9 _ Q q => ⟨_, _, rfl, q H9 (Ex.refl _)⟩)) ea_nil)
      (by split <;> omega)
      (fun i σ' H' => ∃ v4 v5 v6 v7 : Option V, σ' = [some (.str (S l)), some (.str (S m)), some (.ref pm), some (.ref py), v4, v5, v6, v7] ∧ Ex H6 H' ∧ ∀ j, j < i → ((sigs l).map sens)[j]? = ((sigs m).map sens)[j]?)
      (fun H7 e7 => ⟨none, none, none, none, rfl, e7, fun j hj => absurd hj (Nat.not_lt_zero _)⟩) ?_ ?_
    · rintro i σ' H7 hi ⟨v4, v5, v6, v7, rfl, e7, hpre⟩
      refine q_asg (v := (us[i]?).getD .non) (ev_getOr rfl rfl rfl (e7 _ _ hus6)) fun H8 e8 => ?_
      refine q_asg (v := (ws[i]?).getD .non) (ev_getOr rfl rfl rfl (e8 _ _ (e7 _ _ hws))) fun H9 e9 => ?_
      have e69 := (e7.trans e8).trans e9
      have o1 : OtV H9 ((us[i]?).getD .non) (sigs l)[i]? := ot_get (aus6.imp (tk_ex _ _ e69)) i
      have o2 : OtV H9 ((ws[i]?).getD .non) (sigs m)[i]? := ot_get (aws6.imp (tk_ex _ _ e69)) i
      generalize (us[i]?).getD .non = x at o1
      generalize (ws[i]?).getD .non = y at o2
      have part : ((sigs l).map sens)[i]? ≠ ((sigs m).map sens)[i]? → ∀ H9', Ex H9 H9' → tRet (tTup (tCons (tVar 4) (tCons (tVar 5) (tCons (tVar 6) tNil)))) { nx := fun _ H' => Q .non H', rt := Q } [some (.str (S l)), some (.str (S m)), some (.ref pm), some (.ref py), some (.int (i : Int)), some x, some y, v7] H9' := fun hne H9' e9' => by
        refine s_retU (xs := [.int (i : Int), x, y]) (eu_tup (ea_cons (ev_var rfl) (ea_cons (ev_var rfl) (ea_cons (ev_var rfl) ea_nil))) (by show 3 ≤ 100000; decide)) fun p H10 hp e10 h10 => ?_
        refine k _ H10 (e06.trans (e69.trans (e9'.trans e10))) ?_
        unfold PaV
        rw [show paI (sigs l) (sigs m) = some i from pIdx_some hpre hne]
        refine ⟨x, y, ⟨p, rfl, h10⟩, ?_, ?_⟩
        · cases ho : (sigs l)[i]? with
          | none => rw [ho] at o1; exact o1
          | some t => rw [ho] at o1; exact tk_ex _ _ (e9'.trans e10) _ _ o1
        · cases ho : (sigs m)[i]? with
          | none => rw [ho] at o2; exact o2
          | some t => rw [ho] at o2; exact tk_ex _ _ (e9'.trans e10) _ _ o2
      cases h1 : (sigs l)[i]? with
      | none =>
        rw [h1] at o1
        cases o1
        refine s_when (b := true) (et_or (a := true) (b := false) (et_test (ev_op (ev_var rfl) ev_c (fun H9 _ Q q => ⟨rfl, q H9 (Ex.refl _)⟩))) (fun hb => nomatch hb)) (fun _ H10 e10 => part (fun z => ?_) H10 e10) (fun hb => nomatch hb)
        rw [List.getElem?_map, List.getElem?_map, h1] at z
        cases h2 : (sigs m)[i]? with
        | none =>
          have a1 := List.getElem?_eq_none_iff.mp h1
          have a2 := List.getElem?_eq_none_iff.mp h2
          split at hi <;> omega
        | some t2 => rw [h2] at z; cases z
      | some t1 =>
        rw [h1] at o1
        have nx : (decide (x = .non)) = false := by obtain ⟨q, rfl, _⟩ := o1; exact decide_eq_false (fun z => nomatch z)
        cases h2 : (sigs m)[i]? with
        | none =>
          rw [h2] at o2
          cases o2
          refine s_when (b := true) (et_or (a := false) (b := true) (et_is (et_test (ev_op (ev_var rfl) ev_c (fun H9 _ Q q => ⟨rfl, q H9 (Ex.refl _)⟩))) nx) (fun _ => et_or (a := true) (b := false) (et_test (ev_op (ev_var rfl) ev_c (fun H9 _ Q q => ⟨rfl, q H9 (Ex.refl _)⟩))) (fun hb => nomatch hb))) (fun _ H10 e10 => part (fun z => ?_) H10 e10) (fun hb => nomatch hb)
          rw [List.getElem?_map, List.getElem?_map, h1, h2] at z
          cases z
        | some t2 =>
          rw [h2] at o2
          have ny : (decide (y = .non)) = false := by obtain ⟨q, rfl, _⟩ := o2; exact decide_eq_false (fun z => nomatch z)
          have ok1 := okl t1 (mem_of_at h1)
          have ok2 := okm t2 (mem_of_at h2)
          have edS : ∀ {j : Nat} {v : V} {t : Tk} {H : Hp} {σ : L2.St}, σ[j]? = some (some v) → TkV H v t → Ed K (tCall (sp_sense_of K a) [] E0 (tCons (tVar j) tNil)) σ H (senD t) := fun hj hv H1 e1 Q q =>
            call_Q (ea_Q (ea_cons (ev_var hj) ea_nil) fun H2 e2 => ⟨_, _, rfl, tk_ex _ _ (e1.trans e2) _ _ hv, fun y H3 e3 ⟨p, ey, hp⟩ => by
              subst ey
              exact q _ H3 (e2.trans e3) (.tup (st_of hp) (.cons (.str _) (.cons (.str _) .nil)))⟩)
          have shp : ∀ {t : Tk}, Asc t.s ∧ t.kind ∈ kindsL → SeqAt.shaped (senD t) = true := fun {t} ht => by
            unfold SeqAt.shaped
            rw [lay_sen ht.1 ht.2]
            have := dep_sen t
            simp only [Bool.true_and]
            exact decide_eq_true (by omega)
          have eqv : PyData.eqv (senD t1) (senD t2) = decide (sens t1 = sens t2) := by
            have := eqvA_senD (a := [t1]) (b := [t2])
            have e : PyData.eqvAll ([t1].map senD) ([t2].map senD) = (PyData.eqv (senD t1) (senD t2) && true) := rfl
            rw [e, Bool.and_true] at this
            rw [this]
            exact decide_eq_decide.mpr (by simp)
          refine s_when (b := !decide (sens t1 = sens t2)) (et_or (a := false) (b := !decide (sens t1 = sens t2)) (et_is (et_test (ev_op (ev_var rfl) ev_c (fun H9 _ Q q => ⟨rfl, q H9 (Ex.refl _)⟩))) nx) (fun _ => et_or (a := false) (b := !decide (sens t1 = sens t2)) (et_is (et_test (ev_op (ev_var rfl) ev_c (fun H9 _ Q q => ⟨rfl, q H9 (Ex.refl _)⟩))) ny) (fun _ => et_is (et_test (ev_neD (edS rfl o1) (edS rfl o2) (shp ok1) (shp ok2))) (by rw [eqv])))) (fun hb H10 e10 => part (fun z => ?_) H10 e10) (fun hb H10 e10 => ?_)
          · rw [List.getElem?_map, List.getElem?_map, h1, h2] at z
            have : sens t1 = sens t2 := Option.some.inj z
            rw [decide_eq_true this] at hb
            cases hb
          · refine ⟨_, _, _, _, rfl, e69.trans e10, fun j hj => ?_⟩
            by_cases hji : j < i
            · exact hpre j hji
            · have : j = i := by omega
              subst this
              rw [List.getElem?_map, List.getElem?_map, h1, h2]
              have : sens t1 = sens t2 := by
                by_cases z : sens t1 = sens t2
                · exact z
                · rw [decide_eq_false z] at hb; cases hb
              exact congrArg some this
    · rintro σ' H7 ⟨v4, v5, v6, v7, rfl, e7, hpre⟩
      refine s_ret ev_c fun H8 e8 => k _ H8 (e06.trans (e7.trans e8)) ?_
      unfold PaV
      have : paI (sigs l) (sigs m) = none := by
        refine pIdx_none.mpr (List.ext_getElem? fun j => ?_)
        by_cases hj : (j : Int) < (if (ws.length : Int) > (us.length : Int) then (ws.length : Int) else (us.length : Int))
        · exact hpre j (by split at hj <;> rename_i hq <;> simp only [hq, if_true, if_false] <;> omega)
        · rw [List.getElem?_eq_none_iff.mpr (by rw [List.length_map]; split at hj <;> omega), List.getElem?_eq_none_iff.mpr (by rw [List.length_map]; split at hj <;> omega)]
      rw [this]
theorem pa_dp {K : PySem.W.Frag} {H : Hp} {v : V} {a b : List Tk} (h : PaV H v a b) : Dp K H v (paD a b) := by
  unfold PaV at h
  unfold paD
  split at h
  · rename_i e
    first | rw [e, h] | rw [h]
    exact .non
  · rename_i n e
    first | rw [e] | skip
    obtain ⟨x, y, ⟨p, rfl, hp⟩, h1, h2⟩ := h
    exact .tup (st_of hp) (.cons (.int _) (.cons (ot_dp h1) (.cons (ot_dp h2) .nil)))

section
variable {K : PySem.W.Frag} {a : Ads} {E : XK} {σ : L2.St} {H : Hp} {te : TE} {l : List Nat} {r : R2}
/-- read(text)[1] is None -/
theorem et_rd1 (hr : ∀ x H Q, Q (.bl (decide (x = V.non))) H → r x .non H Q) (h : Ev te σ H (.str (S l))) (hl : l.length ≤ 20000) : EvT (tTest (tOp r (tOp (rIxT K) (tCall (sp_read K a) [] E (tCons te tNil)) (tC (.int 1))) (tC .non))) σ H (decide ((scanned l).fail = none)) := fun H1 e1 Q q =>
  op_q (op_q (call_Q (ea_Q (ea_cons (h.mono e1) ea_nil) fun H2 e2 => ⟨l, rfl, hl, fun p c fv H3 hp hc hne e3 hpC hnC hfC => ev_Q ev_c fun H4 e4 => ⟨p, _, 1, fv, rfl, rfl, st_of (e4 _ _ hpC), rfl, ev_Q ev_c fun H5 e5 => hr _ _ _ ⟨decide ((scanned l).fail = none), by
    congr 1
    cases hf : (scanned l).fail with
    | none => rw [hf] at hfC; cases hfC; rfl
    | some z =>
      rw [hf] at hfC
      obtain ⟨q, rfl, _⟩ := hfC
      rfl, q H5 (((e2.trans e3).trans e4).trans e5)⟩⟩⟩)))
end
/-! ### a drawn text without an error -/
def validT : List V := [.str "", .str "a\n", .str "if a:\n  b = 'c'\n"]
theorem valid_three : ∀ v ∈ validT, ∃ z, v = .str (S z) ∧ z.length ≤ 1900 ∧ Txc z ∧ (scanned z).fail = none := by
  intro v hv
  have go : ∀ x : Str, (decide (x.cps.toList.length ≤ 1900) && x.cps.toList.all okC && (scanned x.cps.toList).fail.isNone) = true → ∃ z, V.str x = .str (S z) ∧ z.length ≤ 1900 ∧ Txc z ∧ (scanned z).fail = none := fun x h => by
    simp only [Bool.and_eq_true, decide_eq_true_eq] at h
    exact ⟨x.cps.toList, by rw [S_of], h.1.1, fun c hc => List.all_eq_true.mp h.1.2 c hc, Option.isNone_iff_eq_none.mp h.2⟩
  simp only [validT, List.mem_cons, List.not_mem_nil, or_false] at hv
  rcases hv with rfl | rfl | rfl <;> exact go _ (by decide +kernel)
def sp__law_valid (_ : PySem.W.Frag) (_ : Ads) : Sp := fun vs H Q _ => ∃ (b : Addr) (m c : Int), vs = [.ref b, .int m] ∧ Bag H b c ∧ 0 ≤ m ∧ m ≤ 20 ∧ c ≤ 500000000 ∧
  ∀ (z : List Nat) (H' : Hp), Kp b H H' → Bag H' b (c + 300001) → z.length ≤ 1900 → Txc z → (scanned z).fail = none → Q (.str (S z)) H'
theorem ok__law_valid {P : Program} {w : World} {K : PySem.W.Frag} {mg : Str → Option Value} {base : Heap} {a : Ads} (T : Txt w K mg a) (G__law_source : FnOk P w K mg base CX0 10 a._law_source a.d__law_source ["_law_bag_here", "_law_most"] (sp__law_source K a)) (G_read : FnOk P w K mg base CX0 9 a.read a.d_read ["text"] (sp_read K a)) (G__law_take : FnOk P w K mg base CX0 1 a._law_take a.d__law_take ["_law_bag_here", "_law_many"] (sp__law_take K a)) :
    FnOk P w K mg base CX0 11 a._law_valid a.d__law_valid ["_law_bag_here", "_law_most"] (sp__law_valid K a) := by
  refine T.F__law_valid.ok sc__law_valid (fun vs H Q E h => ?_) (fun cdv A outer s H vs Q E hr h => ?_)
  · obtain ⟨_, _, _, rfl, _⟩ := h; rfl
  · obtain ⟨b, m, c, rfl, hb, m0, m20, hc, k⟩ := h
    refine ⟨_, (pss_cons (ps_for PassesOwn.never rfl (pi_range1 rfl T.n_range (pa_cons pe_int pa_nil)) (pg_name (i := 2) sc__law_valid.nd rfl (Or.inl rfl)) (pss_cons (ps_set (i := 3) sc__law_valid.nd rfl (Or.inl rfl) (pe_call G__law_source (hr.mono (by decide)) rfl T.m__law_source T.F__law_source.kp T.b__law_source .nil pass0 (pa_cons (pv 0) (pa_cons (pv 1) pa_nil))))
      (pss_one (ps_if (pt_cmpR op_isN (pe_ix ix_tup (pe_call G_read (hr.mono (by decide)) rfl T.m_read T.F_read.kp T.b_read .nil pass0 (pa_cons (pv 3) pa_nil)) pe_int (fun _ _ => rfl)) pe_non (nomark _)) (pss_one (ps_ret (pv 3))) pss_nil))))
      (pss_one (ps_ret (pe_ix ix_list (pe_lst (pa_cons pe_str (pa_cons pe_str (pa_cons pe_str pa_nil)))) (pe_call G__law_take (hr.mono (by decide)) rfl T.m__law_take T.F__law_take.kp T.b__law_take .nil pass0 (pa_cons (pv 0) (pa_cons pe_int pa_nil))) (fun _ _ => rfl))))), ?_⟩
    refine q_forR1 (n := 6) (ea_cons ev_c ea_nil) (by decide) (fun i σ' H' => ∃ v2 v3 : Option V, σ' = [some (.ref b), some (.int m), v2, v3] ∧ Kp b H H' ∧ Bag H' b (c + i * 50000)) (fun H1 e1 => ⟨none, none, rfl, Kp.of e1, (hb.ex e1).mono (by simp)⟩) ?_ ?_
    · rintro i σ' H1 hi ⟨v2, v3, rfl, kp1, bg1⟩
      have hi6 : i < 6 := by omega
      refine q_asgQ (call_Q (ea_q ⟨_, rfl, ea_q ⟨_, rfl, ea_n ⟨b, m, _, rfl, bg1, m0, m20, by omega, fun l H2 kp2 bg2 ll lx => ?_⟩⟩⟩))
      refine s_when (et_rd1 (l := l) (fun _ _ _ q => ⟨rfl, q⟩) (ev_var rfl) (by omega)) (fun hb3 H3 e3 => ?_) (fun hb3 H3 e3 => ?_)
      · exact s_ret (ev_var rfl) fun H4 e4 => k l H4 ((kp1.trans kp2).trans (Kp.of (e3.trans e4))) (((bg2.ex e3).ex e4).mono (by omega)) ll lx (of_decide_eq_true hb3)
      · exact ⟨_, _, rfl, (kp1.trans kp2).trans (Kp.of e3), (bg2.ex e3).mono (by omega)⟩
    · rintro σ' H1 ⟨v2, v3, rfl, kp1, bg1⟩
      refine s_retQ (rd_pickN (xs := validT) (n := 3) (el_lst (by repeat' first | exact ea_nil | refine ea_cons ev_c ?_) (by decide)) (ev_var rfl) ev_c bg1 (by omega) (by decide) (by decide) (by decide) fun v H2 hv kp2 bg2 => ?_)
      obtain ⟨z, rfl, lz, xz, fz⟩ := valid_three v hv
      exact k z H2 (kp1.trans kp2) (bg2.mono (by omega)) lz xz fz

end K26

set_option Elab.async false
set_option linter.all false
set_option maxRecDepth 100000
set_option maxHeartbeats 4000000
namespace K26
open PySem PySem.Spec PyProof.Rows L2 Evl Kt
/-! ### two texts are parted right -/
theorem PaV.ex {H H' : Hp} (e : Ex H H') {v : V} {a b : List Tk} (h : PaV H v a b) : PaV H' v a b := by
  unfold PaV at h ⊢
  split at h
  · exact h
  · rename_i n e1
    obtain ⟨x, y, h1, h2, h3⟩ := h
    refine ⟨x, y, h1.mono e, ?_, ?_⟩
    · cases ho : a[n]? with
      | none => rw [ho] at h2; exact h2
      | some t => rw [ho] at h2; exact tk_ex _ _ e _ _ h2
    · cases ho : b[n]? with
      | none => rw [ho] at h3; exact h3
      | some t => rw [ho] at h3; exact tk_ex _ _ e _ _ h3
def Vd (l : List Nat) : Prop := l.length ≤ 2000 ∧ Asc l ∧ (scanned l).fail = none
theorem ot_ex {H H' : Hp} (e : Ex H H') {v : V} {o : Option Tk} (h : OtV H v o) : OtV H' v o := by
  cases o with
  | none => exact h
  | some t => exact tk_ex _ _ e _ _ h
theorem otD_lay {ts : List Tk} (ok : TkOk ts) (n : Nat) : (otD ts[n]?).canLay0 = true ∧ (otD ts[n]?).depth ≤ 3 := by
  cases h : ts[n]? with
  | none => exact ⟨rfl, Nat.zero_le _⟩
  | some t => exact ⟨lay_tk (ok t (mem_of_at h)).1 (ok t (mem_of_at h)).2, dep_tk t⟩
theorem paD_shaped {a b : List Tk} (oka : TkOk a) (okb : TkOk b) : SeqAt.shaped (paD a b) = true := by
  unfold paD
  split
  · rfl
  · rename_i n _
    refine shaped_tup (k := 3) (fun d hd => ?_) (by decide)
    simp only [List.mem_cons, List.not_mem_nil, or_false] at hd
    rcases hd with rfl | rfl | rfl
    · exact ⟨rfl, Nat.zero_le _⟩
    · exact otD_lay oka n
    · exact otD_lay okb n
theorem paD_lay {a b : List Tk} (oka : TkOk a) (okb : TkOk b) : (paD a b).canLay0 = true := by
  unfold paD
  split
  · rfl
  · rename_i n _
    show ((PyData.int (n : Int)).canLay0 && ((otD a[n]?).canLay0 && ((otD b[n]?).canLay0 && true))) = true
    rw [(otD_lay oka n).1, (otD_lay okb n).1]
    rfl
theorem part_next {ts : List Tk} {n : Nat} (h : n ≤ ts.length) : ((ts.map tkD ++ [PyData.none]).drop n).take 1 = [otD ts[n]?] := by
  rw [← List.map_singleton (f := fun o => o) (a := PyData.none)]
  by_cases hn : n < ts.length
  · rw [List.getElem?_eq_getElem hn, List.drop_append_of_le_length (by rw [List.length_map]; omega), List.drop_eq_getElem_cons (by rw [List.length_map]; exact hn)]
    simp [otD]
  · have e : n = ts.length := by omega
    subst e
    rw [List.getElem?_eq_none_iff.mpr (Nat.le_refl _), List.drop_append_of_le_length (by rw [List.length_map]; exact Nat.le_refl _), List.drop_of_length_le (by rw [List.length_map]; exact Nat.le_refl _)]
    rfl
def sp__law_right (_ : PySem.W.Frag) (_ : Ads) : Sp := fun vs H Q _ => ∃ l m : List Nat, vs = [.str (S l), .str (S m)] ∧ Vd l ∧ Vd m ∧ RetV (.bl true) H Q
theorem ok__law_right {P : Program} {w : World} {K : PySem.W.Frag} {mg : Str → Option Value} {base : Heap} {a : Ads} (T : Txt w K mg a) (G_tokens : FnOk P w K mg base CX0 10 a.tokens a.d_tokens ["text"] (sp_tokens K a)) (G_significant : FnOk P w K mg base CX0 11 a.significant a.d_significant ["text"] (sp_significant K a)) (G_parting : FnOk P w K mg base CX0 11 a.parting a.d_parting ["one", "other"] (sp_parting K a)) :
    FnOk P w K mg base CX0 12 a._law_right a.d__law_right ["_law_one", "_law_other"] (sp__law_right K a) := by
  refine T.F__law_right.ok sc__law_right (fun vs H Q E h => ?_) (fun cdv A outer s H vs Q E hr h => ?_)
  · obtain ⟨_, _, rfl, _⟩ := h; rfl
  · obtain ⟨l, m, rfl, ⟨hl, la, hf⟩, ⟨hm, ma, hg⟩, k⟩ := h
    refine ⟨_, (pss_cons (ps_setLc (i := 2) (own := [("_law_token", 10)]) (g := gName 10) rfl sc__law_right.nd rfl rfl (sw_true rfl rfl rfl (by decide +kernel)) (pi_list (pe_call G_tokens (hr.mono (by decide)) rfl T.m_tokens T.F_tokens.kp T.b_tokens .nil pass0 (pa_cons (pv 0) pa_nil))) (blkOk_by (N := N__law_right) (sc := defScope s__law_right) (by decide +kernel)) (fun _ _ _ _ _ => (pg_name (i := 10) sc__law_right.nd rfl (Or.inl rfl))) (fun _ _ _ _ _ => (pts_one (pt_cmpR (r := rIn K true) op_notIn_seq (pe_ix (r := rIxT K) ix_tup (pv 10) pe_int (fun _ _ => rfl)) (pe_tup (pa_cons pe_str (pa_cons pe_str pa_nil))) (by rfl)))) (fun _ _ _ _ _ => (pv 10)))
      (pss_cons (ps_setLc (i := 3) (own := [("_law_token", 10)]) (g := gName 10) rfl sc__law_right.nd rfl rfl (sw_true rfl rfl rfl (by decide +kernel)) (pi_list (pe_call G_tokens (hr.mono (by decide)) rfl T.m_tokens T.F_tokens.kp T.b_tokens .nil pass0 (pa_cons (pv 1) pa_nil))) (blkOk_by (N := N__law_right) (sc := defScope s__law_right) (by decide +kernel)) (fun _ _ _ _ _ => (pg_name (i := 10) sc__law_right.nd rfl (Or.inl rfl))) (fun _ _ _ _ _ => (pts_one (pt_cmpR (r := rIn K true) op_notIn_seq (pe_ix (r := rIxT K) ix_tup (pv 10) pe_int (fun _ _ => rfl)) (pe_tup (pa_cons pe_str (pa_cons pe_str pa_nil))) (by rfl)))) (fun _ _ _ _ _ => (pv 10)))
      (pss_cons (ps_par3 (i := 4) (j := 5) (l := 6) (by rfl) sc__law_right.nd rfl rfl rfl (by decide) (by decide) (by decide) rfl rfl rfl (pa_cons (pe_call G_parting (hr.mono (by decide)) rfl T.m_parting T.F_parting.kp T.b_parting .nil pass0 (pa_cons (pv 0) (pa_cons (pv 1) pa_nil))) (pa_cons (pe_call G_significant (hr.mono (by decide)) rfl T.m_significant T.F_significant.kp T.b_significant .nil pass0 (pa_cons (pv 0) pa_nil)) (pa_cons (pe_call G_significant (hr.mono (by decide)) rfl T.m_significant T.F_significant.kp T.b_significant .nil pass0 (pa_cons (pv 1) pa_nil)) pa_nil))) (by rfl))
      (pss_cons (ps_if (pt_cmpR op_ne (pe_cmpR op_isN (pv 4) pe_non (nomark _)) (pe_cmpR (op_eqD hr.units) (pv 5) (pv 6) (nomark _)) (nomark _)) (pss_one (ps_ret pe_bl)) pss_nil)
      (pss_cons (ps_if (pt_cmpR op_isN (pv 4) pe_non (nomark _)) (pss_one (ps_ret (pe_cmpR op_isN (pe_call G_parting (hr.mono (by decide)) rfl T.m_parting T.F_parting.kp T.b_parting .nil pass0 (pa_cons (pv 1) (pa_cons (pv 0) pa_nil))) pe_non (nomark _)))) pss_nil)
      (pss_cons (ps_asg (pv 4) (pg_tup rfl (pgs_cons (pg_name (i := 7) sc__law_right.nd rfl (Or.inl rfl)) (pgs_cons (pg_name (i := 8) sc__law_right.nd rfl (Or.inl rfl)) (pgs_cons (pg_name (i := 9) sc__law_right.nd rfl (Or.inl rfl)) pgs_nil)))))
      (pss_cons (ps_if (PW.pt (pw_or (pt_cmpR (op_neD hr.units) (pe_slice sl_list (pv 5) po_none (po_some (pv 7))) (pe_slice sl_list (pv 6) po_none (po_some (pv 7))) (nomark _)) (pw_or (pt_cmpR (op_eqD hr.units) (pe_slice sl_list (pv 5) (po_some (pv 7)) (po_some (pe_op op_add (pv 7) pe_int))) (pe_slice sl_list (pv 6) (po_some (pv 7)) (po_some (pe_op op_add (pv 7) pe_int))) (nomark _)) (pw_or1 (pt_cmpR (op_neD hr.units) (pe_call G_parting (hr.mono (by decide)) rfl T.m_parting T.F_parting.kp T.b_parting .nil pass0 (pa_cons (pv 1) (pa_cons (pv 0) pa_nil))) (pe_tup (pa_cons (pv 7) (pa_cons (pv 9) (pa_cons (pv 8) pa_nil)))) (nomark _)))))) (pss_one (ps_ret pe_bl)) pss_nil)
      (pss_one (ps_ret (pe_and (pe_cmpR (op_eqD hr.units) (pe_lst (pa_cons (pv 8) pa_nil)) (pe_slice sl_list (pe_op op_cat (pv 2) (pe_lst (pa_cons pe_non pa_nil))) (po_some (pv 7)) (po_some (pe_op op_add (pv 7) pe_int))) (nomark _)) (pe_one (pe_cmpR (op_eqD hr.units) (pe_lst (pa_cons (pv 9) pa_nil)) (pe_slice sl_list (pe_op op_cat (pv 3) (pe_lst (pa_cons pe_non pa_nil))) (po_some (pv 7)) (po_some (pe_op op_add (pv 7) pe_int))) (nomark _))))))))))))), ?_⟩
    have hfl := found_max (l := l) (by omega)
    have hfm := found_max (l := m) (by omega)
    have okl := (tg_ok (Sc.tg_scanned (l := l)) la).1.filter sig
    have okm := (tg_ok (Sc.tg_scanned (l := m)) ma).1.filter sig
    have tst : ∀ {x : V} {t : Tk} {H : Hp} {σ : L2.St} {j : Nat}, σ[j]? = some (some x) → TkV H x t → EvT (tTest (tOp (rIn K true) (tOp (rIxT K) (tVar j) (tC (.int 0))) (tTup (tCons (tC (.str "COMMENT")) (tCons (tC (.str "NL")) tNil))))) σ H (sig t) := fun hj r =>
      et_test (ev_niU (xs := gapK) (ev_tkI (ev_var hj) r ev_c rfl) (eu_tup (ea_cons ev_c (ea_cons ev_c ea_nil)) (by decide)) rfl (by decide +kernel))
    refine q_asgQ (lc_Q (call_Q (ea_Q (vs := [.str (S l)]) (ea_cons (ev_var rfl) ea_nil) fun H1 e1 => ⟨l, rfl, by omega, hf, fun q H2 hq e2 tq => ?_⟩)))
    obtain ⟨xs, hx, ax⟩ := tq
    refine lc_rel (R := TkV) (R' := TkV) tk_ex tk_ex tk_up hx ax (by omega) sig id (fun _ => rfl) (fun x t H3 ht e3 r => tst rfl r) (fun x t H3 ht hf e3 r Q' q' => ev_Q (ev_var rfl) fun H4 e4 => q' x H4 e4 (tk_ex _ _ e4 _ _ r)) fun pm us H3 hpm e3 hus aus => ?_
    rw [List.map_id] at aus
    refine q_asgQ (lc_Q (call_Q (ea_Q (vs := [.str (S m)]) (ea_cons (ev_var rfl) ea_nil) fun H4 e4 => ⟨m, rfl, by omega, hg, fun q' H5 hq' e5 tq' => ?_⟩)))
    obtain ⟨xs', hx', ax'⟩ := tq'
    refine lc_rel (R := TkV) (R' := TkV) tk_ex tk_ex tk_up hx' ax' (by omega) sig id (fun _ => rfl) (fun x t H3 ht e3 r => tst rfl r) (fun x t H6 ht hf e6 r Q' q' => ev_Q (ev_var rfl) fun H7 e7 => q' x H7 e7 (tk_ex _ _ e7 _ _ r)) fun py ws H6 hpy e6 hws aws => ?_
    rw [List.map_id] at aws
    have e36 := (e4.trans e5).trans e6
    have e06 := ((e1.trans e2).trans e3).trans e36
    have hus6 := e36 _ _ hus
    have aus6 : A2 (TkV H6) us (sigs l) := aus.imp (tk_ex _ _ e36)
    have aws6 : A2 (TkV H6) ws (sigs m) := aws
    clear aus aws hus hx' ax' hx ax tst
    refine par3_Q (ea_q (call_Q (ea_Q (vs := [.str (S l), .str (S m)]) (ea_cons (ev_var rfl) (ea_cons (ev_var rfl) ea_nil)) fun H7 e7 => ⟨l, m, rfl, by omega, by omega, la, ma, hf, hg, fun told H8 e8 hpa => ?_⟩)))
    refine ea_q (call_Q (ea_Q (vs := [.str (S l)]) (ea_cons (ev_var rfl) ea_nil) fun H9 e9 => ⟨l, rfl, by omega, hf, fun p1 ys1 H10 hp1 e10 hy1 ay1 => ?_⟩))
    refine ea_q (call_Q (ea_Q (vs := [.str (S m)]) (ea_cons (ev_var rfl) ea_nil) fun H11 e11 => ⟨m, rfl, by omega, hg, fun p2 ys2 H12 hp2 e12 hy2 ay2 => ea_n ⟨_, _, _, rfl, ?_⟩⟩))
    have e8c := ((e9.trans e10).trans e11).trans e12
    have e6c := (e7.trans e8).trans e8c
    have e0c := e06.trans e6c
    have pa := hpa.ex e8c
    have hy1c := (e11.trans e12) _ _ hy1
    have ay1c : A2 (TpV H12) ys1 ((sigs l).map senR) := ay1.imp (tp_ex _ _ (e11.trans e12))
    have husc := e6c _ _ hus6
    have ausc : A2 (TkV H12) us (sigs l) := aus6.imp (tk_ex _ _ e6c)
    have hwsc := e6c _ _ hws
    have awsc : A2 (TkV H12) ws (sigs m) := aws6.imp (tk_ex _ _ e6c)
    have lul := ausc.len
    have lwl := awsc.len
    have ll2 : (sigs l).length ≤ 40002 := Nat.le_trans (List.length_filter_le _ _) hfl
    have lm2 : (sigs m).length ≤ 40002 := Nat.le_trans (List.length_filter_le _ _) hfm
    clear hpa ay1 hy1 aus6 aws6 hus6 hws
    have ed1 : ∀ {H : Hp} {σ : L2.St}, Ex H12 H → σ[5]? = some (some (.ref p1)) → Ed K (tVar 5) σ H (.list ((sigs l).map senD)) := fun e h => ed_of (ev_var h) (.lst (sq_of (e _ _ hy1c)) (sen_dpa (ay1c.imp (tp_ex _ _ e))))
    have ed2 : ∀ {H : Hp} {σ : L2.St}, Ex H12 H → σ[6]? = some (some (.ref p2)) → Ed K (tVar 6) σ H (.list ((sigs m).map senD)) := fun e h => ed_of (ev_var h) (.lst (sq_of (e _ _ hy2)) (sen_dpa (ay2.imp (tp_ex _ _ e))))
    have hns : decide (told = .non) = decide ((sigs l).map sens = (sigs m).map sens) := by
      unfold PaV at pa
      split at pa
      · rename_i e
        rw [decide_eq_true pa, decide_eq_true (pIdx_none.mp e)]
      · rename_i n e
        obtain ⟨x, y, ⟨p, rfl, hp⟩, _⟩ := pa
        rw [decide_eq_false (fun z => nomatch z), decide_eq_false fun z => by rw [show paI (sigs l) (sigs m) = none from pIdx_none.mpr z] at e; cases e]
    refine q_when (b := !decide (V.bl (decide (told = .non)) = V.bl (decide ((sigs l).map sens = (sigs m).map sens))))
      (et_test (ev_op (ev_op (ev_var rfl) ev_c (fun H9 _ Q q => ⟨rfl, q H9 (Ex.refl _)⟩)) (ev_is (ev_eqD (ed1 (Ex.refl _) rfl) (ed2 (Ex.refl _) rfl) (sens_shaped okl) (sens_shaped okm)) (congrArg V.bl eqvA_senD)) (rv_ne rfl))) (fun hb => by rw [hns] at hb; simp at hb) (fun _ H13 e13 => ?_)
    have oth : ∀ {σ : L2.St} {H : Hp} (Q' : VK), σ[0]? = some (some (.str (S l))) → σ[1]? = some (some (.str (S m))) → (∀ v H', Ex H H' → PaV H' v (sigs m) (sigs l) → Q' v H') → tCall (sp_parting K a) [] E0 (tCons (tVar 1) (tCons (tVar 0) tNil)) σ H Q' := fun Q' h0 h1 q =>
      call_Q (ea_Q (vs := [.str (S m), .str (S l)]) (ea_cons (ev_var h1) (ea_cons (ev_var h0) ea_nil)) fun H1 e1 => ⟨m, l, rfl, by omega, by omega, ma, la, hg, hf, fun v H2 e2 hv => q v H2 (e1.trans e2) hv⟩)
    have pa13 := pa.ex e13
    cases hpi : paI (sigs l) (sigs m) with
    | none =>
      unfold PaV at pa13
      rw [hpi] at pa13
      cases pa13
      refine q_when (b := true) (et_test (ev_op (ev_var rfl) ev_c (fun H9 _ Q q => ⟨rfl, q H9 (Ex.refl _)⟩))) (fun _ H14 e14 => ?_) (fun hb => nomatch hb)
      refine s_retQ (op_q (oth _ rfl rfl fun v H15 e15 hv => ?_))
      unfold PaV at hv
      rw [paI_comm, hpi] at hv
      cases hv
      exact ev_Q ev_c fun H16 e16 => ⟨rfl, k H16 (e0c.trans ((e13.trans e14).trans (e15.trans e16)))⟩
    | some n =>
      have nn : decide (told = V.non) = false := by
        rw [hns]
        exact decide_eq_false fun z => by rw [show paI (sigs l) (sigs m) = none from pIdx_none.mpr z] at hpi; cases hpi
      refine q_when (b := false) (et_is (et_test (ev_op (ev_var rfl) ev_c (fun H9 _ Q q => ⟨rfl, q H9 (Ex.refl _)⟩))) nn) (fun hb => nomatch hb) (fun _ H14 e14 => ?_)
      have pa14 := pa13.ex e14
      unfold PaV at pa14
      rw [hpi] at pa14
      obtain ⟨x, y, htp, ox, oy⟩ := pa14
      refine q_asgG (ev_var rfl H14 (Ex.refl _) _ fun H15 e15 => ?_)
      refine g_tup3 (v := .int (n : Int)) (w := x) (y := y) (htp.mono e15) ?_
      obtain ⟨t1, t2, n1, n2⟩ := pIdx_at hpi
      rw [List.length_map] at n1 n2
      have e1215 := (e13.trans e14).trans e15
      have ox15 := ot_ex e15 ox
      have oy15 := ot_ex e15 oy
      have sh1 : SeqAt.shaped (.list (((sigs l).map senD).take n)) = true := by rw [← List.map_take]; exact sens_shaped (okl.take n)
      have sh2 : SeqAt.shaped (.list (((sigs m).map senD).take n)) = true := by rw [← List.map_take]; exact sens_shaped (okm.take n)
      have sh3 : SeqAt.shaped (.list ((((sigs l).map senD).drop n).take 1)) = true := by rw [← List.map_drop, ← List.map_take]; exact sens_shaped ((okl.drop n).take 1)
      have sh4 : SeqAt.shaped (.list ((((sigs m).map senD).drop n).take 1)) = true := by rw [← List.map_drop, ← List.map_take]; exact sens_shaped ((okm.drop n).take 1)
      have q1 : PyData.eqv (.list (((sigs l).map senD).take n)) (.list (((sigs m).map senD).take n)) = true := by
        rw [← List.map_take, ← List.map_take]
        show PyData.eqvAll _ _ = true
        rw [eqvA_senD, List.map_take, List.map_take]
        exact decide_eq_true t1
      have q2 : PyData.eqv (.list ((((sigs l).map senD).drop n).take 1)) (.list ((((sigs m).map senD).drop n).take 1)) = false := by
        rw [← List.map_drop, ← List.map_take, ← List.map_drop, ← List.map_take]
        show PyData.eqvAll _ _ = false
        rw [eqvA_senD, List.map_take, List.map_take, List.map_drop, List.map_drop]
        refine decide_eq_false fun z => t2 ?_
        have h1 : ((((sigs l).map sens).drop n).take 1)[0]? = ((((sigs m).map sens).drop n).take 1)[0]? := by rw [z]
        rw [List.getElem?_take_of_lt (by decide), List.getElem?_take_of_lt (by decide), List.getElem?_drop, List.getElem?_drop] at h1
        simpa using h1
      have q3 : PyData.eqv (paD (sigs m) (sigs l)) (.tuple [.int (n : Int), otD (sigs m)[n]?, otD (sigs l)[n]?]) = true := by
        have e : paD (sigs m) (sigs l) = .tuple [.int (n : Int), otD (sigs m)[n]?, otD (sigs l)[n]?] := by
          unfold paD
          rw [paI_comm, hpi]
        rw [← e]
        exact PySem.SeqAt.eqv_refl _ (paD_lay okm okl)
      have sh6 : SeqAt.shaped (.tuple [.int (n : Int), otD (sigs m)[n]?, otD (sigs l)[n]?]) = true := by
        refine shaped_tup (k := 3) (fun d hd => ?_) (by decide)
        simp only [List.mem_cons, List.not_mem_nil, or_false] at hd
        rcases hd with rfl | rfl | rfl
        · exact ⟨rfl, Nat.zero_le _⟩
        · exact otD_lay okm n
        · exact otD_lay okl n
      refine q_when (b := (!PyData.eqv (.list (((sigs l).map senD).take n)) (.list (((sigs m).map senD).take n))) || (PyData.eqv (.list ((((sigs l).map senD).drop n).take 1)) (.list ((((sigs m).map senD).drop n).take 1)) || !PyData.eqv (paD (sigs m) (sigs l)) (.tuple [.int (n : Int), otD (sigs m)[n]?, otD (sigs l)[n]?])))
        (et_or (et_test (ev_neD (ed_list (xs := ys1.take n) ?_ fun H' e' => ?_) (ed_list (xs := ys2.take n) ?_ fun H' e' => ?_) sh1 sh2)) fun _ => et_or (et_test (ev_eqD (ed_list (xs := (ys1.drop n).take 1) ?_ fun H' e' => ?_) (ed_list (xs := (ys2.drop n).take 1) ?_ fun H' e' => ?_) sh3 sh4)) fun _ =>
          et_test (ev_neD (fun H' e' Q' q' => oth _ rfl rfl fun v H2 e2 hv => q' v H2 e2 (pa_dp hv)) (ed_tup (ed_cons (ed_of (ev_var rfl) (.int _)) (ed_cons (ed_var rfl (ot_dp oy15)) (ed_cons (ed_var rfl (ot_dp ox15)) ed_nil))) (by show 3 ≤ 100000; decide)) (paD_shaped okm okl) sh6)) (fun hb => ?_) (fun _ H16 e16 => ?_)
      · rw [← cutV_to]; exact el_sl (ev_var rfl) eo_none (eo_some (ev_var rfl)) (sq_of (e1215 _ _ hy1c))
      · exact dpa_take n (sen_dpa (ay1c.imp (tp_ex _ _ (e1215.trans e'))))
      · rw [← cutV_to]; exact el_sl (ev_var rfl) eo_none (eo_some (ev_var rfl)) (sq_of (e1215 _ _ hy2))
      · exact dpa_take n (sen_dpa (ay2.imp (tp_ex _ _ (e1215.trans e'))))
      · rw [← cutV_at]; exact el_sl (ev_var rfl) (eo_some (ev_var rfl)) (eo_some (ev_op (ev_var rfl) ev_c rv_I0)) (sq_of (e1215 _ _ hy1c))
      · exact dpa_take 1 (dpa_drop n (sen_dpa (ay1c.imp (tp_ex _ _ (e1215.trans e')))))
      · rw [← cutV_at]; exact el_sl (ev_var rfl) (eo_some (ev_var rfl)) (eo_some (ev_op (ev_var rfl) ev_c rv_I0)) (sq_of (e1215 _ _ hy2))
      · exact dpa_take 1 (dpa_drop n (sen_dpa (ay2.imp (tp_ex _ _ (e1215.trans e')))))
      · rw [q1, q2, q3] at hb; cases hb
      · have e1216 := e1215.trans e16
        have side : ∀ {i j : Nat} {x : V} {pm : Addr} {us : List V} {ts : List Tk} {H : Hp} {σ : L2.St}, TkOk ts → n ≤ ts.length → ts.length ≤ 40002 → σ[i]? = some (some x) → σ[j]? = some (some (.ref pm)) → σ[7]? = some (some (.int (n : Int))) → H pm = some (.lst us) → A2 (TkV H) us ts → OtV H x ts[n]? →
            Ev (tOp (rEqD K) (tLst (tCons (tVar i) tNil)) (tSl (rSlL K) (tOp rCat (tVar j) (tLst (tCons (tC .non) tNil))) (tPart (tVar 7)) (tPart (tOp (rI0 fun i j => .int (i + j)) (tVar 7) (tC (.int 1)))))) σ H (.bl true) := fun {i j x pm us ts H σ} ok hn hlen hi hj h7 hp au ox => by
          have al := au.len
          have e : PyData.eqv (.list [otD ts[n]?]) (.list [otD ts[n]?]) = true := by
            show (PyData.eqv (otD ts[n]?) (otD ts[n]?) && true) = true
            rw [PySem.SeqAt.eqv_refl _ (otD_lay ok n).1]
            rfl
          have sh : SeqAt.shaped (.list [otD ts[n]?]) = true := shaped_list (k := 3) (fun d hd => by rw [List.mem_singleton.mp hd]; exact otD_lay ok n) (by decide)
          refine ev_is (ev_eqD (ed_lst (ed_cons (ed_var hi (ot_dp ox)) ed_nil) (by show 1 ≤ 100000; decide)) (ed_list (xs := ((us ++ [V.non]).drop n).take 1) ?_ fun H' e' => ?_) sh sh) (by rw [e])
          · rw [← cutV_at]
            exact el_slN (el_catV hj hp (el_lst (ea_cons ev_c ea_nil) (by show 1 ≤ 100000; decide)) (by show us.length + 1 ≤ 100000; omega)) (eo_some (ev_var h7)) (eo_some (ev_op (ev_var h7) ev_c rv_I0))
          · rw [← part_next hn]
            exact dpa_take 1 (dpa_drop n (dpa_app (tks_dp (au.imp (tk_ex _ _ e'))) (.cons .non .nil)))
        refine s_ret (v := .bl (true && true)) (ev_andV (side okl n1 ll2 rfl rfl rfl (e1216 _ _ husc) (ausc.imp (tk_ex _ _ e1216)) (ot_ex e16 ox15)) fun _ => side okm n2 lm2 rfl rfl rfl (e1216 _ _ hwsc) (awsc.imp (tk_ex _ _ e1216)) (ot_ex e16 oy15)) fun H17 e17 => k H17 (e0c.trans (e1216.trans e17))
def sp__law_index (_ : PySem.W.Frag) (_ : Ads) : Sp := fun vs H Q _ => ∃ l m : List Nat, vs = [.str (S l), .str (S m)] ∧ Vd l ∧ Vd m ∧ RetV (.int ((paI (sigs l) (sigs m)).getD 1000000 : Nat)) H Q
theorem ok__law_index {P : Program} {w : World} {K : PySem.W.Frag} {mg : Str → Option Value} {base : Heap} {a : Ads} (T : Txt w K mg a) (G_parting : FnOk P w K mg base CX0 11 a.parting a.d_parting ["one", "other"] (sp_parting K a)) :
    FnOk P w K mg base CX0 12 a._law_index a.d__law_index ["_law_one", "_law_other"] (sp__law_index K a) := by
  refine T.F__law_index.ok sc__law_index (fun vs H Q E h => ?_) (fun cdv A outer s H vs Q E hr h => ?_)
  · obtain ⟨_, _, rfl, _⟩ := h; rfl
  · obtain ⟨l, m, rfl, ⟨hl, la, hf⟩, ⟨hm, ma, hg⟩, k⟩ := h
    refine ⟨_, (pss_cons (ps_set (i := 2) sc__law_index.nd rfl (Or.inl rfl) (pe_call G_parting (hr.mono (by decide)) rfl T.m_parting T.F_parting.kp T.b_parting .nil pass0 (pa_cons (pv 0) (pa_cons (pv 1) pa_nil))))
      (pss_one (ps_ret (pe_ifExp (pt_cmpR op_isN (pv 2) pe_non (nomark _)) (pe_op op_pow pe_int pe_int) (pe_ix ix_tup (pv 2) pe_int (fun _ _ => rfl)))))), ?_⟩
    refine q_asgQ (call_Q (ea_Q (vs := [.str (S l), .str (S m)]) (ea_cons (ev_var rfl) (ea_cons (ev_var rfl) ea_nil)) fun H1 e1 => ⟨l, m, rfl, by omega, by omega, la, ma, hf, hg, fun told H2 e2 pa => ?_⟩))
    cases hpi : paI (sigs l) (sigs m) with
    | none =>
      unfold PaV at pa
      rw [hpi] at pa k
      cases pa
      refine s_ret (ev_if (b := true) (et_test (ev_op (ev_var rfl) ev_c (fun H9 _ Q q => ⟨rfl, q H9 (Ex.refl _)⟩))) (fun _ => ev_is (ev_op ev_c ev_c (rv_I ⟨by decide, by decide, by decide⟩)) (by decide)) (fun hb => nomatch hb)) fun H3 e3 => k H3 ((e1.trans e2).trans e3)
    | some n =>
      unfold PaV at pa
      rw [hpi] at pa k
      obtain ⟨x, y, ⟨p, rfl, hp⟩, _⟩ := pa
      refine s_ret (ev_if (b := false) (et_is (et_test (ev_op (ev_var rfl) ev_c (fun H9 _ Q q => ⟨rfl, q H9 (Ex.refl _)⟩))) (decide_eq_false (fun z => nomatch z))) (fun hb => nomatch hb) (fun _ => ev_op (ev_var rfl) ev_c (rv_ixT (st_of hp) rfl))) fun H3 e3 => k H3 ((e1.trans e2).trans e3)
def lpA : List Nat := ("if x:\n  y\n    z\n" : Str).cps.toList
def lpB : List Nat := ("if x:\n  y\nz\n" : Str).cps.toList
def lpI : PyData := .tuple [.str "INDENT", .str "    ", .int 10]
def lpD : PyData := .tuple [.str "DEDENT", .str "", .int 10]
theorem lp_ok : (lpA.all okC && lpB.all okC && decide (lpA.length ≤ 2000) && decide (lpB.length ≤ 2000) && (scanned lpA).fail.isNone && (scanned lpB).fail.isNone && SeqAt.shaped (.tuple [.int 7, lpI, lpD]) && SeqAt.shaped (.tuple [.int 7, lpD, lpI])
    && PyData.eqv (paD (sigs lpA) (sigs lpB)) (.tuple [.int 7, lpI, lpD]) && PyData.eqv (paD (sigs lpB) (sigs lpA)) (.tuple [.int 7, lpD, lpI])) = true := by decide +kernel
def sp__law_levels_part (_ : PySem.W.Frag) (_ : Ads) : Sp := fun vs H Q _ => vs = [] ∧ RetV (.bl true) H Q
theorem ok__law_levels_part {P : Program} {w : World} {K : PySem.W.Frag} {mg : Str → Option Value} {base : Heap} {a : Ads} (T : Txt w K mg a) (G_parting : FnOk P w K mg base CX0 11 a.parting a.d_parting ["one", "other"] (sp_parting K a)) :
    FnOk P w K mg base CX0 12 a._law_levels_part a.d__law_levels_part [] (sp__law_levels_part K a) := by
  refine T.F__law_levels_part.ok sc__law_levels_part (fun vs H Q E h => ?_) (fun cdv A outer s H vs Q E hr h => ?_)
  · obtain ⟨rfl, _⟩ := h; rfl
  · obtain ⟨rfl, k⟩ := h
    refine ⟨_, (pss_cons (ps_asg (pe_tup (pa_cons pe_str (pa_cons pe_str pa_nil))) (pg_tup rfl (pgs_cons (pg_name (i := 0) sc__law_levels_part.nd rfl (Or.inl rfl)) (pgs_cons (pg_name (i := 1) sc__law_levels_part.nd rfl (Or.inl rfl)) pgs_nil))))
      (pss_cons (ps_set (i := 2) sc__law_levels_part.nd rfl (Or.inl rfl) (pe_tup (pa_cons pe_int (pa_cons (pe_tup (pa_cons pe_str (pa_cons pe_str (pa_cons pe_int pa_nil)))) (pa_cons (pe_tup (pa_cons pe_str (pa_cons pe_str (pa_cons pe_int pa_nil)))) pa_nil)))))
      (pss_one (ps_ret (pe_and (pe_cmpR (op_eqD hr.units) (pe_call G_parting (hr.mono (by decide)) rfl T.m_parting T.F_parting.kp T.b_parting .nil pass0 (pa_cons (pv 0) (pa_cons (pv 1) pa_nil))) (pv 2) (nomark _)) (pe_one (pe_cmpR (op_eqD hr.units) (pe_call G_parting (hr.mono (by decide)) rfl T.m_parting T.F_parting.kp T.b_parting .nil pass0 (pa_cons (pv 1) (pa_cons (pv 0) pa_nil))) (pe_tup (pa_cons pe_int (pa_cons (pe_ix ix_tup (pv 2) pe_int (fun _ _ => rfl)) (pa_cons (pe_ix ix_tup (pv 2) pe_int (fun _ _ => rfl)) pa_nil)))) (nomark _)))))))), ?_⟩
    have hp := lp_ok
    simp only [Bool.and_eq_true, decide_eq_true_eq] at hp
    obtain ⟨⟨⟨⟨⟨⟨⟨⟨⟨a1, a2⟩, a3⟩, a4⟩, a5⟩, a6⟩, a7⟩, a8⟩, a9⟩, a10⟩ := hp
    have la : Asc lpA := Txc.asc fun c hc => List.all_eq_true.mp a1 c hc
    have lb : Asc lpB := Txc.asc fun c hc => List.all_eq_true.mp a2 c hc
    have fa := Option.isNone_iff_eq_none.mp a5
    have fb := Option.isNone_iff_eq_none.mp a6
    have okl := (tg_ok (Sc.tg_scanned (l := lpA)) la).1.filter sig
    have okm := (tg_ok (Sc.tg_scanned (l := lpB)) lb).1.filter sig
    refine q_asgG ((eu_tup (vs := [.str (S lpA), .str (S lpB)]) (ea_cons (ev_cS rfl) (ea_cons (ev_cS rfl) ea_nil)) (by show 2 ≤ 100000; decide)) H (Ex.refl _) _ fun p0 H1 hp0 e1 h1 => ?_)
    refine g_tup2 ⟨p0, rfl, h1⟩ ?_
    refine qd_asg (K := K) (d := .tuple [.int 7, lpI, lpD]) (ed_tup (ed_cons ed_int (ed_cons (ed_tup (ed_cons ed_str (ed_cons ed_str (ed_cons ed_int ed_nil))) (by show 3 ≤ 100000; decide)) (ed_cons (ed_tup (ed_cons ed_str (ed_cons ed_str (ed_cons ed_int ed_nil))) (by show 3 ≤ 100000; decide)) ed_nil))) (by show 3 ≤ 100000; decide)) fun v H2 e2 hv => ?_
    cases hv with
    | tup hs hd =>
      rename_i p vs
      cases hd with
      | cons d1 hd => cases hd with
        | cons d2 hd => cases hd with
          | cons d3 hd =>
            cases hd
            rename_i x1 x2 x3
            refine s_ret (v := .bl (PyData.eqv (paD (sigs lpA) (sigs lpB)) (.tuple [.int 7, lpI, lpD]) && PyData.eqv (paD (sigs lpB) (sigs lpA)) (.tuple [.int 7, lpD, lpI])))
              (ev_andV (ev_eqD (fun H' e' Q' q' => call_Q (ea_Q (vs := [.str (S lpA), .str (S lpB)]) (ea_cons (ev_var rfl) (ea_cons (ev_var rfl) ea_nil)) fun H3 e3 => ⟨lpA, lpB, rfl, by omega, by omega, la, lb, fa, fb, fun v H4 e4 hv => q' v H4 (e3.trans e4) (pa_dp hv)⟩)) (ed_of (ev_var rfl) (.tup hs (.cons d1 (.cons d2 (.cons d3 .nil))))) (paD_shaped okl okm) a7) fun _ =>
                ev_eqD (fun H' e' Q' q' => call_Q (ea_Q (vs := [.str (S lpB), .str (S lpA)]) (ea_cons (ev_var rfl) (ea_cons (ev_var rfl) ea_nil)) fun H3 e3 => ⟨lpB, lpA, rfl, by omega, by omega, lb, la, fb, fa, fun v H4 e4 hv => q' v H4 (e3.trans e4) (pa_dp hv)⟩)) (ed_tup (ed_cons ed_int (ed_cons (ed_of (ev_op (ev_var rfl) ev_c (rv_ixT hs rfl)) d3) (ed_cons (ed_of (ev_op (ev_var rfl) ev_c (rv_ixT hs rfl)) d2) ed_nil))) (by show 3 ≤ 100000; decide)) (paD_shaped okm okl) a8) fun H3 e3 => ?_
            rw [a9, a10]
            exact k H3 ((e1.trans e2).trans e3)
theorem least_two {i j k a b c : Int} (hp : List.Perm [a, b, c] [i, j, k]) (h1 : a ≤ b) (h2 : b ≤ c) (h : (i = j ∧ i ≤ k) ∨ (i = k ∧ i ≤ j) ∨ (j = k ∧ j ≤ i)) : a = b := by
  by_cases hab : a = b
  · exact hab
  · exfalso
    have ai : ∀ x ∈ [i, j, k], a ≤ x := fun x hx => by
      have := hp.symm.subset hx
      simp only [List.mem_cons, List.not_mem_nil, or_false] at this
      omega
    have i1 := ai i (by simp)
    have j1 := ai j (by simp)
    have k1 := ai k (by simp)
    have am := hp.subset (show a ∈ [a, b, c] by simp)
    simp only [List.mem_cons, List.not_mem_nil, or_false] at am
    have cn := hp.count_eq a
    have hb : ¬ b = a := fun z => hab z.symm
    have hc : ¬ c = a := by omega
    have two : 2 ≤ List.count a [i, j, k] := by
      rcases h with ⟨rfl, h⟩ | ⟨rfl, h⟩ | ⟨rfl, h⟩
      · have : a = i := by omega
        subst this
        simp [List.count_cons]
      · have : a = i := by omega
        subst this
        simp [List.count_cons]
      · have : a = j := by omega
        subst this
        simp [List.count_cons]
    rw [← cn] at two
    simp [List.count_cons, hb, hc] at two
def sp_law0 (K : PySem.W.Frag) : Sp := fun vs H Q _ => ∃ (s : Addr) (ns : List Int), vs = [.ref s] ∧ SqL K H s (ns.map V.int) ∧ ns.length ≤ 63 ∧ ∀ H', Q (.bl true) H'
abbrev sp_law (K : PySem.W.Frag) (_ : Ads) : Sp := sp_law0 K
theorem law_sp {K : PySem.W.Frag} {H : Hp} {b : Addr} {ns : List Int} (hl : ns.length ≤ 63) (hS : SqL K H b (ns.map V.int)) : sp_law0 K [.ref b] H (fun v _ => v = .bl true) fun _ _ _ => False := ⟨b, ns, rfl, hS, hl, fun _ => rfl⟩

theorem ok_law {P : Program} {w : World} {K : PySem.W.Frag} {mg : Str → Option Value} {base : Heap} {a : Ads} (T : Txt w K mg a) (G__law_levels_part : FnOk P w K mg base CX0 12 a._law_levels_part a.d__law_levels_part [] (sp__law_levels_part K a)) (G__law_bag : FnOk P w K mg base CX0 1 a._law_bag a.d__law_bag ["_law_script", "_law_at"] (sp__law_bag K a)) (G__law_valid : FnOk P w K mg base CX0 11 a._law_valid a.d__law_valid ["_law_bag_here", "_law_most"] (sp__law_valid K a)) (G__law_spoilt : FnOk P w K mg base CX0 3 a._law_spoilt a.d__law_spoilt ["_law_bag_here", "_law_text"] (sp__law_spoilt K a)) (G_read : FnOk P w K mg base CX0 9 a.read a.d_read ["text"] (sp_read K a)) (G__law_right : FnOk P w K mg base CX0 12 a._law_right a.d__law_right ["_law_one", "_law_other"] (sp__law_right K a)) (G__law_index : FnOk P w K mg base CX0 12 a._law_index a.d__law_index ["_law_one", "_law_other"] (sp__law_index K a)) :
    FnOk P w K mg base CX0 13 a.law a.d_law ["_law_script"] (sp_law K a) := by
  refine T.F_law.ok sc_law (fun vs H Q E h => ?_) (fun cdv A outer s H vs Q E hr h => ?_)
  · obtain ⟨_, _, rfl, _⟩ := h; rfl
  · obtain ⟨s, ns, rfl, hS, hlen, k⟩ := h
    refine ⟨_, (pss_cons (ps_if (pt_not (pt_val (pe_call0 G__law_levels_part (hr.mono (by decide)) rfl T.m__law_levels_part T.F__law_levels_part.kp T.b__law_levels_part .nil pass0))) (pss_one (ps_ret pe_bl)) pss_nil)
      (pss_cons (ps_for PassesOwn.never rfl (pi_range1 rfl T.n_range (pa_cons (pe_callB (call_max2 rfl) (by rfl) T.n_max b_max (pa_cons pe_int (pa_cons (pe_callB (call_min2 rfl) (by rfl) T.n_min b_min (pa_cons pe_int (pa_cons (pe_callB call_len_seq (by rfl) T.n_len b_len (pa_cons (pv 0) pa_nil)) pa_nil))) pa_nil))) pa_nil)) (pg_name (i := 1) sc_law.nd rfl (Or.inl rfl)) (pss_cons (ps_set (i := 2) sc_law.nd rfl (Or.inl rfl) (pe_call G__law_bag (hr.mono (by decide)) rfl T.m__law_bag T.F__law_bag.kp T.b__law_bag .nil pass0 (pa_cons (pv 0) (pa_cons (pv 1) pa_nil))))
      (pss_cons (ps_par (i := 3) (j := 4) (by rfl) sc_law.nd rfl rfl (by decide) rfl rfl (pa_cons (pe_call G__law_valid (hr.mono (by decide)) rfl T.m__law_valid T.F__law_valid.kp T.b__law_valid .nil pass0 (pa_cons (pv 2) (pa_cons pe_int pa_nil))) (pa_cons (pe_call G__law_valid (hr.mono (by decide)) rfl T.m__law_valid T.F__law_valid.kp T.b__law_valid .nil pass0 (pa_cons (pv 2) (pa_cons pe_int pa_nil))) pa_nil)) (by rfl))
      (pss_cons (ps_set (i := 5) sc_law.nd rfl (Or.inl rfl) (pv 3))
      (pss_cons (ps_for PassesOwn.never rfl (pi_range1 rfl T.n_range (pa_cons pe_int pa_nil)) (pg_name (i := 6) sc_law.nd rfl (Or.inl rfl)) (pss_cons (ps_set (i := 7) sc_law.nd rfl (Or.inl rfl) (pe_call G__law_spoilt (hr.mono (by decide)) rfl T.m__law_spoilt T.F__law_spoilt.kp T.b__law_spoilt .nil pass0 (pa_cons (pv 2) (pa_cons (pv 3) pa_nil))))
      (pss_one (ps_if (pt_cmpR op_isN (pe_ix ix_tup (pe_call G_read (hr.mono (by decide)) rfl T.m_read T.F_read.kp T.b_read .nil pass0 (pa_cons (pv 7) pa_nil)) pe_int (fun _ _ => rfl)) pe_non (nomark _)) (pss_one (ps_set (i := 5) sc_law.nd rfl (Or.inl rfl) (pv 7))) pss_nil))))
      (pss_cons (ps_set (i := 8) sc_law.nd rfl (Or.inl rfl) (pe_lst (pa_cons (pe_tup (pa_cons (pv 3) (pa_cons (pv 5) pa_nil))) (pa_cons (pe_tup (pa_cons (pv 5) (pa_cons (pv 4) pa_nil))) (pa_cons (pe_tup (pa_cons (pv 3) (pa_cons (pv 4) pa_nil))) (pa_cons (pe_tup (pa_cons (pv 3) (pa_cons (pv 3) pa_nil))) pa_nil))))))
      (pss_cons (ps_if (pt_not (pt_val (pe_callB (cr_all rfl) (by rfl) T.n_all b_all (pa_cons (pe_lc (own := [("_law_first", 10), ("_law_second", 11)]) (g := gTup K 2 (gCons (gName 10) (gCons (gName 11) gNil))) rfl sc_law.nd (pi_list (pv 8)) (blkOk_by (N := N_law) (sc := defScope s_law) (by decide +kernel)) (fun _ _ _ _ _ => (pg_tup rfl (pgs_cons (pg_name (i := 10) sc_law.nd rfl (Or.inl rfl)) (pgs_cons (pg_name (i := 11) sc_law.nd rfl (Or.inl rfl)) pgs_nil)))) (fun _ _ _ _ _ => pts_nil) (fun _ _ _ _ _ => (pe_call G__law_right (hr.mono (by decide)) rfl T.m__law_right T.F__law_right.kp T.b__law_right .nil pass0 (pa_cons (pv 10) (pa_cons (pv 11) pa_nil))))) pa_nil)))) (pss_one (ps_ret pe_bl)) pss_nil)
      (pss_cons (ps_set (i := 9) sc_law.nd rfl (Or.inl rfl) (pe_callB cr_sorted (by rfl) T.n_sorted b_sorted (pa_cons (pe_lst (pa_cons (pe_call G__law_index (hr.mono (by decide)) rfl T.m__law_index T.F__law_index.kp T.b__law_index .nil pass0 (pa_cons (pv 3) (pa_cons (pv 5) pa_nil))) (pa_cons (pe_call G__law_index (hr.mono (by decide)) rfl T.m__law_index T.F__law_index.kp T.b__law_index .nil pass0 (pa_cons (pv 5) (pa_cons (pv 4) pa_nil))) (pa_cons (pe_call G__law_index (hr.mono (by decide)) rfl T.m__law_index T.F__law_index.kp T.b__law_index .nil pass0 (pa_cons (pv 3) (pa_cons (pv 4) pa_nil))) pa_nil)))) pa_nil)))
      (pss_one (ps_if (pt_cmpR op_ne (pe_ix ix_list (pv 9) pe_int (fun _ _ => rfl)) (pe_ix ix_list (pv 9) pe_int (fun _ _ => rfl)) (nomark _)) (pss_one (ps_ret pe_bl)) pss_nil))))))))))
      (pss_one (ps_ret pe_bl)))), ?_⟩
    refine q_when (b := !true) (et_not (et_B (ev_call ea_nil fun H5 e5 Q' q' E' => ⟨rfl, fun H6 e6 => q' H6 e6⟩))) (fun hb => nomatch hb) (fun _ H0 e0 => ?_)
    refine q_forR1 (n := if (if (ns.map V.int).length < (8 : Int) then ((ns.map V.int).length : Int) else 8) > 3 then (if (ns.map V.int).length < (8 : Int) then ((ns.map V.int).length : Int) else 8) else 3)
      (ea_cons (ev_cb (ea_cons ev_c (ea_cons (ev_cb (ea_cons ev_c (ea_cons (ev_cb (ea_cons (ev_var rfl) ea_nil) (fun H5 e Q q => ⟨s, _, rfl, Or.inl (ex_l (e0.trans e) hS), q H5 (Ex.refl _)⟩)) ea_nil)) (fun H5 _ Q q => ⟨_, _, rfl, q H5 (Ex.refl _)⟩)) ea_nil)) (fun H5 _ Q q => ⟨_, _, rfl, q H5 (Ex.refl _)⟩)) ea_nil) ?_
      (fun i σ H' => ∃ v1 v2 v3 v4 v5 v6 v7 v8 v9 : Option V, σ = [some (.ref s), v1, v2, v3, v4, v5, v6, v7, v8, v9, none, none] ∧ Ex H H') (fun H' e => ⟨none, none, none, none, none, none, none, none, none, rfl, e0.trans e⟩) ?_ ?_
    · rw [List.length_map]
      split <;> split <;> omega
    · rintro i σ H5 hi ⟨v1, v2, v3, v4, v5, v6, v7, v8, v9, rfl, e5⟩
      have hi63 : (i : Int) < 64 := by
        rw [List.length_map] at hi
        split at hi <;> split at hi <;> omega
      refine q_asgQ (call_Q (ea_q ⟨_, rfl, ea_q ⟨_, rfl, ea_n ⟨s, i, ns, rfl, ex_l e5 hS, by omega, by omega, fun b H6 hb e6 bg6 => ?_⟩⟩⟩))
      have hb1 : H b = none := fresh_back e5 hb
      have e16 : Ex H H6 := e5.trans e6
      refine par_Q (ea_q (call_Q (ea_q ⟨_, rfl, ea_l ev_c fun H7 e7 => ea_n ⟨b, 4, 0, rfl, bg6.ex e7, by decide, by decide, by decide, fun l H8 kp8 bg8 ll lx lf => ?_⟩⟩)))
      refine ea_q (call_Q (ea_q ⟨_, rfl, ea_l ev_c fun H9 e9 => ea_n ⟨b, 4, _, rfl, bg8.ex e9, by decide, by decide, by decide, fun z H10 kp10 bg10 lz zx zf => ea_n ⟨_, _, rfl, ?_⟩⟩⟩))
      have kp610 : Kp b H6 H10 := (((Kp.of e7).trans kp8).trans (Kp.of e9)).trans kp10
      refine q_asg (ev_var rfl) fun H11 e11 => ?_
      have vl : Vd l := ⟨by omega, lx.asc, lf⟩
      have vz : Vd z := ⟨by omega, zx.asc, zf⟩
      refine q_forR1 (n := 4) (ea_cons ev_c ea_nil) (by decide)
        (fun t σ' H' => ∃ (o : List Nat) (v5 v6 : Option V), σ' = [some (.ref s), some (.int i), some (.ref b), some (.str (S l)), some (.str (S z)), some (.str (S o)), v5, v6, v8, v9, none, none] ∧ Kp b H6 H' ∧ Bag H' b (700000 + t * 3) ∧ Vd o)
        (fun H12 e12 => ⟨l, v6, v7, rfl, kp610.trans (Kp.of (e11.trans e12)), ((bg10.ex e11).ex e12).mono (by simp), vl⟩) ?_ ?_
      · rintro t σ' H12 ht ⟨o, v5, v6, rfl, kp12, bg12, vo⟩
        have ht4 : t < 4 := by omega
        refine q_asgQ (call_Q (ea_q ⟨_, rfl, ea_q ⟨_, rfl, ea_n ⟨b, l, _, rfl, bg12, by omega, lx, by omega, fun y H13 kp13 bg13 ly yx => ?_⟩⟩⟩))
        refine s_when (et_rd1 (l := y) (fun _ _ _ q => ⟨rfl, q⟩) (ev_var rfl) (by omega)) (fun hb3 H14 e14 => ?_) (fun hb3 H14 e14 => ?_)
        · refine s_asg (ev_var rfl) fun H15 e15 => ?_
          exact ⟨y, _, _, rfl, (kp12.trans kp13).trans (Kp.of (e14.trans e15)), ((bg13.ex e14).ex e15).mono (by omega), ⟨by omega, yx.asc, of_decide_eq_true hb3⟩⟩
        · exact ⟨o, _, _, rfl, (kp12.trans kp13).trans (Kp.of e14), (bg13.ex e14).mono (by omega), vo⟩
      · rintro σ' H12 ⟨o, v5, v6, rfl, kp12, bg12, vo⟩
        have rowsOk : ∀ ws ∈ ([[.str (S l), .str (S o)], [.str (S o), .str (S z)], [.str (S l), .str (S z)], [.str (S l), .str (S l)]] : List (List V)), ∃ x y, ws = [.str (S x), .str (S y)] ∧ Vd x ∧ Vd y := fun ws hw => by
          simp only [List.mem_cons, List.not_mem_nil, or_false] at hw
          rcases hw with rfl | rfl | rfl | rfl
          · exact ⟨l, o, rfl, vl, vo⟩
          · exact ⟨o, z, rfl, vo, vz⟩
          · exact ⟨l, z, rfl, vl, vz⟩
          · exact ⟨l, l, rfl, vl, vl⟩
        refine qr_asg (rows := [[.str (S l), .str (S o)], [.str (S o), .str (S z)], [.str (S l), .str (S z)], [.str (S l), .str (S l)]])
          (er_lst (era_cons (eu_tup (ea_cons (ev_var rfl) (ea_cons (ev_var rfl) ea_nil)) (by show 2 ≤ 100000; decide)) (era_cons (eu_tup (ea_cons (ev_var rfl) (ea_cons (ev_var rfl) ea_nil)) (by show 2 ≤ 100000; decide)) (era_cons (eu_tup (ea_cons (ev_var rfl) (ea_cons (ev_var rfl) ea_nil)) (by show 2 ≤ 100000; decide)) (era_cons (eu_tup (ea_cons (ev_var rfl) (ea_cons (ev_var rfl) ea_nil)) (by show 2 ≤ 100000; decide)) era_nil)))) (by show 4 ≤ 100000; decide)) fun pp xs H13 e13 hpp axs => ?_
        refine q_when (b := !((List.replicate 4 true).all id)) (et_not (et_B (ev_allN ?_))) (fun hb => by simp at hb) (fun _ H14 e14 => ?_)
        · refine fun H15 e15 Q' q' => lc_Q (ev_Q (ev_var rfl) fun H16 e16 => ?_)
          have e1316 := e15.trans e16
          refine lc_relG (R := TpV) (R' := fun _ v b => v = V.bl b) tp_ex bl_ex (fun _ _ _ _ _ v b r => r) (e1316 _ _ hpp) (axs.imp (tp_ex _ _ e1316)) (by show 4 ≤ 90000; decide) (fun _ => true) (fun _ => true)
            (fun x ws H17 hws e17 r => ?_) fun D ys H17 hD e17 hy ay => q' D H17 (fresh_back e16 hD) (e16.trans e17) ?_
          · obtain ⟨x1, y1, rfl, vx1, vy1⟩ := rowsOk ws hws
            exact ⟨_, fun Q0 h0 => g_tup2 r h0, rfl, et_yes, fun _ H18 e18 Q1 q1 => ev_call (ea_cons (ev_var rfl) (ea_cons (ev_var rfl) ea_nil)) (fun H19 e19 Q2 q2 E2 => ⟨x1, y1, rfl, vx1, vy1, fun H20 e20 => q2 H20 e20⟩) H18 (Ex.refl _) _ fun H19 e19 => q1 _ H19 e19 rfl⟩
          · rw [hy]
            congr 2
            have : ∀ {ys : List V} {bs : List Bool}, A2 (fun v b => v = V.bl b) ys bs → ys = bs.map V.bl := fun {ys bs} h => by
              induction h with
              | nil => rfl
              | cons r _ ih => rw [r, ih]; rfl
            exact this ay
        · have pIa := pIdx_three (a := (sigs l).map sens) (b := (sigs o).map sens) (c := (sigs z).map sens) rfl rfl rfl (by have := found_max (l := l) (by omega); have h2 : (sigs l).length ≤ _ := List.length_filter_le sig _; rw [List.length_map]; omega)
            (by have := found_max (l := o) (by have := vo.1; omega); have h2 : (sigs o).length ≤ _ := List.length_filter_le sig _; rw [List.length_map]; omega) (by have := found_max (l := z) (by omega); have h2 : (sigs z).length ≤ _ := List.length_filter_le sig _; rw [List.length_map]; omega)
          have idx : ∀ {i j : Nat} {x y : List Nat} {H : Hp} {σ : L2.St}, σ[i]? = some (some (.str (S x))) → σ[j]? = some (some (.str (S y))) → Vd x → Vd y → Ev (tCall (sp__law_index K a) [] E0 (tCons (tVar i) (tCons (tVar j) tNil))) σ H (.int ((paI (sigs x) (sigs y)).getD 1000000 : Nat)) := fun hi hj hx hy =>
            ev_call (ea_cons (ev_var hi) (ea_cons (ev_var hj) ea_nil)) fun H1 e1 Q q E => ⟨_, _, rfl, hx, hy, fun H2 e2 => q H2 e2⟩
          refine q_asgQ (cb_Q (ea_q ?_))
          refine (el_lst (vs := [V.int ((paI (sigs l) (sigs o)).getD 1000000 : Nat), V.int ((paI (sigs o) (sigs z)).getD 1000000 : Nat), V.int ((paI (sigs l) (sigs z)).getD 1000000 : Nat)]) (ea_cons (idx rfl rfl vl vo) (ea_cons (idx rfl rfl vo vz) (ea_cons (idx rfl rfl vl vz) ea_nil))) (by show 3 ≤ 100000; decide)) H14 (Ex.refl _) _ fun pl H15 hpl e15 hl15 => ?_
          refine ea_n ⟨pl, [((paI (sigs l) (sigs o)).getD 1000000 : Nat), ((paI (sigs o) (sigs z)).getD 1000000 : Nat), ((paI (sigs l) (sigs z)).getD 1000000 : Nat)], rfl, sq_of hl15, by show 3 < 64; decide, fun ns' q perm srt hq => ?_⟩
          have l3 := perm.length_eq
          obtain ⟨n1, n2, n3, rfl⟩ : ∃ n1 n2 n3, ns' = [n1, n2, n3] := by
            match ns', l3 with
            | [n1, n2, n3], _ => exact ⟨n1, n2, n3, rfl⟩
          simp only [List.pairwise_cons] at srt
          have e12 : n1 = n2 := least_two perm (srt.1 n2 (by simp)) (srt.2.1 n3 (by simp)) (by
            have h3 := pIa
            unfold paI
            omega)
          subst e12
          refine s_when (b := !decide (V.int n1 = V.int n1)) (et_test (ev_op (ev_op (ev_var rfl) ev_c (rv_ixL (sq_of upd_same) rfl)) (ev_op (ev_var rfl) ev_c (rv_ixL (sq_of upd_same) rfl)) (rv_ne rfl))) (fun hb => by simp at hb) (fun _ H16 e16' => ?_)
          exact ⟨_, _, _, _, _, _, _, _, _, rfl, (kp12.trans (Kp.of ((e13.trans e14).trans (e15.trans ((Ex.new hq).trans e16'))))).ex e16 hb1⟩
    · rintro σ H5 ⟨v1, v2, v3, v4, v5, v6, v7, v8, v9, rfl, e5⟩
      exact s_ret ev_c fun H6 e6 => k H6

def fas : List He.Fa := [.glo "is_word_character", .glo "name_end", .glo "next_state", .glo "number_end", .glo "operator_end", .glo "quote_at", .glo "string_end", .mkr "Frame", .glo "width_of", .mkr "Scanner", .meth "Scanner" "add", .meth "Scanner" "add_lexeme", .meth "Scanner" "fail", .meth "Scanner" "feed", .meth "Scanner" "close", .meth "Scanner" "read_on", .meth "Scanner" "read_step", .meth "Scanner" "finish", .meth "Scanner" "read_join", .meth "Scanner" "comment_end", .meth "Scanner" "read_comment", .meth "Scanner" "read_line_feed", .meth "Scanner" "read_indentation", .meth "Scanner" "read_last_gap", .meth "Scanner" "read_empty_line", .meth "Scanner" "compare_indentation", .meth "Scanner" "read_lexeme", .meth "Scanner" "read_word", .meth "Scanner" "read_string", .meth "Scanner" "begin_string", .meth "Scanner" "read_operator", .meth "Scanner" "open_bracket", .meth "Scanner" "add_part", .meth "Scanner" "part_end", .meth "Scanner" "read_part", .meth "Scanner" "end_format", .glo "read", .glo "tokens", .glo "is_significant", .glo "sense_of", .glo "significant", .glo "parting", .glo "_law_bag", .glo "_law_take", .glo "_law_pick", .glo "_law_plain", .glo "_law_atom", .glo "_law_row", .glo "_law_formatted", .glo "_law_source", .glo "_law_valid", .glo "_law_spoilt", .glo "_law_right", .glo "_law_index", .glo "_law_levels_part", .glo "law", .cls "Frame", .glo "Frame", .noat "Frame" "mark", .noat "Frame" "at", .noat "Frame" "quote", .cls "Scanner", .glo "Scanner", .noat "Scanner" "text", .noat "Scanner" "at", .noat "Scanner" "levels", .noat "Scanner" "frames", .noat "Scanner" "found", .noat "Scanner" "failure", .noat "Scanner" "is_fresh", .noat "Scanner" "is_begun", .noat "Scanner" "is_final", .noat "Scanner" "is_over", .noat "Scanner" "join", .free "len", .free "abs", .free "max", .free "min", .free "all", .free "any", .free "range", .free "sorted", .free "list", .free "int", .free "ValueError", .str "LETTERS" "abcdefghijklmnopqrstuvwxyzABCDEFGHIJKLMNOPQRSTUVWXYZ_", .str "DIGITS" "0123456789", .str "GAPS" " \t", .str "QUOTES" "'\"", .glo "PLAIN_PREFIXES", .glo "FORMATTED_PREFIXES", .glo "OPERATORS", .glo "STEPS", .glo "ENDS", .int "MORE" (-1), .int "WRONG" (-2), .glo "CLOSERS", .int "MOST_LEVELS" 12, .int "MOST_BRACKETS" 20, .int "MOST_STRINGS" 4, .int "TAB" 8, .glo "GAPS_OF_KINDS", .glo "BARE"]
def fbs : List Fb := [.dat "PLAIN_PREFIXES" dd_PLAIN_PREFIXES, .dat "FORMATTED_PREFIXES" dd_FORMATTED_PREFIXES, .dat "OPERATORS" dd_OPERATORS, .tab "STEPS" kv_STEPS, .dat "ENDS" dd_ENDS, .abs "CLOSERS" ab_CLOSERS, .tab "CLOSERS" kv_CLOSERS, .dat "GAPS_OF_KINDS" dd_GAPS_OF_KINDS, .dat "BARE" dd_BARE]
def dns : List He.DefD := [⟨("is_word_character", none), "is_word_character", "is_word_character", defArgs s_is_word_character, defBody s_is_word_character, defScope s_is_word_character, [], []⟩, ⟨("name_end", none), "name_end", "name_end", defArgs s_name_end, defBody s_name_end, defScope s_name_end, [], []⟩, ⟨("next_state", none), "next_state", "next_state", defArgs s_next_state, defBody s_next_state, defScope s_next_state, [], []⟩, ⟨("number_end", none), "number_end", "number_end", defArgs s_number_end, defBody s_number_end, defScope s_number_end, [], []⟩, ⟨("operator_end", none), "operator_end", "operator_end", defArgs s_operator_end, defBody s_operator_end, defScope s_operator_end, [], []⟩, ⟨("quote_at", none), "quote_at", "quote_at", defArgs s_quote_at, defBody s_quote_at, defScope s_quote_at, [], []⟩, ⟨("string_end", none), "string_end", "string_end", defArgs s_string_end, defBody s_string_end, defScope s_string_end, [], []⟩, ⟨("Frame", some "__init__"), "__init__", "Frame.__init__", defArgs s_Frame___init__, defBody s_Frame___init__, defScope s_Frame___init__, [], []⟩, ⟨("width_of", none), "width_of", "width_of", defArgs s_width_of, defBody s_width_of, defScope s_width_of, [], []⟩, ⟨("Scanner", some "__init__"), "__init__", "Scanner.__init__", defArgs s_Scanner___init__, defBody s_Scanner___init__, defScope s_Scanner___init__, [], []⟩, ⟨("Scanner", some "add"), "add", "Scanner.add", defArgs s_Scanner_add, defBody s_Scanner_add, defScope s_Scanner_add, [], []⟩, ⟨("Scanner", some "add_lexeme"), "add_lexeme", "Scanner.add_lexeme", defArgs s_Scanner_add_lexeme, defBody s_Scanner_add_lexeme, defScope s_Scanner_add_lexeme, [], []⟩, ⟨("Scanner", some "fail"), "fail", "Scanner.fail", defArgs s_Scanner_fail, defBody s_Scanner_fail, defScope s_Scanner_fail, [], []⟩, ⟨("Scanner", some "feed"), "feed", "Scanner.feed", defArgs s_Scanner_feed, defBody s_Scanner_feed, defScope s_Scanner_feed, [], []⟩, ⟨("Scanner", some "close"), "close", "Scanner.close", defArgs s_Scanner_close, defBody s_Scanner_close, defScope s_Scanner_close, [], []⟩, ⟨("Scanner", some "read_on"), "read_on", "Scanner.read_on", defArgs s_Scanner_read_on, defBody s_Scanner_read_on, defScope s_Scanner_read_on, [], []⟩, ⟨("Scanner", some "read_step"), "read_step", "Scanner.read_step", defArgs s_Scanner_read_step, defBody s_Scanner_read_step, defScope s_Scanner_read_step, [], []⟩, ⟨("Scanner", some "finish"), "finish", "Scanner.finish", defArgs s_Scanner_finish, defBody s_Scanner_finish, defScope s_Scanner_finish, [], []⟩, ⟨("Scanner", some "read_join"), "read_join", "Scanner.read_join", defArgs s_Scanner_read_join, defBody s_Scanner_read_join, defScope s_Scanner_read_join, [], []⟩, ⟨("Scanner", some "comment_end"), "comment_end", "Scanner.comment_end", defArgs s_Scanner_comment_end, defBody s_Scanner_comment_end, defScope s_Scanner_comment_end, [], []⟩, ⟨("Scanner", some "read_comment"), "read_comment", "Scanner.read_comment", defArgs s_Scanner_read_comment, defBody s_Scanner_read_comment, defScope s_Scanner_read_comment, [], []⟩, ⟨("Scanner", some "read_line_feed"), "read_line_feed", "Scanner.read_line_feed", defArgs s_Scanner_read_line_feed, defBody s_Scanner_read_line_feed, defScope s_Scanner_read_line_feed, [], []⟩, ⟨("Scanner", some "read_indentation"), "read_indentation", "Scanner.read_indentation", defArgs s_Scanner_read_indentation, defBody s_Scanner_read_indentation, defScope s_Scanner_read_indentation, [], []⟩, ⟨("Scanner", some "read_last_gap"), "read_last_gap", "Scanner.read_last_gap", defArgs s_Scanner_read_last_gap, defBody s_Scanner_read_last_gap, defScope s_Scanner_read_last_gap, [], []⟩, ⟨("Scanner", some "read_empty_line"), "read_empty_line", "Scanner.read_empty_line", defArgs s_Scanner_read_empty_line, defBody s_Scanner_read_empty_line, defScope s_Scanner_read_empty_line, [], []⟩, ⟨("Scanner", some "compare_indentation"), "compare_indentation", "Scanner.compare_indentation", defArgs s_Scanner_compare_indentation, defBody s_Scanner_compare_indentation, defScope s_Scanner_compare_indentation, [], []⟩, ⟨("Scanner", some "read_lexeme"), "read_lexeme", "Scanner.read_lexeme", defArgs s_Scanner_read_lexeme, defBody s_Scanner_read_lexeme, defScope s_Scanner_read_lexeme, [], []⟩, ⟨("Scanner", some "read_word"), "read_word", "Scanner.read_word", defArgs s_Scanner_read_word, defBody s_Scanner_read_word, defScope s_Scanner_read_word, [], []⟩, ⟨("Scanner", some "read_string"), "read_string", "Scanner.read_string", defArgs s_Scanner_read_string, defBody s_Scanner_read_string, defScope s_Scanner_read_string, [], []⟩, ⟨("Scanner", some "begin_string"), "begin_string", "Scanner.begin_string", defArgs s_Scanner_begin_string, defBody s_Scanner_begin_string, defScope s_Scanner_begin_string, [], []⟩, ⟨("Scanner", some "read_operator"), "read_operator", "Scanner.read_operator", defArgs s_Scanner_read_operator, defBody s_Scanner_read_operator, defScope s_Scanner_read_operator, [], []⟩, ⟨("Scanner", some "open_bracket"), "open_bracket", "Scanner.open_bracket", defArgs s_Scanner_open_bracket, defBody s_Scanner_open_bracket, defScope s_Scanner_open_bracket, [], []⟩, ⟨("Scanner", some "add_part"), "add_part", "Scanner.add_part", defArgs s_Scanner_add_part, defBody s_Scanner_add_part, defScope s_Scanner_add_part, [], []⟩, ⟨("Scanner", some "part_end"), "part_end", "Scanner.part_end", defArgs s_Scanner_part_end, defBody s_Scanner_part_end, defScope s_Scanner_part_end, [], []⟩, ⟨("Scanner", some "read_part"), "read_part", "Scanner.read_part", defArgs s_Scanner_read_part, defBody s_Scanner_read_part, defScope s_Scanner_read_part, [], []⟩, ⟨("Scanner", some "end_format"), "end_format", "Scanner.end_format", defArgs s_Scanner_end_format, defBody s_Scanner_end_format, defScope s_Scanner_end_format, [], []⟩, ⟨("read", none), "read", "read", defArgs s_read, defBody s_read, defScope s_read, [], []⟩, ⟨("tokens", none), "tokens", "tokens", defArgs s_tokens, defBody s_tokens, defScope s_tokens, [], []⟩, ⟨("is_significant", none), "is_significant", "is_significant", defArgs s_is_significant, defBody s_is_significant, defScope s_is_significant, [], []⟩, ⟨("sense_of", none), "sense_of", "sense_of", defArgs s_sense_of, defBody s_sense_of, defScope s_sense_of, [], []⟩, ⟨("significant", none), "significant", "significant", defArgs s_significant, defBody s_significant, defScope s_significant, [], []⟩, ⟨("parting", none), "parting", "parting", defArgs s_parting, defBody s_parting, defScope s_parting, [], []⟩, ⟨("_law_bag", none), "_law_bag", "_law_bag", defArgs s__law_bag, defBody s__law_bag, defScope s__law_bag, [], []⟩, ⟨("_law_take", none), "_law_take", "_law_take", defArgs s__law_take, defBody s__law_take, defScope s__law_take, [], []⟩, ⟨("_law_pick", none), "_law_pick", "_law_pick", defArgs s__law_pick, defBody s__law_pick, defScope s__law_pick, [], []⟩, ⟨("_law_plain", none), "_law_plain", "_law_plain", defArgs s__law_plain, defBody s__law_plain, defScope s__law_plain, [], []⟩, ⟨("_law_atom", none), "_law_atom", "_law_atom", defArgs s__law_atom, defBody s__law_atom, defScope s__law_atom, [], []⟩, ⟨("_law_row", none), "_law_row", "_law_row", defArgs s__law_row, defBody s__law_row, defScope s__law_row, [], []⟩, ⟨("_law_formatted", none), "_law_formatted", "_law_formatted", defArgs s__law_formatted, defBody s__law_formatted, defScope s__law_formatted, [], []⟩, ⟨("_law_source", none), "_law_source", "_law_source", defArgs s__law_source, defBody s__law_source, defScope s__law_source, [], []⟩, ⟨("_law_valid", none), "_law_valid", "_law_valid", defArgs s__law_valid, defBody s__law_valid, defScope s__law_valid, [], []⟩, ⟨("_law_spoilt", none), "_law_spoilt", "_law_spoilt", defArgs s__law_spoilt, defBody s__law_spoilt, defScope s__law_spoilt, [], []⟩, ⟨("_law_right", none), "_law_right", "_law_right", defArgs s__law_right, defBody s__law_right, defScope s__law_right, [], []⟩, ⟨("_law_index", none), "_law_index", "_law_index", defArgs s__law_index, defBody s__law_index, defScope s__law_index, [], []⟩, ⟨("_law_levels_part", none), "_law_levels_part", "_law_levels_part", defArgs s__law_levels_part, defBody s__law_levels_part, defScope s__law_levels_part, [], []⟩, ⟨("law", none), "law", "law", defArgs s_law, defBody s_law, defScope s_law, [], []⟩]
def tbs : List He.Tab := [(fun K => He.ga K "STEPS", kv_STEPS.map (·.1)), (fun K => He.ga K "CLOSERS", kv_CLOSERS.map (·.1))]
def nms0 : List Str := ["BadSource", "LETTERS", "DIGITS", "GAPS", "QUOTES", "PLAIN_PREFIXES", "FORMATTED_PREFIXES", "OPERATORS", "STEPS", "ENDS", "MORE", "WRONG", "is_word_character", "name_end", "next_state", "number_end", "operator_end", "quote_at", "string_end", "CLOSERS", "MOST_LEVELS", "MOST_BRACKETS", "MOST_STRINGS", "TAB", "Frame", "width_of", "Scanner", "read", "tokens", "GAPS_OF_KINDS"]
def nms1 : List Str := ["BARE", "is_significant", "sense_of", "significant", "parting", "_law_bag", "_law_take", "_law_pick", "_law_plain", "_law_atom", "_law_row", "_law_formatted", "_law_source", "_law_valid", "_law_spoilt", "_law_right", "_law_index", "_law_levels_part"]
def nms : List Str := nms0 ++ nms1
abbrev R : PySem.W.OpenRow := PySem.W.OpenLaw.row PySem.Challenge.rw_indentokens_k26_whole_parting
abbrev hk : PySem.W.Hook := He.hookX 5 fas dns tbs [] (fbAll fbs)
def ob (s : PySem.W.SharedT) : He.AlX := He.obsX 5 fas dns tbs [] (fbAll fbs) (HandSHeadRun.getT s)
theorem ob_eq (s : PySem.W.SharedT) : ob s = hk.obs s.abs := He.obsX_eq (HandSHeadRun.getT_eq s)
theorem run0 (w : World) : HandSHeadRun.RunEq R (PySem.W.view R.prog [54]) hk ob 4000 nms (w.withFollow "special-get-raises" false) := by
  intro os
  kernel_rfl
theorem run1 (w : World) : HandSHeadRun.RunEq R (PySem.W.view R.prog [54]) hk ob 4000 nms (w.withFollow "special-get-raises" true) := by
  intro os
  kernel_rfl
theorem run (w : World) : HandSHeadRun.RunEq R (PySem.W.view R.prog [54]) hk ob 4000 nms w := PySem.W.byRow2 "special-get-raises" run0 run1 w
theorem facts {P : Program} {w : World} {K : PySem.W.Frag} {h : Heap} {mg : Str → Option Value} {fl : Addr} (X : K.In h) (G : h.Ns mainGlobals mg) (hfa : mg "law" = some (.ref fl)) (c : He.SaysX fas dns tbs [] (fbAll fbs) w h K) :
    ∃ fd : FuncData, (∀ (s : Shared) (v : Value), BindsTo s fd ⟨[v], []⟩ [("_law_script", v)]) ∧ ∀ base : Heap, K.In base → base.Ns mainGlobals mg → FnG P w K mg base CX0 13 fl fd ["_law_script"] (sp_law0 K) := by
  obtain ⟨fd_is_word_character, D_is_word_character⟩ := c.t.d.def_ 0 (d := ⟨("is_word_character", none), "is_word_character", "is_word_character", defArgs s_is_word_character, defBody s_is_word_character, defScope s_is_word_character, [], []⟩) rfl
  have F_is_word_character : Fun K "is_word_character" "is_word_character" s_is_word_character (He.fAd K ("is_word_character", none)) fd_is_word_character := fun_of D_is_word_character
  have b_is_word_character := F_is_word_character.binds (ps := ["character"]) fun _ _ _ _ _ _ us hl => match us, hl with | [_], _ => rfl
  obtain ⟨fd_name_end, D_name_end⟩ := c.t.d.def_ 1 (d := ⟨("name_end", none), "name_end", "name_end", defArgs s_name_end, defBody s_name_end, defScope s_name_end, [], []⟩) rfl
  have F_name_end : Fun K "name_end" "name_end" s_name_end (He.fAd K ("name_end", none)) fd_name_end := fun_of D_name_end
  have b_name_end := F_name_end.binds (ps := ["text", "at"]) fun _ _ _ _ _ _ us hl => match us, hl with | [_, _], _ => rfl
  obtain ⟨fd_next_state, D_next_state⟩ := c.t.d.def_ 2 (d := ⟨("next_state", none), "next_state", "next_state", defArgs s_next_state, defBody s_next_state, defScope s_next_state, [], []⟩) rfl
  have F_next_state : Fun K "next_state" "next_state" s_next_state (He.fAd K ("next_state", none)) fd_next_state := fun_of D_next_state
  have b_next_state := F_next_state.binds (ps := ["state", "character"]) fun _ _ _ _ _ _ us hl => match us, hl with | [_, _], _ => rfl
  obtain ⟨fd_number_end, D_number_end⟩ := c.t.d.def_ 3 (d := ⟨("number_end", none), "number_end", "number_end", defArgs s_number_end, defBody s_number_end, defScope s_number_end, [], []⟩) rfl
  have F_number_end : Fun K "number_end" "number_end" s_number_end (He.fAd K ("number_end", none)) fd_number_end := fun_of D_number_end
  have b_number_end := F_number_end.binds (ps := ["text", "at", "is_final"]) fun _ _ _ _ _ _ us hl => match us, hl with | [_, _, _], _ => rfl
  obtain ⟨fd_operator_end, D_operator_end⟩ := c.t.d.def_ 4 (d := ⟨("operator_end", none), "operator_end", "operator_end", defArgs s_operator_end, defBody s_operator_end, defScope s_operator_end, [], []⟩) rfl
  have F_operator_end : Fun K "operator_end" "operator_end" s_operator_end (He.fAd K ("operator_end", none)) fd_operator_end := fun_of D_operator_end
  have b_operator_end := F_operator_end.binds (ps := ["text", "at", "is_final"]) fun _ _ _ _ _ _ us hl => match us, hl with | [_, _, _], _ => rfl
  obtain ⟨fd_quote_at, D_quote_at⟩ := c.t.d.def_ 5 (d := ⟨("quote_at", none), "quote_at", "quote_at", defArgs s_quote_at, defBody s_quote_at, defScope s_quote_at, [], []⟩) rfl
  have F_quote_at : Fun K "quote_at" "quote_at" s_quote_at (He.fAd K ("quote_at", none)) fd_quote_at := fun_of D_quote_at
  have b_quote_at := F_quote_at.binds (ps := ["text", "at", "is_final"]) fun _ _ _ _ _ _ us hl => match us, hl with | [_, _, _], _ => rfl
  obtain ⟨fd_string_end, D_string_end⟩ := c.t.d.def_ 6 (d := ⟨("string_end", none), "string_end", "string_end", defArgs s_string_end, defBody s_string_end, defScope s_string_end, [], []⟩) rfl
  have F_string_end : Fun K "string_end" "string_end" s_string_end (He.fAd K ("string_end", none)) fd_string_end := fun_of D_string_end
  have b_string_end := F_string_end.binds (ps := ["text", "at", "quote", "is_final"]) fun _ _ _ _ _ _ us hl => match us, hl with | [_, _, _, _], _ => rfl
  obtain ⟨fd_Frame___init__, D_Frame___init__⟩ := c.t.d.def_ 7 (d := ⟨("Frame", some "__init__"), "__init__", "Frame.__init__", defArgs s_Frame___init__, defBody s_Frame___init__, defScope s_Frame___init__, [], []⟩) rfl
  have F_Frame___init__ : Fun K "__init__" "Frame.__init__" s_Frame___init__ (He.fAd K ("Frame", some "__init__")) fd_Frame___init__ := fun_of D_Frame___init__
  have b_Frame___init__ := F_Frame___init__.binds (ps := ["self", "mark", "at", "quote"]) fun _ _ _ _ _ _ us hl => match us, hl with | [_, _, _, _], _ => rfl
  obtain ⟨fd_width_of, D_width_of⟩ := c.t.d.def_ 8 (d := ⟨("width_of", none), "width_of", "width_of", defArgs s_width_of, defBody s_width_of, defScope s_width_of, [], []⟩) rfl
  have F_width_of : Fun K "width_of" "width_of" s_width_of (He.fAd K ("width_of", none)) fd_width_of := fun_of D_width_of
  have b_width_of := F_width_of.binds (ps := ["gap"]) fun _ _ _ _ _ _ us hl => match us, hl with | [_], _ => rfl
  obtain ⟨fd_Scanner___init__, D_Scanner___init__⟩ := c.t.d.def_ 9 (d := ⟨("Scanner", some "__init__"), "__init__", "Scanner.__init__", defArgs s_Scanner___init__, defBody s_Scanner___init__, defScope s_Scanner___init__, [], []⟩) rfl
  have F_Scanner___init__ : Fun K "__init__" "Scanner.__init__" s_Scanner___init__ (He.fAd K ("Scanner", some "__init__")) fd_Scanner___init__ := fun_of D_Scanner___init__
  have b_Scanner___init__ := F_Scanner___init__.binds (ps := ["self"]) fun _ _ _ _ _ _ us hl => match us, hl with | [_], _ => rfl
  obtain ⟨fd_Scanner_add, D_Scanner_add⟩ := c.t.d.def_ 10 (d := ⟨("Scanner", some "add"), "add", "Scanner.add", defArgs s_Scanner_add, defBody s_Scanner_add, defScope s_Scanner_add, [], []⟩) rfl
  have F_Scanner_add : Fun K "add" "Scanner.add" s_Scanner_add (He.fAd K ("Scanner", some "add")) fd_Scanner_add := fun_of D_Scanner_add
  have b_Scanner_add := F_Scanner_add.binds (ps := ["self", "kind", "end"]) fun _ _ _ _ _ _ us hl => match us, hl with | [_, _, _], _ => rfl
  obtain ⟨fd_Scanner_add_lexeme, D_Scanner_add_lexeme⟩ := c.t.d.def_ 11 (d := ⟨("Scanner", some "add_lexeme"), "add_lexeme", "Scanner.add_lexeme", defArgs s_Scanner_add_lexeme, defBody s_Scanner_add_lexeme, defScope s_Scanner_add_lexeme, [], []⟩) rfl
  have F_Scanner_add_lexeme : Fun K "add_lexeme" "Scanner.add_lexeme" s_Scanner_add_lexeme (He.fAd K ("Scanner", some "add_lexeme")) fd_Scanner_add_lexeme := fun_of D_Scanner_add_lexeme
  have b_Scanner_add_lexeme := F_Scanner_add_lexeme.binds (ps := ["self", "kind", "end"]) fun _ _ _ _ _ _ us hl => match us, hl with | [_, _, _], _ => rfl
  obtain ⟨fd_Scanner_fail, D_Scanner_fail⟩ := c.t.d.def_ 12 (d := ⟨("Scanner", some "fail"), "fail", "Scanner.fail", defArgs s_Scanner_fail, defBody s_Scanner_fail, defScope s_Scanner_fail, [], []⟩) rfl
  have F_Scanner_fail : Fun K "fail" "Scanner.fail" s_Scanner_fail (He.fAd K ("Scanner", some "fail")) fd_Scanner_fail := fun_of D_Scanner_fail
  have b_Scanner_fail := F_Scanner_fail.binds (ps := ["self", "kind", "at"]) fun _ _ _ _ _ _ us hl => match us, hl with | [_, _, _], _ => rfl
  obtain ⟨fd_Scanner_feed, D_Scanner_feed⟩ := c.t.d.def_ 13 (d := ⟨("Scanner", some "feed"), "feed", "Scanner.feed", defArgs s_Scanner_feed, defBody s_Scanner_feed, defScope s_Scanner_feed, [], []⟩) rfl
  have F_Scanner_feed : Fun K "feed" "Scanner.feed" s_Scanner_feed (He.fAd K ("Scanner", some "feed")) fd_Scanner_feed := fun_of D_Scanner_feed
  have b_Scanner_feed := F_Scanner_feed.binds (ps := ["self", "piece"]) fun _ _ _ _ _ _ us hl => match us, hl with | [_, _], _ => rfl
  obtain ⟨fd_Scanner_close, D_Scanner_close⟩ := c.t.d.def_ 14 (d := ⟨("Scanner", some "close"), "close", "Scanner.close", defArgs s_Scanner_close, defBody s_Scanner_close, defScope s_Scanner_close, [], []⟩) rfl
  have F_Scanner_close : Fun K "close" "Scanner.close" s_Scanner_close (He.fAd K ("Scanner", some "close")) fd_Scanner_close := fun_of D_Scanner_close
  have b_Scanner_close := F_Scanner_close.binds (ps := ["self"]) fun _ _ _ _ _ _ us hl => match us, hl with | [_], _ => rfl
  obtain ⟨fd_Scanner_read_on, D_Scanner_read_on⟩ := c.t.d.def_ 15 (d := ⟨("Scanner", some "read_on"), "read_on", "Scanner.read_on", defArgs s_Scanner_read_on, defBody s_Scanner_read_on, defScope s_Scanner_read_on, [], []⟩) rfl
  have F_Scanner_read_on : Fun K "read_on" "Scanner.read_on" s_Scanner_read_on (He.fAd K ("Scanner", some "read_on")) fd_Scanner_read_on := fun_of D_Scanner_read_on
  have b_Scanner_read_on := F_Scanner_read_on.binds (ps := ["self"]) fun _ _ _ _ _ _ us hl => match us, hl with | [_], _ => rfl
  obtain ⟨fd_Scanner_read_step, D_Scanner_read_step⟩ := c.t.d.def_ 16 (d := ⟨("Scanner", some "read_step"), "read_step", "Scanner.read_step", defArgs s_Scanner_read_step, defBody s_Scanner_read_step, defScope s_Scanner_read_step, [], []⟩) rfl
  have F_Scanner_read_step : Fun K "read_step" "Scanner.read_step" s_Scanner_read_step (He.fAd K ("Scanner", some "read_step")) fd_Scanner_read_step := fun_of D_Scanner_read_step
  have b_Scanner_read_step := F_Scanner_read_step.binds (ps := ["self"]) fun _ _ _ _ _ _ us hl => match us, hl with | [_], _ => rfl
  obtain ⟨fd_Scanner_finish, D_Scanner_finish⟩ := c.t.d.def_ 17 (d := ⟨("Scanner", some "finish"), "finish", "Scanner.finish", defArgs s_Scanner_finish, defBody s_Scanner_finish, defScope s_Scanner_finish, [], []⟩) rfl
  have F_Scanner_finish : Fun K "finish" "Scanner.finish" s_Scanner_finish (He.fAd K ("Scanner", some "finish")) fd_Scanner_finish := fun_of D_Scanner_finish
  have b_Scanner_finish := F_Scanner_finish.binds (ps := ["self"]) fun _ _ _ _ _ _ us hl => match us, hl with | [_], _ => rfl
  obtain ⟨fd_Scanner_read_join, D_Scanner_read_join⟩ := c.t.d.def_ 18 (d := ⟨("Scanner", some "read_join"), "read_join", "Scanner.read_join", defArgs s_Scanner_read_join, defBody s_Scanner_read_join, defScope s_Scanner_read_join, [], []⟩) rfl
  have F_Scanner_read_join : Fun K "read_join" "Scanner.read_join" s_Scanner_read_join (He.fAd K ("Scanner", some "read_join")) fd_Scanner_read_join := fun_of D_Scanner_read_join
  have b_Scanner_read_join := F_Scanner_read_join.binds (ps := ["self"]) fun _ _ _ _ _ _ us hl => match us, hl with | [_], _ => rfl
  obtain ⟨fd_Scanner_comment_end, D_Scanner_comment_end⟩ := c.t.d.def_ 19 (d := ⟨("Scanner", some "comment_end"), "comment_end", "Scanner.comment_end", defArgs s_Scanner_comment_end, defBody s_Scanner_comment_end, defScope s_Scanner_comment_end, [], []⟩) rfl
  have F_Scanner_comment_end : Fun K "comment_end" "Scanner.comment_end" s_Scanner_comment_end (He.fAd K ("Scanner", some "comment_end")) fd_Scanner_comment_end := fun_of D_Scanner_comment_end
  have b_Scanner_comment_end := F_Scanner_comment_end.binds (ps := ["self", "at"]) fun _ _ _ _ _ _ us hl => match us, hl with | [_, _], _ => rfl
  obtain ⟨fd_Scanner_read_comment, D_Scanner_read_comment⟩ := c.t.d.def_ 20 (d := ⟨("Scanner", some "read_comment"), "read_comment", "Scanner.read_comment", defArgs s_Scanner_read_comment, defBody s_Scanner_read_comment, defScope s_Scanner_read_comment, [], []⟩) rfl
  have F_Scanner_read_comment : Fun K "read_comment" "Scanner.read_comment" s_Scanner_read_comment (He.fAd K ("Scanner", some "read_comment")) fd_Scanner_read_comment := fun_of D_Scanner_read_comment
  have b_Scanner_read_comment := F_Scanner_read_comment.binds (ps := ["self"]) fun _ _ _ _ _ _ us hl => match us, hl with | [_], _ => rfl
  obtain ⟨fd_Scanner_read_line_feed, D_Scanner_read_line_feed⟩ := c.t.d.def_ 21 (d := ⟨("Scanner", some "read_line_feed"), "read_line_feed", "Scanner.read_line_feed", defArgs s_Scanner_read_line_feed, defBody s_Scanner_read_line_feed, defScope s_Scanner_read_line_feed, [], []⟩) rfl
  have F_Scanner_read_line_feed : Fun K "read_line_feed" "Scanner.read_line_feed" s_Scanner_read_line_feed (He.fAd K ("Scanner", some "read_line_feed")) fd_Scanner_read_line_feed := fun_of D_Scanner_read_line_feed
  have b_Scanner_read_line_feed := F_Scanner_read_line_feed.binds (ps := ["self"]) fun _ _ _ _ _ _ us hl => match us, hl with | [_], _ => rfl
  obtain ⟨fd_Scanner_read_indentation, D_Scanner_read_indentation⟩ := c.t.d.def_ 22 (d := ⟨("Scanner", some "read_indentation"), "read_indentation", "Scanner.read_indentation", defArgs s_Scanner_read_indentation, defBody s_Scanner_read_indentation, defScope s_Scanner_read_indentation, [], []⟩) rfl
  have F_Scanner_read_indentation : Fun K "read_indentation" "Scanner.read_indentation" s_Scanner_read_indentation (He.fAd K ("Scanner", some "read_indentation")) fd_Scanner_read_indentation := fun_of D_Scanner_read_indentation
  have b_Scanner_read_indentation := F_Scanner_read_indentation.binds (ps := ["self"]) fun _ _ _ _ _ _ us hl => match us, hl with | [_], _ => rfl
  obtain ⟨fd_Scanner_read_last_gap, D_Scanner_read_last_gap⟩ := c.t.d.def_ 23 (d := ⟨("Scanner", some "read_last_gap"), "read_last_gap", "Scanner.read_last_gap", defArgs s_Scanner_read_last_gap, defBody s_Scanner_read_last_gap, defScope s_Scanner_read_last_gap, [], []⟩) rfl
  have F_Scanner_read_last_gap : Fun K "read_last_gap" "Scanner.read_last_gap" s_Scanner_read_last_gap (He.fAd K ("Scanner", some "read_last_gap")) fd_Scanner_read_last_gap := fun_of D_Scanner_read_last_gap
  have b_Scanner_read_last_gap := F_Scanner_read_last_gap.binds (ps := ["self", "end"]) fun _ _ _ _ _ _ us hl => match us, hl with | [_, _], _ => rfl
  obtain ⟨fd_Scanner_read_empty_line, D_Scanner_read_empty_line⟩ := c.t.d.def_ 24 (d := ⟨("Scanner", some "read_empty_line"), "read_empty_line", "Scanner.read_empty_line", defArgs s_Scanner_read_empty_line, defBody s_Scanner_read_empty_line, defScope s_Scanner_read_empty_line, [], []⟩) rfl
  have F_Scanner_read_empty_line : Fun K "read_empty_line" "Scanner.read_empty_line" s_Scanner_read_empty_line (He.fAd K ("Scanner", some "read_empty_line")) fd_Scanner_read_empty_line := fun_of D_Scanner_read_empty_line
  have b_Scanner_read_empty_line := F_Scanner_read_empty_line.binds (ps := ["self", "at"]) fun _ _ _ _ _ _ us hl => match us, hl with | [_, _], _ => rfl
  obtain ⟨fd_Scanner_compare_indentation, D_Scanner_compare_indentation⟩ := c.t.d.def_ 25 (d := ⟨("Scanner", some "compare_indentation"), "compare_indentation", "Scanner.compare_indentation", defArgs s_Scanner_compare_indentation, defBody s_Scanner_compare_indentation, defScope s_Scanner_compare_indentation, [], []⟩) rfl
  have F_Scanner_compare_indentation : Fun K "compare_indentation" "Scanner.compare_indentation" s_Scanner_compare_indentation (He.fAd K ("Scanner", some "compare_indentation")) fd_Scanner_compare_indentation := fun_of D_Scanner_compare_indentation
  have b_Scanner_compare_indentation := F_Scanner_compare_indentation.binds (ps := ["self", "gap", "end"]) fun _ _ _ _ _ _ us hl => match us, hl with | [_, _, _], _ => rfl
  obtain ⟨fd_Scanner_read_lexeme, D_Scanner_read_lexeme⟩ := c.t.d.def_ 26 (d := ⟨("Scanner", some "read_lexeme"), "read_lexeme", "Scanner.read_lexeme", defArgs s_Scanner_read_lexeme, defBody s_Scanner_read_lexeme, defScope s_Scanner_read_lexeme, [], []⟩) rfl
  have F_Scanner_read_lexeme : Fun K "read_lexeme" "Scanner.read_lexeme" s_Scanner_read_lexeme (He.fAd K ("Scanner", some "read_lexeme")) fd_Scanner_read_lexeme := fun_of D_Scanner_read_lexeme
  have b_Scanner_read_lexeme := F_Scanner_read_lexeme.binds (ps := ["self", "character"]) fun _ _ _ _ _ _ us hl => match us, hl with | [_, _], _ => rfl
  obtain ⟨fd_Scanner_read_word, D_Scanner_read_word⟩ := c.t.d.def_ 27 (d := ⟨("Scanner", some "read_word"), "read_word", "Scanner.read_word", defArgs s_Scanner_read_word, defBody s_Scanner_read_word, defScope s_Scanner_read_word, [], []⟩) rfl
  have F_Scanner_read_word : Fun K "read_word" "Scanner.read_word" s_Scanner_read_word (He.fAd K ("Scanner", some "read_word")) fd_Scanner_read_word := fun_of D_Scanner_read_word
  have b_Scanner_read_word := F_Scanner_read_word.binds (ps := ["self"]) fun _ _ _ _ _ _ us hl => match us, hl with | [_], _ => rfl
  obtain ⟨fd_Scanner_read_string, D_Scanner_read_string⟩ := c.t.d.def_ 28 (d := ⟨("Scanner", some "read_string"), "read_string", "Scanner.read_string", defArgs s_Scanner_read_string, defBody s_Scanner_read_string, defScope s_Scanner_read_string, [], []⟩) rfl
  have F_Scanner_read_string : Fun K "read_string" "Scanner.read_string" s_Scanner_read_string (He.fAd K ("Scanner", some "read_string")) fd_Scanner_read_string := fun_of D_Scanner_read_string
  have b_Scanner_read_string := F_Scanner_read_string.binds (ps := ["self", "at"]) fun _ _ _ _ _ _ us hl => match us, hl with | [_, _], _ => rfl
  obtain ⟨fd_Scanner_begin_string, D_Scanner_begin_string⟩ := c.t.d.def_ 29 (d := ⟨("Scanner", some "begin_string"), "begin_string", "Scanner.begin_string", defArgs s_Scanner_begin_string, defBody s_Scanner_begin_string, defScope s_Scanner_begin_string, [], []⟩) rfl
  have F_Scanner_begin_string : Fun K "begin_string" "Scanner.begin_string" s_Scanner_begin_string (He.fAd K ("Scanner", some "begin_string")) fd_Scanner_begin_string := fun_of D_Scanner_begin_string
  have b_Scanner_begin_string := F_Scanner_begin_string.binds (ps := ["self", "at"]) fun _ _ _ _ _ _ us hl => match us, hl with | [_, _], _ => rfl
  obtain ⟨fd_Scanner_read_operator, D_Scanner_read_operator⟩ := c.t.d.def_ 30 (d := ⟨("Scanner", some "read_operator"), "read_operator", "Scanner.read_operator", defArgs s_Scanner_read_operator, defBody s_Scanner_read_operator, defScope s_Scanner_read_operator, [], []⟩) rfl
  have F_Scanner_read_operator : Fun K "read_operator" "Scanner.read_operator" s_Scanner_read_operator (He.fAd K ("Scanner", some "read_operator")) fd_Scanner_read_operator := fun_of D_Scanner_read_operator
  have b_Scanner_read_operator := F_Scanner_read_operator.binds (ps := ["self", "character"]) fun _ _ _ _ _ _ us hl => match us, hl with | [_, _], _ => rfl
  obtain ⟨fd_Scanner_open_bracket, D_Scanner_open_bracket⟩ := c.t.d.def_ 31 (d := ⟨("Scanner", some "open_bracket"), "open_bracket", "Scanner.open_bracket", defArgs s_Scanner_open_bracket, defBody s_Scanner_open_bracket, defScope s_Scanner_open_bracket, [], []⟩) rfl
  have F_Scanner_open_bracket : Fun K "open_bracket" "Scanner.open_bracket" s_Scanner_open_bracket (He.fAd K ("Scanner", some "open_bracket")) fd_Scanner_open_bracket := fun_of D_Scanner_open_bracket
  have b_Scanner_open_bracket := F_Scanner_open_bracket.binds (ps := ["self", "mark", "quote"]) fun _ _ _ _ _ _ us hl => match us, hl with | [_, _, _], _ => rfl
  obtain ⟨fd_Scanner_add_part, D_Scanner_add_part⟩ := c.t.d.def_ 32 (d := ⟨("Scanner", some "add_part"), "add_part", "Scanner.add_part", defArgs s_Scanner_add_part, defBody s_Scanner_add_part, defScope s_Scanner_add_part, [], []⟩) rfl
  have F_Scanner_add_part : Fun K "add_part" "Scanner.add_part" s_Scanner_add_part (He.fAd K ("Scanner", some "add_part")) fd_Scanner_add_part := fun_of D_Scanner_add_part
  have b_Scanner_add_part := F_Scanner_add_part.binds (ps := ["self", "end"]) fun _ _ _ _ _ _ us hl => match us, hl with | [_, _], _ => rfl
  obtain ⟨fd_Scanner_part_end, D_Scanner_part_end⟩ := c.t.d.def_ 33 (d := ⟨("Scanner", some "part_end"), "part_end", "Scanner.part_end", defArgs s_Scanner_part_end, defBody s_Scanner_part_end, defScope s_Scanner_part_end, [], []⟩) rfl
  have F_Scanner_part_end : Fun K "part_end" "Scanner.part_end" s_Scanner_part_end (He.fAd K ("Scanner", some "part_end")) fd_Scanner_part_end := fun_of D_Scanner_part_end
  have b_Scanner_part_end := F_Scanner_part_end.binds (ps := ["self", "frame"]) fun _ _ _ _ _ _ us hl => match us, hl with | [_, _], _ => rfl
  obtain ⟨fd_Scanner_read_part, D_Scanner_read_part⟩ := c.t.d.def_ 34 (d := ⟨("Scanner", some "read_part"), "read_part", "Scanner.read_part", defArgs s_Scanner_read_part, defBody s_Scanner_read_part, defScope s_Scanner_read_part, [], []⟩) rfl
  have F_Scanner_read_part : Fun K "read_part" "Scanner.read_part" s_Scanner_read_part (He.fAd K ("Scanner", some "read_part")) fd_Scanner_read_part := fun_of D_Scanner_read_part
  have b_Scanner_read_part := F_Scanner_read_part.binds (ps := ["self", "frame"]) fun _ _ _ _ _ _ us hl => match us, hl with | [_, _], _ => rfl
  obtain ⟨fd_Scanner_end_format, D_Scanner_end_format⟩ := c.t.d.def_ 35 (d := ⟨("Scanner", some "end_format"), "end_format", "Scanner.end_format", defArgs s_Scanner_end_format, defBody s_Scanner_end_format, defScope s_Scanner_end_format, [], []⟩) rfl
  have F_Scanner_end_format : Fun K "end_format" "Scanner.end_format" s_Scanner_end_format (He.fAd K ("Scanner", some "end_format")) fd_Scanner_end_format := fun_of D_Scanner_end_format
  have b_Scanner_end_format := F_Scanner_end_format.binds (ps := ["self", "frame"]) fun _ _ _ _ _ _ us hl => match us, hl with | [_, _], _ => rfl
  obtain ⟨fd_read, D_read⟩ := c.t.d.def_ 36 (d := ⟨("read", none), "read", "read", defArgs s_read, defBody s_read, defScope s_read, [], []⟩) rfl
  have F_read : Fun K "read" "read" s_read (He.fAd K ("read", none)) fd_read := fun_of D_read
  have b_read := F_read.binds (ps := ["text"]) fun _ _ _ _ _ _ us hl => match us, hl with | [_], _ => rfl
  obtain ⟨fd_tokens, D_tokens⟩ := c.t.d.def_ 37 (d := ⟨("tokens", none), "tokens", "tokens", defArgs s_tokens, defBody s_tokens, defScope s_tokens, [], []⟩) rfl
  have F_tokens : Fun K "tokens" "tokens" s_tokens (He.fAd K ("tokens", none)) fd_tokens := fun_of D_tokens
  have b_tokens := F_tokens.binds (ps := ["text"]) fun _ _ _ _ _ _ us hl => match us, hl with | [_], _ => rfl
  obtain ⟨fd_is_significant, D_is_significant⟩ := c.t.d.def_ 38 (d := ⟨("is_significant", none), "is_significant", "is_significant", defArgs s_is_significant, defBody s_is_significant, defScope s_is_significant, [], []⟩) rfl
  have F_is_significant : Fun K "is_significant" "is_significant" s_is_significant (He.fAd K ("is_significant", none)) fd_is_significant := fun_of D_is_significant
  have b_is_significant := F_is_significant.binds (ps := ["token"]) fun _ _ _ _ _ _ us hl => match us, hl with | [_], _ => rfl
  obtain ⟨fd_sense_of, D_sense_of⟩ := c.t.d.def_ 39 (d := ⟨("sense_of", none), "sense_of", "sense_of", defArgs s_sense_of, defBody s_sense_of, defScope s_sense_of, [], []⟩) rfl
  have F_sense_of : Fun K "sense_of" "sense_of" s_sense_of (He.fAd K ("sense_of", none)) fd_sense_of := fun_of D_sense_of
  have b_sense_of := F_sense_of.binds (ps := ["token"]) fun _ _ _ _ _ _ us hl => match us, hl with | [_], _ => rfl
  obtain ⟨fd_significant, D_significant⟩ := c.t.d.def_ 40 (d := ⟨("significant", none), "significant", "significant", defArgs s_significant, defBody s_significant, defScope s_significant, [], []⟩) rfl
  have F_significant : Fun K "significant" "significant" s_significant (He.fAd K ("significant", none)) fd_significant := fun_of D_significant
  have b_significant := F_significant.binds (ps := ["text"]) fun _ _ _ _ _ _ us hl => match us, hl with | [_], _ => rfl
  obtain ⟨fd_parting, D_parting⟩ := c.t.d.def_ 41 (d := ⟨("parting", none), "parting", "parting", defArgs s_parting, defBody s_parting, defScope s_parting, [], []⟩) rfl
  have F_parting : Fun K "parting" "parting" s_parting (He.fAd K ("parting", none)) fd_parting := fun_of D_parting
  have b_parting := F_parting.binds (ps := ["one", "other"]) fun _ _ _ _ _ _ us hl => match us, hl with | [_, _], _ => rfl
  obtain ⟨fd__law_bag, D__law_bag⟩ := c.t.d.def_ 42 (d := ⟨("_law_bag", none), "_law_bag", "_law_bag", defArgs s__law_bag, defBody s__law_bag, defScope s__law_bag, [], []⟩) rfl
  have F__law_bag : Fun K "_law_bag" "_law_bag" s__law_bag (He.fAd K ("_law_bag", none)) fd__law_bag := fun_of D__law_bag
  have b__law_bag := F__law_bag.binds (ps := ["_law_script", "_law_at"]) fun _ _ _ _ _ _ us hl => match us, hl with | [_, _], _ => rfl
  obtain ⟨fd__law_take, D__law_take⟩ := c.t.d.def_ 43 (d := ⟨("_law_take", none), "_law_take", "_law_take", defArgs s__law_take, defBody s__law_take, defScope s__law_take, [], []⟩) rfl
  have F__law_take : Fun K "_law_take" "_law_take" s__law_take (He.fAd K ("_law_take", none)) fd__law_take := fun_of D__law_take
  have b__law_take := F__law_take.binds (ps := ["_law_bag_here", "_law_many"]) fun _ _ _ _ _ _ us hl => match us, hl with | [_, _], _ => rfl
  obtain ⟨fd__law_pick, D__law_pick⟩ := c.t.d.def_ 44 (d := ⟨("_law_pick", none), "_law_pick", "_law_pick", defArgs s__law_pick, defBody s__law_pick, defScope s__law_pick, [], []⟩) rfl
  have F__law_pick : Fun K "_law_pick" "_law_pick" s__law_pick (He.fAd K ("_law_pick", none)) fd__law_pick := fun_of D__law_pick
  have b__law_pick := F__law_pick.binds (ps := ["_law_bag_here", "_law_menu"]) fun _ _ _ _ _ _ us hl => match us, hl with | [_, _], _ => rfl
  obtain ⟨fd__law_plain, D__law_plain⟩ := c.t.d.def_ 45 (d := ⟨("_law_plain", none), "_law_plain", "_law_plain", defArgs s__law_plain, defBody s__law_plain, defScope s__law_plain, [], []⟩) rfl
  have F__law_plain : Fun K "_law_plain" "_law_plain" s__law_plain (He.fAd K ("_law_plain", none)) fd__law_plain := fun_of D__law_plain
  have b__law_plain := F__law_plain.binds (ps := ["_law_bag_here"]) fun _ _ _ _ _ _ us hl => match us, hl with | [_], _ => rfl
  obtain ⟨fd__law_atom, D__law_atom⟩ := c.t.d.def_ 46 (d := ⟨("_law_atom", none), "_law_atom", "_law_atom", defArgs s__law_atom, defBody s__law_atom, defScope s__law_atom, [], []⟩) rfl
  have F__law_atom : Fun K "_law_atom" "_law_atom" s__law_atom (He.fAd K ("_law_atom", none)) fd__law_atom := fun_of D__law_atom
  have b__law_atom := F__law_atom.binds (ps := ["_law_bag_here", "_law_depth"]) fun _ _ _ _ _ _ us hl => match us, hl with | [_, _], _ => rfl
  obtain ⟨fd__law_row, D__law_row⟩ := c.t.d.def_ 47 (d := ⟨("_law_row", none), "_law_row", "_law_row", defArgs s__law_row, defBody s__law_row, defScope s__law_row, [], []⟩) rfl
  have F__law_row : Fun K "_law_row" "_law_row" s__law_row (He.fAd K ("_law_row", none)) fd__law_row := fun_of D__law_row
  have b__law_row := F__law_row.binds (ps := ["_law_bag_here", "_law_depth", "_law_is_inside"]) fun _ _ _ _ _ _ us hl => match us, hl with | [_, _, _], _ => rfl
  obtain ⟨fd__law_formatted, D__law_formatted⟩ := c.t.d.def_ 48 (d := ⟨("_law_formatted", none), "_law_formatted", "_law_formatted", defArgs s__law_formatted, defBody s__law_formatted, defScope s__law_formatted, [], []⟩) rfl
  have F__law_formatted : Fun K "_law_formatted" "_law_formatted" s__law_formatted (He.fAd K ("_law_formatted", none)) fd__law_formatted := fun_of D__law_formatted
  have b__law_formatted := F__law_formatted.binds (ps := ["_law_bag_here", "_law_depth"]) fun _ _ _ _ _ _ us hl => match us, hl with | [_, _], _ => rfl
  obtain ⟨fd__law_source, D__law_source⟩ := c.t.d.def_ 49 (d := ⟨("_law_source", none), "_law_source", "_law_source", defArgs s__law_source, defBody s__law_source, defScope s__law_source, [], []⟩) rfl
  have F__law_source : Fun K "_law_source" "_law_source" s__law_source (He.fAd K ("_law_source", none)) fd__law_source := fun_of D__law_source
  have b__law_source := F__law_source.binds (ps := ["_law_bag_here", "_law_most"]) fun _ _ _ _ _ _ us hl => match us, hl with | [_, _], _ => rfl
  obtain ⟨fd__law_valid, D__law_valid⟩ := c.t.d.def_ 50 (d := ⟨("_law_valid", none), "_law_valid", "_law_valid", defArgs s__law_valid, defBody s__law_valid, defScope s__law_valid, [], []⟩) rfl
  have F__law_valid : Fun K "_law_valid" "_law_valid" s__law_valid (He.fAd K ("_law_valid", none)) fd__law_valid := fun_of D__law_valid
  have b__law_valid := F__law_valid.binds (ps := ["_law_bag_here", "_law_most"]) fun _ _ _ _ _ _ us hl => match us, hl with | [_, _], _ => rfl
  obtain ⟨fd__law_spoilt, D__law_spoilt⟩ := c.t.d.def_ 51 (d := ⟨("_law_spoilt", none), "_law_spoilt", "_law_spoilt", defArgs s__law_spoilt, defBody s__law_spoilt, defScope s__law_spoilt, [], []⟩) rfl
  have F__law_spoilt : Fun K "_law_spoilt" "_law_spoilt" s__law_spoilt (He.fAd K ("_law_spoilt", none)) fd__law_spoilt := fun_of D__law_spoilt
  have b__law_spoilt := F__law_spoilt.binds (ps := ["_law_bag_here", "_law_text"]) fun _ _ _ _ _ _ us hl => match us, hl with | [_, _], _ => rfl
  obtain ⟨fd__law_right, D__law_right⟩ := c.t.d.def_ 52 (d := ⟨("_law_right", none), "_law_right", "_law_right", defArgs s__law_right, defBody s__law_right, defScope s__law_right, [], []⟩) rfl
  have F__law_right : Fun K "_law_right" "_law_right" s__law_right (He.fAd K ("_law_right", none)) fd__law_right := fun_of D__law_right
  have b__law_right := F__law_right.binds (ps := ["_law_one", "_law_other"]) fun _ _ _ _ _ _ us hl => match us, hl with | [_, _], _ => rfl
  obtain ⟨fd__law_index, D__law_index⟩ := c.t.d.def_ 53 (d := ⟨("_law_index", none), "_law_index", "_law_index", defArgs s__law_index, defBody s__law_index, defScope s__law_index, [], []⟩) rfl
  have F__law_index : Fun K "_law_index" "_law_index" s__law_index (He.fAd K ("_law_index", none)) fd__law_index := fun_of D__law_index
  have b__law_index := F__law_index.binds (ps := ["_law_one", "_law_other"]) fun _ _ _ _ _ _ us hl => match us, hl with | [_, _], _ => rfl
  obtain ⟨fd__law_levels_part, D__law_levels_part⟩ := c.t.d.def_ 54 (d := ⟨("_law_levels_part", none), "_law_levels_part", "_law_levels_part", defArgs s__law_levels_part, defBody s__law_levels_part, defScope s__law_levels_part, [], []⟩) rfl
  have F__law_levels_part : Fun K "_law_levels_part" "_law_levels_part" s__law_levels_part (He.fAd K ("_law_levels_part", none)) fd__law_levels_part := fun_of D__law_levels_part
  have b__law_levels_part := F__law_levels_part.binds (ps := []) fun _ _ _ _ _ _ us hl => match us, hl with | [], _ => rfl
  obtain ⟨fd_law, D_law⟩ := c.t.d.def_ 55 (d := ⟨("law", none), "law", "law", defArgs s_law, defBody s_law, defScope s_law, [], []⟩) rfl
  have F_law : Fun K "law" "law" s_law (He.fAd K ("law", none)) fd_law := fun_of D_law
  have b_law := F_law.binds (ps := ["_law_script"]) fun _ _ _ _ _ _ us hl => match us, hl with | [_], _ => rfl
  obtain ⟨es_STEPS, n_STEPS, K_STEPS⟩ := c.t.tab 0 (t := (fun K => He.ga K "STEPS", kv_STEPS.map (·.1))) rfl
  obtain ⟨es_CLOSERS, n_CLOSERS, K_CLOSERS⟩ := c.t.tab 1 (t := (fun K => He.ga K "CLOSERS", kv_CLOSERS.map (·.1))) rfl
  let a : Ads := { is_word_character := He.fAd K ("is_word_character", none), d_is_word_character := fd_is_word_character, name_end := He.fAd K ("name_end", none), d_name_end := fd_name_end, next_state := He.fAd K ("next_state", none), d_next_state := fd_next_state, number_end := He.fAd K ("number_end", none), d_number_end := fd_number_end, operator_end := He.fAd K ("operator_end", none), d_operator_end := fd_operator_end, quote_at := He.fAd K ("quote_at", none), d_quote_at := fd_quote_at, string_end := He.fAd K ("string_end", none), d_string_end := fd_string_end, Frame___init__ := He.fAd K ("Frame", some "__init__"), d_Frame___init__ := fd_Frame___init__, width_of := He.fAd K ("width_of", none), d_width_of := fd_width_of, Scanner___init__ := He.fAd K ("Scanner", some "__init__"), d_Scanner___init__ := fd_Scanner___init__, Scanner_add := He.fAd K ("Scanner", some "add"), d_Scanner_add := fd_Scanner_add, Scanner_add_lexeme := He.fAd K ("Scanner", some "add_lexeme"), d_Scanner_add_lexeme := fd_Scanner_add_lexeme, Scanner_fail := He.fAd K ("Scanner", some "fail"), d_Scanner_fail := fd_Scanner_fail, Scanner_feed := He.fAd K ("Scanner", some "feed"), d_Scanner_feed := fd_Scanner_feed, Scanner_close := He.fAd K ("Scanner", some "close"), d_Scanner_close := fd_Scanner_close, Scanner_read_on := He.fAd K ("Scanner", some "read_on"), d_Scanner_read_on := fd_Scanner_read_on, Scanner_read_step := He.fAd K ("Scanner", some "read_step"), d_Scanner_read_step := fd_Scanner_read_step, Scanner_finish := He.fAd K ("Scanner", some "finish"), d_Scanner_finish := fd_Scanner_finish, Scanner_read_join := He.fAd K ("Scanner", some "read_join"), d_Scanner_read_join := fd_Scanner_read_join, Scanner_comment_end := He.fAd K ("Scanner", some "comment_end"), d_Scanner_comment_end := fd_Scanner_comment_end, Scanner_read_comment := He.fAd K ("Scanner", some "read_comment"), d_Scanner_read_comment := fd_Scanner_read_comment, Scanner_read_line_feed := He.fAd K ("Scanner", some "read_line_feed"), d_Scanner_read_line_feed := fd_Scanner_read_line_feed, Scanner_read_indentation := He.fAd K ("Scanner", some "read_indentation"), d_Scanner_read_indentation := fd_Scanner_read_indentation, Scanner_read_last_gap := He.fAd K ("Scanner", some "read_last_gap"), d_Scanner_read_last_gap := fd_Scanner_read_last_gap, Scanner_read_empty_line := He.fAd K ("Scanner", some "read_empty_line"), d_Scanner_read_empty_line := fd_Scanner_read_empty_line, Scanner_compare_indentation := He.fAd K ("Scanner", some "compare_indentation"), d_Scanner_compare_indentation := fd_Scanner_compare_indentation, Scanner_read_lexeme := He.fAd K ("Scanner", some "read_lexeme"), d_Scanner_read_lexeme := fd_Scanner_read_lexeme, Scanner_read_word := He.fAd K ("Scanner", some "read_word"), d_Scanner_read_word := fd_Scanner_read_word, Scanner_read_string := He.fAd K ("Scanner", some "read_string"), d_Scanner_read_string := fd_Scanner_read_string, Scanner_begin_string := He.fAd K ("Scanner", some "begin_string"), d_Scanner_begin_string := fd_Scanner_begin_string, Scanner_read_operator := He.fAd K ("Scanner", some "read_operator"), d_Scanner_read_operator := fd_Scanner_read_operator, Scanner_open_bracket := He.fAd K ("Scanner", some "open_bracket"), d_Scanner_open_bracket := fd_Scanner_open_bracket, Scanner_add_part := He.fAd K ("Scanner", some "add_part"), d_Scanner_add_part := fd_Scanner_add_part, Scanner_part_end := He.fAd K ("Scanner", some "part_end"), d_Scanner_part_end := fd_Scanner_part_end, Scanner_read_part := He.fAd K ("Scanner", some "read_part"), d_Scanner_read_part := fd_Scanner_read_part, Scanner_end_format := He.fAd K ("Scanner", some "end_format"), d_Scanner_end_format := fd_Scanner_end_format, read := He.fAd K ("read", none), d_read := fd_read, tokens := He.fAd K ("tokens", none), d_tokens := fd_tokens, is_significant := He.fAd K ("is_significant", none), d_is_significant := fd_is_significant, sense_of := He.fAd K ("sense_of", none), d_sense_of := fd_sense_of, significant := He.fAd K ("significant", none), d_significant := fd_significant, parting := He.fAd K ("parting", none), d_parting := fd_parting, _law_bag := He.fAd K ("_law_bag", none), d__law_bag := fd__law_bag, _law_take := He.fAd K ("_law_take", none), d__law_take := fd__law_take, _law_pick := He.fAd K ("_law_pick", none), d__law_pick := fd__law_pick, _law_plain := He.fAd K ("_law_plain", none), d__law_plain := fd__law_plain, _law_atom := He.fAd K ("_law_atom", none), d__law_atom := fd__law_atom, _law_row := He.fAd K ("_law_row", none), d__law_row := fd__law_row, _law_formatted := He.fAd K ("_law_formatted", none), d__law_formatted := fd__law_formatted, _law_source := He.fAd K ("_law_source", none), d__law_source := fd__law_source, _law_valid := He.fAd K ("_law_valid", none), d__law_valid := fd__law_valid, _law_spoilt := He.fAd K ("_law_spoilt", none), d__law_spoilt := fd__law_spoilt, _law_right := He.fAd K ("_law_right", none), d__law_right := fd__law_right, _law_index := He.fAd K ("_law_index", none), d__law_index := fd__law_index, _law_levels_part := He.fAd K ("_law_levels_part", none), d__law_levels_part := fd__law_levels_part, law := He.fAd K ("law", none), d_law := fd_law, C_BadSource := He.ga K "BadSource", C_Frame := He.ga K "Frame", C_Scanner := He.ga K "Scanner", r_PLAIN_PREFIXES := He.ga K "PLAIN_PREFIXES", r_FORMATTED_PREFIXES := He.ga K "FORMATTED_PREFIXES", r_OPERATORS := He.ga K "OPERATORS", r_STEPS := He.ga K "STEPS", r_ENDS := He.ga K "ENDS", r_CLOSERS := He.ga K "CLOSERS", r_GAPS_OF_KINDS := He.ga K "GAPS_OF_KINDS", r_BARE := He.ga K "BARE" }
  have T : Txt w K mg a := { F_is_word_character := F_is_word_character, b_is_word_character := b_is_word_character, m_is_word_character := He.glo_ok X G (c.t.d.fact 0 (f := .glo "is_word_character") rfl), F_name_end := F_name_end, b_name_end := b_name_end, m_name_end := He.glo_ok X G (c.t.d.fact 1 (f := .glo "name_end") rfl), F_next_state := F_next_state, b_next_state := b_next_state, m_next_state := He.glo_ok X G (c.t.d.fact 2 (f := .glo "next_state") rfl), F_number_end := F_number_end, b_number_end := b_number_end, m_number_end := He.glo_ok X G (c.t.d.fact 3 (f := .glo "number_end") rfl), F_operator_end := F_operator_end, b_operator_end := b_operator_end, m_operator_end := He.glo_ok X G (c.t.d.fact 4 (f := .glo "operator_end") rfl), F_quote_at := F_quote_at, b_quote_at := b_quote_at, m_quote_at := He.glo_ok X G (c.t.d.fact 5 (f := .glo "quote_at") rfl), F_string_end := F_string_end, b_string_end := b_string_end, m_string_end := He.glo_ok X G (c.t.d.fact 6 (f := .glo "string_end") rfl), F_Frame___init__ := F_Frame___init__, b_Frame___init__ := b_Frame___init__, M_Frame := He.mkr_ok (c.t.d.fact 7 (f := .mkr "Frame") rfl), F_width_of := F_width_of, b_width_of := b_width_of, m_width_of := He.glo_ok X G (c.t.d.fact 8 (f := .glo "width_of") rfl), F_Scanner___init__ := F_Scanner___init__, b_Scanner___init__ := b_Scanner___init__, M_Scanner := He.mkr_ok (c.t.d.fact 9 (f := .mkr "Scanner") rfl), F_Scanner_add := F_Scanner_add, b_Scanner_add := b_Scanner_add, t_Scanner_add := He.meth_ok (c.t.d.fact 10 (f := .meth "Scanner" "add") rfl), F_Scanner_add_lexeme := F_Scanner_add_lexeme, b_Scanner_add_lexeme := b_Scanner_add_lexeme, t_Scanner_add_lexeme := He.meth_ok (c.t.d.fact 11 (f := .meth "Scanner" "add_lexeme") rfl), F_Scanner_fail := F_Scanner_fail, b_Scanner_fail := b_Scanner_fail, t_Scanner_fail := He.meth_ok (c.t.d.fact 12 (f := .meth "Scanner" "fail") rfl), F_Scanner_feed := F_Scanner_feed, b_Scanner_feed := b_Scanner_feed, t_Scanner_feed := He.meth_ok (c.t.d.fact 13 (f := .meth "Scanner" "feed") rfl), F_Scanner_close := F_Scanner_close, b_Scanner_close := b_Scanner_close, t_Scanner_close := He.meth_ok (c.t.d.fact 14 (f := .meth "Scanner" "close") rfl), F_Scanner_read_on := F_Scanner_read_on, b_Scanner_read_on := b_Scanner_read_on, t_Scanner_read_on := He.meth_ok (c.t.d.fact 15 (f := .meth "Scanner" "read_on") rfl), F_Scanner_read_step := F_Scanner_read_step, b_Scanner_read_step := b_Scanner_read_step, t_Scanner_read_step := He.meth_ok (c.t.d.fact 16 (f := .meth "Scanner" "read_step") rfl), F_Scanner_finish := F_Scanner_finish, b_Scanner_finish := b_Scanner_finish, t_Scanner_finish := He.meth_ok (c.t.d.fact 17 (f := .meth "Scanner" "finish") rfl), F_Scanner_read_join := F_Scanner_read_join, b_Scanner_read_join := b_Scanner_read_join, t_Scanner_read_join := He.meth_ok (c.t.d.fact 18 (f := .meth "Scanner" "read_join") rfl), F_Scanner_comment_end := F_Scanner_comment_end, b_Scanner_comment_end := b_Scanner_comment_end, t_Scanner_comment_end := He.meth_ok (c.t.d.fact 19 (f := .meth "Scanner" "comment_end") rfl), F_Scanner_read_comment := F_Scanner_read_comment, b_Scanner_read_comment := b_Scanner_read_comment, t_Scanner_read_comment := He.meth_ok (c.t.d.fact 20 (f := .meth "Scanner" "read_comment") rfl), F_Scanner_read_line_feed := F_Scanner_read_line_feed, b_Scanner_read_line_feed := b_Scanner_read_line_feed, t_Scanner_read_line_feed := He.meth_ok (c.t.d.fact 21 (f := .meth "Scanner" "read_line_feed") rfl), F_Scanner_read_indentation := F_Scanner_read_indentation, b_Scanner_read_indentation := b_Scanner_read_indentation, t_Scanner_read_indentation := He.meth_ok (c.t.d.fact 22 (f := .meth "Scanner" "read_indentation") rfl), F_Scanner_read_last_gap := F_Scanner_read_last_gap, b_Scanner_read_last_gap := b_Scanner_read_last_gap, t_Scanner_read_last_gap := He.meth_ok (c.t.d.fact 23 (f := .meth "Scanner" "read_last_gap") rfl), F_Scanner_read_empty_line := F_Scanner_read_empty_line, b_Scanner_read_empty_line := b_Scanner_read_empty_line, t_Scanner_read_empty_line := He.meth_ok (c.t.d.fact 24 (f := .meth "Scanner" "read_empty_line") rfl), F_Scanner_compare_indentation := F_Scanner_compare_indentation, b_Scanner_compare_indentation := b_Scanner_compare_indentation, t_Scanner_compare_indentation := He.meth_ok (c.t.d.fact 25 (f := .meth "Scanner" "compare_indentation") rfl), F_Scanner_read_lexeme := F_Scanner_read_lexeme, b_Scanner_read_lexeme := b_Scanner_read_lexeme, t_Scanner_read_lexeme := He.meth_ok (c.t.d.fact 26 (f := .meth "Scanner" "read_lexeme") rfl), F_Scanner_read_word := F_Scanner_read_word, b_Scanner_read_word := b_Scanner_read_word, t_Scanner_read_word := He.meth_ok (c.t.d.fact 27 (f := .meth "Scanner" "read_word") rfl), F_Scanner_read_string := F_Scanner_read_string, b_Scanner_read_string := b_Scanner_read_string, t_Scanner_read_string := He.meth_ok (c.t.d.fact 28 (f := .meth "Scanner" "read_string") rfl), F_Scanner_begin_string := F_Scanner_begin_string, b_Scanner_begin_string := b_Scanner_begin_string, t_Scanner_begin_string := He.meth_ok (c.t.d.fact 29 (f := .meth "Scanner" "begin_string") rfl), F_Scanner_read_operator := F_Scanner_read_operator, b_Scanner_read_operator := b_Scanner_read_operator, t_Scanner_read_operator := He.meth_ok (c.t.d.fact 30 (f := .meth "Scanner" "read_operator") rfl), F_Scanner_open_bracket := F_Scanner_open_bracket, b_Scanner_open_bracket := b_Scanner_open_bracket, t_Scanner_open_bracket := He.meth_ok (c.t.d.fact 31 (f := .meth "Scanner" "open_bracket") rfl), F_Scanner_add_part := F_Scanner_add_part, b_Scanner_add_part := b_Scanner_add_part, t_Scanner_add_part := He.meth_ok (c.t.d.fact 32 (f := .meth "Scanner" "add_part") rfl), F_Scanner_part_end := F_Scanner_part_end, b_Scanner_part_end := b_Scanner_part_end, t_Scanner_part_end := He.meth_ok (c.t.d.fact 33 (f := .meth "Scanner" "part_end") rfl), F_Scanner_read_part := F_Scanner_read_part, b_Scanner_read_part := b_Scanner_read_part, t_Scanner_read_part := He.meth_ok (c.t.d.fact 34 (f := .meth "Scanner" "read_part") rfl), F_Scanner_end_format := F_Scanner_end_format, b_Scanner_end_format := b_Scanner_end_format, t_Scanner_end_format := He.meth_ok (c.t.d.fact 35 (f := .meth "Scanner" "end_format") rfl), F_read := F_read, b_read := b_read, m_read := He.glo_ok X G (c.t.d.fact 36 (f := .glo "read") rfl), F_tokens := F_tokens, b_tokens := b_tokens, m_tokens := He.glo_ok X G (c.t.d.fact 37 (f := .glo "tokens") rfl), F_is_significant := F_is_significant, b_is_significant := b_is_significant, m_is_significant := He.glo_ok X G (c.t.d.fact 38 (f := .glo "is_significant") rfl), F_sense_of := F_sense_of, b_sense_of := b_sense_of, m_sense_of := He.glo_ok X G (c.t.d.fact 39 (f := .glo "sense_of") rfl), F_significant := F_significant, b_significant := b_significant, m_significant := He.glo_ok X G (c.t.d.fact 40 (f := .glo "significant") rfl), F_parting := F_parting, b_parting := b_parting, m_parting := He.glo_ok X G (c.t.d.fact 41 (f := .glo "parting") rfl), F__law_bag := F__law_bag, b__law_bag := b__law_bag, m__law_bag := He.glo_ok X G (c.t.d.fact 42 (f := .glo "_law_bag") rfl), F__law_take := F__law_take, b__law_take := b__law_take, m__law_take := He.glo_ok X G (c.t.d.fact 43 (f := .glo "_law_take") rfl), F__law_pick := F__law_pick, b__law_pick := b__law_pick, m__law_pick := He.glo_ok X G (c.t.d.fact 44 (f := .glo "_law_pick") rfl), F__law_plain := F__law_plain, b__law_plain := b__law_plain, m__law_plain := He.glo_ok X G (c.t.d.fact 45 (f := .glo "_law_plain") rfl), F__law_atom := F__law_atom, b__law_atom := b__law_atom, m__law_atom := He.glo_ok X G (c.t.d.fact 46 (f := .glo "_law_atom") rfl), F__law_row := F__law_row, b__law_row := b__law_row, m__law_row := He.glo_ok X G (c.t.d.fact 47 (f := .glo "_law_row") rfl), F__law_formatted := F__law_formatted, b__law_formatted := b__law_formatted, m__law_formatted := He.glo_ok X G (c.t.d.fact 48 (f := .glo "_law_formatted") rfl), F__law_source := F__law_source, b__law_source := b__law_source, m__law_source := He.glo_ok X G (c.t.d.fact 49 (f := .glo "_law_source") rfl), F__law_valid := F__law_valid, b__law_valid := b__law_valid, m__law_valid := He.glo_ok X G (c.t.d.fact 50 (f := .glo "_law_valid") rfl), F__law_spoilt := F__law_spoilt, b__law_spoilt := b__law_spoilt, m__law_spoilt := He.glo_ok X G (c.t.d.fact 51 (f := .glo "_law_spoilt") rfl), F__law_right := F__law_right, b__law_right := b__law_right, m__law_right := He.glo_ok X G (c.t.d.fact 52 (f := .glo "_law_right") rfl), F__law_index := F__law_index, b__law_index := b__law_index, m__law_index := He.glo_ok X G (c.t.d.fact 53 (f := .glo "_law_index") rfl), F__law_levels_part := F__law_levels_part, b__law_levels_part := b__law_levels_part, m__law_levels_part := He.glo_ok X G (c.t.d.fact 54 (f := .glo "_law_levels_part") rfl), F_law := F_law, b_law := b_law, m_law := He.glo_ok X G (c.t.d.fact 55 (f := .glo "law") rfl), c_Frame := He.cls_ok (c.t.d.fact 56 (f := .cls "Frame") rfl), m_Frame := He.glo_ok X G (c.t.d.fact 57 (f := .glo "Frame") rfl), na_Frame_mark := He.noat_ok (c.t.d.fact 58 (f := .noat "Frame" "mark") rfl), na_Frame_at := He.noat_ok (c.t.d.fact 59 (f := .noat "Frame" "at") rfl), na_Frame_quote := He.noat_ok (c.t.d.fact 60 (f := .noat "Frame" "quote") rfl), c_Scanner := He.cls_ok (c.t.d.fact 61 (f := .cls "Scanner") rfl), m_Scanner := He.glo_ok X G (c.t.d.fact 62 (f := .glo "Scanner") rfl), na_Scanner_text := He.noat_ok (c.t.d.fact 63 (f := .noat "Scanner" "text") rfl), na_Scanner_at := He.noat_ok (c.t.d.fact 64 (f := .noat "Scanner" "at") rfl), na_Scanner_levels := He.noat_ok (c.t.d.fact 65 (f := .noat "Scanner" "levels") rfl), na_Scanner_frames := He.noat_ok (c.t.d.fact 66 (f := .noat "Scanner" "frames") rfl), na_Scanner_found := He.noat_ok (c.t.d.fact 67 (f := .noat "Scanner" "found") rfl), na_Scanner_failure := He.noat_ok (c.t.d.fact 68 (f := .noat "Scanner" "failure") rfl), na_Scanner_is_fresh := He.noat_ok (c.t.d.fact 69 (f := .noat "Scanner" "is_fresh") rfl), na_Scanner_is_begun := He.noat_ok (c.t.d.fact 70 (f := .noat "Scanner" "is_begun") rfl), na_Scanner_is_final := He.noat_ok (c.t.d.fact 71 (f := .noat "Scanner" "is_final") rfl), na_Scanner_is_over := He.noat_ok (c.t.d.fact 72 (f := .noat "Scanner" "is_over") rfl), na_Scanner_join := He.noat_ok (c.t.d.fact 73 (f := .noat "Scanner" "join") rfl), n_len := He.free_ok X G (c.t.d.fact 74 (f := .free "len") rfl), n_abs := He.free_ok X G (c.t.d.fact 75 (f := .free "abs") rfl), n_max := He.free_ok X G (c.t.d.fact 76 (f := .free "max") rfl), n_min := He.free_ok X G (c.t.d.fact 77 (f := .free "min") rfl), n_all := He.free_ok X G (c.t.d.fact 78 (f := .free "all") rfl), n_any := He.free_ok X G (c.t.d.fact 79 (f := .free "any") rfl), n_range := He.free_ok X G (c.t.d.fact 80 (f := .free "range") rfl), n_sorted := He.free_ok X G (c.t.d.fact 81 (f := .free "sorted") rfl), n_list := He.free_ok X G (c.t.d.fact 82 (f := .free "list") rfl), n_int := He.free_ok X G (c.t.d.fact 83 (f := .free "int") rfl), n_ValueError := He.free_ok X G (c.t.d.fact 84 (f := .free "ValueError") rfl), m_LETTERS := He.str_ok X G (c.t.d.fact 85 (f := .str "LETTERS" "abcdefghijklmnopqrstuvwxyzABCDEFGHIJKLMNOPQRSTUVWXYZ_") rfl), m_DIGITS := He.str_ok X G (c.t.d.fact 86 (f := .str "DIGITS" "0123456789") rfl), m_GAPS := He.str_ok X G (c.t.d.fact 87 (f := .str "GAPS" " \t") rfl), m_QUOTES := He.str_ok X G (c.t.d.fact 88 (f := .str "QUOTES" "'\"") rfl), m_PLAIN_PREFIXES := He.glo_ok X G (c.t.d.fact 89 (f := .glo "PLAIN_PREFIXES") rfl), q_PLAIN_PREFIXES := fun H => sqt_flat (dat_ok (fb_at (K := K) (fb := fbs) c.more 0 (f := .dat "PLAIN_PREFIXES" dd_PLAIN_PREFIXES) rfl) H) (by decide +kernel), m_FORMATTED_PREFIXES := He.glo_ok X G (c.t.d.fact 90 (f := .glo "FORMATTED_PREFIXES") rfl), q_FORMATTED_PREFIXES := fun H => sqt_flat (dat_ok (fb_at (K := K) (fb := fbs) c.more 1 (f := .dat "FORMATTED_PREFIXES" dd_FORMATTED_PREFIXES) rfl) H) (by decide +kernel), m_OPERATORS := He.glo_ok X G (c.t.d.fact 91 (f := .glo "OPERATORS") rfl), q_OPERATORS := fun H => sqt_flat (dat_ok (fb_at (K := K) (fb := fbs) c.more 2 (f := .dat "OPERATORS" dd_OPERATORS) rfl) H) (by decide +kernel), m_STEPS := He.glo_ok X G (c.t.d.fact 92 (f := .glo "STEPS") rfl), k_STEPS := ⟨_, _, K_STEPS⟩, q_STEPS := fun k d hk => tab_ok K_STEPS (fb_at (K := K) (fb := fbs) c.more 3 (f := .tab "STEPS" kv_STEPS) rfl) hk, m_ENDS := He.glo_ok X G (c.t.d.fact 93 (f := .glo "ENDS") rfl), q_ENDS := fun H => sqt_flat (dat_ok (fb_at (K := K) (fb := fbs) c.more 4 (f := .dat "ENDS" dd_ENDS) rfl) H) (by decide +kernel), m_MORE := He.int_ok X G (c.t.d.fact 94 (f := .int "MORE" (-1)) rfl), m_WRONG := He.int_ok X G (c.t.d.fact 95 (f := .int "WRONG" (-2)) rfl), m_CLOSERS := He.glo_ok X G (c.t.d.fact 96 (f := .glo "CLOSERS") rfl), k_CLOSERS := ⟨_, _, K_CLOSERS⟩, x_CLOSERS := abs_ok (fb_at (K := K) (fb := fbs) c.more 5 (f := .abs "CLOSERS" ab_CLOSERS) rfl), q_CLOSERS := fun k d hk => tab_ok K_CLOSERS (fb_at (K := K) (fb := fbs) c.more 6 (f := .tab "CLOSERS" kv_CLOSERS) rfl) hk, m_MOST_LEVELS := He.int_ok X G (c.t.d.fact 97 (f := .int "MOST_LEVELS" 12) rfl), m_MOST_BRACKETS := He.int_ok X G (c.t.d.fact 98 (f := .int "MOST_BRACKETS" 20) rfl), m_MOST_STRINGS := He.int_ok X G (c.t.d.fact 99 (f := .int "MOST_STRINGS" 4) rfl), m_TAB := He.int_ok X G (c.t.d.fact 100 (f := .int "TAB" 8) rfl), m_GAPS_OF_KINDS := He.glo_ok X G (c.t.d.fact 101 (f := .glo "GAPS_OF_KINDS") rfl), q_GAPS_OF_KINDS := fun H => sqt_flat (dat_ok (fb_at (K := K) (fb := fbs) c.more 7 (f := .dat "GAPS_OF_KINDS" dd_GAPS_OF_KINDS) rfl) H) (by decide +kernel), m_BARE := He.glo_ok X G (c.t.d.fact 102 (f := .glo "BARE") rfl), q_BARE := fun H => sqt_flat (dat_ok (fb_at (K := K) (fb := fbs) c.more 8 (f := .dat "BARE" dd_BARE) rfl) H) (by decide +kernel) }
  have e := hfa.symm.trans T.m_law
  cases e
  refine ⟨fd_law, fun s v => FunD.bindsA (ps := ["_law_script"]) D_law (fun _ _ _ _ _ _ us hl => match us, hl with | [_], _ => rfl) s [v] rfl, fun base _ _ => ?_⟩
  have G_Scanner___init__ : FnOk P w K mg base CX0 1 a.Scanner___init__ a.d_Scanner___init__ ["self"] (sp_Scanner___init__ K a) := ok_Scanner___init__ T
  have G_Scanner_part_end : FnOk P w K mg base CX0 1 a.Scanner_part_end a.d_Scanner_part_end ["self", "frame"] (sp_Scanner_part_end K a) := ok_Scanner_part_end T
  have G_Scanner_fail : FnOk P w K mg base CX0 1 a.Scanner_fail a.d_Scanner_fail ["self", "kind", "at"] (sp_Scanner_fail K a) := ok_Scanner_fail T
  have G_Scanner_add : FnOk P w K mg base CX0 1 a.Scanner_add a.d_Scanner_add ["self", "kind", "end"] (sp_Scanner_add K a) := ok_Scanner_add T
  have G_Scanner_add_part : FnOk P w K mg base CX0 2 a.Scanner_add_part a.d_Scanner_add_part ["self", "end"] (sp_Scanner_add_part K a) := ok_Scanner_add_part T G_Scanner_add
  have G_Frame___init__ : FnOk P w K mg base CX0 1 a.Frame___init__ a.d_Frame___init__ ["self", "mark", "at", "quote"] (sp_Frame___init__ K a) := ok_Frame___init__ T
  have G_Scanner_add_lexeme : FnOk P w K mg base CX0 2 a.Scanner_add_lexeme a.d_Scanner_add_lexeme ["self", "kind", "end"] (sp_Scanner_add_lexeme K a) := ok_Scanner_add_lexeme T G_Scanner_add
  have G_Scanner_open_bracket : FnOk P w K mg base CX0 3 a.Scanner_open_bracket a.d_Scanner_open_bracket ["self", "mark", "quote"] (sp_Scanner_open_bracket K a) := ok_Scanner_open_bracket T G_Scanner_fail G_Frame___init__ G_Scanner_add_lexeme
  have G_Scanner_end_format : FnOk P w K mg base CX0 2 a.Scanner_end_format a.d_Scanner_end_format ["self", "frame"] (sp_Scanner_end_format K a) := ok_Scanner_end_format T G_Scanner_fail G_Scanner_add
  have G_Scanner_read_part : FnOk P w K mg base CX0 4 a.Scanner_read_part a.d_Scanner_read_part ["self", "frame"] (sp_Scanner_read_part K a) := ok_Scanner_read_part T G_Scanner_part_end G_Scanner_fail G_Scanner_add_part G_Scanner_open_bracket G_Scanner_end_format G_Scanner_add
  have G_Scanner_finish : FnOk P w K mg base CX0 2 a.Scanner_finish a.d_Scanner_finish ["self"] (sp_Scanner_finish K a) := ok_Scanner_finish T G_Scanner_fail G_Scanner_add
  have G_Scanner_read_last_gap : FnOk P w K mg base CX0 3 a.Scanner_read_last_gap a.d_Scanner_read_last_gap ["self", "end"] (sp_Scanner_read_last_gap K a) := ok_Scanner_read_last_gap T G_Scanner_add G_Scanner_finish
  have G_Scanner_comment_end : FnOk P w K mg base CX0 1 a.Scanner_comment_end a.d_Scanner_comment_end ["self", "at"] (sp_Scanner_comment_end K a) := ok_Scanner_comment_end T
  have G_Scanner_read_empty_line : FnOk P w K mg base CX0 2 a.Scanner_read_empty_line a.d_Scanner_read_empty_line ["self", "at"] (sp_Scanner_read_empty_line K a) := ok_Scanner_read_empty_line T G_Scanner_comment_end G_Scanner_add
  have G_width_of : FnOk P w K mg base CX0 1 a.width_of a.d_width_of ["gap"] (sp_width_of K a) := ok_width_of T
  have G_Scanner_compare_indentation : FnOk P w K mg base CX0 2 a.Scanner_compare_indentation a.d_Scanner_compare_indentation ["self", "gap", "end"] (sp_Scanner_compare_indentation K a) := ok_Scanner_compare_indentation T G_width_of G_Scanner_fail G_Scanner_add
  have G_Scanner_read_indentation : FnOk P w K mg base CX0 4 a.Scanner_read_indentation a.d_Scanner_read_indentation ["self"] (sp_Scanner_read_indentation K a) := ok_Scanner_read_indentation T G_Scanner_read_last_gap G_Scanner_read_empty_line G_Scanner_compare_indentation
  have G_Scanner_read_join : FnOk P w K mg base CX0 2 a.Scanner_read_join a.d_Scanner_read_join ["self"] (sp_Scanner_read_join K a) := ok_Scanner_read_join T G_Scanner_fail
  have G_Scanner_read_comment : FnOk P w K mg base CX0 2 a.Scanner_read_comment a.d_Scanner_read_comment ["self"] (sp_Scanner_read_comment K a) := ok_Scanner_read_comment T G_Scanner_comment_end G_Scanner_add
  have G_Scanner_read_line_feed : FnOk P w K mg base CX0 2 a.Scanner_read_line_feed a.d_Scanner_read_line_feed ["self"] (sp_Scanner_read_line_feed K a) := ok_Scanner_read_line_feed T G_Scanner_add
  have G_is_word_character : FnOk P w K mg base CX0 1 a.is_word_character a.d_is_word_character ["character"] (sp_is_word_character K a) := ok_is_word_character T
  have G_name_end : FnOk P w K mg base CX0 2 a.name_end a.d_name_end ["text", "at"] (sp_name_end K a) := ok_name_end T G_is_word_character
  have G_quote_at : FnOk P w K mg base CX0 1 a.quote_at a.d_quote_at ["text", "at", "is_final"] (sp_quote_at K a) := ok_quote_at T
  have G_string_end : FnOk P w K mg base CX0 1 a.string_end a.d_string_end ["text", "at", "quote", "is_final"] (sp_string_end K a) := ok_string_end T
  have G_Scanner_read_string : FnOk P w K mg base CX0 3 a.Scanner_read_string a.d_Scanner_read_string ["self", "at"] (sp_Scanner_read_string K a) := ok_Scanner_read_string T G_quote_at G_string_end G_Scanner_fail G_Scanner_add_lexeme
  have G_Scanner_begin_string : FnOk P w K mg base CX0 3 a.Scanner_begin_string a.d_Scanner_begin_string ["self", "at"] (sp_Scanner_begin_string K a) := ok_Scanner_begin_string T G_Scanner_fail G_quote_at G_Frame___init__ G_Scanner_add_lexeme
  have G_Scanner_read_word : FnOk P w K mg base CX0 4 a.Scanner_read_word a.d_Scanner_read_word ["self"] (sp_Scanner_read_word K a) := ok_Scanner_read_word T G_name_end G_Scanner_read_string G_Scanner_begin_string G_Scanner_add_lexeme
  have G_next_state : FnOk P w K mg base CX0 1 a.next_state a.d_next_state ["state", "character"] (sp_next_state K a) := ok_next_state T
  have G_number_end : FnOk P w K mg base CX0 2 a.number_end a.d_number_end ["text", "at", "is_final"] (sp_number_end K a) := ok_number_end T G_next_state G_is_word_character
  have G_operator_end : FnOk P w K mg base CX0 1 a.operator_end a.d_operator_end ["text", "at", "is_final"] (sp_operator_end K a) := ok_operator_end T
  have G_Scanner_read_operator : FnOk P w K mg base CX0 4 a.Scanner_read_operator a.d_Scanner_read_operator ["self", "character"] (sp_Scanner_read_operator K a) := ok_Scanner_read_operator T G_Frame___init__ G_Scanner_add_lexeme G_operator_end G_Scanner_fail G_Scanner_open_bracket
  have G_Scanner_read_lexeme : FnOk P w K mg base CX0 5 a.Scanner_read_lexeme a.d_Scanner_read_lexeme ["self", "character"] (sp_Scanner_read_lexeme K a) := ok_Scanner_read_lexeme T G_Scanner_read_word G_Scanner_read_string G_number_end G_Scanner_fail G_Scanner_add_lexeme G_Scanner_read_operator
  have G_Scanner_read_step : FnOk P w K mg base CX0 6 a.Scanner_read_step a.d_Scanner_read_step ["self"] (sp_Scanner_read_step K a) := ok_Scanner_read_step T G_Scanner_read_part G_Scanner_read_indentation G_Scanner_finish G_Scanner_read_join G_Scanner_read_comment G_Scanner_read_line_feed G_Scanner_read_lexeme
  have G_Scanner_read_on : FnOk P w K mg base CX0 7 a.Scanner_read_on a.d_Scanner_read_on ["self"] (sp_Scanner_read_on K a) := ok_Scanner_read_on T G_Scanner_read_step
  have G_Scanner_feed : FnOk P w K mg base CX0 8 a.Scanner_feed a.d_Scanner_feed ["self", "piece"] (sp_Scanner_feed K a) := ok_Scanner_feed T G_Scanner_read_on
  have G_Scanner_close : FnOk P w K mg base CX0 8 a.Scanner_close a.d_Scanner_close ["self"] (sp_Scanner_close K a) := ok_Scanner_close T G_Scanner_read_on
  have G_read : FnOk P w K mg base CX0 9 a.read a.d_read ["text"] (sp_read K a) := ok_read T G_Scanner___init__ G_Scanner_feed G_Scanner_close
  have G_tokens : FnOk P w K mg base CX0 10 a.tokens a.d_tokens ["text"] (sp_tokens K a) := ok_tokens T G_read
  have G_is_significant : FnOk P w K mg base CX0 1 a.is_significant a.d_is_significant ["token"] (sp_is_significant K a) := ok_is_significant T
  have G_sense_of : FnOk P w K mg base CX0 1 a.sense_of a.d_sense_of ["token"] (sp_sense_of K a) := ok_sense_of T
  have G_parting : FnOk P w K mg base CX0 11 a.parting a.d_parting ["one", "other"] (sp_parting K a) := ok_parting T G_tokens G_is_significant G_sense_of
  have G__law_levels_part : FnOk P w K mg base CX0 12 a._law_levels_part a.d__law_levels_part [] (sp__law_levels_part K a) := ok__law_levels_part T G_parting
  have G__law_bag : FnOk P w K mg base CX0 1 a._law_bag a.d__law_bag ["_law_script", "_law_at"] (sp__law_bag K a) := ok__law_bag T
  have G__law_take : FnOk P w K mg base CX0 1 a._law_take a.d__law_take ["_law_bag_here", "_law_many"] (sp__law_take K a) := ok__law_take T
  have G__law_pick : FnOk P w K mg base CX0 2 a._law_pick a.d__law_pick ["_law_bag_here", "_law_menu"] (sp__law_pick K a) := ok__law_pick T G__law_take
  have G__law_plain : FnOk P w K mg base CX0 3 a._law_plain a.d__law_plain ["_law_bag_here"] (sp__law_plain K a) := ok__law_plain T G__law_pick G__law_take
  have G__law_row : FnOk P w K mg base CX0 9 a._law_row a.d__law_row ["_law_bag_here", "_law_depth", "_law_is_inside"] (sp__law_row K a) := ok__law_row T G__law_take G__law_plain G__law_pick
  have G__law_source : FnOk P w K mg base CX0 10 a._law_source a.d__law_source ["_law_bag_here", "_law_most"] (sp__law_source K a) := ok__law_source T G__law_take G__law_pick G__law_row
  have G__law_valid : FnOk P w K mg base CX0 11 a._law_valid a.d__law_valid ["_law_bag_here", "_law_most"] (sp__law_valid K a) := ok__law_valid T G__law_source G_read G__law_take
  have G__law_spoilt : FnOk P w K mg base CX0 3 a._law_spoilt a.d__law_spoilt ["_law_bag_here", "_law_text"] (sp__law_spoilt K a) := ok__law_spoilt T G__law_pick G__law_take
  have G_significant : FnOk P w K mg base CX0 11 a.significant a.d_significant ["text"] (sp_significant K a) := ok_significant T G_tokens G_is_significant G_sense_of
  have G__law_right : FnOk P w K mg base CX0 12 a._law_right a.d__law_right ["_law_one", "_law_other"] (sp__law_right K a) := ok__law_right T G_tokens G_significant G_parting
  have G__law_index : FnOk P w K mg base CX0 12 a._law_index a.d__law_index ["_law_one", "_law_other"] (sp__law_index K a) := ok__law_index T G_parting
  have G_law : FnOk P w K mg base CX0 13 a.law a.d_law ["_law_script"] (sp_law K a) := ok_law T G__law_levels_part G__law_bag G__law_valid G__law_spoilt G_read G__law_right G__law_index
  exact FnG.of G_law
end K26
open PySem PySem.W PySem.Calls PyProof.Rows
set_option maxRecDepth 100000 in
set_option maxHeartbeats 0 in
theorem PySem.Challenge.cw_indentokens_k26_whole_parting_holds : PySem.Challenge.rw_indentokens_k26_whole_parting.Holds := by
  w_on; o_law
  refine HandSHeadRun.head_any (r := OpenLaw.row PySem.Challenge.rw_indentokens_k26_whole_parting) (q := view (OpenLaw.row PySem.Challenge.rw_indentokens_k26_whole_parting).prog [54]) (H := K26.hk) (ob := K26.ob) (M := 4000) (loose := K26.nms) (d := HandSHeadRun.topDef (OpenLaw.row PySem.Challenge.rw_indentokens_k26_whole_parting).prog 54) (kwd := []) K26.ob_eq
    (by kernel_rfl) (fun s => by kernel_rfl) K26.run (by kernel_rfl) (by kernel_rfl) (by kernel_rfl) (by rfl) (by first | assumption | decide +kernel) (by decide +kernel) ⟨rfl, rfl, rfl, rfl, rfl, by decide +kernel⟩ ?hw ?hc
  case hw => w_witness2
  case hc =>
    refine Kt.walkGE (l := PySem.Challenge.rw_indentokens_k26_whole_parting) (n := 63) (k := 13) (x := "_law_script") rfl (by decide) (by kernel_rfl) ⟨rfl, by decide, by decide⟩ ?F
    intro w mg fl h Y G hmg0
    obtain ⟨K, KX, c⟩ := Y
    have hmg : mg ("law" : PySem.Str) = some (.ref fl) := by
      have e : (HandSHeadRun.topDef (OpenLaw.row PySem.Challenge.rw_indentokens_k26_whole_parting).prog 54).name = ("law" : PySem.Str) := by kernel_rfl
      rw [← e]
      exact hmg0
    obtain ⟨fd, hb, hF⟩ := K26.facts (P := (PySem.Challenge.rw_indentokens_k26_whole_parting).prog) (w := w) KX G hmg c
    exact ⟨K, fd, K26.sp_law0 K, KX, hb, fun H b ns hl hS => K26.law_sp hl hS, hF⟩
