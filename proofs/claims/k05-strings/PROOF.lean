import PyProof.Rows.All
import Wide.All
import OpenK.AllK
import Wide.FinOn
import HandS.ForMost
import HandS.IsInst
import HandS.TupLe
import HandS.TupAny
import HandS.Flow
import HandS.Evl
import HandS.Walk
import HandS.Replace
import PySem.Challenge.RW_indentokens_k05_strings_known
set_option Elab.async false
set_option linter.all false
set_option maxRecDepth 100000
set_option maxHeartbeats 2000000
namespace Kt
open PySem PySem.Spec PyProof.Rows L2

/-! ## texts as lists of code points -/
theorem str_ext {x y : Str} (h : x.cps.toList = y.cps.toList) : x = y := by
  cases x; cases y; simp only [Str.mk.injEq]; exact Array.ext' h
def S (l : List Nat) : Str := ⟨l.toArray⟩
theorem S_toList (l : List Nat) : (S l).cps.toList = l := rfl
theorem S_of (x : Str) : S x.cps.toList = x := str_ext rfl
theorem S_len (l : List Nat) : (S l).length = l.length := by simp [S, Str.length]
theorem S_inj {a b : List Nat} (h : S a = S b) : a = b := congrArg (fun z : Str => z.cps.toList) h
theorem S_app (a b : List Nat) : S a ++ S b = S (a ++ b) := by
  apply str_ext
  show ((S a).append (S b)).cps.toList = _
  simp [Str.append, S]
theorem len_cps (x : Str) : x.length = x.cps.toList.length := by simp [Str.length]

/-! ## the names of Python's own -/
theorem b_len : bootBuiltins "len" = some (.builtin "len") := by decide +kernel
theorem b_abs : bootBuiltins "abs" = some (.builtin "abs") := by decide +kernel
theorem b_max : bootBuiltins "max" = some (.builtin "max") := by decide +kernel
theorem b_min : bootBuiltins "min" = some (.builtin "min") := by decide +kernel
theorem b_all : bootBuiltins "all" = some (.builtin "all") := by decide +kernel
theorem b_any : bootBuiltins "any" = some (.builtin "any") := by decide +kernel
theorem b_isinstance : bootBuiltins "isinstance" = some (.builtin "isinstance") := by decide +kernel
theorem b_repr : bootBuiltins "repr" = some (.builtin "repr") := by decide +kernel
theorem b_sum : bootBuiltins "sum" = some (.builtin "sum") := by decide +kernel
theorem b_str : bootBuiltins "str" = some (.type "str") := by decide +kernel
theorem b_int : bootBuiltins "int" = some (.type "int") := by decide +kernel
theorem b_bool : bootBuiltins "bool" = some (.type "bool") := by decide +kernel
theorem b_list : bootBuiltins "list" = some (.type "list") := by decide +kernel
theorem b_tuple : bootBuiltins "tuple" = some (.type "tuple") := by decide +kernel

section
variable {X : Cx} {x : Str} {pos : Pos}
/-- a module's own text, int, object -/
theorem pe_gstr {z : Str} (hm : ∃ t, X.mg x = some (.str z t)) (hg : Gl X x := by rfl) (hd : (x == ("__debug__" : Str)) = false := by decide) : PE X (.Name x pos) (tC (.str z)) := by
  obtain ⟨t, hm⟩ := hm
  exact pe_glob hg hm ⟨t, rfl⟩ hd
theorem pe_gint {z : Int} (hm : ∃ t, X.mg x = some (.int z t)) (hg : Gl X x := by rfl) (hd : (x == ("__debug__" : Str)) = false := by decide) : PE X (.Name x pos) (tC (.int z)) := by
  obtain ⟨t, hm⟩ := hm
  exact pe_glob hg hm ⟨t, rfl⟩ hd
theorem pe_gref {a : Addr} (hm : X.mg x = some (.ref a)) (hg : Gl X x := by rfl) (hd : (x == ("__debug__" : Str)) = false := by decide) : PE X (.Name x pos) (tC (.ref a)) :=
  pe_glob hg hm rfl hd

/-! ## a text so many times -/
def rMulS : R2 := fun x y H Q => ∃ (z : Str) (n : Int), x = .str z ∧ y = .int n ∧ n ≤ 100000 ∧ -1000000 ≤ n ∧ z.length * n.toNat ≤ 16777216 ∧ Q (.str (Txt.mul z n)) H
theorem op_mul_str : OpR X (binaryOp .Mult) rMulS := by
  intro pins s σ H x y v u Q I rx ry h
  obtain ⟨z, n, rfl, rfl, hn, hlo, hz, q⟩ := h
  obtain ⟨t, rfl⟩ := rx
  obtain ⟨t', rfl⟩ := ry
  have ok : MulOk z n := by
    refine ⟨?_, fun h1 h2 => ?_, fun _ _ => ?_⟩
    · have a : ¬ n < -(2 ^ 63 : Int) := by omega
      have b : ¬ n ≥ 2 ^ 63 := by omega
      rw [decide_eq_false a, decide_eq_false b]; rfl
    · have hp : 0 < n := by omega
      have hzz : z.length ≤ 16777216 := by
        have : 1 ≤ n.toNat := by omega
        calc z.length = z.length * 1 := (Nat.mul_one _).symm
          _ ≤ z.length * n.toNat := Nat.mul_le_mul_left _ this
          _ ≤ 16777216 := hz
      have hd : (16777216 : Int) ≤ (2 ^ 63 - 1) / n := by
        rw [Int.le_ediv_iff_mul_le hp]
        omega
      omega
    · unfold Builtin.Str.tooLong
      rw [decide_eq_false]
      rw [sizeLine_eq]
      omega
  exact PySem.SB.mul ok fun t'' k => ⟨.str (Txt.mul z n), H, I.tok _, ⟨_, rfl⟩, q⟩
theorem foldl_app : ∀ (l : List (Array Nat)) (a : Array Nat), (l.foldl (· ++ ·) a).toList = a.toList ++ (l.map Array.toList).flatten
  | [], a => by simp
  | b :: l, a => by
    rw [List.foldl_cons, foldl_app l]
    simp
theorem mul_list (z : Str) (n : Int) : (Txt.mul z n).cps.toList = (List.replicate n.toNat z.cps.toList).flatten := by
  unfold Txt.mul
  by_cases h : n < 1
  · rw [if_pos h]
    have : n.toNat = 0 := by omega
    rw [this]
    rfl
  · rw [if_neg h]
    by_cases h2 : (n == 1 || z.length == 0) = true
    · rw [if_pos h2]
      rcases Bool.or_eq_true_iff.mp h2 with h3 | h3
      · have : n = 1 := by simpa using h3
        subst this
        simp
      · have h4 : z.cps.toList = [] := by
          have : z.length = 0 := by simpa using h3
          rw [len_cps] at this
          exact List.eq_nil_of_length_eq_zero this
        rw [h4]
        induction n.toNat with
        | zero => rfl
        | succ k ih => rw [List.replicate_succ, List.flatten_cons, ← ih]; rfl
    · rw [if_neg h2]
      show ((List.replicate n.toNat z.cps).foldl (· ++ ·) #[]).toList = _
      rw [foldl_app]
      simp

/-! ## what is shown of data -/
def rReprD (K : PySem.W.Frag) : List V → Hp → VK → Prop := fun xs H Q => ∃ (v : V) (d : PyData), xs = [v] ∧ Dp K H v d ∧ d.showable = true ∧ d.depth ≤ 60 ∧ d.shown.length ≤ sizeLine ∧ Q (.str d.shown) H
theorem nodict_of {K : PySem.W.Frag} {H : Hp} : (∀ {d : PyData} {v : V}, Dp K H v d → d.hasDict = false) := by
  intro d v h
  refine Dp.rec (motive_1 := fun v d _ => d.hasDict = false) (motive_2 := fun vs ds _ => PyData.hasDictAll ds = false) ?_ ?_ ?_ ?_ ?_ ?_ ?_ ?_ h
  all_goals intros
  all_goals first
    | rfl
    | (simp only [PyData.hasDict, PyData.hasDictAll, Bool.or_eq_false_iff]; first | assumption | (constructor <;> assumption))
theorem call_reprD (hu : X.A.units + 64 < cLine) (hgd : X.A.guards = some []) : CallR X (.builtin "repr") (rReprD X.K) := by
  intro pins s σ H xs us Q I r h
  obtain ⟨v, d, rfl, hd, hs, hdp, hz, q⟩ := h
  obtain ⟨u, rfl, rv⟩ := vals1 r
  have fin : ∀ h' tk u, (∀ b o, s.heap.get? b = some o → h'.get? b = some o) → EP X pins σ Q (.str d.shown u) { s with heap := h', toks := tk } := fun h' tk u k => ⟨.str d.shown, H, I.kept k, ⟨u, rfl⟩, q⟩
  have same : ∀ tk u, EP X pins σ Q (.str d.shown u) { s with toks := tk } := fun tk u => fin s.heap tk u fun _ _ e => e
  cases hd with
  | non => cases rv; exact PySem.P.repr_of_none (same _ _)
  | bl b => cases rv; exact PySem.P.repr_of_bool (same _ _)
  | int i =>
    obtain ⟨t, rfl⟩ := rv
    refine PySem.P.repr_of_int ?_ (same _ _)
    simpa [PyData.showable] using hs
  | str z => obtain ⟨t, rfl⟩ := rv; exact PySem.P.repr_of_str (same _ _) hz
  | lst hs' ha =>
    have hD : Dp X.K H (.ref _) _ := .lst hs' ha
    obtain ⟨as, rd⟩ := Dp.reads I _ _ u hD rv
    cases rv
    exact repr_of_reads' rd hs (PyData.noDict_hsm (nodict_of hD)) hgd (by omega) (fun _ _ e => e) (fun h' u' tk hk => fin h' tk u' hk) hz
  | tup hs' ha =>
    have hD : Dp X.K H (.ref _) _ := .tup hs' ha
    obtain ⟨as, rd⟩ := Dp.reads I _ _ u hD rv
    cases rv
    exact repr_of_reads' rd hs (PyData.noDict_hsm (nodict_of hD)) hgd (by omega) (fun _ _ e => e) (fun h' u' tk hk => fin h' tk u' hk) hz
end
end Kt

set_option Elab.async false
set_option linter.all false
set_option maxRecDepth 100000
set_option maxHeartbeats 2000000
namespace Kt
open PySem PySem.Spec PyProof.Rows L2
/-! ## a def called where it is known what is being shown (nothing): its promise, its body, its call -/
structure FnG (P : Program) (w : World) (K : PySem.W.Frag) (mg : Str → Option Value) (base : Heap) (CX : CXT) (k : Nat) (f : Addr) (fd : FuncData) (ps : List Str) (sp : Sp) : Prop where
  len : ∀ vs H Q E, sp vs H Q E → vs.length = ps.length
  run : ∀ (A : Around) (outer : List Env) (s : Shared) (H : Hp) (args : Args) (us : List Value) (vs : List V) (Q : VK) (E : XK),
    A.guards = some [] → Room k A → Env0 P w K mg base A outer s H → BindsTo s fd args (ps.zip us) → Vals vs us → sp vs H Q E →
      codeAny (model P w) A (.call (.ref f) args) (CR CX outer P w H s Q E) s
section
variable {P : Program} {w : World} {K : PySem.W.Frag} {mg : Str → Option Value} {base : Heap} {CX : CXT} {k : Nat} {f : Addr} {fd : FuncData} {ps N : List Str} {sp : Sp} {x qual : Str} {st : Stmt}
theorem FnG.of (F : FnOk P w K mg base CX k f fd ps sp) : FnG P w K mg base CX k f fd ps sp :=
  ⟨F.len, fun A outer s H args us vs Q E _ hr e b r h => F.run A outer s H args us vs Q E hr e b r h⟩
/-- the body, walked where the guards are known: the walk is the ungarded one's, at one place -/
theorem okG_at {CX : CXT} (F : Fun K x qual st f fd) (Sc : FnScope N ps (defScope st)) (A : Around) (outer : List Env) (s : Shared) (H : Hp) (args : Args) (us : List Value) (vs : List V) (Q : VK) (E : XK)
    (hr : Room (k + 1) A) (e0 : Env0 P w K mg base A outer s H) (hb : BindsTo s fd args (ps.zip us)) (r : Vals vs us) (hl : vs.length = ps.length)
    (body : ∀ cdv : Value, Room k (A.deeper (envOfC qual (defScope st) s.heap.objs.size f cdv)) →
      ∃ t, PSs (cxOf CX P w K mg base N qual (defScope st) f cdv A outer s H E) (defBody st) t ∧ t { nx := fun _ H' => Q .non H', rt := Q } (start N vs) H) :
    codeAny (model P w) A (.call (.ref f) args) (CR CX outer P w H s Q E) s := by
  obtain ⟨oc, od, kV, doc, pm, an, cdv, ct, osl, rfl, lk, hcd⟩ := F.ex
  have only : FnOk P w K mg base CX (k + 1) f (PySem.W.fnOf x qual (defArgs st) (defBody st) (defScope st) .none kV doc pm an cdv ct) ps
      (fun vs' H' Q' E' => vs'.length = ps.length ∧ ∀ (A' : Around) (outer' : List Env) (s' : Shared), Room k (A'.deeper (envOfC qual (defScope st) s'.heap.objs.size f cdv)) →
        ∃ t, PSs (cxOf CX P w K mg base N qual (defScope st) f cdv A' outer' s' H' E') (defBody st) t ∧ t { nx := fun _ H'' => Q' .non H'', rt := Q' } (start N vs') H') :=
    fn_of lk hcd Sc (fun _ _ _ _ z => z.1) fun A' outer' s' H' vs' Q' E' hr' z => z.2 A' outer' s' hr'
  have KX : K.In s.heap := e0.mod.kin.keeps fun b o q => (e0.bs b o q).1
  have lim : s.heap.NoLimit := e0.mod.nolimit.keeps fun b o q => (e0.bs b o q).1
  have hkind : ∀ y ∈ ps.zip us, (defScope st).names.lookup y.1 = some .local ∨ ((defScope st).names.lookup y.1 = some .cell ∧ ((cellsFrom (s.heap.objs.size + 1) (defScope st).names []).lookup y.1).isSome = true) := by
    rintro ⟨n, v⟩ hy
    rcases Sc.par n (List.of_mem_zip hy).1 with q | q
    · exact Or.inl q
    · exact Or.inr ⟨q, PySem.W.cellsFrom_some _ _ _ (Or.inl q)⟩
  refine codeAny_call_function hr.depth (KX _ _ lk) rfl Sc.co Sc.gen rfl (PySem.W.codeRec_of KX hcd) (hb _ _ _ _ (wpAny_newFunctionEnv_cells Sc.kind hkind ?_))
  intro env he s1 xx
  cases he
  refine ⟨lim.keeps xx.toInCall.keep, codeAny_func ?_⟩
  obtain ⟨t, ht, hq⟩ := body cdv (hr.deeper _)
  have I := inv_start (CX := CX) (E := E) (qual := qual) Sc hr.hd e0 hl r xx
  refine wpAny_mono (ht.run [] s1 (start N vs) H _ I hq) ?_ (fun _ _ z => z)
  rintro (_ | _ | _ | u) s' hs
  · obtain ⟨σ', H', J, q⟩ := hs
    exact ⟨V.non, H', J.os, J.bare, J.base, J.hok, rfl, q⟩
  · obtain ⟨_, _, _, q⟩ := hs
    exact q.elim
  · obtain ⟨_, _, _, q⟩ := hs
    exact q.elim
  · obtain ⟨v, σ', H', J, rv, q⟩ := hs
    exact ⟨v, H', J.os, J.bare, J.base, J.hok, rv, q⟩
/-- THE RULE of a guarded def -/
theorem okG (F : Fun K x qual st f fd) (Sc : FnScope N ps (defScope st)) (len : ∀ vs H Q E, sp vs H Q E → vs.length = ps.length)
    (body : ∀ (cdv : Value) (A : Around) (outer : List Env) (s : Shared) (H : Hp) (vs : List V) (Q : VK) (E : XK), A.guards = some [] → Room k (A.deeper (envOfC qual (defScope st) s.heap.objs.size f cdv)) → sp vs H Q E →
      ∃ t, PSs (cxOf CX0 P w K mg base N qual (defScope st) f cdv A outer s H E).nox (defBody st) t ∧ t { nx := fun _ H' => Q .non H', rt := Q } (start N vs) H) :
    FnG P w K mg base CX0 (k + 1) f fd ps sp :=
  ⟨len, fun A outer s H args us vs Q E hg hr e0 hb r h => okG_at F Sc A outer s H args us vs Q E hr e0 hb r (len _ _ _ _ h) fun cdv hr' =>
    let ⟨t, h1, h2⟩ := body cdv A outer s H vs Q E hg hr' h
    ⟨t, h1.nox, h2⟩⟩
end
section
variable {X : Cx} {CX : CXT} {k : Nat} {f : Addr} {fd : FuncData} {ps ks : List Str} {sp : Sp} {dvs : List V} {ds : List Value} {E : XK} {x : Str} {p pos : Pos} {e : Expr} {es : List Expr} {t tk : TA} {kws : List Keyword}
theorem run_fnG {pins : List (Addr × Obj)} {σ : L2.St} {H : Hp} {s : Shared} {Q : VK} {us : List Value} {vs : List V} (F : FnG X.prog X.w X.K X.mg X.base CX k f fd ps sp) (hgd : X.A.guards = some []) (hr : Room k X.A) (hb : Binds X.K fd ps ds) (hd : Vals dvs ds) (hx : Passes CX X E)
    (I : Inv X pins σ H s) (r : Vals vs us) (h : sp (vs ++ dvs) H Q E) : wpAny (model X.prog X.w) X.A (call (.ref f) us) (EP X pins σ Q) X.xe s := by
  have r2 : Vals (vs ++ dvs) (us ++ ds) := r.append hd
  have hl : (us ++ ds).length = ps.length := by rw [← r2.length]; exact F.len _ _ _ _ h
  refine wpAny_call (codeAny_mono (F.run X.A X.stack s H ⟨us, []⟩ (us ++ ds) (vs ++ dvs) Q E hgd hr I.env0 (hb s us I.kIn hl) r2 h) ?_)
  rintro (e | _ | _ | _ | u) s' hq
  · exact hx pins σ H s e s' I hq
  · exact False.elim hq
  · exact False.elim hq
  · exact False.elim hq
  · exact I.after hq
theorem pe_callG (F : FnG X.prog X.w X.K X.mg X.base CX k f fd ps sp) (hgd : X.A.guards = some []) (hr : Room k X.A) (hg : Gl X x) (hm : X.mg x = some (.ref f)) (hk : PySem.W.keepIn X.K (.ref f) = true) (hb : Binds X.K fd ps ds) (hd : Vals dvs ds) (hx : Passes CX X E)
    (ha : PA X (e :: es) t) (hdb : (x == ("__debug__" : Str)) = false := by decide) (he : starEach (e :: es) X.env = (false, eval e X.env) :: starEach es X.env := by rfl)
    (hpl : (backTo pos (starEach es X.env)).any (·.1) = false := by rfl) : PE X (.Call (.Name x p) (e :: es) [] pos) (tCall sp dvs E t) :=
  ⟨fun pins s σ H Q I h => wpAny_Call_Name_kw (ld_glob I hg hm (PySem.W.callWith_K (h₀ := X.base) I.ok.mod.kin hk
    (thn (ha.run pos pins s σ H _ I h) fun us s1 ⟨vs, H1, I1, r, q⟩ => ⟨I1.kIn, run_fnG F hgd hr hb hd hx I1 r q⟩) he hpl) hdb)⟩
variable {g : List Value → List Value → List Value} {gV : List V → List V → List V}
/-- f(k = v, ..) -/
theorem pe_callK0 (F : FnOk X.prog X.w X.K X.mg X.base CX k f fd ps sp) (hr : Room k X.A) (hg : Gl X x) (hm : X.mg x = some (.ref f)) (hk : PySem.W.keepIn X.K (.ref f) = true) (hb : KBinds X.K fd ps ks g gV) (hx : Passes CX X E)
    (hkw : PK X kws tk) (hall : (backToKw pos (keywordEach kws X.env)).all (·.1.isSome) = true := by rfl) (hks : (backToKw pos (keywordEach kws X.env)).filterMap (·.1) = ks := by rfl)
    (hdb : (x == ("__debug__" : Str)) = false := by decide)
    (hpl : ((backTo pos (starEach [] X.env)).any (·.1) || (backToKw pos (keywordEach kws X.env)).any (·.1.isNone)) = false := by rfl) :
    PE X (.Call (.Name x p) [] kws pos) (tCallK sp gV E tNil tk) := by
  refine ⟨fun pins s σ H Q I h => wpAny_Call_Name_kw (ld_glob I hg hm ?_ hdb)⟩
  refine PySem.W.callWith_KW0 (h₀ := X.base) I.ok.mod.kin hk hall ?_ hpl
  refine thn (hkw.run pos pins s σ H _ I h) fun ws s2 ⟨zs, H2, I2, rz, q2⟩ => ⟨I2.kIn, ?_⟩
  rw [hks]
  exact run_fnk (us := []) (vs := []) F hr hb hx I2 .nil rz q2
end
/-! ## the law's end, for a guarded law -/
theorem law_endG {P : Program} {w : World} {K : PySem.W.Frag} {mg mb : Str → Option Value} {k : Nat} {fa a : Addr} {fd : FuncData} {x : Str} {sp : Sp} {s₁ : Shared} {vs : List Value} {ns : List Int}
    (KX : K.In s₁.heap) (hns : s₁.heap.Ns mainGlobals mg) (hb : s₁.heap.Ns builtinsNs mb) (hbb : ∀ x : Str, x ≠ "__name__" → mb x = bootBuiltins x) (hlim : s₁.heap.NoLimit) (hg : s₁.gens = #[])
    (ha : s₁.heap.get? a = some { cls := .type "list", data := .seq vs.toArray }) (hi : IntsAre vs ns) (hl : ns.length ≤ sizeLine) (hr : Room k callerA)
    (F : ∀ base : Heap, K.In base → base.Ns mainGlobals mg → FnG P w K mg base CX0 k fa fd [x] sp) (hbind : ∀ (s : Shared) (u : Value), BindsTo s fd ⟨[u], []⟩ [(x, u)])
    (hsp : ∀ H : Hp, Only H → SqL K H a (ns.map V.int) → sp [.ref a] H (fun v _ => v = .bl true) fun _ _ _ => False) :
    codeAny (model P w) callerA (.call (.ref fa) ⟨[.ref a], []⟩) (fun r s' => r = .ok (.ret (.bool true)) ∧ OldK s₁.heap s'.heap ∧ s'.os = s₁.os ∧ AllBare s'.gens) s₁ := by
  have rv := vals_ints hi
  have lenV := hi.length
  -- the script's own row: tracked (locked), or the module's
  have main : ∀ H : Hp, (∀ b, H b = none ∨ (b = a ∧ K.lookup a = none ∧ H b = some (.frz { cls := .type "list", data := .seq vs.toArray } (.lst (ns.map V.int))))) → SqL K H a (ns.map V.int) →
      codeAny (model P w) callerA (.call (.ref fa) ⟨[.ref a], []⟩) (fun r s' => r = .ok (.ret (.bool true)) ∧ OldK s₁.heap s'.heap ∧ s'.os = s₁.os ∧ AllBare s'.gens) s₁ := by
    intro H hH hS
    have hO : Only H := fun b => (hH b).imp id fun z => ⟨_, _, z.2.2⟩
    have ok : HOk P w H s₁.heap := fun b o e => by
      rcases hH b with z | ⟨rfl, _, z⟩
      · rw [e] at z; cases z
      · rw [e] at z; cases z
        exact ⟨ha, by rw [List.length_map]; exact hl, vs, _, rv, ha⟩
    have free : ∀ {b : Addr} {o : Obj}, s₁.heap.get? b = some o → b ≠ a → H b = none := fun {b o} _ hne => (hH b).resolve_right fun z => hne z.1
    have hKb : K.In (hidT s₁.heap H) := fun b o e => by
      refine hidT_get (KX b o e) ?_
      rcases hH b with z | ⟨rfl, z, _⟩
      · exact z
      · rw [z] at e; cases e
    have nsK : ∀ {b : Addr} {m : Str → Option Value}, s₁.heap.Ns b m → (hidT s₁.heap H).Ns b m := by
      rintro b m ⟨o, es, ep, e, d, r⟩
      refine ⟨o, es, ep, hidT_get e (free e ?_), d, r⟩
      rintro rfl
      rw [ha] at e
      cases e
      exact Data.noConfusion (show Data.seq vs.toArray _ = Data.dict es ep from d)
    have hM : Mod K mg (hidT s₁.heap H) := ⟨hKb, nsK hns, ⟨mb, nsK hb, hbb⟩, hlim.imp fun _ z => ⟨nsK z.1, z.2⟩⟩
    have e0 : Env0 P w K mg (hidT s₁.heap H) callerA [] s₁ H :=
      ⟨rfl, hM, fun _ _ e => of_hidT e, Nat.le_of_eq (hidT_size _ _), trivial, fun b z => absurd (show b ∈ ([] : List Addr) from z) List.not_mem_nil, ok, .of_eq hg⟩
    refine codeAny_mono ((F _ hKb (nsK hns)).run callerA [] s₁ H ⟨[.ref a], []⟩ [.ref a] [.ref a] _ _ rfl hr e0 (hbind s₁ (.ref a)) (.cons rfl .nil) (hsp H hO hS)) ?_
    rintro (e | _ | _ | _ | u) s' h
    · exact False.elim h
    · exact False.elim h
    · exact False.elim h
    · exact False.elim h
    · obtain ⟨v, H', os, bare, un, ok', r', q⟩ := h
      cases (show v = .bl true from q)
      cases (show u = Value.bool true from r')
      refine ⟨rfl, OldK.of_keep fun b o e => ?_, os, bare⟩
      rcases hH b with z | ⟨_, _, z⟩
      · exact un.keep b o e z (fun y => absurd (show b ∈ ([] : List Addr) from y) List.not_mem_nil) (by simp)
      · have z2 := un.frzs b _ _ z
        have e1 := (ok b _ z).1
        have e2 := (ok' b _ z2).1
        rw [e] at e1
        cases e1
        exact e2
  cases hk : K.lookup a with
  | some o =>
    have e := KX a o hk
    rw [ha] at e
    cases e
    exact main (fun _ => none) (fun _ => Or.inl rfl) (Or.inr ⟨_, vs.toArray, _, hk, rfl, rfl, rfl, by rw [List.size_toArray, lenV]; exact hl, by simpa using rv⟩)
  | none =>
    refine main (fun b => if b = a then some (.frz { cls := .type "list", data := .seq vs.toArray } (.lst (ns.map V.int))) else none) (fun b => ?_) (Or.inl (Or.inr ⟨_, if_pos rfl⟩))
    by_cases hb : b = a
    · exact Or.inr ⟨hb, hk, if_pos hb⟩
    · exact Or.inl (if_neg hb)
theorem walkG {l : PySem.W.OpenLaw} {n k : Nat} {q : Program} {loose : List Str} {XP : (Str → Option Value) → Heap → Prop} {YP : World → Heap → Prop} {d : DefRec} {K : Params → PySem.W.Frag} {sp : World → Sp} {x : Str}
    (hn : l.most = some n) (hn2 : n ≤ sizeLine) (hdf : d.params.defaults = []) (hr : Room k callerA) (hY : ∀ (w : World) (h : Heap), YP w h → (K w.params).In h)
    (F : ∀ (w : World) (mg : Str → Option Value) (fa : Addr) (h : Heap), (K w.params).In h → h.Ns mainGlobals mg → mg d.name = some (.ref fa) →
      ∃ fd : FuncData, (∀ (s : Shared) (u : Value), BindsTo s fd ⟨[u], []⟩ [(x, u)]) ∧ ∀ base : Heap, (K w.params).In base → base.Ns mainGlobals mg → FnG l.prog w (K w.params) mg base CX0 k fa fd [x] (sp w))
    (hsp : ∀ (w : World) (H : Hp) (a : Addr) (ns : List Int), ns.length ≤ n → Only H → SqL (K w.params) H a (ns.map V.int) → sp w [.ref a] H (fun v _ => v = .bl true) fun _ _ _ => False) :
    PySem.W.WalkO q loose XP YP l.row.toRowW d [] (fun f vs => PySem.call f vs) :=
  Att.attach_call hn hdf fun w s₀ s₁ mg mb fa o pm cd doc a vs ns G Y ho hd hcd hmg hobj hints hlen hg =>
    let KX := hY w _ Y
    let ⟨fd, hb, hF⟩ := F w mg fa _ KX G.T.g hmg
    law_endG KX G.T.g G.T.b G.T.builtins G.T.nolimit hg hobj hints (Nat.le_trans hlen hn2) hr hF hb fun H hO hS => hsp w H a ns hlen hO hS
end Kt

set_option Elab.async false
set_option linter.all false
set_option maxRecDepth 100000
set_option maxHeartbeats 2000000
namespace Kt
open PySem PySem.Spec PyProof.Rows L2 Evl
/-! ## data that stands still: what a reading evaluates to, as data -/
mutual
theorem dp_mono {K : PySem.W.Frag} {H H' : Hp} (e : Ex H H') : ∀ {v : V} {d : PyData}, Dp K H v d → Dp K H' v d
  | _, _, .non => .non
  | _, _, .bl b => .bl b
  | _, _, .int i => .int i
  | _, _, .str x => .str x
  | _, _, .lst h ha => .lst (ex_l e h) (dpa_mono e ha)
  | _, _, .tup h ha => .tup (ex_t e h) (dpa_mono e ha)
theorem dpa_mono {K : PySem.W.Frag} {H H' : Hp} (e : Ex H H') : ∀ {vs : List V} {ds : List PyData}, DpAll K H vs ds → DpAll K H' vs ds
  | _, _, .nil => .nil
  | _, _, .cons h t => .cons (dp_mono e h) (dpa_mono e t)
end
theorem dpa_len {K : PySem.W.Frag} {H : Hp} : ∀ {vs : List V} {ds : List PyData}, DpAll K H vs ds → vs.length = ds.length
  | _, _, .nil => rfl
  | _, _, .cons _ t => congrArg (· + 1) (dpa_len t)
theorem dpa_app {K : PySem.W.Frag} {H : Hp} : ∀ {vs ws : List V} {ds es : List PyData}, DpAll K H vs ds → DpAll K H ws es → DpAll K H (vs ++ ws) (ds ++ es)
  | _, _, _, _, .nil, k => k
  | _, _, _, _, .cons h t, k => .cons h (dpa_app t k)
theorem dpa_at {K : PySem.W.Frag} {H : Hp} : ∀ {vs : List V} {ds : List PyData} {i : Nat} {d : PyData}, DpAll K H vs ds → ds[i]? = some d → ∃ v, vs[i]? = some v ∧ Dp K H v d
  | _, _, _, _, .nil, e => by simp at e
  | _, _, 0, _, .cons h _, e => by simp at e; subst e; exact ⟨_, rfl, h⟩
  | _, _, i + 1, d, .cons _ t, e => by
    obtain ⟨v, h1, h2⟩ := dpa_at (i := i) (d := d) t (by simpa using e)
    exact ⟨v, by simpa using h1, h2⟩
theorem dpa_at' {K : PySem.W.Frag} {H : Hp} : ∀ {vs : List V} {ds : List PyData} {i : Nat} {v : V}, DpAll K H vs ds → vs[i]? = some v → ∃ d, ds[i]? = some d ∧ Dp K H v d
  | _, _, _, _, .nil, e => by simp at e
  | _, _, 0, _, .cons h _, e => by simp at e; subst e; exact ⟨_, rfl, h⟩
  | _, _, i + 1, d, .cons _ t, e => by
    obtain ⟨v, h1, h2⟩ := dpa_at' (i := i) (v := d) t (by simpa using e)
    exact ⟨v, by simpa using h1, h2⟩
/-- some data | a new list of data | arguments -/
def Ed (K : PySem.W.Frag) (te : TE) (σ : L2.St) (H : Hp) (d : PyData) : Prop := ∀ H1, Ex H H1 → ∀ Q : VK, (∀ v H2, Ex H1 H2 → Dp K H2 v d → Q v H2) → te σ H1 Q
def EdL (K : PySem.W.Frag) (te : TE) (σ : L2.St) (H : Hp) (ds : List PyData) : Prop := ∀ H1, Ex H H1 → ∀ Q : VK, (∀ p xs H2, Ex H1 H2 → H2 p = some (.lst xs) → DpAll K H2 xs ds → Q (.ref p) H2) → te σ H1 Q
def EdA (K : PySem.W.Frag) (ta : TA) (σ : L2.St) (H : Hp) (ds : List PyData) : Prop := ∀ H1, Ex H H1 → ∀ Q : List V → Hp → Prop, (∀ vs H2, Ex H1 H2 → DpAll K H2 vs ds → Q vs H2) → ta σ H1 Q
section
variable {K : PySem.W.Frag} {σ : L2.St} {H H' : Hp} {te tb : TE} {ta : TA} {d : PyData} {ds es : List PyData} {v : V}
theorem ed_of (h : Ev te σ H v) (k : Dp K H v d) : Ed K te σ H d := fun H1 e Q q => h H1 e Q fun H2 e2 => q v H2 e2 (dp_mono (e.trans e2) k)
theorem ed_var {i : Nat} (h : σ[i]? = some (some v)) (k : Dp K H v d) : Ed K (tVar i) σ H d := ed_of (ev_var h) k
theorem ed_non : Ed K (tC .non) σ H .none := ed_of ev_c .non
theorem ed_bl {b : Bool} : Ed K (tC (.bl b)) σ H (.bool b) := ed_of ev_c (.bl b)
theorem ed_int {i : Int} : Ed K (tC (.int i)) σ H (.int i) := ed_of ev_c (.int i)
theorem ed_str {x : Str} : Ed K (tC (.str x)) σ H (.str x) := ed_of ev_c (.str x)
theorem ed_evI {i : Int} (h : Ev te σ H (.int i)) : Ed K te σ H (.int i) := ed_of h (.int i)
theorem ed_evS {x : Str} (h : Ev te σ H (.str x)) : Ed K te σ H (.str x) := ed_of h (.str x)
theorem ed_nil : EdA K tNil σ H [] := fun H1 _ _ q => q [] H1 (Ex.refl _) .nil
theorem ed_mono (e : Ex H H') (h : Ed K te σ H d) : Ed K te σ H' d := fun H1 e1 Q q => h H1 (e.trans e1) Q q
theorem eda_mono (e : Ex H H') (h : EdA K ta σ H ds) : EdA K ta σ H' ds := fun H1 e1 Q q => h H1 (e.trans e1) Q q
theorem edl_mono (e : Ex H H') (h : EdL K te σ H ds) : EdL K te σ H' ds := fun H1 e1 Q q => h H1 (e.trans e1) Q q
theorem ed_cons (h : Ed K te σ H d) (t : EdA K ta σ H ds) : EdA K (tCons te ta) σ H (d :: ds) := fun H1 e Q q =>
  h H1 e _ fun v H2 e2 k => t H2 (e.trans e2) _ fun vs H3 e3 ks => q (v :: vs) H3 (e2.trans e3) (.cons (dp_mono e3 k) ks)
theorem ed_tup (t : EdA K ta σ H ds) (hl : ds.length ≤ 100000) : Ed K (tTup ta) σ H (.tuple ds) := fun H1 e Q q =>
  t H1 e _ fun vs H2 e2 ks => ⟨sz_of (by rw [dpa_len ks]; exact hl), fun p hp => q _ _ (e2.trans (Ex.new hp)) (.tup (st_of upd_same) (dpa_mono (Ex.new hp) ks))⟩
theorem edl_lst (t : EdA K ta σ H ds) (hl : ds.length ≤ 100000) : EdL K (tLst ta) σ H ds := fun H1 e Q q =>
  t H1 e _ fun vs H2 e2 ks => ⟨sz_of (by rw [dpa_len ks]; exact hl), fun p hp => q p vs _ (e2.trans (Ex.new hp)) upd_same (dpa_mono (Ex.new hp) ks)⟩
theorem edl_of (h : EdL K te σ H ds) : Ed K te σ H (.list ds) := fun H1 e Q q => h H1 e Q fun p xs H2 e2 hp k => q _ H2 e2 (.lst (sq_of hp) k)
theorem ed_lst (t : EdA K ta σ H ds) (hl : ds.length ≤ 100000) : Ed K (tLst ta) σ H (.list ds) := edl_of (edl_lst t hl)
theorem edl_var {i : Nat} {p : Addr} {xs : List V} (h : σ[i]? = some (some (.ref p))) (hp : H p = some (.lst xs)) (k : DpAll K H xs ds) : EdL K (tVar i) σ H ds := fun H1 e Q q =>
  ⟨_, h, q p xs H1 (Ex.refl _) (e _ _ hp) (dpa_mono e k)⟩
theorem edl_cat (h : EdL K te σ H ds) (k : EdL K tb σ H es) (hl : ds.length + es.length ≤ 100000) : EdL K (tOp rCat te tb) σ H (ds ++ es) := fun H1 e Q q =>
  h H1 e _ fun p xs H2 e2 hp kp => k H2 (e.trans e2) _ fun r ys H3 e3 hr kr =>
    ⟨p, r, xs, ys, rfl, rfl, e3 _ _ hp, hr, sz_of (by rw [dpa_len kp, dpa_len kr]; exact hl), fun n hn =>
      q n (xs ++ ys) _ ((e2.trans e3).trans (Ex.new hn)) upd_same (dpa_mono (Ex.new hn) (dpa_app (dpa_mono e3 kp) kr))⟩
variable {D : Ends} {tz : TS}
theorem qd_asg {i : Nat} (h : Ed K te σ H d) (k : ∀ v H1, Ex H H1 → Dp K H1 v d → tz D (σ.set i (some v)) H1) : tSeq (tAsg te (gName i)) tz D σ H := h H (Ex.refl H) _ fun v H1 e q => k v H1 e q
theorem qd_asgL {i : Nat} (h : EdL K te σ H ds) (k : ∀ p xs H1, Ex H H1 → H1 p = some (.lst xs) → DpAll K H1 xs ds → tz D (σ.set i (some (.ref p))) H1) : tSeq (tAsg te (gName i)) tz D σ H := h H (Ex.refl H) _ fun p xs H1 e q r => k p xs H1 e q r
end
/-- all but one address stands -/
def Kp (b : Addr) (H H' : Hp) : Prop := ∀ a o, H a = some o → a ≠ b → H' a = some o
theorem Kp.refl (b : Addr) (H : Hp) : Kp b H H := fun _ _ e _ => e
theorem Kp.trans {b : Addr} {H H1 H2 : Hp} (x : Kp b H H1) (y : Kp b H1 H2) : Kp b H H2 := fun a o e n => y a o (x a o e n) n
theorem Kp.of {b : Addr} {H H1 : Hp} (x : Ex H H1) : Kp b H H1 := fun a o e _ => x a o e
theorem Kp.upd (b : Addr) (H : Hp) (o : HO) : Kp b H (upd H b o) := fun a u e n => by rw [upd_ne n]; exact e
theorem Kp.ex {b : Addr} {Hm H H1 : Hp} (x : Kp b H H1) (e : Ex Hm H) (hb : Hm b = none) : Ex Hm H1 := fun a o q => x a o (e a o q) (ne_of_none q hb)
theorem Kp.seq {b a : Addr} {H H1 : Hp} {K : PySem.W.Frag} {xs : List V} (x : Kp b H H1) (h : SqL K H a xs) (hn : a ≠ b) : SqL K H1 a xs := by
  rcases h with (h | ⟨o, h⟩) | h
  · exact Or.inl (Or.inl (x _ _ h hn))
  · exact Or.inl (Or.inr ⟨o, x _ _ h hn⟩)
  · exact Or.inr h

/-! ## texts as lists: what the rules give -/
section
variable {K : PySem.W.Frag} {σ : L2.St} {H : Hp} {te ta tb : TE} {l a b : List Nat}
theorem sz24 {n : Nat} (h : n ≤ 16000000) : n ≤ sizeLine := by rw [sizeLine_eq]; omega
theorem rc_lenS (h : l.length ≤ 16000000) : RC (fun xs H Q => ∃ z, xs = [V.str z] ∧ z.length ≤ sizeLine ∧ Q (.int z.length) H) [.str (S l)] H (.int l.length) := fun H1 _ Q q =>
  ⟨S l, rfl, by rw [S_len]; exact sz24 h, by rw [S_len]; exact q H1 (Ex.refl _)⟩
theorem rv_ixSn {j : Nat} {c : Nat} (h : l.length ≤ 16000000) (ha : l[j]? = some c) : RV rIxS (.str (S l)) (.int (j : Int)) H (.str (S [c])) := fun H1 _ Q q =>
  ⟨S l, j, c, rfl, rfl, by rw [S_len]; exact sz24 h, atI_nat ha, q H1 (Ex.refl _)⟩
theorem rv_inS {c : Nat} {z : Str} : RV (fun x y H Q => ∃ (c : Nat) (z : Str), x = .str ⟨#[c]⟩ ∧ y = .str z ∧ Q (.bl (decide (c ∈ z.cps.toList))) H) (.str (S [c])) (.str z) H (.bl (decide (c ∈ z.cps.toList))) := fun H1 _ Q q =>
  ⟨c, z, rfl, rfl, q H1 (Ex.refl _)⟩
theorem rv_notInS {c : Nat} {z : Str} : RV (fun x y H Q => ∃ (c : Nat) (z : Str), x = .str ⟨#[c]⟩ ∧ y = .str z ∧ Q (.bl (!decide (c ∈ z.cps.toList))) H) (.str (S [c])) (.str z) H (.bl (!decide (c ∈ z.cps.toList))) := fun H1 _ Q q =>
  ⟨c, z, rfl, rfl, q H1 (Ex.refl _)⟩
theorem rv_addS (h : a.length + b.length ≤ 16000000) : RV (fun x y H Q => ∃ i j, x = V.str i ∧ y = V.str j ∧ i.length + j.length ≤ sizeLine ∧ Q (.str (i ++ j)) H) (.str (S a)) (.str (S b)) H (.str (S (a ++ b))) := fun H1 _ Q q =>
  ⟨S a, S b, rfl, rfl, by rw [S_len, S_len]; exact sz24 h, by rw [S_app]; exact q H1 (Ex.refl _)⟩
theorem rv_mulS {n : Int} (hn : n ≤ 100000) (hlo : -1000000 ≤ n) (h : a.length * n.toNat ≤ 16777216) : RV rMulS (.str (S a)) (.int n) H (.str (S (List.replicate n.toNat a).flatten)) := fun H1 _ Q q =>
  ⟨S a, n, rfl, rfl, hn, hlo, by rw [S_len]; exact h, by
    have e : Txt.mul (S a) n = S (List.replicate n.toNat a).flatten := str_ext (mul_list _ _)
    rw [e]
    exact q H1 (Ex.refl _)⟩
/-- the part of a list that a slice cuts out -/
def cut (l : List Nat) (lo hi : Option Int) : List Nat := (l.drop (HT.sIx l.length 0 lo)).take (HT.sIx l.length l.length hi - HT.sIx l.length 0 lo)
theorem cutS_S (l : List Nat) (lo hi : Option Int) : cutS (S l) lo hi = S (cut l lo hi) := by
  apply str_ext
  unfold cutS cut
  rw [S_len]
  rfl
theorem cut_nn {l : List Nat} {i j : Nat} : cut l (some (i : Int)) (some (j : Int)) = (l.drop i).take (j - i) := by
  unfold cut
  rw [HT.sIx_nat, HT.sIx_nat]
  by_cases hi : i ≤ l.length
  · rw [Nat.min_eq_left hi]
    by_cases hj : j ≤ l.length
    · rw [Nat.min_eq_left hj]
    · have h1 : min j l.length = l.length := Nat.min_eq_right (by omega)
      rw [h1, List.take_of_length_le (by rw [List.length_drop]; omega), List.take_of_length_le (by rw [List.length_drop]; omega)]
  · have h1 : min i l.length = l.length := Nat.min_eq_right (by omega)
    rw [h1, List.drop_of_length_le (Nat.le_refl _), List.drop_of_length_le (by omega)]
    simp
theorem cut_n {l : List Nat} {i : Nat} : cut l (some (i : Int)) none = l.drop i := by
  unfold cut
  rw [HT.sIx_nat, HT.sIx_none]
  by_cases hi : i ≤ l.length
  · rw [Nat.min_eq_left hi, List.take_of_length_le (by rw [List.length_drop]; omega)]
  · have h1 : min i l.length = l.length := Nat.min_eq_right (by omega)
    rw [h1, List.drop_of_length_le (Nat.le_refl _), List.drop_of_length_le (by omega)]
    simp
theorem cut_to {l : List Nat} {j : Nat} : cut l none (some (j : Int)) = l.take j := by
  unfold cut
  rw [HT.sIx_nat, HT.sIx_none, Nat.sub_zero, List.drop_zero]
  by_cases hj : j ≤ l.length
  · rw [Nat.min_eq_left hj]
  · have h1 : min j l.length = l.length := Nat.min_eq_right (by omega)
    rw [h1, List.take_of_length_le (Nat.le_refl _), List.take_of_length_le (by omega)]
theorem cut_le (l : List Nat) (lo hi : Option Int) : (cut l lo hi).length ≤ l.length := by
  unfold cut
  rw [List.length_take, List.length_drop]
  omega
theorem ev_slS {tl th : TO} {lo hi : Option Int} (h : Ev te σ H (.str (S l))) (h1 : EvO tl σ H lo) (h2 : EvO th σ H hi) (hl : l.length ≤ 16000000) : Ev (tSl rSlS te tl th) σ H (.str (S (cut l lo hi))) := fun H1 e Q q =>
  h H1 e _ fun H2 e2 => h1 H2 (e.trans e2) _ fun H3 e3 => h2 H3 ((e.trans e2).trans e3) _ fun H4 e4 =>
    ⟨S l, rfl, by rw [S_len]; exact sz24 hl, by rw [cutS_S]; exact q H4 ((e2.trans e3).trans e4)⟩
theorem rv_eqS : RV rEq (.str (S a)) (.str (S b)) H (.bl (decide (a = b))) := fun H1 _ Q q => ⟨rfl, by
  have e : decide (V.str (S a) = V.str (S b)) = decide (a = b) := by
    by_cases h : a = b
    · subst h; simp
    · have h2 : ¬ V.str (S a) = V.str (S b) := fun z => h (S_inj (V.str.inj z))
      rw [decide_eq_false h, decide_eq_false h2]
  rw [e]
  exact q H1 (Ex.refl _)⟩
theorem rv_neS : RV rNe (.str (S a)) (.str (S b)) H (.bl (!decide (a = b))) := fun H1 _ Q q => ⟨rfl, by
  have e : decide (V.str (S a) = V.str (S b)) = decide (a = b) := by
    by_cases h : a = b
    · subst h; simp
    · have h2 : ¬ V.str (S a) = V.str (S b) := fun z => h (S_inj (V.str.inj z))
      rw [decide_eq_false h, decide_eq_false h2]
  rw [e]
  exact q H1 (Ex.refl _)⟩
theorem rv_eqI {i j : Int} : RV rEq (.int i) (.int j) H (.bl (decide (i = j))) := fun H1 _ Q q => ⟨rfl, by
  have e : decide (V.int i = V.int j) = decide (i = j) := by
    by_cases h : i = j
    · subst h; simp
    · rw [decide_eq_false h, decide_eq_false (fun z => h (V.int.inj z))]
  rw [e]
  exact q H1 (Ex.refl _)⟩
theorem rv_neI {i j : Int} : RV rNe (.int i) (.int j) H (.bl (!decide (i = j))) := fun H1 _ Q q => ⟨rfl, by
  have e : decide (V.int i = V.int j) = decide (i = j) := by
    by_cases h : i = j
    · subst h; simp
    · rw [decide_eq_false h, decide_eq_false (fun z => h (V.int.inj z))]
  rw [e]
  exact q H1 (Ex.refl _)⟩
/-- a written text, as a list -/
theorem ev_cS {x : Str} (h : x.cps.toList = l) : Ev (tC (.str x)) σ H (.str (S l)) := by
  have e : x = S l := str_ext h
  rw [e]
  exact ev_c
end
end Kt

set_option Elab.async false
set_option linter.all false
set_option maxRecDepth 100000
set_option maxHeartbeats 2000000
namespace Kt
open PySem PySem.Spec PyProof.Rows L2 Evl
/-! ## comprehensions that change nothing, and loops, over what is walked -/
theorem take_more {α : Type} {ys : List α} {i : Nat} {x : α} (h : ys[i]? = some x) : ys.take (i + 1) = ys.take i ++ [x] := by
  have hi := (List.getElem?_eq_some_iff.mp h)
  obtain ⟨h1, h2⟩ := hi
  rw [List.take_succ, List.getElem?_eq_getElem h1, h2]
  rfl
theorem mem_of_at {α : Type} {ys : List α} {i : Nat} {x : α} (h : ys[i]? = some x) : x ∈ ys := List.mem_of_getElem? h
section
variable {K : PySem.W.Frag} {σ : L2.St} {H : Hp} {t : TT} {te tl : TE} {j : Nat} {vs : List Nat} {J : It} {G : Hp → Prop} {Y : Nat → Hp → V → Hp → Prop} {ys : List V} {Qd : Hp → Prop}
theorem lcG (w : Walk J ys.length G Y) (hy : ∀ i H x H', i < ys.length → Y i H x H' → H' = H ∧ ys[i]? = some x) (f : V → Bool) (g : V → V) (hz : ys.length ≤ 90000)
    (hw : ∀ x, wipe ((wipe σ vs).set j (some x)) vs = wipe σ vs) (hG : ∀ H', Ex H H' → G H')
    (ht : ∀ x, x ∈ ys → ∀ H1, Ex H H1 → EvT t ((wipe σ vs).set j (some x)) H1 (f x)) (he : ∀ x, x ∈ ys → f x = true → ∀ H1, Ex H H1 → Ev te ((wipe σ vs).set j (some x)) H1 (g x))
    {Dl : Addr} (hD : H Dl = none) (q : ∀ H', Ex H H' → H' Dl = some (.lst ((ys.filter f).map g)) → Qd H') :
    ∃ W : Nat → Nat → Hp → Prop, (∃ m, W 0 m (upd H Dl (.lst []))) ∧ ∀ i m H, W i m H →
      (J.stop i H ∧ Qd H) ∨ (J.go i H ∧ ∃ Nx : Hp → Prop, (∀ H', Nx H' → ∃ m', m' < m ∧ W (i + 1) m' H') ∧ ∀ x H', J.yld i H x H' → gName j x (wipe σ vs) H' fun σ2 H2 => wipe σ2 vs = wipe σ vs ∧ t σ2 H2 fun b H3 =>
        if b = true then te σ2 H3 fun y H4 => ∃ acc, H4 Dl = some (.lst acc) ∧ acc.length < sizeLine ∧ Nx (upd H4 Dl (.lst (acc ++ [y]))) else Nx H3) := by
  refine lc_it w (Pv := fun i H' => Ex H H' ∧ H' Dl = some (.lst (((ys.take i).filter f).map g))) ⟨Ex.new hD, upd_same⟩ (fun i H' _ p => hG H' p.1) ?_ (fun H' p => ?_)
  · rintro i x H1 H2 hi ⟨e, hd⟩ y
    obtain ⟨rfl, hx⟩ := hy i H1 x H2 hi y
    refine ⟨hw x, ht x (mem_of_at hx) H2 e H2 (Ex.refl _) _ fun H3 e3 => ?_⟩
    have hl : (((ys.take i).filter f).map g).length < 100000 := by
      rw [List.length_map]
      have h1 := List.length_filter_le f (ys.take i)
      rw [List.length_take] at h1
      omega
    cases hf : f x with
    | true =>
      rw [if_pos rfl]
      refine he x (mem_of_at hx) hf H3 (e.trans e3) H3 (Ex.refl _) _ fun H4 e4 => ⟨_, e4 _ _ (e3 _ _ hd), sz_lt hl, Ex.mut ((e.trans e3).trans e4) hD, ?_⟩
      rw [upd_same, take_more hx, List.filter_append, List.map_append]
      simp [hf]
    | false =>
      rw [if_neg Bool.false_ne_true]
      refine ⟨e.trans e3, ?_⟩
      rw [take_more hx, List.filter_append]
      simp [hf]
      have := e3 _ _ hd
      simpa using this
  · obtain ⟨e, hd⟩ := p
    rw [List.take_length] at hd
    exact q H' e hd
/-- [e for c in s if t], s a text -/
theorem el_lcS {z : Str} (f : V → Bool) (g : V → V) (h : Ev tl σ H (.str z)) (hz : z.cps.size ≤ 90000) (hw : ∀ x, wipe ((wipe σ vs).set j (some x)) vs = wipe σ vs)
    (ht : ∀ c, c ∈ z.cps.toList → ∀ H1, Ex H H1 → EvT t ((wipe σ vs).set j (some (.str (S [c])))) H1 (f (.str (S [c])))) (he : ∀ c, c ∈ z.cps.toList → f (.str (S [c])) = true → ∀ H1, Ex H H1 → Ev te ((wipe σ vs).set j (some (.str (S [c])))) H1 (g (.str (S [c])))) :
    EvL (tLc (iStr tl) (gName j) t te vs) σ H (((z.cps.toList.map fun c => V.str (S [c])).filter f).map g) := fun H0 e Q q => h H0 e _ fun H1 e1 => by
  refine ⟨z, rfl, fun Dl hD => ?_⟩
  have w := walk_str (z := z)
  have hlen : z.cps.size = (z.cps.toList.map fun c => V.str (S [c])).length := by simp
  rw [hlen] at w
  refine lcG (H := H1) (Qd := fun H' => Q (.ref Dl) H') w ?_ f g (by rw [← hlen]; exact hz) hw (fun _ _ => trivial) ?_ ?_ hD (fun H' e' hd => q Dl H' (fresh_back e1 hD) (e1.trans e') hd)
  · rintro i H2 x H3 hi ⟨rfl, c, hc, rfl⟩
    refine ⟨rfl, ?_⟩
    rw [List.getElem?_map, Array.getElem?_toList, hc]
    rfl
  · intro x hx H2 e2
    obtain ⟨c, hc, rfl⟩ := List.mem_map.mp hx
    exact ht c hc H2 ((e.trans e1).trans e2)
  · intro x hx hf H2 e2
    obtain ⟨c, hc, rfl⟩ := List.mem_map.mp hx
    exact he c hc hf H2 ((e.trans e1).trans e2)
/-- the same over a list, a tuple that is read -/
theorem el_lcL' {a : Addr} {xs : List V} (f : V → Bool) (g : V → V) (h : Ev tl σ H (.ref a)) (hx : SqL K H a xs) (hz : xs.length ≤ 90000) (hw : ∀ x, wipe ((wipe σ vs).set j (some x)) vs = wipe σ vs)
    (ht : ∀ x, x ∈ xs → ∀ H1, Ex H H1 → EvT t ((wipe σ vs).set j (some x)) H1 (f x)) (he : ∀ x, x ∈ xs → f x = true → ∀ H1, Ex H H1 → Ev te ((wipe σ vs).set j (some x)) H1 (g x)) :
    EvL (tLc (iList K tl) (gName j) t te vs) σ H ((xs.filter f).map g) := fun H0 e Q q => h H0 e _ fun H1 e1 => by
  refine ⟨a, rfl, ⟨xs, ex_l (e.trans e1) hx⟩, fun Dl hD => ?_⟩
  exact lcG (H := H1) (Qd := fun H' => Q (.ref Dl) H') walk_list (fun i H2 x H3 hi y => y) f g hz hw (fun H' e' => ex_l ((e.trans e1).trans e') hx) (fun x hx' H2 e2 => ht x hx' H2 ((e.trans e1).trans e2))
    (fun x hx' hf H2 e2 => he x hx' hf H2 ((e.trans e1).trans e2)) hD (fun H' e' hd => q Dl H' (fresh_back e1 hD) (e1.trans e') hd)
theorem el_lcT' {a : Addr} {xs : List V} (f : V → Bool) (g : V → V) (h : Ev tl σ H (.ref a)) (hx : SqT K H a xs) (hz : xs.length ≤ 90000) (hw : ∀ x, wipe ((wipe σ vs).set j (some x)) vs = wipe σ vs)
    (ht : ∀ x, x ∈ xs → ∀ H1, Ex H H1 → EvT t ((wipe σ vs).set j (some x)) H1 (f x)) (he : ∀ x, x ∈ xs → f x = true → ∀ H1, Ex H H1 → Ev te ((wipe σ vs).set j (some x)) H1 (g x)) :
    EvL (tLc (iTup K tl) (gName j) t te vs) σ H ((xs.filter f).map g) := fun H0 e Q q => h H0 e _ fun H1 e1 => by
  refine ⟨a, rfl, ⟨xs, ex_t (e.trans e1) hx⟩, fun Dl hD => ?_⟩
  exact lcG (H := H1) (Qd := fun H' => Q (.ref Dl) H') walk_tup (fun i H2 x H3 hi y => y) f g hz hw (fun H' e' => ex_t ((e.trans e1).trans e') hx) (fun x hx' H2 e2 => ht x hx' H2 ((e.trans e1).trans e2))
    (fun x hx' hf H2 e2 => he x hx' hf H2 ((e.trans e1).trans e2)) hD (fun H' e' hd => q Dl H' (fresh_back e1 hD) (e1.trans e') hd)
/-- over a list that is made there -/
theorem el_lcN' {xs : List V} (f : V → Bool) (g : V → V) (h : EvL tl σ H xs) (hz : xs.length ≤ 90000) (hw : ∀ x, wipe ((wipe σ vs).set j (some x)) vs = wipe σ vs)
    (ht : ∀ x, x ∈ xs → ∀ H1, Ex H H1 → EvT t ((wipe σ vs).set j (some x)) H1 (f x)) (he : ∀ x, x ∈ xs → f x = true → ∀ H1, Ex H H1 → Ev te ((wipe σ vs).set j (some x)) H1 (g x)) :
    EvL (tLc (iList K tl) (gName j) t te vs) σ H ((xs.filter f).map g) := fun H0 e Q q => h H0 e _ fun a H1 ha e1 hx => by
  refine ⟨a, rfl, ⟨xs, sq_of hx⟩, fun Dl hD => ?_⟩
  exact lcG (H := H1) (Qd := fun H' => Q (.ref Dl) H') (walk_list (K := K)) (fun i H2 x H3 hi y => y) f g hz hw (fun H' e' => sq_of (e' _ _ hx)) (fun x hx' H2 e2 => ht x hx' H2 ((e.trans e1).trans e2))
    (fun x hx' hf H2 e2 => he x hx' hf H2 ((e.trans e1).trans e2)) hD (fun H' e' hd => q Dl H' (fresh_back e1 hD) (e1.trans e') hd)
theorem et_yes : EvT tYes σ H true := fun H1 _ _ q => q H1 (Ex.refl _)
theorem filt_yes {α : Type} (l : List α) : l.filter (fun _ => true) = l := List.filter_eq_self.mpr fun _ _ => rfl
/-- all(list of bools), any(..) -/
theorem ev_allN {bs : List Bool} (h : EvL te σ H (bs.map V.bl)) : Ev (tCB (rAll K) (tCons te tNil)) σ H (.bl (bs.all id)) := fun H1 e Q q => h H1 e _ fun p H2 hp e2 h2 => ⟨p, bs, rfl, sq_of h2, q H2 e2⟩
theorem ev_anyN {bs : List Bool} (h : EvL te σ H (bs.map V.bl)) : Ev (tCB (rAny K) (tCons te tNil)) σ H (.bl (bs.any id)) := fun H1 e Q q => h H1 e _ fun p H2 hp e2 h2 => ⟨p, bs, rfl, sq_of h2, q H2 e2⟩
end
/-! ## values that are only looked at by their class -/
inductive AnyV (H : Hp) : V → Prop
  | non : AnyV H .non
  | bl (b : Bool) : AnyV H (.bl b)
  | int (i : Int) : AnyV H (.int i)
  | str (x : Str) (h : x.length ≤ 50000) (a : ∀ c ∈ x.cps.toList, c < 128) : AnyV H (.str x)
  | lst {p : Addr} {xs : List V} (h : H p = some (.lst xs)) : AnyV H (.ref p)
  | tup {p : Addr} {xs : List V} (h : H p = some (.tup xs)) : AnyV H (.ref p)
theorem AnyV.mono {H H' : Hp} {v : V} (h : AnyV H v) (e : Ex H H') : AnyV H' v := by
  cases h with
  | non => exact .non
  | bl b => exact .bl b
  | int i => exact .int i
  | str x h a => exact .str x h a
  | lst h => exact .lst (e _ _ h)
  | tup h => exact .tup (e _ _ h)
def isStr : V → Bool
  | .str _ => true
  | _ => false
def isInt : V → Bool
  | .int _ => true
  | _ => false
def isBool : V → Bool
  | .bl _ => true
  | _ => false
section
variable {K : PySem.W.Frag} {H : Hp} {v : V}
theorem rc_isi {t : String} {T : String} {b : Bool} (h : ∀ H1, Ex H H1 → TyX K H1 v (.type t)) (hk : kitB t T = some b) : RC (rIsi K) [v, .ty T] H (.bl b) := fun H1 e Q q =>
  ⟨v, .ty T, _, _, b, rfl, ClsV.ty T, h H1 e, kit_ty hk, q H1 (Ex.refl _)⟩
theorem rc_isStr (h : AnyV H v) : RC (rIsi K) [v, .ty "str"] H (.bl (isStr v)) := by
  cases h with
  | non => exact rc_isi (fun _ _ => .base .non) (show kitB "NoneType" "str" = some false by decide +kernel)
  | bl b => exact rc_isi (fun _ _ => .base (.bl b)) (show kitB "bool" "str" = some false by decide +kernel)
  | int i => exact rc_isi (fun _ _ => .base (.int i)) (show kitB "int" "str" = some false by decide +kernel)
  | str x h a => exact rc_isi (fun _ _ => .base (.str x)) (show kitB "str" "str" = some true by decide +kernel)
  | lst h => exact rc_isi (fun _ e => .base (.lst (e _ _ h))) (show kitB "list" "str" = some false by decide +kernel)
  | tup h => exact rc_isi (fun _ e => .base (.tup (e _ _ h))) (show kitB "tuple" "str" = some false by decide +kernel)
end

theorem AnyV.short {H : Hp} {x : Str} (h : AnyV H (.str x)) : x.length ≤ 50000 := by cases h; assumption
theorem AnyV.asc {H : Hp} {x : Str} (h : AnyV H (.str x)) : ∀ c ∈ x.cps.toList, c < 128 := by cases h; assumption
theorem AnyV.kp {b : Addr} {H H' : Hp} {v : V} {xs : List V} (h : AnyV H v) (k : Kp b H H') (hb : H' b = some (.lst xs)) : AnyV H' v := by
  cases h with
  | non => exact .non
  | bl b => exact .bl b
  | int i => exact .int i
  | str x h a => exact .str x h a
  | @lst p ys h =>
    by_cases e : p = b
    · subst e; exact .lst hb
    · exact .lst (k _ _ h e)
  | @tup p ys h =>
    by_cases e : p = b
    · subst e; exact .lst hb
    · exact .tup (k _ _ h e)
/-- what evaluates to some such value | a new list of such | arguments -/
def En (te : TE) (σ : L2.St) (H : Hp) : Prop := ∀ H1, Ex H H1 → ∀ Q : VK, (∀ v H2, Ex H1 H2 → AnyV H2 v → Q v H2) → te σ H1 Q
def EnL (te : TE) (σ : L2.St) (H : Hp) (n : Nat) : Prop := ∀ H1, Ex H H1 → ∀ Q : VK, (∀ p xs H2, H1 p = none → Ex H1 H2 → H2 p = some (.lst xs) → xs.length = n → (∀ v ∈ xs, AnyV H2 v) → Q (.ref p) H2) → te σ H1 Q
def EnA (ta : TA) (σ : L2.St) (H : Hp) (n : Nat) : Prop := ∀ H1, Ex H H1 → ∀ Q : List V → Hp → Prop, (∀ vs H2, Ex H1 H2 → vs.length = n → (∀ v ∈ vs, AnyV H2 v) → Q vs H2) → ta σ H1 Q
section
variable {σ : L2.St} {H H' : Hp} {te tb : TE} {ta : TA} {v : V} {n m : Nat}
theorem en_of (h : Ev te σ H v) (k : AnyV H v) : En te σ H := fun H1 e Q q => h H1 e Q fun H2 e2 => q v H2 e2 (k.mono (e.trans e2))
theorem en_c (k : AnyV H v) : En (tC v) σ H := en_of ev_c k
theorem ena_nil : EnA tNil σ H 0 := fun H1 _ _ q => q [] H1 (Ex.refl _) rfl (fun _ h => absurd h List.not_mem_nil)
theorem ena_cons (h : En te σ H) (t : EnA ta σ H n) : EnA (tCons te ta) σ H (n + 1) := fun H1 e Q q =>
  h H1 e _ fun v H2 e2 k => t H2 (e.trans e2) _ fun vs H3 e3 l ks => q (v :: vs) H3 (e2.trans e3) (by simp [l]) fun w hw => by
    rcases List.mem_cons.mp hw with r | r
    · rw [r]; exact k.mono e3
    · exact ks w r
theorem en_tup (t : EnA ta σ H n) (hl : n ≤ 100000) : En (tTup ta) σ H := fun H1 e Q q =>
  t H1 e _ fun vs H2 e2 l ks => ⟨sz_of (by rw [l]; exact hl), fun p hp => q _ _ (e2.trans (Ex.new hp)) (.tup upd_same)⟩
theorem enl_lst (t : EnA ta σ H n) (hl : n ≤ 100000) : EnL (tLst ta) σ H n := fun H1 e Q q =>
  t H1 e _ fun vs H2 e2 l ks => ⟨sz_of (by rw [l]; exact hl), fun p hp => q p vs _ (fresh_back e2 hp) (e2.trans (Ex.new hp)) upd_same l fun w hw => (ks w hw).mono (Ex.new hp)⟩
theorem en_ofL (h : EnL te σ H n) : En te σ H := fun H1 e Q q => h H1 e Q fun p xs H2 _ e2 hp _ _ => q _ H2 e2 (.lst hp)
theorem en_lst (t : EnA ta σ H n) (hl : n ≤ 100000) : En (tLst ta) σ H := en_ofL (enl_lst t hl)
theorem enl_cat (h : EnL te σ H n) (k : EnL tb σ H m) (hl : n + m ≤ 100000) : EnL (tOp rCat te tb) σ H (n + m) := fun H1 e Q q =>
  h H1 e _ fun p xs H2 _ e2 hp lp kp => k H2 (e.trans e2) _ fun r ys H3 _ e3 hr lr kr =>
    ⟨p, r, xs, ys, rfl, rfl, e3 _ _ hp, hr, sz_of (by rw [lp, lr]; exact hl), fun x hx =>
      q x (xs ++ ys) _ (fresh_back (e2.trans e3) hx) ((e2.trans e3).trans (Ex.new hx)) upd_same (by rw [List.length_append, lp, lr]) fun w hw => by
        rcases List.mem_append.mp hw with z | z
        · exact (kp w z).mono (e3.trans (Ex.new hx))
        · exact (kr w z).mono (Ex.new hx)⟩
/-- a local list that is read (not new): as the left or the right of + -/
theorem enl_cat1 {i : Nat} {p : Addr} {xs : List V} (h : σ[i]? = some (some (.ref p))) (hp : H p = some (.lst xs)) (hx : ∀ v ∈ xs, AnyV H v) (k : EnL tb σ H m) (ln : xs.length = n) (hl : n + m ≤ 100000) : EnL (tOp rCat (tVar i) tb) σ H (n + m) := fun H1 e Q q =>
  ⟨_, h, k H1 e _ fun r ys H3 _ e3 hr lr kr => ⟨p, r, xs, ys, rfl, rfl, e3 _ _ (e _ _ hp), hr, sz_of (by rw [lr, ln]; exact hl), fun x hn =>
    q x (xs ++ ys) _ (fresh_back e3 hn) (e3.trans (Ex.new hn)) upd_same (by rw [List.length_append, lr, ln]) fun w hw => by
      rcases List.mem_append.mp hw with z | z
      · exact (hx w z).mono ((e.trans e3).trans (Ex.new hn))
      · exact (kr w z).mono (Ex.new hn)⟩⟩
theorem enl_cat2 {i : Nat} {p : Addr} {xs : List V} (k : EnL tb σ H m) (h : σ[i]? = some (some (.ref p))) (hp : H p = some (.lst xs)) (hx : ∀ v ∈ xs, AnyV H v) (ln : xs.length = n) (hl : m + n ≤ 100000) : EnL (tOp rCat tb (tVar i)) σ H (m + n) := fun H1 e Q q =>
  k H1 e _ fun r ys H3 _ e3 hr lr kr => ⟨_, h, r, p, ys, xs, rfl, rfl, hr, e3 _ _ (e _ _ hp), sz_of (by rw [lr, ln]; exact hl), fun x hn =>
    q x (ys ++ xs) _ (fresh_back e3 hn) (e3.trans (Ex.new hn)) upd_same (by rw [List.length_append, lr, ln]) fun w hw => by
      rcases List.mem_append.mp hw with z | z
      · exact (kr w z).mono (Ex.new hn)
      · exact (hx w z).mono ((e.trans e3).trans (Ex.new hn))⟩
variable {D : Ends} {tz : TS}
theorem qn_asgL {i : Nat} (h : EnL te σ H n) (k : ∀ p xs H1, H p = none → Ex H H1 → H1 p = some (.lst xs) → xs.length = n → (∀ v ∈ xs, AnyV H1 v) → tz D (σ.set i (some (.ref p))) H1) : tSeq (tAsg te (gName i)) tz D σ H :=
  h H (Ex.refl H) _ fun p xs H1 a b c d e => k p xs H1 a b c d e
end
/-! texts and their methods -/
section
variable {K : PySem.W.Frag} {σ : L2.St} {H : Hp} {te to : TE}
theorem el_split {a b : Str} (h : Ev to σ H (.str a)) (k : Ev te σ H (.str b)) (hb : (b.length == 0) = false) (ha : a.length + 2 ≤ 16000000) :
    EvL (tM1 (fun x xs H Q => ∃ a b, x = V.str a ∧ xs = [.str b] ∧ (b.length == 0) = false ∧ a.length + 2 ≤ sizeLine ∧ rNewStrs (Txt.split a b) H Q) to te) σ H ((Txt.split a b).map V.str) := fun H1 e Q q =>
  h H1 e _ fun H2 e2 => ⟨⟨a, rfl⟩, k H2 (e.trans e2) _ fun H3 e3 => ⟨a, b, rfl, rfl, hb, sz24 ha, fun p hp => q p _ (fresh_back (e2.trans e3) hp) ((e2.trans e3).trans (Ex.new hp)) upd_same⟩⟩
theorem rv_isBl {a b : Bool} : RV (fun x y H Q => ∃ a b, x = V.bl a ∧ y = .bl b ∧ Q (.bl (decide (a = b))) H) (.bl a) (.bl b) H (.bl (decide (a = b))) := fun H1 _ Q q => ⟨a, b, rfl, rfl, q H1 (Ex.refl _)⟩
theorem rv_isnotBl {a b : Bool} : RV (fun x y H Q => ∃ a b, x = V.bl a ∧ y = .bl b ∧ Q (.bl (!decide (a = b))) H) (.bl a) (.bl b) H (.bl (!decide (a = b))) := fun H1 _ Q q => ⟨a, b, rfl, rfl, q H1 (Ex.refl _)⟩
end
end Kt

set_option Elab.async false
set_option linter.all false
set_option maxRecDepth 100000
set_option maxHeartbeats 2000000
namespace Kt
open PySem PySem.Spec PyProof.Rows L2 Evl
/-! ## the bag of numbers that a law draws from -/
structure BgOk (d m c : Int) : Prop where
  d0 : 0 ≤ d
  m0 : 0 ≤ m
  m1 : m < 2147483647
  c0 : 0 ≤ c
abbrev bgo (d m c : Int) : HO := .lst [.int d, .int m, .int c]
theorem mod_lt (x : Int) {n : Int} (h : 0 < n) : 0 ≤ x % n ∧ x % n < n := ⟨Int.emod_nonneg _ (by omega), Int.emod_lt_of_pos _ h⟩
theorem nat64 {x : Int} (h : 0 ≤ x) (h2 : x < 18446744073709551616) : x.natAbs < 2 ^ 64 := by omega
/-- the bag at b is a bag, from which no more than c have been drawn -/
def Bag (H : Hp) (b : Addr) (c : Int) : Prop := ∃ d m c', H b = some (bgo d m c') ∧ BgOk d m c' ∧ c' ≤ c
theorem Bag.mono {H : Hp} {b : Addr} {c c' : Int} (h : Bag H b c) (hc : c ≤ c') : Bag H b c' := by
  obtain ⟨d, m, x, h1, h2, h3⟩ := h
  exact ⟨d, m, x, h1, h2, by omega⟩
theorem Bag.ex {H H' : Hp} {b : Addr} {c : Int} (h : Bag H b c) (e : Ex H H') : Bag H' b c := by
  obtain ⟨d, m, x, h1, h2, h3⟩ := h
  exact ⟨d, m, x, e _ _ h1, h2, h3⟩
theorem Bag.lst {H : Hp} {b : Addr} {c : Int} (h : Bag H b c) : ∃ xs, H b = some (.lst xs) := by
  obtain ⟨d, m, x, h1, h2, h3⟩ := h
  exact ⟨_, h1⟩
theorem Bag.upd {H : Hp} {b p : Addr} {c : Int} {o : HO} (h : Bag H b c) (hp : b ≠ p) : Bag (upd H p o) b c := by
  obtain ⟨d, m, x, h1, h2, h3⟩ := h
  exact ⟨d, m, x, by rw [upd_ne hp]; exact h1, h2, h3⟩
theorem Bag.ne {H : Hp} {b p : Addr} {c : Int} (h : Bag H b c) (hp : H p = none) : b ≠ p := by
  obtain ⟨d, m, x, h1, h2, h3⟩ := h
  exact ne_of_none h1 hp
theorem join0 : ∀ ys : List (List Nat), Txt.join (S []) (ys.map S) = S ys.flatten := fun ys => by
  rw [TL.join_eq]
  induction ys with
  | nil => rfl
  | cons y r ih =>
    cases r with
    | nil => show S y = _; simp
    | cons z r =>
      show S y ++ S [] ++ Str.join (S []) ((z :: r).map S) = _
      rw [ih, S_app, S_app]
      simp
theorem sum_len_flat : ∀ ys : List (List Nat), (ys.map (·.length)).sum = ys.flatten.length
  | [] => rfl
  | y :: r => by rw [List.map_cons, List.sum_cons, sum_len_flat r, List.flatten_cons, List.length_append]
section
variable {K : PySem.W.Frag} {σ : L2.St} {H : Hp} {te : TE} {ta : TA} {j n : Nat} {vs : List Nat} {b : Addr} {c0 : Int} {Q : VK}
/-- [e for k in range(n)], where e draws up to s numbers from the bag at b, and gives what PV tells -/
theorem lcB {s : Int} (PV : V → Prop) (hn : n ≤ 90000) (hw : ∀ x, wipe ((wipe σ vs).set j (some x)) vs = wipe σ vs) (hb : Bag H b c0)
    (he : ∀ (i : Nat) (c : Int) (H1 : Hp), i < n → c ≤ c0 + i * s → Kp b H H1 → Bag H1 b c → ∀ Q : VK, (∀ v H2, Kp b H1 H2 → Bag H2 b (c + s) → PV v → Q v H2) → te ((wipe σ vs).set j (some (.int i))) H1 Q)
    (q : ∀ (D : Addr) (xs : List V) (H' : Hp), H D = none → Kp b H H' → Bag H' b (c0 + n * s) → H' D = some (.lst xs) → xs.length = n → (∀ v ∈ xs, PV v) → Q (.ref D) H') :
    ∀ D, H D = none → ∃ W : Nat → Nat → Hp → Prop, (∃ m, W 0 m (upd H D (.lst []))) ∧ ∀ i m H, W i m H →
      ((Itr 0 n).stop i H ∧ Q (.ref D) H) ∨ ((Itr 0 n).go i H ∧ ∃ Nx : Hp → Prop, (∀ H', Nx H' → ∃ m', m' < m ∧ W (i + 1) m' H') ∧ ∀ x H', (Itr 0 n).yld i H x H' → gName j x (wipe σ vs) H' fun σ2 H2 => wipe σ2 vs = wipe σ vs ∧ tYes σ2 H2 fun b H3 =>
        if b = true then te σ2 H3 fun y H4 => ∃ acc, H4 D = some (.lst acc) ∧ acc.length < sizeLine ∧ Nx (upd H4 D (.lst (acc ++ [y]))) else Nx H3) := by
  intro D hD
  have bD := hb.ne hD
  refine lc_range (lo := 0) (n := n) (fun i H' => ∃ xs, Kp b H H' ∧ Bag H' b (c0 + i * s) ∧ H' D = some (.lst xs) ∧ xs.length = i ∧ ∀ v ∈ xs, PV v) ⟨[], Kp.of (Ex.new hD), ?_, upd_same, rfl, fun _ h => absurd h List.not_mem_nil⟩ ?_ (fun H' p => ?_)
  · refine (hb.upd bD).mono ?_
    simp
  · rintro i H1 hi ⟨xs, kp, bg, hd, hl, hv⟩
    have e0 : (0 : Int) + (i : Int) = (i : Int) := Int.zero_add _
    show wipe ((wipe σ vs).set j (some (.int (0 + (i : Int))))) vs = wipe σ vs ∧ te ((wipe σ vs).set j (some (.int (0 + (i : Int))))) H1 fun y H4 => ∃ acc, H4 D = some (.lst acc) ∧ acc.length < sizeLine ∧ _
    rw [e0]
    refine ⟨hw _, he i _ H1 hi (Int.le_refl _) kp bg _ fun v H2 k2 b2 pv => ⟨xs, k2 _ _ hd (Ne.symm bD), sz_lt (by omega), xs ++ [v], ?_, ?_, upd_same, by simp [hl], fun w hw' => ?_⟩⟩
    · intro a o e ne
      rw [upd_ne (ne_of_none e hD)]
      exact (kp.trans k2) a o e ne
    · refine (b2.upd bD).mono ?_
      have : ((i + 1 : Nat) : Int) * s = i * s + s := by
        rw [Int.natCast_add, Int.add_mul]
        simp
      omega
    · rcases List.mem_append.mp hw' with z | z
      · exact hv w z
      · rw [List.mem_singleton.mp z]; exact pv
  · obtain ⟨xs, kp, bg, hd, hl, hv⟩ := p
    exact q D xs H' hD kp bg hd hl hv
end

/-- a number from 0 to below n, drawn from the bag at b -/
def spTake : Sp := fun vs H Q _ => ∃ (b : Addr) (n c : Int), vs = [.ref b, .int n] ∧ Bag H b c ∧ c ≤ 1000000000 ∧ 0 < n ∧ n ≤ 1000000 ∧
  ∀ (r : Int) (H' : Hp), 0 ≤ r → r < n → Kp b H H' → Bag H' b (c + 1) → Q (.int r) H'
/-- a list of numbers at s, a place i: a bag, new -/
def spBag (K : PySem.W.Frag) : Sp := fun vs H Q _ => ∃ (s : Addr) (i : Int) (ns : List Int), vs = [.ref s, .int i] ∧ SqL K H s (ns.map V.int) ∧ 0 ≤ i ∧ i ≤ 1000 ∧
  ∀ (p : Addr) (H' : Hp), H p = none → Ex H H' → Bag H' p 0 → Q (.ref p) H'
section
variable {K : PySem.W.Frag} {σ : L2.St} {H : Hp} {t1 t2 : TE} {b : Addr} {c n : Int} {Q : VK} {E : XK}
theorem Kp.exx {b : Addr} {H H1 H2 : Hp} (x : Ex H H1) (y : Kp b H1 H2) : Kp b H H2 := (Kp.of x).trans y
theorem rd_take (h1 : Ev t1 σ H (.ref b)) (h2 : Ev t2 σ H (.int n)) (hb : Bag H b c) (hc : c ≤ 1000000000) (n0 : 0 < n) (n1 : n ≤ 1000000)
    (k : ∀ (r : Int) (H' : Hp), 0 ≤ r → r < n → Kp b H H' → Bag H' b (c + 1) → Q (.int r) H') : tCall spTake [] E (tCons t1 (tCons t2 tNil)) σ H Q :=
  h1 H (Ex.refl _) _ fun H1 e1 => h2 H1 e1 _ fun H2 e2 => ⟨b, n, c, rfl, hb.ex (e1.trans e2), hc, n0, n1, fun r H' r0 r1 kp bg => k r H' r0 r1 (Kp.exx (e1.trans e2) kp) bg⟩
/-- xs[take(bag, n)], xs a list of n items or more -/
theorem rd_pick {tl : TE} {p : Addr} {xs : List V} (h0 : Ev tl σ H (.ref p)) (h1 : Ev t1 σ H (.ref b)) (h2 : Ev t2 σ H (.int n)) (hp : SqL K H p xs) (nb : p ≠ b) (hb : Bag H b c) (hc : c ≤ 1000000000) (n0 : 0 < n) (n1 : n ≤ 1000000) (hn : n ≤ xs.length)
    (k : ∀ (v : V) (H' : Hp), v ∈ xs → Kp b H H' → Bag H' b (c + 1) → Q v H') : tOp (rIxL K) tl (tCall spTake [] E (tCons t1 (tCons t2 tNil))) σ H Q :=
  h0 H (Ex.refl _) _ fun H1 e1 => by
    refine rd_take (fun H' e' => h1 H' (e1.trans e')) (fun H' e' => h2 H' (e1.trans e')) (hb.ex e1) hc n0 n1 fun r H' r0 r1 kp bg => ?_
    have hr : r.toNat < xs.length := by omega
    have ha : atI xs r = some xs[r.toNat] := by
      have := atI_nat (List.getElem?_eq_getElem hr)
      rw [Int.toNat_of_nonneg r0] at this
      exact this
    exact ⟨p, xs, r, _, rfl, rfl, kp.seq (ex_l e1 hp) nb, ha, k _ H' (List.getElem_mem hr) (Kp.exx e1 kp) bg⟩
/-- [..][take(bag, n)], the list made there -/
theorem rd_pickN {tl : TE} {xs : List V} (h0 : EvL tl σ H xs) (h1 : Ev t1 σ H (.ref b)) (h2 : Ev t2 σ H (.int n)) (hb : Bag H b c) (hc : c ≤ 1000000000) (n0 : 0 < n) (n1 : n ≤ 1000000) (hn : n ≤ xs.length)
    (k : ∀ (v : V) (H' : Hp), v ∈ xs → Kp b H H' → Bag H' b (c + 1) → Q v H') : tOp (rIxL K) tl (tCall spTake [] E (tCons t1 (tCons t2 tNil))) σ H Q :=
  h0 H (Ex.refl _) _ fun p H1 hp e1 hx => by
    refine rd_take (fun H' e' => h1 H' (e1.trans e')) (fun H' e' => h2 H' (e1.trans e')) (hb.ex e1) hc n0 n1 fun r H' r0 r1 kp bg => ?_
    have hr : r.toNat < xs.length := by omega
    have ha : atI xs r = some xs[r.toNat] := by
      have := atI_nat (List.getElem?_eq_getElem hr)
      rw [Int.toNat_of_nonneg r0] at this
      exact this
    exact ⟨p, xs, r, _, rfl, rfl, SqL.of (kp _ _ hx (hb.ne hp).symm), ha, k _ H' (List.getElem_mem hr) (Kp.exx e1 kp) bg⟩
theorem strs_of {P : List Nat → Prop} : ∀ {xs : List V}, (∀ v ∈ xs, ∃ z, v = .str (S z) ∧ P z) → ∃ zs : List (List Nat), xs = zs.map (fun z => V.str (S z)) ∧ ∀ z ∈ zs, P z
  | [], _ => ⟨[], rfl, fun _ h => absurd h List.not_mem_nil⟩
  | v :: r, h => by
    obtain ⟨z, hz, pz⟩ := h v List.mem_cons_self
    obtain ⟨zs, h1, h2⟩ := strs_of (xs := r) fun w hw => h w (List.mem_cons_of_mem _ hw)
    refine ⟨z :: zs, by rw [hz, h1]; rfl, fun w hw => ?_⟩
    rcases List.mem_cons.mp hw with e | e
    · rw [e]; exact pz
    · exact h2 w e
theorem flat_len {m : Nat} : ∀ {zs : List (List Nat)}, (∀ z ∈ zs, z.length ≤ m) → zs.flatten.length ≤ zs.length * m
  | [], _ => by simp
  | z :: r, h => by
    have h1 := h z List.mem_cons_self
    have h2 := flat_len (zs := r) fun w hw => h w (List.mem_cons_of_mem _ hw)
    rw [List.flatten_cons, List.length_append, List.length_cons, Nat.add_mul]
    omega
abbrev rJoin (K : PySem.W.Frag) : V → List V → Hp → VK → Prop := fun x xs H Q => ∃ a p, ∃ ys : List Str, x = .str a ∧ xs = [.ref p] ∧ (SqL K H p (ys.map V.str) ∨ SqT K H p (ys.map V.str)) ∧ (ys.map (·.length)).sum + ys.length * a.length ≤ 16777216 ∧ Q (.str (Txt.join a ys)) H
theorem rd_join0 {zs : List (List Nat)} {D : Addr} {a : Str} (ha : a.cps.toList = []) (h : H D = some (.lst (zs.map fun z => V.str (S z)))) (hl : zs.flatten.length ≤ 16000000) (k : Q (.str (S zs.flatten)) H) : rJoin K (.str a) [.ref D] H Q := by
  have e : a = S [] := str_ext ha
  subst e
  refine ⟨S [], D, zs.map S, rfl, rfl, Or.inl (SqL.of ?_), ?_, ?_⟩
  · rw [h, List.map_map]; rfl
  · have e : ((zs.map S).map (·.length)) = zs.map (·.length) := by
      rw [List.map_map]
      exact List.map_congr_left fun z _ => S_len z
    rw [e, sum_len_flat, S_len, show ([] : List Nat).length = 0 from rfl, Nat.mul_zero]
    omega
  · rw [join0]; exact k
/-- ''.join([e for k in range(take(bag, n))]), where e draws one text -/
theorem rd_joined {te : TE} {j m : Nat} {vs : List Nat} {a : Str} (P : List Nat → Prop) (hP : ∀ z, P z → z.length ≤ m) (ha : a.cps.toList = []) (h1 : Ev t1 σ H (.ref b)) (h2 : Ev t2 σ H (.int n)) (hb : Bag H b c) (hc : c ≤ 900000000) (n0 : 0 < n) (n1 : n ≤ 1000) (hm : m ≤ 10000)
    (hw : ∀ x, wipe ((wipe σ vs).set j (some x)) vs = wipe σ vs) {s : Int} (s0 : 0 ≤ s) (s1 : s ≤ 1000)
    (he : ∀ (i : Nat) (c' : Int) (H1 : Hp), (i : Int) < n → c' ≤ c + 1 + n * s → Kp b H H1 → Bag H1 b c' → ∀ Q : VK, (∀ z H2, Kp b H1 H2 → Bag H2 b (c' + s) → P z → Q (.str (S z)) H2) → te ((wipe σ vs).set j (some (.int i))) H1 Q)
    (k : ∀ (zs : List (List Nat)) (H' : Hp), (zs.length : Int) < n → (∀ z ∈ zs, P z) → Kp b H H' → Bag H' b (c + 1 + n * s) → Q (.str (S zs.flatten)) H') :
    tM1 (rJoin K) (tC (.str a)) (tLc (iRng1 (tCons (tCall spTake [] E (tCons t1 (tCons t2 tNil))) tNil)) (gName j) tYes te vs) σ H Q := by
  refine ⟨⟨_, rfl⟩, rd_take h1 h2 hb (by omega) n0 (by omega) fun r H1 r0 r1 kp bg => ⟨r, rfl, by omega, by omega, ?_⟩⟩
  have mono : ∀ i : Nat, (i : Int) ≤ n → (i : Int) * s ≤ n * s := fun i hi => Int.mul_le_mul_of_nonneg_right hi s0
  refine lcB (n := r.toNat) (s := s) (c0 := c + 1) (Q := fun y H2 => rJoin K (.str a) [y] H2 Q) (fun v => ∃ z, v = .str (S z) ∧ P z) (by omega) hw bg (fun i c' H2 hi hc' kp2 bg2 Q' q' => ?_) (fun D xs H2 hD kp2 bg2 hd hl hv => ?_)
  · exact he i c' H2 (by omega) (by have := mono i (by omega); omega) (kp.trans kp2) bg2 Q' fun z H3 kp3 bg3 pz => q' _ H3 kp3 bg3 ⟨z, rfl, pz⟩
  · obtain ⟨zs, rfl, hz⟩ := strs_of hv
    rw [List.length_map] at hl
    have hf := flat_len (m := m) fun z hz' => hP z (hz z hz')
    have : zs.length * m ≤ 1000 * 10000 := Nat.mul_le_mul (by omega) hm
    exact rd_join0 ha hd (by omega) (k zs H2 (by omega) hz (kp.trans kp2) (bg2.mono (by have := mono r.toNat (by omega); omega)))
end
/-- repr of data -/
theorem ev_repr {K : PySem.W.Frag} {σ : L2.St} {H : Hp} {te : TE} {d : PyData} (h : Ed K te σ H d) (hs : d.showable = true) (hd : d.depth ≤ 60) (hl : d.shown.length ≤ sizeLine) : Ev (tCB (rReprD K) (tCons te tNil)) σ H (.str d.shown) := fun H1 e Q q =>
  h H1 e _ fun v H2 e2 k => ⟨v, d, rfl, k, hs, hd, hl, q H2 e2⟩
theorem ev_callK {sp : Sp} {gV : List V → List V → List V} {E : XK} {tk : TA} {zs : List V} {z : V} {σ : L2.St} {H : Hp} (h : EvA tk σ H zs) (hs : SpV sp (gV [] zs) H z) : Ev (tCallK sp gV E tNil tk) σ H z := fun H1 e Q q =>
  h H1 e _ fun H2 e2 => hs H2 (e.trans e2) Q (fun H3 e3 => q H3 (e2.trans e3)) E
theorem kb1 {K : PySem.W.Frag} {fd : FuncData} {p : Str} (h1 : ∀ w, bindArgs fd ⟨[], [(p, w)]⟩ = pure [(p, w)]) (h2 : ∀ u, bindArgs fd ⟨[u], []⟩ = pure [(p, u)]) : KBinds K fd [p] [p] (fun us ws => us ++ ws) (fun us ws => us ++ ws) where
  to := fun s us ws _ h => by
    rcases us with _ | ⟨u, us⟩
    · rcases ws with _ | ⟨w, ws⟩
      · simp at h
      · rcases ws with _ | ⟨x, ws⟩
        · exact .of_eq (h1 w)
        · simp at h
    · rcases us with _ | ⟨x, us⟩
      · rcases ws with _ | ⟨w, ws⟩
        · exact .of_eq (h2 u)
        · simp at h
      · simp at h
  rel := fun r z => r.append z

theorem ena_go {σ : L2.St} {H : Hp} {ta : TA} {n : Nat} {Q : List V → Hp → Prop} (h : EnA ta σ H n) (k : ∀ vs H2, Ex H H2 → vs.length = n → (∀ v ∈ vs, AnyV H2 v) → Q vs H2) : ta σ H Q := h H (Ex.refl _) Q k
theorem AnyV.upd {H : Hp} {p : Addr} {v : V} {xs ys : List V} (h : AnyV H v) : AnyV (L2.upd H p (.lst ys)) v := h.kp (Kp.upd p H _) upd_same
end Kt

set_option Elab.async false
set_option linter.all false
set_option maxRecDepth 100000
set_option maxHeartbeats 2000000
namespace Kt
open PySem PySem.Spec PyProof.Rows L2 Evl
/-! ## texts: where a sign stands first; lower, upper; min of a list; comprehensions over a text that draw -/
section
open PySem.StrLaws PySem.Builtin PySem.Builtin.Str
theorem occ_full (s sub : Str) (hi : Nat) (x : Array Nat) (hx : 1 ≤ x.size) : ∀ (l : List Nat) (f : Nat), (forIn l (x, f) (occBody s sub hi 1)).run.fst = x
  | [], _ => rfl
  | a :: l, f => by
    rw [List.forIn_cons]
    unfold occBody
    rw [if_neg (fun h => absurd h.1.1.1 (by show ¬ x.size < 1; omega))]
    exact occ_full s sub hi x hx l f
theorem occ_found (s sub : Str) (hi : Nat) : ∀ (l : List Nat) (f : Nat), (∀ i ∈ l, f ≤ i) → (forIn l ((#[] : Array Nat), f) (occBody s sub hi 1)).run.fst.toList = (l.find? fun i => decide (i + sub.length ≤ hi ∧ subAt s sub i = true)).toList
  | [], _, _ => rfl
  | a :: l, f, hf => by
    rw [List.forIn_cons]
    have ha : f ≤ a := hf a List.mem_cons_self
    by_cases hc : a + sub.length ≤ hi ∧ subAt s sub a = true
    · rw [List.find?_cons_of_pos (p := fun i => decide (i + sub.length ≤ hi ∧ subAt s sub i = true)) (decide_eq_true hc)]
      unfold occBody
      rw [if_pos ⟨⟨⟨Nat.zero_lt_one, ha⟩, hc.1⟩, hc.2⟩]
      show (forIn l (#[a], a + sub.length) (occBody s sub hi 1)).run.fst.toList = [a]
      rw [occ_full s sub hi #[a] (Nat.le_refl _)]
    · rw [List.find?_cons_of_neg (p := fun i => decide (i + sub.length ≤ hi ∧ subAt s sub i = true)) (by show ¬ decide _ = true; rw [decide_eq_false hc]; exact Bool.false_ne_true)]
      unfold occBody
      rw [if_neg (fun h => hc ⟨h.1.2, h.2⟩)]
      exact occ_found s sub hi l f fun i hi' => hf i (List.mem_cons_of_mem _ hi')
theorem occ_first {l : List Nat} {c j : Nat} (h : l[j]? = some c) (hno : ∀ k, k < j → l[k]? ≠ some c) : occurrences (S l) (S [c]) 0 (S l).length 1 = [j] := by
  rw [occ_eq, occ_found _ _ _ _ _ fun _ _ => Nat.zero_le _]
  have e : (List.range' 0 ((S l).length + 1 - 0)).find? (fun i => decide (i + (S [c]).length ≤ (S l).length ∧ subAt (S l) (S [c]) i = true)) = some j := by
    rw [List.find?_range'_eq_some]
    refine ⟨decide_eq_true ((subAt_one (S l) c j).mpr h), ?_, fun k _ hk => ?_⟩
    · have := (List.getElem?_eq_some_iff.mp h).1
      rw [List.mem_range'_1, S_len]
      omega
    · have : ¬ (k + (S [c]).length ≤ (S l).length ∧ subAt (S l) (S [c]) k = true) := fun z => hno k hk ((subAt_one (S l) c k).mp z)
      rw [decide_eq_false this]
      rfl
  rw [e]
  rfl
end
section
variable {K : PySem.W.Frag} {σ : L2.St} {H : Hp} {te ta tb to : TE} {l : List Nat}
theorem ev_index {c j : Nat} (h : Ev to σ H (.str (S l))) (k : Ev te σ H (.str (S [c]))) (hj : l[j]? = some c) (hno : ∀ k, k < j → l[k]? ≠ some c) :
    Ev (tM1 (fun x xs H Q => ∃ a b i rest, x = V.str a ∧ xs = [.str b] ∧ Builtin.Str.occurrences a b 0 a.length 1 = i :: rest ∧ Q (.int (i : Nat)) H) to te) σ H (.int (j : Int)) := fun H1 e Q q =>
  h H1 e _ fun H2 e2 => ⟨⟨_, rfl⟩, k H2 (e.trans e2) _ fun H3 e3 => ⟨S l, S [c], j, [], rfl, rfl, occ_first hj hno, q H3 (e2.trans e3)⟩⟩
/-- text[n:n + m] | text[n:] | text[:n] | sign * m -/
theorem ev_slNN {n : Nat} (m : Nat) (h : Ev te σ H (.str (S l))) (h1 : Ev ta σ H (.int (n : Int))) (h2 : Ev tb σ H (.int ((n : Int) + (m : Int)))) (hl : l.length ≤ 16000000) : Ev (tSl rSlS te (tPart ta) (tPart tb)) σ H (.str (S ((l.drop n).take m))) := by
  have q := ev_slS h (eo_some h1) (eo_some h2) hl
  have e : ((n : Int) + (m : Int)) = ((n + m : Nat) : Int) := by omega
  rw [e, cut_nn, Nat.add_sub_cancel_left] at q
  exact q
theorem ev_slN {n : Nat} (h : Ev te σ H (.str (S l))) (h1 : Ev ta σ H (.int (n : Int))) (hl : l.length ≤ 16000000) : Ev (tSl rSlS te (tPart ta) tNoPart) σ H (.str (S (l.drop n))) := by
  have q := ev_slS h (eo_some h1) eo_none hl
  rw [cut_n] at q
  exact q
theorem ev_slTo {n : Nat} (h : Ev te σ H (.str (S l))) (h1 : Ev ta σ H (.int (n : Int))) (hl : l.length ≤ 16000000) : Ev (tSl rSlS te tNoPart (tPart ta)) σ H (.str (S (l.take n))) := by
  have q := ev_slS h eo_none (eo_some h1) hl
  rw [cut_to] at q
  exact q
theorem rep1 (q k : Nat) : (List.replicate k [q]).flatten = List.replicate k q := by
  induction k with
  | zero => rfl
  | succ k ih => rw [List.replicate_succ, List.flatten_cons, ih]; rfl
theorem ev_mulC {q : Nat} (m : Nat) (h : Ev te σ H (.str (S [q]))) (hm : m ≤ 100000) : Ev (tOp rMulS te (tC (.int (m : Int)))) σ H (.str (S (List.replicate m q))) := by
  have h := ev_op h (ev_c (v := V.int (m : Int))) (rv_mulS (a := [q]) (n := (m : Int)) (by omega) (by omega) (by simp; omega))
  rw [Int.toNat_natCast, rep1] at h
  exact h
theorem lower_S (h : ∀ c ∈ l, c < 128) : Txt.lower (S l) = S (l.map lo1) := by
  rw [lower_ascii (x := S l) h]
  apply str_ext
  show ((S l).cps.map lo1).toList = _
  simp [S]
theorem upper_S (h : ∀ c ∈ l, c < 128) : Txt.upper (S l) = S (l.map up1) := by
  rw [upper_ascii (x := S l) h]
  apply str_ext
  show ((S l).cps.map up1).toList = _
  simp [S]
theorem ev_lower (h : Ev to σ H (.str (S l))) (ha : ∀ c ∈ l, c < 128) (hl : l.length ≤ 5000000) : Ev (tM0 (fun x xs H Q => ∃ a, x = V.str a ∧ xs = [] ∧ a.length ≤ 5592405 ∧ Q (.str (Txt.lower a)) H) to) σ H (.str (S (l.map lo1))) := fun H1 e Q q =>
  h H1 e _ fun H2 e2 => ⟨⟨_, rfl⟩, S l, rfl, rfl, by rw [S_len]; omega, by rw [lower_S ha]; exact q H2 e2⟩
theorem ev_upper (h : Ev to σ H (.str (S l))) (ha : ∀ c ∈ l, c < 128) (hl : l.length ≤ 5000000) : Ev (tM0 (fun x xs H Q => ∃ a, x = V.str a ∧ xs = [] ∧ a.length ≤ 5592405 ∧ Q (.str (Txt.upper a)) H) to) σ H (.str (S (l.map up1))) := fun H1 e Q q =>
  h H1 e _ fun H2 e2 => ⟨⟨_, rfl⟩, S l, rfl, rfl, by rw [S_len]; omega, by rw [upper_S ha]; exact q H2 e2⟩
theorem up1_lt {c : Nat} (h : c < 128) : up1 c < 128 := by unfold up1; split <;> omega
theorem lo1_lt {c : Nat} (h : c < 128) : lo1 c < 128 := by unfold lo1; split <;> omega
theorem ev_min {p : Addr} {ns : List Int} {m : Int} (h : Ev te σ H (.ref p)) (hs : SqL K H p (ns.map V.int)) (hm : m ∈ ns) (ht : ∀ y ∈ ns, m ≤ y) : Ev (tCB (rMin K) (tCons te tNil)) σ H (.int m) := fun H1 e Q q =>
  h H1 e _ fun H2 e2 => ⟨p, ns, rfl, ex_l (e.trans e2) hs, List.length_pos_of_mem hm, fun m' h1 h2 => by
    have : m' = m := by have := h2 m hm; have := ht m' h1; omega
    rw [this]
    exact q H2 e2⟩
theorem ev_eqD {d e : PyData} (h : Ed K ta σ H d) (k : Ed K tb σ H e) (sd : SeqAt.shaped d = true) (se : SeqAt.shaped e = true) : Ev (tOp (rEqD K) ta tb) σ H (.bl (PyData.eqv d e)) := fun H1 e1 Q q =>
  h H1 e1 _ fun v H2 e2 r1 => k H2 (e1.trans e2) _ fun w H3 e3 r2 => ⟨d, e, dp_mono e3 r1, r2, sd, se, q H3 (e2.trans e3)⟩
theorem ev_neD {d e : PyData} (h : Ed K ta σ H d) (k : Ed K tb σ H e) (sd : SeqAt.shaped d = true) (se : SeqAt.shaped e = true) : Ev (tOp (rNeD K) ta tb) σ H (.bl (!PyData.eqv d e)) := fun H1 e1 Q q =>
  h H1 e1 _ fun v H2 e2 r1 => k H2 (e1.trans e2) _ fun w H3 e3 r2 => ⟨d, e, dp_mono e3 r1, r2, sd, se, q H3 (e2.trans e3)⟩
theorem ev_intB {b : Bool} (h : Ev te σ H (.bl b)) : Ev (tCB (fun xs H Q => (∃ i, xs = [V.int i] ∧ Q (.int i) H) ∨ ∃ k, xs = [.bl k] ∧ Q (.int (if k then 1 else 0)) H) (tCons te tNil)) σ H (.int (if b then 1 else 0)) := fun H1 e Q q =>
  h H1 e _ fun H2 e2 => Or.inr ⟨b, rfl, q H2 e2⟩
theorem s_par {D : Ends} {i j : Nat} {v w : V} (h1 : Ev ta σ H v) (h2 : Ev tb σ H w) (k : ∀ H1, Ex H H1 → D.nx ((σ.set i (some v)).set j (some w)) H1) : tPar i j (tCons ta (tCons tb tNil)) D σ H :=
  ea_cons h1 (ea_cons h2 ea_nil) H (Ex.refl _) _ fun H1 e => ⟨v, w, rfl, k H1 e⟩
theorem q_par {D : Ends} {tz : TS} {i j : Nat} {v w : V} (h1 : Ev ta σ H v) (h2 : Ev tb σ H w) (k : ∀ H1, Ex H H1 → tz D ((σ.set i (some v)).set j (some w)) H1) : tSeq (tPar i j (tCons ta (tCons tb tNil))) tz D σ H :=
  s_par (D := { D with nx := tz D }) h1 h2 k
variable {t : TT} {j : Nat} {vs : List Nat} {tl : TE}
/-- over a tuple that is made there -/
theorem el_lcU {xs : List V} (f : V → Bool) (g : V → V) (h : EvU tl σ H xs) (hz : xs.length ≤ 90000) (hw : ∀ x, wipe ((wipe σ vs).set j (some x)) vs = wipe σ vs)
    (ht : ∀ x, x ∈ xs → ∀ H1, Ex H H1 → EvT t ((wipe σ vs).set j (some x)) H1 (f x)) (he : ∀ x, x ∈ xs → f x = true → ∀ H1, Ex H H1 → Ev te ((wipe σ vs).set j (some x)) H1 (g x)) :
    EvL (tLc (iTup K tl) (gName j) t te vs) σ H ((xs.filter f).map g) := fun H0 e Q q => h H0 e _ fun a H1 ha e1 hx => by
  refine ⟨a, rfl, ⟨xs, st_of hx⟩, fun Dl hD => ?_⟩
  exact lcG (H := H1) (Qd := fun H' => Q (.ref Dl) H') (walk_tup (K := K)) (fun i H2 x H3 hi y => y) f g hz hw (fun H' e' => st_of (e' _ _ hx)) (fun x hx' H2 e2 => ht x hx' H2 ((e.trans e1).trans e2))
    (fun x hx' hf H2 e2 => he x hx' hf H2 ((e.trans e1).trans e2)) hD (fun H' e' hd => q Dl H' (fresh_back e1 hD) (e1.trans e') hd)
variable {b : Addr} {c0 : Int} {Q : VK}
/-- [e for c in text], where e draws up to s numbers from the bag at b -/
theorem lcBS {s : Int} (s0 : 0 ≤ s) (PV : V → Prop) (h : Ev tl σ H (.str (S l))) (hn : l.length ≤ 90000) (hw : ∀ x, wipe ((wipe σ vs).set j (some x)) vs = wipe σ vs) (hb : Bag H b c0)
    (he : ∀ (x : Nat) (c : Int) (H1 : Hp), x ∈ l → c ≤ c0 + l.length * s → Kp b H H1 → Bag H1 b c → ∀ Q : VK, (∀ v H2, Kp b H1 H2 → Bag H2 b (c + s) → PV v → Q v H2) → te ((wipe σ vs).set j (some (.str (S [x])))) H1 Q)
    (q : ∀ (D : Addr) (xs : List V) (H' : Hp), H D = none → Kp b H H' → Bag H' b (c0 + l.length * s) → H' D = some (.lst xs) → xs.length = l.length → (∀ v ∈ xs, PV v) → Q (.ref D) H') :
    tLc (iStr tl) (gName j) tYes te vs σ H Q := h H (Ex.refl _) _ fun H0 e0 => by
  refine ⟨S l, rfl, fun D hD => ?_⟩
  have bD := (hb.ex e0).ne hD
  have w := walk_str (z := S l)
  have hlen : (S l).cps.size = l.length := by simp [S]
  rw [hlen] at w
  refine lc_it w (Pv := fun i H' => ∃ xs, Kp b H H' ∧ Bag H' b (c0 + i * s) ∧ H' D = some (.lst xs) ∧ xs.length = i ∧ ∀ v ∈ xs, PV v) ⟨[], (Kp.of e0).trans (Kp.of (Ex.new hD)), ?_, upd_same, rfl, fun _ h => absurd h List.not_mem_nil⟩ (fun _ _ _ _ => trivial) ?_ (fun H' p => ?_)
  · refine ((hb.ex e0).upd bD).mono ?_
    simp
  · rintro i x H1 H2 hi ⟨xs, kp, bg, hd, hl, hv⟩ ⟨rfl, c, hc, rfl⟩
    have hc' : c ∈ l := by
      have : l[i]? = some c := by
        have := hc
        simpa [S] using this
      exact List.mem_of_getElem? this
    have m1 : (i : Int) * s ≤ l.length * s := Int.mul_le_mul_of_nonneg_right (by omega) s0
    refine ⟨hw _, he c _ H2 hc' (by omega) kp bg _ fun v H3 k2 b2 pv => ⟨xs, k2 _ _ hd (Ne.symm bD), sz_lt (by omega), xs ++ [v], ?_, ?_, upd_same, by simp [hl], fun w hw' => ?_⟩⟩
    · intro a o e ne
      by_cases z : a = D
      · subst z
        exact absurd (e0 _ _ e) (by rw [hD]; exact fun y => nomatch y)
      · rw [upd_ne z]
        exact (kp.trans k2) a o e ne
    · refine (b2.upd bD).mono ?_
      have : ((i + 1 : Nat) : Int) * s = i * s + s := by
        rw [Int.natCast_add, Int.add_mul]
        simp
      omega
    · rcases List.mem_append.mp hw' with z | z
      · exact hv w z
      · rw [List.mem_singleton.mp z]; exact pv
  · obtain ⟨xs, kp, bg, hd, hl, hv⟩ := p
    exact q D xs H' (fresh_back e0 hD) kp bg hd hl hv
end
/-! ## runs of signs -/
theorem tw_lt {α : Type} {p : α → Bool} : ∀ {l : List α} {i : Nat}, i < (l.takeWhile p).length → ∃ c, l[i]? = some c ∧ p c = true
  | [], _, h => absurd h (by simp)
  | c :: r, i, h => by
    rw [List.takeWhile_cons] at h
    cases hc : p c with
    | false => rw [hc, if_neg Bool.false_ne_true] at h; exact absurd h (by simp)
    | true =>
      rw [hc, if_pos rfl] at h
      cases i with
      | zero => exact ⟨c, rfl, hc⟩
      | succ k => exact tw_lt (l := r) (i := k) (by simpa using h)
theorem tw_stop {α : Type} {p : α → Bool} : ∀ {l : List α} {c : α}, l[(l.takeWhile p).length]? = some c → p c = false
  | [], c, h => by simp at h
  | d :: r, c, h => by
    rw [List.takeWhile_cons] at h
    cases hc : p d with
    | false =>
      rw [hc, if_neg Bool.false_ne_true] at h
      have : d = c := by simpa using h
      rw [← this]; exact hc
    | true =>
      rw [hc, if_pos rfl] at h
      exact tw_stop (l := r) (by simpa using h)
theorem tw_eq {α : Type} {p : α → Bool} {l : List α} {k : Nat} {c : α} (h : ∀ i, i < k → ∃ d, l[i]? = some d ∧ p d = true) (hc : l[k]? = some c) (pc : p c = false) : (l.takeWhile p).length = k := by
  rcases Nat.lt_trichotomy (l.takeWhile p).length k with z | z | z
  · obtain ⟨d, h1, h2⟩ := h _ z
    rw [tw_stop h1] at h2
    cases h2
  · exact z
  · obtain ⟨d, h1, h2⟩ := tw_lt z
    rw [hc] at h1
    cases h1
    rw [pc] at h2
    cases h2
theorem tw_le {α : Type} (p : α → Bool) (l : List α) : (l.takeWhile p).length ≤ l.length := (List.takeWhile_prefix p).length_le
theorem take_at {α : Type} {l : List α} {n : Nat} {c : α} (h : c ∈ l.take n) : ∃ i, i < n ∧ l[i]? = some c := by
  obtain ⟨i, hi⟩ := List.mem_iff_getElem?.mp h
  rw [List.getElem?_take] at hi
  split at hi
  · exact ⟨i, ‹_›, hi⟩
  · cases hi
/-- ints as data -/
theorem dpa_ints {K : PySem.W.Frag} {H : Hp} : ∀ ns : List Int, DpAll K H (ns.map V.int) (ns.map PyData.int)
  | [] => .nil
  | n :: r => .cons (.int n) (dpa_ints r)
/-! ## drawn texts: no longer than n, of ASCII signs -/
def Asc (z : List Nat) : Prop := ∀ c ∈ z, c < 128
def Tz (n : Nat) (v : V) : Prop := ∃ z, v = .str (S z) ∧ z.length ≤ n ∧ Asc z
def tzB (n : Nat) : V → Bool
  | .str x => decide (x.cps.toList.length ≤ n) && x.cps.toList.all fun c => decide (c < 128)
  | _ => false
theorem tz_of {n : Nat} {v : V} (h : tzB n v = true) : Tz n v := by
  cases v with
  | str x =>
    obtain ⟨h1, h2⟩ := Bool.and_eq_true_iff.mp (show (decide (x.cps.toList.length ≤ n) && x.cps.toList.all fun c => decide (c < 128)) = true from h)
    exact ⟨x.cps.toList, by rw [S_of], of_decide_eq_true h1, fun c hc => of_decide_eq_true (List.all_eq_true.mp h2 c hc)⟩
  | _ => cases h
theorem tz_all {n : Nat} {xs : List V} (h : xs.all (tzB n) = true) : ∀ v ∈ xs, Tz n v := fun v hv => tz_of (List.all_eq_true.mp h v hv)
theorem Asc.app {a b : List Nat} (h : Asc a) (k : Asc b) : Asc (a ++ b) := fun c hc => by
  rcases List.mem_append.mp hc with z | z
  · exact h c z
  · exact k c z
theorem Asc.flat {zs : List (List Nat)} (h : ∀ z ∈ zs, Asc z) : Asc zs.flatten := fun c hc => by
  obtain ⟨z, hz, h2⟩ := List.mem_flatten.mp hc
  exact h z hz c h2
theorem Asc.take {a : List Nat} (h : Asc a) (n : Nat) : Asc (a.take n) := fun c hc => h c (List.mem_of_mem_take hc)
theorem any_of {H : Hp} {z : List Nat} (h : z.length ≤ 50000) (ha : Asc z) : AnyV H (.str (S z)) := .str _ (by rw [S_len]; exact h) ha
theorem Tz.any {H : Hp} {n : Nat} {v : V} (h : Tz n v) (hn : n ≤ 50000) : AnyV H v := by
  obtain ⟨z, rfl, h1, h2⟩ := h
  exact any_of (by omega) h2
section
variable {K : PySem.W.Frag} {σ : L2.St} {H : Hp} {ta tb te : TE} {x v : V} {r : R2} {Q : VK}
theorem op_l (h : Ev ta σ H x) (k : ∀ H1, Ex H H1 → tb σ H1 fun y H2 => r x y H2 Q) : tOp r ta tb σ H Q := h H (Ex.refl _) _ k
theorem ea_l {tr : TA} {Q : List V → Hp → Prop} (h : Ev te σ H x) (k : ∀ H1, Ex H H1 → tr σ H1 fun vs H2 => Q (x :: vs) H2) : tCons te tr σ H Q := h H (Ex.refl _) _ k
theorem rc_isBool (h : AnyV H v) : RC (rIsi K) [v, .ty "bool"] H (.bl (isBool v)) := by
  cases h with
  | non => exact rc_isi (fun _ _ => .base .non) (show kitB "NoneType" "bool" = some false by decide +kernel)
  | bl b => exact rc_isi (fun _ _ => .base (.bl b)) (show kitB "bool" "bool" = some true by decide +kernel)
  | int i => exact rc_isi (fun _ _ => .base (.int i)) (show kitB "int" "bool" = some false by decide +kernel)
  | str x h a => exact rc_isi (fun _ _ => .base (.str x)) (show kitB "str" "bool" = some false by decide +kernel)
  | lst h => exact rc_isi (fun _ e => .base (.lst (e _ _ h))) (show kitB "list" "bool" = some false by decide +kernel)
  | tup h => exact rc_isi (fun _ e => .base (.tup (e _ _ h))) (show kitB "tuple" "bool" = some false by decide +kernel)
theorem rc_isInt (h : AnyV H v) : RC (rIsi K) [v, .ty "int"] H (.bl (isInt v || isBool v)) := by
  cases h with
  | non => exact rc_isi (fun _ _ => .base .non) (show kitB "NoneType" "int" = some false by decide +kernel)
  | bl b => exact rc_isi (fun _ _ => .base (.bl b)) (show kitB "bool" "int" = some true by decide +kernel)
  | int i => exact rc_isi (fun _ _ => .base (.int i)) (show kitB "int" "int" = some true by decide +kernel)
  | str x h a => exact rc_isi (fun _ _ => .base (.str x)) (show kitB "str" "int" = some false by decide +kernel)
  | lst h => exact rc_isi (fun _ e => .base (.lst (e _ _ h))) (show kitB "list" "int" = some false by decide +kernel)
  | tup h => exact rc_isi (fun _ e => .base (.tup (e _ _ h))) (show kitB "tuple" "int" = some false by decide +kernel)
end
/-! ## raw steps, for what draws: the shape of what is left stays plain -/
section
variable {K : PySem.W.Frag} {σ : L2.St} {H : Hp} {ta tb te : TE} {ts tr : TA} {x v : V} {r : R2} {Q : VK} {D : Ends} {tz tu tw : TS} {t : TT} {i : Nat} {sp : Sp} {dvs : List V} {E : XK}
theorem q_asgQ (h : te σ H fun v H1 => tz D (σ.set i (some v)) H1) : tSeq (tAsg te (gName i)) tz D σ H := h
theorem s_asgQ (h : te σ H fun v H1 => D.nx (σ.set i (some v)) H1) : tAsg te (gName i) D σ H := h
theorem s_retQ (h : te σ H D.rt) : tRet te D σ H := h
theorem call_Q (h : ts σ H fun vs H1 => sp (vs ++ dvs) H1 Q E) : tCall sp dvs E ts σ H Q := h
theorem cb_Q {r : List V → Hp → VK → Prop} (h : ts σ H fun vs H1 => r vs H1 Q) : tCB r ts σ H Q := h
theorem ea_q {Q : List V → Hp → Prop} (h : te σ H fun v H1 => tr σ H1 fun vs H2 => Q (v :: vs) H2) : tCons te tr σ H Q := h
theorem ea_Q {vs : List V} {Q : List V → Hp → Prop} (h : EvA ts σ H vs) (k : ∀ H1, Ex H H1 → Q vs H1) : ts σ H Q := h H (Ex.refl _) Q k
theorem ev_Q (h : Ev te σ H v) (k : ∀ H1, Ex H H1 → Q v H1) : te σ H Q := h H (Ex.refl _) Q k
theorem ea_n {Q : List V → Hp → Prop} (h : Q [] H) : tNil σ H Q := h
theorem op_q (h : ta σ H fun x H1 => tb σ H1 fun y H2 => r x y H2 Q) : tOp r ta tb σ H Q := h
theorem lst_Q (h : ts σ H fun vs H1 => vs.length ≤ sizeLine ∧ ∀ p, H1 p = none → Q (.ref p) (upd H1 p (.lst vs))) : tLst ts σ H Q := h
theorem tup_Q (h : ts σ H fun vs H1 => vs.length ≤ sizeLine ∧ ∀ p, H1 p = none → Q (.ref p) (upd H1 p (.tup vs))) : tTup ts σ H Q := h
theorem if_Q (h : t σ H fun c H1 => if c = true then ta σ H1 Q else tb σ H1 Q) : tIf t ta tb σ H Q := h
theorem app_Q {a : TE} (h : a σ H fun l H1 => tyV K "list" l H1 ∧ te σ H1 fun v H2 => rAppend l [v] H2 fun _ H3 => tz D σ H3) : tSeq (tDrop (tBM K "list" rAppend a (tCons te tNil))) tz D σ H := h
theorem sapp_Q {a : TE} (h : a σ H fun l H1 => tyV K "list" l H1 ∧ te σ H1 fun v H2 => rAppend l [v] H2 fun _ H3 => D.nx σ H3) : tDrop (tBM K "list" rAppend a (tCons te tNil)) D σ H := h
theorem m1_Q {r : V → List V → Hp → VK → Prop} {a : TE} (h : a σ H fun x H1 => (∃ z, x = .str z) ∧ te σ H1 fun y H2 => r x [y] H2 Q) : tM1 r a te σ H Q := h
end
end Kt

set_option Elab.async false
set_option linter.all false
set_option maxRecDepth 100000
set_option maxHeartbeats 4000000
namespace K05
open PySem PySem.Spec PyProof.Rows L2 Evl Kt
local macro_rules | `(tactic| walk_at "any") => `(tactic| (repeat' first
  | exact ena_nil
  | apply ena_cons
  | exact en_c .non
  | exact en_c (.bl _)
  | exact en_c (.int _)
  | exact en_c (.str _ (by decide +kernel) (by decide +kernel))
  | exact en_of (ev_un ev_c ru_neg) (.int _)
  | exact en_of (ev_op ev_c ev_c (rv_I ⟨by decide, by decide, by decide⟩)) (.int _)
  | apply en_tup
  | apply en_lst))

def top (i : Nat) : Stmt := PySem.Challenge.pw_indentokens_k05_strings_known.main.body.getD i (.Pass ⟨0, 0, 0, 0⟩)
abbrev s_is_word_character : Stmt := top 7
abbrev N_is_word_character : List Str := ["character"]
theorem sc_is_word_character : FnScope N_is_word_character ["character"] (defScope s_is_word_character) := ⟨rfl, rfl, rfl, by decide +kernel, rfl, by decide +kernel, by decide +kernel⟩
abbrev s_name_end : Stmt := top 8
abbrev N_name_end : List Str := ["text", "at"]
theorem sc_name_end : FnScope N_name_end ["text", "at"] (defScope s_name_end) := ⟨rfl, rfl, rfl, by decide +kernel, rfl, by decide +kernel, by decide +kernel⟩
abbrev s_quote_at : Stmt := top 9
abbrev N_quote_at : List Str := ["text", "at", "is_final", "quote"]
theorem sc_quote_at : FnScope N_quote_at ["text", "at", "is_final"] (defScope s_quote_at) := ⟨rfl, rfl, rfl, by decide +kernel, rfl, by decide +kernel, by decide +kernel⟩
abbrev s_string_end : Stmt := top 10
abbrev N_string_end : List Str := ["text", "at", "quote", "is_final"]
theorem sc_string_end : FnScope N_string_end ["text", "at", "quote", "is_final"] (defScope s_string_end) := ⟨rfl, rfl, rfl, by decide +kernel, rfl, by decide +kernel, by decide +kernel⟩
abbrev s_is_string : Stmt := top 11
abbrev N_is_string : List Str := ["thing", "at", "quote"]
theorem sc_is_string : FnScope N_is_string ["thing"] (defScope s_is_string) := ⟨rfl, rfl, rfl, by decide +kernel, rfl, by decide +kernel, by decide +kernel⟩
abbrev s__law_bag : Stmt := top 13
abbrev N__law_bag : List Str := ["_law_script", "_law_at", "_law_cell", "_law_digits"]
theorem sc__law_bag : FnScope N__law_bag ["_law_script", "_law_at"] (defScope s__law_bag) := ⟨rfl, rfl, rfl, by decide +kernel, rfl, by decide +kernel, by decide +kernel⟩
abbrev s__law_take : Stmt := top 14
abbrev N__law_take : List Str := ["_law_bag_here", "_law_many", "_law_digit"]
theorem sc__law_take : FnScope N__law_take ["_law_bag_here", "_law_many"] (defScope s__law_take) := ⟨rfl, rfl, rfl, by decide +kernel, rfl, by decide +kernel, by decide +kernel⟩
abbrev s__law_any : Stmt := top 15
abbrev N__law_any : List Str := ["_law_bag_here", "_law_objects", "_law_some"]
theorem sc__law_any : FnScope N__law_any ["_law_bag_here", "_law_objects"] (defScope s__law_any) := ⟨rfl, rfl, rfl, by decide +kernel, rfl, by decide +kernel, by decide +kernel⟩
abbrev s__law_is_string : Stmt := top 16
abbrev N__law_is_string : List Str := ["_law_item", "_law_spots", "_law_rest", "_law_sign", "_law_quote", "_law_at"]
theorem sc__law_is_string : FnScope N__law_is_string ["_law_item"] (defScope s__law_is_string) := ⟨rfl, rfl, rfl, by decide +kernel, rfl, by decide +kernel, by decide +kernel⟩
abbrev s__law_cased : Stmt := top 17
abbrev N__law_cased : List Str := ["_law_bag_here", "_law_prefix", "_law_sign"]
theorem sc__law_cased : FnScope N__law_cased ["_law_bag_here", "_law_prefix"] (defScope s__law_cased) := ⟨rfl, rfl, rfl, by decide +kernel, rfl, by decide +kernel, by decide +kernel⟩
abbrev s__law_quoted : Stmt := top 18
abbrev N__law_quoted : List Str := ["_law_bag_here", "_law_prefix", "_law_quote", "_law_parts", "_law_inside", "_law_turn"]
theorem sc__law_quoted : FnScope N__law_quoted ["_law_bag_here"] (defScope s__law_quoted) := ⟨rfl, rfl, rfl, by decide +kernel, rfl, by decide +kernel, by decide +kernel⟩
abbrev s_law : Stmt := top 19
abbrev N_law : List Str := ["_law_script", "_law_menu", "_law_k", "_law_bag_here", "_law_things", "_law_turn", "_law_item", "_law_told", "_law_sign"]
theorem sc_law : FnScope N_law ["_law_script"] (defScope s_law) := ⟨rfl, rfl, rfl, by decide +kernel, rfl, by decide +kernel, by decide +kernel⟩
structure Ads where
  is_word_character : Addr
  d_is_word_character : FuncData
  name_end : Addr
  d_name_end : FuncData
  quote_at : Addr
  d_quote_at : FuncData
  string_end : Addr
  d_string_end : FuncData
  is_string : Addr
  d_is_string : FuncData
  _law_bag : Addr
  d__law_bag : FuncData
  _law_take : Addr
  d__law_take : FuncData
  _law_any : Addr
  d__law_any : FuncData
  _law_is_string : Addr
  d__law_is_string : FuncData
  _law_cased : Addr
  d__law_cased : FuncData
  _law_quoted : Addr
  d__law_quoted : FuncData
  law : Addr
  d_law : FuncData
  r_PLAIN_PREFIXES : Addr
abbrev z_LETTERS : Str := "abcdefghijklmnopqrstuvwxyzABCDEFGHIJKLMNOPQRSTUVWXYZ_"
abbrev z_DIGITS : Str := "0123456789"
abbrev z_QUOTES : Str := "'\""
def tv_PLAIN_PREFIXES : List V := [.str "", .str "r", .str "u", .str "b", .str "br", .str "rb"]
def dd_PLAIN_PREFIXES : PyData := .tuple [.str "", .str "r", .str "u", .str "b", .str "br", .str "rb"]
structure Txt (w : World) (K : PySem.W.Frag) (mg : Str → Option Value) (a : Ads) : Prop where
  F_is_word_character : Fun K "is_word_character" "is_word_character" s_is_word_character a.is_word_character a.d_is_word_character
  b_is_word_character : Binds K a.d_is_word_character ["character"] []
  m_is_word_character : mg "is_word_character" = some (.ref a.is_word_character)
  F_name_end : Fun K "name_end" "name_end" s_name_end a.name_end a.d_name_end
  b_name_end : Binds K a.d_name_end ["text", "at"] []
  m_name_end : mg "name_end" = some (.ref a.name_end)
  F_quote_at : Fun K "quote_at" "quote_at" s_quote_at a.quote_at a.d_quote_at
  b_quote_at : Binds K a.d_quote_at ["text", "at", "is_final"] []
  m_quote_at : mg "quote_at" = some (.ref a.quote_at)
  F_string_end : Fun K "string_end" "string_end" s_string_end a.string_end a.d_string_end
  b_string_end : Binds K a.d_string_end ["text", "at", "quote", "is_final"] []
  m_string_end : mg "string_end" = some (.ref a.string_end)
  F_is_string : Fun K "is_string" "is_string" s_is_string a.is_string a.d_is_string
  b_is_string : Binds K a.d_is_string ["thing"] []
  m_is_string : mg "is_string" = some (.ref a.is_string)
  kb_is_string_thing : KBinds K a.d_is_string ["thing"] ["thing"] (fun us ws => us ++ ws) (fun us ws => us ++ ws)
  F__law_bag : Fun K "_law_bag" "_law_bag" s__law_bag a._law_bag a.d__law_bag
  b__law_bag : Binds K a.d__law_bag ["_law_script", "_law_at"] []
  m__law_bag : mg "_law_bag" = some (.ref a._law_bag)
  F__law_take : Fun K "_law_take" "_law_take" s__law_take a._law_take a.d__law_take
  b__law_take : Binds K a.d__law_take ["_law_bag_here", "_law_many"] []
  m__law_take : mg "_law_take" = some (.ref a._law_take)
  F__law_any : Fun K "_law_any" "_law_any" s__law_any a._law_any a.d__law_any
  b__law_any : Binds K a.d__law_any ["_law_bag_here", "_law_objects"] []
  m__law_any : mg "_law_any" = some (.ref a._law_any)
  F__law_is_string : Fun K "_law_is_string" "_law_is_string" s__law_is_string a._law_is_string a.d__law_is_string
  b__law_is_string : Binds K a.d__law_is_string ["_law_item"] []
  m__law_is_string : mg "_law_is_string" = some (.ref a._law_is_string)
  F__law_cased : Fun K "_law_cased" "_law_cased" s__law_cased a._law_cased a.d__law_cased
  b__law_cased : Binds K a.d__law_cased ["_law_bag_here", "_law_prefix"] []
  m__law_cased : mg "_law_cased" = some (.ref a._law_cased)
  F__law_quoted : Fun K "_law_quoted" "_law_quoted" s__law_quoted a._law_quoted a.d__law_quoted
  b__law_quoted : Binds K a.d__law_quoted ["_law_bag_here"] []
  m__law_quoted : mg "_law_quoted" = some (.ref a._law_quoted)
  F_law : Fun K "law" "law" s_law a.law a.d_law
  b_law : Binds K a.d_law ["_law_script"] []
  m_law : mg "law" = some (.ref a.law)
  n_len : mg "len" = none
  n_abs : mg "abs" = none
  n_max : mg "max" = none
  n_min : mg "min" = none
  n_isinstance : mg "isinstance" = none
  n_range : mg "range" = none
  n_str : mg "str" = none
  n_int : mg "int" = none
  n_bool : mg "bool" = none
  m_LETTERS : ∃ t, mg "LETTERS" = some (.str "abcdefghijklmnopqrstuvwxyzABCDEFGHIJKLMNOPQRSTUVWXYZ_" t)
  m_DIGITS : ∃ t, mg "DIGITS" = some (.str "0123456789" t)
  m_QUOTES : ∃ t, mg "QUOTES" = some (.str "'\"" t)
  m_PLAIN_PREFIXES : mg "PLAIN_PREFIXES" = some (.ref a.r_PLAIN_PREFIXES)
  q_PLAIN_PREFIXES : ∀ H : Hp, SqT K H a.r_PLAIN_PREFIXES tv_PLAIN_PREFIXES
  m_MORE : ∃ t, mg "MORE" = some (.int (-1) t)
  m_WRONG : ∃ t, mg "WRONG" = some (.int (-2) t)
/-! ### the bag of numbers that a law draws from -/
abbrev sp__law_bag (K : PySem.W.Frag) (_ : Ads) : Sp := spBag K
abbrev sp__law_take (_ : PySem.W.Frag) (_ : Ads) : Sp := spTake
theorem ok__law_bag {P : Program} {w : World} {K : PySem.W.Frag} {mg : Str → Option Value} {base : Heap} {a : Ads} (T : Txt w K mg a) :
    FnOk P w K mg base CX0 1 a._law_bag a.d__law_bag ["_law_script", "_law_at"] (sp__law_bag K a) := by
  refine T.F__law_bag.ok sc__law_bag (fun vs H Q E h => ?_) (fun cdv A outer s H vs Q E hr h => ?_)
  · obtain ⟨_, _, _, rfl, _⟩ := h; rfl
  · obtain ⟨b, i, ns, rfl, hS, i0, i1, k⟩ := h
    refine ⟨_, (pss_cons (ps_set (i := 2) sc__law_bag.nd rfl (Or.inl rfl) (pe_ifExp (pt_cmpR op_lt (pv 1) (pe_callB call_len_seq (by rfl) T.n_len b_len (pa_cons (pv 0) pa_nil)) (nomark _)) (pe_ix ix_list (pv 0) (pv 1) (fun _ _ => rfl)) pe_int))
      (pss_cons (ps_set (i := 3) sc__law_bag.nd rfl (Or.inl rfl) (pe_ifExp (pt_cmpR op_ge (pe_callB call_abs (by rfl) T.n_abs b_abs (pa_cons (pv 2) pa_nil)) (pe_op op_pow pe_int pe_int) (nomark _)) (pe_callB call_abs (by rfl) T.n_abs b_abs (pa_cons (pv 2) pa_nil)) pe_int))
      (pss_one (ps_ret (pe_lst (pa_cons (pv 3) (pa_cons (pe_op op_mod (pe_op op_pow (pe_op op_add (pe_op op_add (pe_op op_mod (pv 2) pe_int) (pe_op op_mul pe_int (pv 1))) pe_int) pe_int) pe_int) (pa_cons pe_int pa_nil)))))))), ?_⟩
    obtain ⟨cell, hc⟩ : ∃ cell : Int, if i < ((ns.map V.int).length : Int) then atI (ns.map V.int) i = some (.int cell) else cell = 0 := by
      by_cases hi : i < ((ns.map V.int).length : Int)
      · have hj : i.toNat < ns.length := by rw [List.length_map] at hi; omega
        refine ⟨ns[i.toNat], ?_⟩
        rw [if_pos hi]
        have e : atI (ns.map V.int) ((i.toNat : Nat) : Int) = some (.int ns[i.toNat]) := atI_nat (by rw [List.getElem?_map, List.getElem?_eq_getElem hj]; rfl)
        rw [Int.toNat_of_nonneg i0] at e
        exact e
      · exact ⟨0, by rw [if_neg hi]⟩
    refine q_asg (v := .int cell) (ev_if (et_test (ev_op (ev_var rfl) (ev_cb (ea_cons (ev_var rfl) ea_nil) (fun H1 e Q q => ⟨b, _, rfl, Or.inl (ex_l e hS), q H1 (Ex.refl _)⟩)) rv_I0))
      (fun hb => ev_op (ev_var rfl) (ev_var rfl) (rv_ixL hS ?_)) (fun hb => ?_)) (fun H1 e1 => ?_)
    · rw [if_pos (of_decide_eq_true hb)] at hc; exact hc
    · rw [if_neg (of_decide_eq_false hb)] at hc; subst hc; exact ev_c
    refine q_asg (v := .int (if 10 ^ 18 ≤ (if cell < 0 then -cell else cell) then (if cell < 0 then -cell else cell) else 0)) (ev_if (b := decide (10 ^ 18 ≤ (if cell < 0 then -cell else cell)))
      (et_test (ev_op (ev_cb (ea_cons (ev_var rfl) ea_nil) (fun H1 _ Q q => ⟨cell, rfl, q H1 (Ex.refl _)⟩)) (ev_op ev_c ev_c (rv_I ⟨by decide, by decide, by decide⟩)) rv_I0))
      (fun hb => ?_) (fun hb => ?_)) (fun H2 e2 => ?_)
    · rw [if_pos (of_decide_eq_true hb)]
      exact ev_cb (ea_cons (ev_var rfl) ea_nil) (fun H1 _ Q q => ⟨cell, rfl, q H1 (Ex.refl _)⟩)
    · rw [if_neg (of_decide_eq_false hb)]; exact ev_c
    have h1 := mod_lt cell (n := 2147483647) (by decide)
    refine s_retL (xs := [.int _, .int _, .int 0]) (el_lst (ea_cons (ev_var rfl) (ea_cons (ev_op (ev_op (ev_op (ev_op (ev_op (ev_var rfl) ev_c (rv_I (by decide))) (ev_op ev_c (ev_var rfl) (rv_I (Or.inl ⟨by decide, by decide⟩))) rv_I0) ev_c rv_I0) ev_c (rv_I ⟨by decide, by decide, ?_⟩)) ev_c (rv_I (by decide)))
      (ea_cons ev_c ea_nil))) (by simp)) (fun p H3 hp e3 h3 => ?_)
    · exact nat64 (by omega) (by omega)
    · have h2 := mod_lt ((cell % 2147483647 + 7121 * i + 11) ^ 3) (n := 2147483629) (by decide)
      refine k p H3 (fresh_back (e1.trans e2) hp) ((e1.trans e2).trans e3) ⟨_, _, _, h3, ?_, Int.le_refl _⟩
      refine ⟨?_, h2.1, Int.lt_trans h2.2 (by decide), by decide⟩
      split <;> split <;> omega
theorem ok__law_take {P : Program} {w : World} {K : PySem.W.Frag} {mg : Str → Option Value} {base : Heap} {a : Ads} (T : Txt w K mg a) :
    FnOk P w K mg base CX0 1 a._law_take a.d__law_take ["_law_bag_here", "_law_many"] (sp__law_take K a) := by
  refine T.F__law_take.ok sc__law_take (fun vs H Q E h => ?_) (fun cdv A outer s H vs Q E hr h => ?_)
  · obtain ⟨_, _, _, rfl, _⟩ := h; rfl
  · obtain ⟨b, n, cm, rfl, ⟨d, m, c, hb, g, cle⟩, cl, n0, n1, k⟩ := h
    refine ⟨_, (pss_cons (ps_if (pt_cmpR op_gt (pe_ix ix_list (pv 0) pe_int (fun _ _ => rfl)) pe_int (nomark _)) (pss_cons (ps_set (i := 2) sc__law_take.nd rfl (Or.inl rfl) (pe_op op_mod (pe_ix ix_list (pv 0) pe_int (fun _ _ => rfl)) (pv 1)))
      (pss_cons (ps_asg (pe_op op_fdiv (pe_ix ix_list (pv 0) pe_int (fun _ _ => rfl)) (pv 1)) (pg_sub (pv 0) pe_int set_list))
      (pss_one (ps_ret (pv 2))))) pss_nil)
      (pss_cons (ps_asg (pe_op op_add (pe_ix ix_list (pv 0) pe_int (fun _ _ => rfl)) pe_int) (pg_sub (pv 0) pe_int set_list))
      (pss_cons (ps_asg (pe_op op_mod (pe_op op_add (pe_op op_add (pe_op op_mul (pe_ix ix_list (pv 0) pe_int (fun _ _ => rfl)) pe_int) (pe_op op_mul (pe_op op_mul pe_int (pe_ix ix_list (pv 0) pe_int (fun _ _ => rfl))) (pe_ix ix_list (pv 0) pe_int (fun _ _ => rfl)))) pe_int) pe_int) (pg_sub (pv 0) pe_int set_list))
      (pss_one (ps_ret (pe_op op_mod (pe_op op_mod (pe_op op_pow (pe_op op_fdiv (pe_ix ix_list (pv 0) pe_int (fun _ _ => rfl)) pe_int) pe_int) pe_int) (pv 1))))))), ?_⟩
    obtain ⟨d0, m0, m1, c0⟩ := g
    have sb : ∀ {H1 : Hp}, Ex H H1 → SqL K H1 b [.int d, .int m, .int c] := fun e => sq_of (e _ _ hb)
    refine q_when (et_test (ev_op (ev_op (ev_var rfl) ev_c (rv_ixL (sb (Ex.refl _)) rfl)) ev_c rv_I0)) (fun hd H1 e1 => ?_) (fun hd H1 e1 => ?_)
    · refine q_asg (ev_op (ev_op (ev_var rfl) ev_c (rv_ixL (sb e1) rfl)) (ev_var rfl) (rv_I n0)) (fun H2 e2 => ?_)
      have b2 := (e1.trans e2) _ _ hb
      refine q_setL (j := 0) b2 (ev_op (ev_op (ev_var rfl) ev_c (rv_ixL (sb (e1.trans e2)) rfl)) (ev_var rfl) (rv_I ⟨n0, by omega⟩)) (ev_var rfl) ev_c (by simp) (fun H3 e3 => ?_)
      refine s_ret (ev_var rfl) (fun H4 e4 => ?_)
      have hr := mod_lt d n0
      refine k _ H4 hr.1 hr.2 ?_ ⟨_, _, _, e4 _ _ upd_same, ⟨Int.ediv_nonneg d0 (by omega), m0, m1, c0⟩, by omega⟩
      exact (Kp.of ((e1.trans e2).trans e3)).trans ((Kp.upd b H3 _).trans (Kp.of e4))
    · refine q_setL (j := 2) (e1 _ _ hb) (ev_op (ev_op (ev_var rfl) ev_c (rv_ixL (sb e1) rfl)) ev_c rv_I0) (ev_var rfl) ev_c (by simp) (fun H2 e2 => ?_)
      have b3 : SqL K (upd H2 b (.lst [.int d, .int m, .int (c + 1)])) b [.int d, .int m, .int (c + 1)] := sq_of upd_same
      refine q_setL (j := 1) (xs := [.int d, .int m, .int (c + 1)]) upd_same (ev_op (ev_op (ev_op (ev_op (ev_op (ev_var rfl) ev_c (rv_ixL b3 rfl)) ev_c (rv_I (Or.inl ⟨by omega, by omega⟩)))
        (ev_op (ev_op ev_c (ev_op (ev_var rfl) ev_c (rv_ixL b3 rfl)) (rv_I (Or.inl ⟨by decide, by decide⟩))) (ev_op (ev_var rfl) ev_c (rv_ixL b3 rfl)) (rv_I (Or.inr ⟨by omega, by omega⟩))) rv_I0) ev_c rv_I0) ev_c (rv_I (by decide))) (ev_var rfl) ev_c (by simp) (fun H3 e3 => ?_)
      have hm := mod_lt (m * 48271 + 6607 * (c + 1) * (c + 1) + 5) (n := 2147483647) (by decide)
      have b4 : SqL K (upd H3 b (.lst [.int d, .int ((m * 48271 + 6607 * (c + 1) * (c + 1) + 5) % 2147483647), .int (c + 1)])) b [.int d, .int ((m * 48271 + 6607 * (c + 1) * (c + 1) + 5) % 2147483647), .int (c + 1)] := sq_of upd_same
      refine s_ret (ev_op (ev_op (ev_op (ev_op (ev_op (ev_var rfl) ev_c (rv_ixL b4 rfl)) ev_c (rv_I ⟨by decide, by decide⟩)) ev_c (rv_I ⟨by decide, by decide, ?_⟩)) ev_c (rv_I (by decide))) (ev_var rfl) (rv_I n0)) (fun H4 e4 => ?_)
      · exact nat64 (Int.ediv_nonneg hm.1 (by decide)) (by omega)
      · have hr := mod_lt (((m * 48271 + 6607 * (c + 1) * (c + 1) + 5) % 2147483647 / 16) ^ 3 % 2147483587) n0
        refine k _ H4 hr.1 hr.2 ?_ ⟨_, _, _, e4 _ _ upd_same, ⟨d0, hm.1, hm.2, by omega⟩, by omega⟩
        exact ((Kp.of (e1.trans e2)).trans (Kp.upd b H2 _)).trans ((Kp.of e3).trans ((Kp.upd b H3 _).trans (Kp.of e4)))

/-! ### names -/
def kLET : List Nat := (z_LETTERS : Str).cps.toList
def kDIG : List Nat := (z_DIGITS : Str).cps.toList
def isW (c : Nat) : Bool := decide (c ∈ kLET) || decide (c ∈ kDIG)
/-- where the run of such signs that begins at n ends -/
def nameEnd (l : List Nat) (n : Nat) : Nat := n + ((l.drop n).takeWhile isW).length
theorem nameEnd_more {l : List Nat} {j c : Nat} (h : l[j]? = some c) (hc : isW c = true) : nameEnd l j = nameEnd l (j + 1) := by
  have hj := (List.getElem?_eq_some_iff.mp h)
  obtain ⟨h1, h2⟩ := hj
  unfold nameEnd
  rw [List.drop_eq_getElem_cons h1, h2, List.takeWhile_cons, if_pos hc]
  simp only [List.length_cons]
  omega
theorem nameEnd_stop {l : List Nat} {j c : Nat} (h : l[j]? = some c) (hc : isW c = false) : nameEnd l j = j := by
  obtain ⟨h1, h2⟩ := List.getElem?_eq_some_iff.mp h
  unfold nameEnd
  rw [List.drop_eq_getElem_cons h1, h2, List.takeWhile_cons, if_neg (by rw [hc]; exact Bool.false_ne_true)]
  rfl
theorem nameEnd_end {l : List Nat} {j : Nat} (h : l.length ≤ j) : nameEnd l j = j := by
  unfold nameEnd
  rw [List.drop_of_length_le h]
  rfl
theorem nameEnd_le {l : List Nat} {j : Nat} (h : j ≤ l.length) : nameEnd l j ≤ l.length := by
  unfold nameEnd
  have h1 := (List.takeWhile_prefix isW (l := l.drop j)).length_le
  rw [List.length_drop] at h1
  omega
def sp_is_word_character (_ : PySem.W.Frag) (_ : Ads) : Sp := fun vs H Q _ => ∃ c : Nat, vs = [.str (S [c])] ∧ RetV (.bl (isW c)) H Q
theorem spv_word {K : PySem.W.Frag} {a : Ads} {H : Hp} (c : Nat) : SpV (sp_is_word_character K a) [.str (S [c])] H (.bl (isW c)) := fun H1 _ Q q E => ⟨c, rfl, fun H2 e => q H2 e⟩
theorem ok_is_word_character {P : Program} {w : World} {K : PySem.W.Frag} {mg : Str → Option Value} {base : Heap} {a : Ads} (T : Txt w K mg a) :
    FnOk P w K mg base CX0 1 a.is_word_character a.d_is_word_character ["character"] (sp_is_word_character K a) := by
  refine T.F_is_word_character.ok sc_is_word_character (fun vs H Q E h => ?_) (fun cdv A outer s H vs Q E hr h => ?_)
  · obtain ⟨_, rfl, _⟩ := h; rfl
  · obtain ⟨c, rfl, k⟩ := h
    refine ⟨_, (pss_one (ps_ret (pe_or (pe_cmpR op_in_sign (pv 0) (pe_gstr T.m_LETTERS) rfl) (pe_one (pe_cmpR op_in_sign (pv 0) (pe_gstr T.m_DIGITS) rfl))))), ?_⟩
    exact s_ret (ev_orV (ev_op (ev_var rfl) ev_c rv_inS) fun _ => ev_op (ev_var rfl) ev_c rv_inS) fun H1 e => k H1 e
def sp_name_end (_ : PySem.W.Frag) (_ : Ads) : Sp := fun vs H Q _ => ∃ (l : List Nat) (n : Nat), vs = [.str (S l), .int n] ∧ l.length ≤ 16000000 ∧ n ≤ l.length ∧ RetV (.int (nameEnd l n)) H Q
theorem spv_name_end {K : PySem.W.Frag} {a : Ads} {H : Hp} {l : List Nat} {n : Nat} (h : l.length ≤ 16000000) (hn : n ≤ l.length) : SpV (sp_name_end K a) [.str (S l), .int n] H (.int (nameEnd l n)) := fun H1 _ Q q E => ⟨l, n, rfl, h, hn, fun H2 e => q H2 e⟩
theorem ok_name_end {P : Program} {w : World} {K : PySem.W.Frag} {mg : Str → Option Value} {base : Heap} {a : Ads} (T : Txt w K mg a) (G_is_word_character : FnOk P w K mg base CX0 1 a.is_word_character a.d_is_word_character ["character"] (sp_is_word_character K a)) :
    FnOk P w K mg base CX0 2 a.name_end a.d_name_end ["text", "at"] (sp_name_end K a) := by
  refine T.F_name_end.ok sc_name_end (fun vs H Q E h => ?_) (fun cdv A outer s H vs Q E hr h => ?_)
  · obtain ⟨_, _, rfl, _⟩ := h; rfl
  · obtain ⟨l, n, rfl, hl, hn, k⟩ := h
    refine ⟨_, (pss_cons (ps_while PassesOwn.never (PW.pt (pw_and (pt_cmpR op_lt (pv 1) (pe_callB call_len_str (by rfl) T.n_len b_len (pa_cons (pv 0) pa_nil)) (nomark _)) (pw_and1 (pt_val (pe_call G_is_word_character (hr.mono (by decide)) rfl T.m_is_word_character T.F_is_word_character.kp T.b_is_word_character .nil pass0 (pa_cons (pe_ix ix_str (pv 0) (pv 1) (fun _ _ => rfl)) pa_nil)))))) (pss_one (ps_aug (i := 1) sc_name_end.nd rfl (Or.inl rfl) pe_int ip_add)))
      (pss_one (ps_ret (pv 1)))), ?_⟩
    refine q_while (fun m σ H' => ∃ j : Nat, σ = [some (.str (S l)), some (.int j)] ∧ Ex H H' ∧ j + m = l.length ∧ nameEnd l n = nameEnd l j) (l.length - n) ⟨n, rfl, Ex.refl _, by omega, rfl⟩ ?_
    rintro m σ H' ⟨j, rfl, e, hm, hj⟩
    have lt : ∀ (H1 : Hp), EvT (tTest (tOp (rI0 fun i j => .bl (decide (i < j))) (tVar 1) (tCB (fun xs H Q => ∃ z, xs = [V.str z] ∧ z.length ≤ sizeLine ∧ Q (.int z.length) H) (tCons (tVar 0) tNil)))) [some (.str (S l)), some (.int j)] H1 (decide ((j : Int) < l.length)) :=
      fun H1 => et_test (ev_op (ev_var rfl) (ev_cb (ea_cons (ev_var rfl) ea_nil) (rc_lenS hl)) rv_I0)
    by_cases hlt : j < l.length
    · obtain ⟨c, hc⟩ : ∃ c, l[j]? = some c := ⟨_, List.getElem?_eq_getElem hlt⟩
      refine ⟨decide ((j : Int) < l.length) && isW c, et_and (lt H') (fun _ => et_B (ev_call (ea_cons (ev_op (ev_var rfl) (ev_var rfl) (rv_ixSn hl hc)) ea_nil) (spv_word c))), fun hb H1 e1 => ?_, fun hb H1 e1 => ?_⟩
      · have hw : isW c = true := (Bool.and_eq_true_iff.mp hb).2
        refine ⟨fun σ2 H2 => ∃ j : Nat, σ2 = [some (.str (S l)), some (.int j)] ∧ Ex H H2 ∧ j + (m - 1) = l.length ∧ nameEnd l n = nameEnd l j, fun σ2 H2 z => ⟨m - 1, by omega, z⟩, ?_⟩
        refine s_aug rfl ev_c fun H2 e2 => ⟨j + 1, rfl, (e.trans e1).trans e2, by omega, hj.trans (nameEnd_more hc hw)⟩
      · have hw : isW c = false := by
          rw [decide_eq_true (by omega)] at hb
          exact hb
        refine s_ret (ev_var rfl) fun H2 e2 => ?_
        rw [← nameEnd_stop hc hw, ← hj]
        exact k H2 ((e.trans e1).trans e2)
    · refine ⟨decide ((j : Int) < l.length) && true, et_and (lt H') (fun hb => absurd (of_decide_eq_true hb) (by omega)), fun hb H1 e1 => ?_, fun hb H1 e1 => ?_⟩
      · exact absurd (of_decide_eq_true (Bool.and_eq_true_iff.mp hb).1) (by omega)
      · refine s_ret (ev_var rfl) fun H2 e2 => ?_
        rw [← nameEnd_end (l := l) (j := j) (by omega), ← hj]
        exact k H2 ((e.trans e1).trans e2)

/-! ### any value -/
def sp__law_any (_ : PySem.W.Frag) (_ : Ads) : Sp := fun vs H Q _ => ∃ (b o : Addr) (c : Int), vs = [.ref b, .ref o] ∧ Bag H b c ∧ c ≤ 1000000000 ∧ H o = some (.lst []) ∧
  ∀ (v : V) (H' : Hp), Kp b H H' → Bag H' b (c + 1) → AnyV H' v → Q v H'
theorem ok__law_any {P : Program} {w : World} {K : PySem.W.Frag} {mg : Str → Option Value} {base : Heap} {a : Ads} (T : Txt w K mg a) (G__law_take : FnOk P w K mg base CX0 1 a._law_take a.d__law_take ["_law_bag_here", "_law_many"] (sp__law_take K a)) :
    FnOk P w K mg base CX0 2 a._law_any a.d__law_any ["_law_bag_here", "_law_objects"] (sp__law_any K a) := by
  refine T.F__law_any.ok sc__law_any (fun vs H Q E h => ?_) (fun cdv A outer s H vs Q E hr h => ?_)
  · obtain ⟨_, _, _, rfl, _⟩ := h; rfl
  · obtain ⟨b, o, c, rfl, hb, cl, ho, k⟩ := h
    refine ⟨_, (pss_cons (ps_set (i := 2) sc__law_any.nd rfl (Or.inl rfl) (pe_lst (pa_cons pe_non (pa_cons pe_bl (pa_cons pe_bl (pa_cons pe_int (pa_cons pe_int (pa_cons (pe_un un_neg pe_int) (pa_cons pe_int (pa_cons (pe_op op_pow pe_int pe_int) (pa_cons pe_str (pa_cons pe_str (pa_cons pe_str (pa_cons pe_str (pa_cons (pe_lst pa_nil) (pa_cons (pe_tup pa_nil) (pa_cons (pe_lst (pa_cons pe_int pa_nil)) (pa_cons (pe_tup (pa_cons pe_int (pa_cons pe_int pa_nil))) (pa_cons (pe_tup (pa_cons pe_bl (pa_cons pe_int pa_nil))) (pa_cons (pe_tup (pa_cons pe_int (pa_cons pe_bl pa_nil))) pa_nil))))))))))))))))))))
      (pss_cons (ps_set (i := 2) sc__law_any.nd rfl (Or.inl rfl) (pe_op op_cat (pe_op op_cat (pv 2) (pe_lst (pa_cons (pe_tup (pa_cons pe_str (pa_cons pe_str (pa_cons pe_int pa_nil)))) (pa_cons (pe_lst (pa_cons pe_str pa_nil)) (pa_cons (pe_tup (pa_cons pe_non (pa_cons (pe_lst (pa_cons pe_int pa_nil)) pa_nil))) (pa_cons (pe_tup (pa_cons pe_int (pa_cons (pe_un un_neg pe_int) pa_nil))) (pa_cons (pe_tup (pa_cons pe_int (pa_cons pe_int pa_nil))) (pa_cons (pe_tup (pa_cons pe_int pa_nil)) (pa_cons (pe_tup (pa_cons pe_int (pa_cons pe_int (pa_cons pe_int pa_nil)))) pa_nil))))))))) (pv 1)))
      (pss_one (ps_ret (pe_ix ix_list (pv 2) (pe_call G__law_take (hr.mono (by decide)) rfl T.m__law_take T.F__law_take.kp T.b__law_take .nil pass0 (pa_cons (pv 0) (pa_cons (pe_callB call_len_seq (by rfl) T.n_len b_len (pa_cons (pv 2) pa_nil)) pa_nil))) (fun _ _ => rfl)))))), ?_⟩
    refine qn_asgL (n := 18) (enl_lst ?_ (by decide)) fun p xs H1 hp e1 h1 l1 k1 => ?_
    · walk_at "any"
      all_goals decide
    refine qn_asgL (n := 18 + 7 + 0) (enl_cat2 (xs := []) (n := 0) (m := 18 + 7) (enl_cat1 rfl h1 k1 (enl_lst (n := 7) ?_ (by decide)) l1 (by decide)) (i := 1) rfl (e1 _ _ ho) (fun _ h => absurd h List.not_mem_nil) rfl (by decide)) fun q ys H2 hq e2 h2 l2 k2 => ?_
    · walk_at "any"
      all_goals decide
    have hb2 := (hb.ex e1).ex e2
    refine ⟨_, rfl, _, rfl, _, rfl, q, ys, rfl, Or.inl (SqL.of h2), ?_⟩
    refine ⟨b, (ys.length : Int), c, rfl, hb2, cl, by omega, by omega, fun r H3 r0 r1 kp hb3 => ?_⟩
    have nq : q ≠ b := ((hb.ex e1).ne hq).symm
    have hq3 := kp _ _ h2 nq
    have hr : r.toNat < ys.length := by omega
    have hv := List.getElem?_eq_getElem hr
    have ha : atI ys r = some ys[r.toNat] := by
      have := atI_nat hv
      rw [Int.toNat_of_nonneg r0] at this
      exact this
    refine ⟨_, _, _, _, rfl, rfl, SqL.of hq3, ha, ?_⟩
    obtain ⟨zs, hz⟩ := hb3.lst
    exact k _ H3 ((Kp.of (e1.trans e2)).trans kp) hb3 ((k2 _ (List.getElem_mem hr)).kp kp hz)

/-! ### quote_at, string_end -/
def quoteAt (l : List Nat) (n : Nat) (fin : Bool) : List Nat :=
  match l.drop n with
  | [] => []
  | q :: r => if (q :: r).take 3 = [q, q, q] then [q, q, q] else if !fin && (decide (r = []) || decide (q :: r = [q, q])) then [] else [q]
def strEnd (q : List Nat) (fin : Bool) : List Nat → Nat → Int
  | [], _ => if fin then -2 else -1
  | c :: r, n =>
    if c = 92 then match r with
      | [] => if fin then -2 else -1
      | _ :: r' => strEnd q fin r' (n + 2)
    else if (c :: r).take q.length = q then n + q.length
    else if c = 10 ∧ q.length = 1 then -2
    else strEnd q fin r (n + 1)
theorem strEnd_cons {q : List Nat} {fin : Bool} {c n : Nat} {r : List Nat} : strEnd q fin (c :: r) n =
    if c = 92 then strEnd q fin (r.drop 1) (n + 2) else if (c :: r).take q.length = q then n + q.length else if c = 10 ∧ q.length = 1 then -2 else strEnd q fin r (n + 1) := by
  cases r <;> rfl
/-- where a string ends that goes on at n -/
def stringEnd (l : List Nat) (n : Nat) (q : List Nat) (fin : Bool) : Int := strEnd q fin (l.drop n) n
theorem stringEnd_end {l : List Nat} {n : Nat} {q : List Nat} {fin : Bool} (h : l.length ≤ n) : stringEnd l n q fin = if fin then -2 else -1 := by
  unfold stringEnd
  rw [List.drop_of_length_le h]
  rfl
theorem stringEnd_at {l : List Nat} {n c : Nat} {q : List Nat} {fin : Bool} (h : l[n]? = some c) : stringEnd l n q fin =
    if c = 92 then stringEnd l (n + 2) q fin else if (l.drop n).take q.length = q then n + q.length else if c = 10 ∧ q.length = 1 then -2 else stringEnd l (n + 1) q fin := by
  obtain ⟨h1, h2⟩ := List.getElem?_eq_some_iff.mp h
  have e : l.drop n = c :: l.drop (n + 1) := by rw [List.drop_eq_getElem_cons h1, h2]
  have e2 : l.drop (n + 2) = (l.drop (n + 1)).drop 1 := by rw [List.drop_drop]
  unfold stringEnd
  rw [e, e2]
  exact strEnd_cons
theorem quoteAt_at {l : List Nat} {n q : Nat} {fin : Bool} (h : l[n]? = some q) : quoteAt l n fin =
    if (l.drop n).take 3 = [q, q, q] then [q, q, q] else if !fin && (decide (n + 1 = l.length) || decide (l.drop n = [q, q])) then [] else [q] := by
  obtain ⟨h1, h2⟩ := List.getElem?_eq_some_iff.mp h
  have e : l.drop n = q :: l.drop (n + 1) := by rw [List.drop_eq_getElem_cons h1, h2]
  have e3 : decide (l.drop (n + 1) = []) = decide (n + 1 = l.length) := decide_eq_decide.mpr (by rw [List.drop_eq_nil_iff]; omega)
  unfold quoteAt
  rw [e]
  show (if _ then _ else if (!fin && (decide (l.drop (n + 1) = []) || _)) = true then _ else _) = _
  rw [e3]
theorem quoteAt_len (l : List Nat) (n : Nat) (fin : Bool) : (quoteAt l n fin).length ≤ 3 := by
  unfold quoteAt
  split
  · simp
  · split
    · simp
    · split <;> simp
def sp_quote_at (_ : PySem.W.Frag) (_ : Ads) : Sp := fun vs H Q _ => ∃ (l : List Nat) (n : Nat) (fin : Bool), vs = [.str (S l), .int n, .bl fin] ∧ l.length ≤ 15000000 ∧ n < l.length ∧ RetV (.str (S (quoteAt l n fin))) H Q
theorem spv_quote_at {K : PySem.W.Frag} {a : Ads} {H : Hp} {l : List Nat} {n : Nat} {fin : Bool} (h : l.length ≤ 15000000) (hn : n < l.length) : SpV (sp_quote_at K a) [.str (S l), .int n, .bl fin] H (.str (S (quoteAt l n fin))) := fun H1 _ Q q E => ⟨l, n, fin, rfl, h, hn, fun H2 e => q H2 e⟩
theorem ok_quote_at {P : Program} {w : World} {K : PySem.W.Frag} {mg : Str → Option Value} {base : Heap} {a : Ads} (T : Txt w K mg a) :
    FnOk P w K mg base CX0 1 a.quote_at a.d_quote_at ["text", "at", "is_final"] (sp_quote_at K a) := by
  refine T.F_quote_at.ok sc_quote_at (fun vs H Q E h => ?_) (fun cdv A outer s H vs Q E hr h => ?_)
  · obtain ⟨_, _, _, rfl, _⟩ := h; rfl
  · obtain ⟨l, n, fin, rfl, hl, hn, k⟩ := h
    refine ⟨_, (pss_cons (ps_set (i := 3) sc_quote_at.nd rfl (Or.inl rfl) (pe_ix ix_str (pv 0) (pv 1) (fun _ _ => rfl)))
      (pss_cons (ps_if (pt_cmpR op_eq (pe_slice sl_str (pv 0) (po_some (pv 1)) (po_some (pe_op op_add (pv 1) pe_int))) (pe_op op_mul_str (pv 3) pe_int) (nomark _)) (pss_one (ps_ret (pe_op op_mul_str (pv 3) pe_int))) pss_nil)
      (pss_cons (ps_if (PW.pt (pw_and (pt_not (pt_val (pv 2))) (pw_and1 (PW.pt (pw_or (pt_cmpR op_eq (pe_op op_add (pv 1) pe_int) (pe_callB call_len_str (by rfl) T.n_len b_len (pa_cons (pv 0) pa_nil)) (nomark _)) (pw_or1 (pt_cmpR op_eq (pe_slice sl_str (pv 0) (po_some (pv 1)) po_none) (pe_op op_mul_str (pv 3) pe_int) (nomark _)))))))) (pss_one (ps_ret pe_str)) pss_nil)
      (pss_one (ps_ret (pv 3)))))), ?_⟩
    have hl' : l.length ≤ 16000000 := by omega
    obtain ⟨q, hq⟩ : ∃ q, l[n]? = some q := ⟨_, List.getElem?_eq_getElem hn⟩
    rw [quoteAt_at hq] at k
    refine q_asg (ev_op (ev_var rfl) (ev_var rfl) (rv_ixSn hl' hq)) fun H1 e1 => ?_
    refine q_when (b := decide ((l.drop n).take 3 = [q, q, q])) ?_ (fun hb H2 e2 => ?_) (fun hb H2 e2 => ?_)
    · exact et_test (ev_op (ev_slNN 3 (ev_var rfl) (ev_var rfl) (ev_op (ev_var rfl) ev_c rv_I0) hl') (ev_mulC 3 (ev_var rfl) (by decide)) rv_eqS)
    · rw [if_pos (of_decide_eq_true hb)] at k
      exact s_ret (ev_mulC 3 (ev_var rfl) (by decide)) fun H3 e3 => k H3 ((e1.trans e2).trans e3)
    · rw [if_neg (of_decide_eq_false hb)] at k
      refine q_when (b := !fin && (decide (n + 1 = l.length) || decide (l.drop n = [q, q]))) ?_ (fun hb H3 e3 => ?_) (fun hb H3 e3 => ?_)
      · refine et_and (et_not (et_B (ev_var rfl))) fun _ => et_or (et_is (et_test (ev_op (ev_op (ev_var rfl) ev_c rv_I0) (ev_cb (ea_cons (ev_var rfl) ea_nil) (rc_lenS hl')) rv_eqI)) (decide_eq_decide.mpr (by omega))) fun _ =>
          et_test (ev_op (ev_slN (ev_var rfl) (ev_var rfl) hl') (ev_mulC 2 (ev_var rfl) (by decide)) rv_eqS)
      · rw [if_pos hb] at k
        exact s_ret (ev_cS rfl) fun H4 e4 => k H4 (((e1.trans e2).trans e3).trans e4)
      · rw [if_neg (by rw [hb]; exact Bool.false_ne_true)] at k
        exact s_ret (ev_var rfl) fun H4 e4 => k H4 (((e1.trans e2).trans e3).trans e4)
def sp_string_end (_ : PySem.W.Frag) (_ : Ads) : Sp := fun vs H Q _ => ∃ (l q : List Nat) (n : Nat) (fin : Bool), vs = [.str (S l), .int n, .str (S q), .bl fin] ∧ l.length ≤ 15000000 ∧ q.length ≤ 3 ∧ RetV (.int (stringEnd l n q fin)) H Q
theorem spv_string_end {K : PySem.W.Frag} {a : Ads} {H : Hp} {l q : List Nat} {n : Nat} {fin : Bool} (h : l.length ≤ 15000000) (hq : q.length ≤ 3) : SpV (sp_string_end K a) [.str (S l), .int n, .str (S q), .bl fin] H (.int (stringEnd l n q fin)) := fun H1 _ Q k E => ⟨l, q, n, fin, rfl, h, hq, fun H2 e => k H2 e⟩
theorem ok_string_end {P : Program} {w : World} {K : PySem.W.Frag} {mg : Str → Option Value} {base : Heap} {a : Ads} (T : Txt w K mg a) :
    FnOk P w K mg base CX0 1 a.string_end a.d_string_end ["text", "at", "quote", "is_final"] (sp_string_end K a) := by
  refine T.F_string_end.ok sc_string_end (fun vs H Q E h => ?_) (fun cdv A outer s H vs Q E hr h => ?_)
  · obtain ⟨_, _, _, _, rfl, _⟩ := h; rfl
  · obtain ⟨l, q, n, fin, rfl, hl, hq, k⟩ := h
    refine ⟨_, (pss_cons (ps_while PassesOwn.never (pt_cmpR op_lt (pv 1) (pe_callB call_len_str (by rfl) T.n_len b_len (pa_cons (pv 0) pa_nil)) (nomark _)) (pss_one (ps_if (pt_cmpR op_eq (pe_ix ix_str (pv 0) (pv 1) (fun _ _ => rfl)) pe_str (nomark _)) (pss_one (ps_aug (i := 1) sc_string_end.nd rfl (Or.inl rfl) pe_int ip_add)) (pss_one (ps_if (pt_cmpR op_eq (pe_slice sl_str (pv 0) (po_some (pv 1)) (po_some (pe_op op_add (pv 1) (pe_callB call_len_str (by rfl) T.n_len b_len (pa_cons (pv 2) pa_nil))))) (pv 2) (nomark _)) (pss_one (ps_ret (pe_op op_add (pv 1) (pe_callB call_len_str (by rfl) T.n_len b_len (pa_cons (pv 2) pa_nil))))) (pss_one (ps_if (PW.pt (pw_and (pt_cmpR op_eq (pe_ix ix_str (pv 0) (pv 1) (fun _ _ => rfl)) pe_str (nomark _)) (pw_and1 (pt_cmpR op_eq (pe_callB call_len_str (by rfl) T.n_len b_len (pa_cons (pv 2) pa_nil)) pe_int (nomark _))))) (pss_one (ps_ret (pe_gint T.m_WRONG))) (pss_one (ps_aug (i := 1) sc_string_end.nd rfl (Or.inl rfl) pe_int ip_add)))))))))
      (pss_one (ps_ret (pe_ifExp (pt_val (pv 3)) (pe_gint T.m_WRONG) (pe_gint T.m_MORE))))), ?_⟩
    have hl' : l.length ≤ 16000000 := by omega
    have hq' : q.length ≤ 16000000 := by omega
    refine q_while (fun m σ H' => ∃ j : Nat, σ = [some (.str (S l)), some (.int j), some (.str (S q)), some (.bl fin)] ∧ Ex H H' ∧ m = l.length - j ∧ stringEnd l n q fin = stringEnd l j q fin) (l.length - n) ⟨n, rfl, Ex.refl _, rfl, rfl⟩ ?_
    rintro m σ H' ⟨j, rfl, e, hm, hj⟩
    refine ⟨decide ((j : Int) < l.length), et_test (ev_op (ev_var rfl) (ev_cb (ea_cons (ev_var rfl) ea_nil) (rc_lenS hl')) rv_I0), fun hb H1 e1 => ?_, fun hb H1 e1 => ?_⟩
    · have hlt : j < l.length := by have := of_decide_eq_true hb; omega
      obtain ⟨c, hc⟩ : ∃ c, l[j]? = some c := ⟨_, List.getElem?_eq_getElem hlt⟩
      rw [stringEnd_at hc] at hj
      refine ⟨fun σ2 H2 => ∃ j' : Nat, σ2 = [some (.str (S l)), some (.int j'), some (.str (S q)), some (.bl fin)] ∧ Ex H H2 ∧ j < j' ∧ stringEnd l n q fin = stringEnd l j' q fin, fun σ2 H2 ⟨j', a, b, c, d⟩ => ⟨l.length - j', by omega, j', a, b, rfl, d⟩, ?_⟩
      refine s_if (b := decide ([c] = [92])) (et_test (ev_op (ev_op (ev_var rfl) (ev_var rfl) (rv_ixSn hl' hc)) (ev_cS rfl) rv_eqS)) (fun hb H2 e2 => ?_) (fun hb H2 e2 => ?_)
      · rw [if_pos (List.cons.inj (of_decide_eq_true hb)).1] at hj
        exact s_aug rfl ev_c fun H3 e3 => ⟨j + 2, rfl, ((e.trans e1).trans e2).trans e3, by omega, hj⟩
      · rw [if_neg (fun z => of_decide_eq_false hb (by rw [z]))] at hj
        refine s_if (et_test (ev_op (ev_slNN q.length (ev_var rfl) (ev_var rfl) (ev_op (ev_var rfl) (ev_cb (ea_cons (ev_var rfl) ea_nil) (rc_lenS hq')) rv_I0) hl') (ev_var rfl) rv_eqS)) (fun hb H3 e3 => ?_) (fun hb H3 e3 => ?_)
        · rw [if_pos (of_decide_eq_true hb)] at hj
          refine s_ret (ev_op (ev_var rfl) (ev_cb (ea_cons (ev_var rfl) ea_nil) (rc_lenS hq')) rv_I0) fun H4 e4 => ?_
          rw [hj] at k
          exact k H4 ((((e.trans e1).trans e2).trans e3).trans e4)
        · rw [if_neg (of_decide_eq_false hb)] at hj
          refine s_if (b := decide ([c] = [10]) && decide ((q.length : Int) = 1)) (et_and (et_test (ev_op (ev_op (ev_var rfl) (ev_var rfl) (rv_ixSn hl' hc)) (ev_cS rfl) rv_eqS)) fun _ => et_test (ev_op (ev_cb (ea_cons (ev_var rfl) ea_nil) (rc_lenS hq')) ev_c rv_eqI)) (fun hb H4 e4 => ?_) (fun hb H4 e4 => ?_)
          · obtain ⟨h1, h2⟩ := Bool.and_eq_true_iff.mp hb
            rw [if_pos ⟨(List.cons.inj (of_decide_eq_true h1)).1, by have := of_decide_eq_true h2; omega⟩] at hj
            rw [hj] at k
            exact s_ret ev_c fun H5 e5 => k H5 (((((e.trans e1).trans e2).trans e3).trans e4).trans e5)
          · rw [if_neg (fun z => by rw [z.1, z.2] at hb; cases hb)] at hj
            exact s_aug rfl ev_c fun H5 e5 => ⟨j + 1, rfl, ((((e.trans e1).trans e2).trans e3).trans e4).trans e5, by omega, hj⟩
    · have hge : l.length ≤ j := by have := of_decide_eq_false hb; omega
      rw [hj, stringEnd_end hge] at k
      refine s_ret (v := .int (if fin = true then -2 else -1)) (ev_if (et_B (ev_var rfl)) (fun h => ?_) (fun h => ?_)) fun H2 e2 => k H2 ((e.trans e1).trans e2)
      · rw [if_pos h]; exact ev_c
      · rw [if_neg (by rw [h]; exact Bool.false_ne_true)]; exact ev_c

/-! ### is_string -/
def isQ (c : Nat) : Bool := decide (c ∈ (z_QUOTES : Str).cps.toList)
def pfOk (x : List Nat) : Bool := inV (.str (S (x.map lo1))) tv_PLAIN_PREFIXES
def strOk (l : List Nat) : Bool :=
  pfOk (l.take (nameEnd l 0)) && match l[nameEnd l 0]? with
    | none => false
    | some c => isQ c && decide (stringEnd l (nameEnd l 0 + (quoteAt l (nameEnd l 0) true).length) (quoteAt l (nameEnd l 0) true) true = l.length)
def isSt : V → Bool
  | .str x => strOk x.cps.toList
  | _ => false
theorem flat_pf : tv_PLAIN_PREFIXES.all flatV = true := by decide +kernel
def sp_is_string (_ : PySem.W.Frag) (_ : Ads) : Sp := fun vs H Q _ => ∃ v : V, vs = [v] ∧ AnyV H v ∧ RetV (.bl (isSt v)) H Q
theorem spv_is_string {K : PySem.W.Frag} {a : Ads} {H : Hp} {v : V} (h : AnyV H v) : SpV (sp_is_string K a) [v] H (.bl (isSt v)) := fun H1 e1 Q q E => ⟨v, rfl, h.mono e1, fun H2 e => q H2 e⟩
theorem not_strS {v : V} (h : isStr v = false) : isSt v = false := by cases v <;> first | rfl | (cases h)
theorem ok_is_string {P : Program} {w : World} {K : PySem.W.Frag} {mg : Str → Option Value} {base : Heap} {a : Ads} (T : Txt w K mg a) (G_name_end : FnOk P w K mg base CX0 2 a.name_end a.d_name_end ["text", "at"] (sp_name_end K a)) (G_quote_at : FnOk P w K mg base CX0 1 a.quote_at a.d_quote_at ["text", "at", "is_final"] (sp_quote_at K a)) (G_string_end : FnOk P w K mg base CX0 1 a.string_end a.d_string_end ["text", "at", "quote", "is_final"] (sp_string_end K a)) :
    FnOk P w K mg base CX0 3 a.is_string a.d_is_string ["thing"] (sp_is_string K a) := by
  refine T.F_is_string.ok sc_is_string (fun vs H Q E h => ?_) (fun cdv A outer s H vs Q E hr h => ?_)
  · obtain ⟨_, rfl, _⟩ := h; rfl
  · obtain ⟨v, rfl, hv, k⟩ := h
    refine ⟨_, (pss_cons (ps_if (pt_not (pt_val (pe_callB call_isi (by rfl) T.n_isinstance b_isinstance (pa_cons (pv 0) (pa_cons (pe_bltn (v := .ty "str") (by rfl) T.n_str b_str rfl) pa_nil))))) (pss_one (ps_ret pe_bl)) pss_nil)
      (pss_cons (ps_set (i := 1) sc_is_string.nd rfl (Or.inl rfl) (pe_call G_name_end (hr.mono (by decide)) rfl T.m_name_end T.F_name_end.kp T.b_name_end .nil pass0 (pa_cons (pv 0) (pa_cons pe_int pa_nil))))
      (pss_cons (ps_if (PW.pt (pw_or (pt_cmpR op_notIn_seq (pe_lower (pe_slice sl_str (pv 0) po_none (po_some (pv 1)))) (pe_gref T.m_PLAIN_PREFIXES) (by rfl)) (pw_or (pt_cmpR op_eq (pv 1) (pe_callB call_len_str (by rfl) T.n_len b_len (pa_cons (pv 0) pa_nil)) (nomark _)) (pw_or1 (pt_cmpR op_notIn_sign (pe_ix ix_str (pv 0) (pv 1) (fun _ _ => rfl)) (pe_gstr T.m_QUOTES) rfl))))) (pss_one (ps_ret pe_bl)) pss_nil)
      (pss_cons (ps_set (i := 2) sc_is_string.nd rfl (Or.inl rfl) (pe_call G_quote_at (hr.mono (by decide)) rfl T.m_quote_at T.F_quote_at.kp T.b_quote_at .nil pass0 (pa_cons (pv 0) (pa_cons (pv 1) (pa_cons pe_bl pa_nil)))))
      (pss_one (ps_ret (pe_cmpR op_eq (pe_call G_string_end (hr.mono (by decide)) rfl T.m_string_end T.F_string_end.kp T.b_string_end .nil pass0 (pa_cons (pv 0) (pa_cons (pe_op op_add (pv 1) (pe_callB call_len_str (by rfl) T.n_len b_len (pa_cons (pv 2) pa_nil))) (pa_cons (pv 2) (pa_cons pe_bl pa_nil))))) (pe_callB call_len_str (by rfl) T.n_len b_len (pa_cons (pv 0) pa_nil)) (nomark _)))))))), ?_⟩
    have isi : EvT (tNot (tB (tCB (rIsi K) (tCons (tVar 0) (tCons (tC (.ty "str")) tNil))))) [some v, none, none] H (!isStr v) := et_not (et_B (ev_cb (ea_cons (ev_var rfl) (ea_cons ev_c ea_nil)) (rc_isStr hv)))
    refine q_when isi (fun hb H1 e1 => ?_) (fun hb H1 e1 => ?_)
    · refine s_ret ev_c fun H2 e2 => ?_
      rw [← not_strS (v := v) (by simpa using hb)]
      exact k H2 (e1.trans e2)
    · obtain ⟨x, rfl⟩ : ∃ x, v = .str x := by cases v <;> first | exact ⟨_, rfl⟩ | (cases hb)
      rw [← S_of x] at *
      have ha := hv.asc
      rw [S_toList] at ha
      generalize x.cps.toList = l at *
      have hl : l.length ≤ 50000 := by have := hv.short; rw [S_len] at this; exact this
      have kk : RetV (.bl (strOk l)) H Q := k
      refine q_asg (ev_call (ea_cons (ev_var rfl) (ea_cons ev_c ea_nil)) (spv_name_end (n := 0) (by omega) (Nat.zero_le _))) fun H2 e2 => ?_
      have hn : nameEnd l 0 ≤ l.length := nameEnd_le (Nat.zero_le _)
      unfold strOk at kk
      generalize nameEnd l 0 = n at *
      have low := fun H3 => ev_op (H := H3) (σ := [some (.str (S l)), some (.int n), none]) (tb := tC (.ref a.r_PLAIN_PREFIXES)) (ev_lower (ev_slTo (ev_var (i := 0) rfl) (ev_var (i := 1) rfl) (by omega)) (fun c hc => ha c (List.mem_of_mem_take hc)) (by have := List.length_take_le n l; omega)) ev_c (rv_niT (K := K) (T.q_PLAIN_PREFIXES _) rfl flat_pf)
      have lenN : ∀ H3 : Hp, Ev (tOp rEq (tVar 1) (tCB (fun xs H Q => ∃ z, xs = [V.str z] ∧ z.length ≤ sizeLine ∧ Q (.int z.length) H) (tCons (tVar 0) tNil))) [some (.str (S l)), some (.int n), none] H3 (.bl (decide (n = l.length))) := fun H3 =>
        ev_is (ev_op (ev_var rfl) (ev_cb (ea_cons (ev_var rfl) ea_nil) (rc_lenS (by omega))) rv_eqI) (congrArg V.bl (decide_eq_decide.mpr (by omega)))
      cases hp : pfOk (l.take n) with
      | false =>
        refine q_when (b := true || true) (et_or (et_is (et_test (low H2)) (by show (!pfOk (l.take n)) = true; rw [hp]; rfl)) fun z => nomatch z) (fun _ H3 e3 => s_ret ev_c fun H4 e4 => ?_) (fun z => nomatch z)
        rw [hp] at kk
        exact kk H4 (((e1.trans e2).trans e3).trans e4)
      | true =>
        cases hc : l[n]? with
        | none =>
          have hge := List.getElem?_eq_none_iff.mp hc
          refine q_when (b := false || (true || true)) (et_or (et_is (et_test (low H2)) (by show (!pfOk (l.take n)) = false; rw [hp]; rfl)) fun _ => et_or (et_is (et_test (lenN H2)) (decide_eq_true (by omega))) fun z => nomatch z) (fun _ H3 e3 => s_ret ev_c fun H4 e4 => ?_) (fun z => nomatch z)
          rw [hp, hc] at kk
          exact kk H4 (((e1.trans e2).trans e3).trans e4)
        | some c =>
          have hlt := (List.getElem?_eq_some_iff.mp hc).1
          refine q_when (b := false || (false || !isQ c)) (et_or (et_is (et_test (low H2)) (by show (!pfOk (l.take n)) = false; rw [hp]; rfl)) fun _ => et_or (et_is (et_test (lenN H2)) (decide_eq_false (by omega))) fun _ => et_test (ev_op (ev_op (ev_var rfl) (ev_var rfl) (rv_ixSn (by omega) hc)) ev_c rv_notInS)) (fun hb H3 e3 => s_ret ev_c fun H4 e4 => ?_) (fun hb H3 e3 => ?_)
          · have hb' : isQ c = false := by simpa using hb
            rw [hp, hc] at kk
            have kk2 : RetV (.bl (true && (isQ c && decide (stringEnd l (n + (quoteAt l n true).length) (quoteAt l n true) true = l.length)))) H Q := kk
            rw [hb'] at kk2
            exact kk2 H4 (((e1.trans e2).trans e3).trans e4)
          · have hb' : isQ c = true := by simpa using hb
            rw [hp, hc] at kk
            have kk2 : RetV (.bl (true && (isQ c && decide (stringEnd l (n + (quoteAt l n true).length) (quoteAt l n true) true = l.length)))) H Q := kk
            rw [hb'] at kk2
            have hq := quoteAt_len l n true
            refine q_asg (ev_call (ea_cons (ev_var rfl) (ea_cons (ev_var rfl) (ea_cons ev_c ea_nil))) (spv_quote_at (by omega) hlt)) fun H4 e4 => ?_
            have st : SpV (sp_string_end K a) [.str (S l), .int ((n : Int) + ((quoteAt l n true).length : Int)), .str (S (quoteAt l n true)), .bl true] H4 (.int (stringEnd l (n + (quoteAt l n true).length) (quoteAt l n true) true)) := by
              have := spv_string_end (K := K) (a := a) (H := H4) (l := l) (q := quoteAt l n true) (n := n + (quoteAt l n true).length) (fin := true) (by omega) hq
              rw [Int.natCast_add] at this
              exact this
            refine s_ret (ev_op (ev_call (ea_cons (ev_var rfl) (ea_cons (ev_op (ev_var rfl) (ev_cb (ea_cons (ev_var rfl) ea_nil) (rc_lenS (by omega))) rv_I0) (ea_cons (ev_var rfl) (ea_cons ev_c ea_nil)))) st) (ev_cb (ea_cons (ev_var rfl) ea_nil) (rc_lenS (by omega))) rv_eqI) fun H5 e5 => kk2 H5 ((((e1.trans e2).trans e3).trans e4).trans e5)

/-! ### the law's own look at strings -/
theorem quotes_are : (z_QUOTES : Str).cps.toList = [39, 34] := rfl
theorem isQ_iff {c : Nat} : isQ c = true ↔ c = 39 ∨ c = 34 := by
  unfold isQ
  rw [quotes_are, decide_eq_true_eq]
  simp
/-- where the first quote stands -/
def fq (l : List Nat) : Nat := (l.takeWhile fun c => !isQ c).length
def lstrOk (l : List Nat) : Bool := match l[fq l]? with
  | none => false
  | some _ => pfOk (l.take (fq l)) && decide (stringEnd (l.drop (fq l)) (quoteAt (l.drop (fq l)) 0 true).length (quoteAt (l.drop (fq l)) 0 true) true = (l.drop (fq l)).length)
theorem fq_before {l : List Nat} {k c : Nat} (h : k < fq l) (hc : l[k]? = some c) : isQ c = false := by
  obtain ⟨d, h1, h2⟩ := tw_lt h
  rw [hc] at h1
  cases h1
  simpa using h2
theorem fq_at {l : List Nat} {c : Nat} (h : l[fq l]? = some c) : isQ c = true := by
  have := tw_stop h
  simpa using this
theorem quote_noword : ∀ c, isQ c = true → isW c = false := by
  intro c h
  rcases isQ_iff.mp h with rfl | rfl <;> decide +kernel
theorem pf_letters : tv_PLAIN_PREFIXES = [V.str (S []), .str (S [114]), .str (S [117]), .str (S [98]), .str (S [98, 114]), .str (S [114, 98])] := by decide +kernel
theorem eqV_S {a b : List Nat} : eqV (.str (S a)) (.str (S b)) = decide (a = b) := by
  show decide (S a = S b) = _
  exact decide_eq_decide.mpr ⟨S_inj, fun h => by rw [h]⟩
theorem pf_chars {x : List Nat} (h : pfOk x = true) : ∀ c ∈ x, lo1 c = 114 ∨ lo1 c = 117 ∨ lo1 c = 98 := by
  unfold pfOk inV at h
  rw [pf_letters] at h
  simp only [List.any_cons, List.any_nil, eqV_S, Bool.or_false, Bool.or_eq_true, decide_eq_true_eq] at h
  intro c hc
  have hm : lo1 c ∈ x.map lo1 := List.mem_map_of_mem hc
  rcases h with h | h | h | h | h | h <;> rw [← h] at hm <;> simp at hm <;> omega
theorem lo_word : ∀ c, lo1 c = 114 ∨ lo1 c = 117 ∨ lo1 c = 98 → isW c = true := by
  intro c h
  unfold lo1 at h
  have h2 : c = 114 ∨ c = 117 ∨ c = 98 ∨ c = 82 ∨ c = 85 ∨ c = 66 := by split at h <;> omega
  rcases h2 with rfl | rfl | rfl | rfl | rfl | rfl <;> decide +kernel
theorem nameEnd0 (l : List Nat) : nameEnd l 0 = (l.takeWhile isW).length := by unfold nameEnd; simp
/-- the string's end moves with it -/
theorem strEnd_shift (q : List Nat) (fin : Bool) (d : Nat) : ∀ (s : List Nat) (n : Nat), strEnd q fin s (n + d) = if strEnd q fin s n < 0 then strEnd q fin s n else strEnd q fin s n + d := by
  intro s
  induction h : s.length using Nat.strongRecOn generalizing s with
  | ind k ih =>
    intro n
    cases s with
    | nil => show (if fin = true then (-2 : Int) else -1) = _; cases fin <;> rfl
    | cons c r =>
      rw [strEnd_cons, strEnd_cons]
      have hr : r.length < k := by rw [← h]; simp
      have hd : (r.drop 1).length < k := by rw [List.length_drop]; omega
      by_cases h1 : c = 92
      · rw [if_pos h1, if_pos h1, ← ih _ hd (r.drop 1) rfl (n + 2)]
        congr 1
        omega
      · rw [if_neg h1, if_neg h1]
        by_cases h2 : (c :: r).take q.length = q
        · rw [if_pos h2, if_pos h2, if_neg (by omega)]
          omega
        · rw [if_neg h2, if_neg h2]
          by_cases h3 : c = 10 ∧ q.length = 1
          · rw [if_pos h3, if_pos h3]; rfl
          · rw [if_neg h3, if_neg h3, ← ih _ hr r rfl (n + 1)]
            congr 1
            omega
theorem stringEnd_move {l q : List Nat} {n k : Nat} {fin : Bool} (hn : n ≤ l.length) : (stringEnd l (n + k) q fin = l.length) ↔ (stringEnd (l.drop n) k q fin = (l.drop n).length) := by
  have e1 : (l.drop n).drop k = l.drop (n + k) := by rw [List.drop_drop]
  have e2 : stringEnd l (n + k) q fin = strEnd q fin (l.drop (n + k)) (k + n) := by unfold stringEnd; rw [Nat.add_comm]
  have e3 : stringEnd (l.drop n) k q fin = strEnd q fin (l.drop (n + k)) k := by unfold stringEnd; rw [e1]
  rw [e2, e3, strEnd_shift, List.length_drop]
  split <;> omega
theorem quoteAt_drop (l : List Nat) (n : Nat) (fin : Bool) : quoteAt l n fin = quoteAt (l.drop n) 0 fin := by unfold quoteAt; simp
theorem str_eq (l : List Nat) : strOk l = lstrOk l := by
  unfold strOk lstrOk
  cases hc : l[fq l]? with
  | none =>
    have hge : l.length ≤ fq l := List.getElem?_eq_none_iff.mp hc
    have hall : ∀ k c, l[k]? = some c → isQ c = false := fun k c h => fq_before (Nat.lt_of_lt_of_le (List.getElem?_eq_some_iff.mp h).1 hge) h
    cases h : l[nameEnd l 0]? with
    | none => simp
    | some c => simp [hall _ _ h]
  | some q =>
    have hq := fq_at hc
    cases hp : pfOk (l.take (fq l)) with
    | true =>
      have hw : ∀ i, i < fq l → ∃ d, l[i]? = some d ∧ isW d = true := fun i hi => by
        obtain ⟨d, h1, _⟩ := tw_lt hi
        refine ⟨d, h1, lo_word d (pf_chars hp d ?_)⟩
        exact List.mem_of_getElem? (i := i) (by rw [List.getElem?_take, if_pos hi]; exact h1)
      have e : nameEnd l 0 = fq l := by rw [nameEnd0]; exact tw_eq hw hc (quote_noword q hq)
      rw [e, hp, hc]
      show (true && (isQ q && _)) = (true && _)
      rw [hq, Bool.true_and, Bool.true_and, Bool.true_and, quoteAt_drop]
      exact decide_eq_decide.mpr (stringEnd_move (Nat.le_of_lt (List.getElem?_eq_some_iff.mp hc).1))
    | false =>
      show _ = (false && _)
      rw [Bool.false_and]
      cases h : l[nameEnd l 0]? with
      | none => simp
      | some c =>
        cases hqc : isQ c with
        | false => simp [hqc]
        | true =>
          have e : fq l = nameEnd l 0 := by
            unfold fq
            refine tw_eq (fun i hi => ?_) h (by rw [hqc]; rfl)
            rw [nameEnd0] at hi
            obtain ⟨d, h1, h2⟩ := tw_lt hi
            refine ⟨d, h1, ?_⟩
            cases hd : isQ d with
            | false => rfl
            | true => rw [quote_noword d hd] at h2; cases h2
          rw [← e, hp]
          simp
def lSt : V → Bool
  | .str x => lstrOk x.cps.toList
  | _ => false
theorem lSt_eq (v : V) : isSt v = lSt v := by cases v <;> first | rfl | exact str_eq _
theorem not_strL {v : V} (h : isStr v = false) : lSt v = false := by cases v <;> first | rfl | (cases h)
/-- the signs that are there, and where each stands first -/
def qs (l : List Nat) : List Nat := [39, 34].filter fun c => decide (c ∈ l)
def spots (l : List Nat) : List Int := (qs l).map fun c => (l.idxOf c : Int)
def sgn : V → Nat
  | .str x => x.cps.toList.headD 0
  | _ => 0
theorem spots_eq (l : List Nat) : (([V.str (S [39]), .str (S [34])].filter fun v => decide (sgn v ∈ l)).map fun v => V.int (l.idxOf (sgn v) : Int)) = (spots l).map V.int := by
  unfold spots qs
  by_cases h1 : 39 ∈ l <;> by_cases h2 : 34 ∈ l <;> simp [sgn, S, h1, h2]
theorem idx_at {l : List Nat} {c : Nat} (h : c ∈ l) : l[l.idxOf c]? = some c ∧ ∀ k, k < l.idxOf c → l[k]? ≠ some c := by
  have hlt := List.idxOf_lt_length_of_mem h
  refine ⟨by rw [List.getElem?_eq_getElem hlt, List.getElem_idxOf], fun k hk => ?_⟩
  intro e
  obtain ⟨h1, h2⟩ := List.getElem?_eq_some_iff.mp e
  have := List.not_of_lt_findIdx (p := (· == c)) (xs := l) (i := k) hk
  rw [h2] at this
  simp at this
theorem fq_none {l : List Nat} (h : l[fq l]? = none) : spots l = [] := by
  have hge : l.length ≤ fq l := List.getElem?_eq_none_iff.mp h
  have hno : ∀ c, isQ c = true → ¬ c ∈ l := fun c hq hm => by
    obtain ⟨k, hk⟩ := List.mem_iff_getElem?.mp hm
    rw [fq_before (Nat.lt_of_lt_of_le (List.getElem?_eq_some_iff.mp hk).1 hge) hk] at hq
    cases hq
  unfold spots qs
  have h1 := hno 39 (isQ_iff.mpr (Or.inl rfl))
  have h2 := hno 34 (isQ_iff.mpr (Or.inr rfl))
  simp [h1, h2]
theorem fq_some {l : List Nat} {q : Nat} (h : l[fq l]? = some q) : (fq l : Int) ∈ spots l ∧ ∀ y ∈ spots l, (fq l : Int) ≤ y := by
  have hq := fq_at h
  have hm : q ∈ l := List.mem_of_getElem? h
  have hmem : ∀ c, c ∈ qs l → isQ c = true ∧ c ∈ l := fun c hc => by
    obtain ⟨h1, h2⟩ := List.mem_filter.mp hc
    refine ⟨isQ_iff.mpr ?_, of_decide_eq_true h2⟩
    simpa using h1
  have low : ∀ c, isQ c = true → c ∈ l → fq l ≤ l.idxOf c := fun c hc hm => by
    rcases Nat.lt_or_ge (l.idxOf c) (fq l) with z | z
    · rw [fq_before z (idx_at hm).1] at hc
      cases hc
    · exact z
  refine ⟨List.mem_map.mpr ⟨q, List.mem_filter.mpr ⟨?_, decide_eq_true hm⟩, ?_⟩, fun y hy => ?_⟩
  · rcases isQ_iff.mp hq with rfl | rfl <;> simp
  · have h1 := low q hq hm
    have h2 : ¬ fq l < l.idxOf q := fun z => (idx_at hm).2 _ z h
    have e : l.idxOf q = fq l := by omega
    show ((l.idxOf q : Nat) : Int) = _
    rw [e]
  · obtain ⟨c, hc, rfl⟩ := List.mem_map.mp hy
    obtain ⟨h1, h2⟩ := hmem c hc
    have := low c h1 h2
    show (fq l : Int) ≤ ((l.idxOf c : Nat) : Int)
    omega
theorem spots_len (l : List Nat) : (spots l).length ≤ 2 := by
  unfold spots qs
  rw [List.length_map]
  exact List.length_filter_le _ _
theorem spots_eqv (l : List Nat) : PyData.eqv (.list ((spots l).map PyData.int)) (.list []) = decide (spots l = []) := by
  cases spots l <;> rfl
theorem spots_shaped (l : List Nat) : SeqAt.shaped (.list ((spots l).map PyData.int)) = true := by
  have h : ∀ ns : List Int, ns.length ≤ 2 → SeqAt.shaped (.list (ns.map PyData.int)) = true := fun ns h => by
    rcases ns with _ | ⟨x, _ | ⟨y, _ | ⟨z, r⟩⟩⟩
    · rfl
    · rfl
    · rfl
    · simp at h
  exact h _ (spots_len l)
def sp__law_is_string (_ : PySem.W.Frag) (_ : Ads) : Sp := fun vs H Q _ => ∃ v : V, vs = [v] ∧ AnyV H v ∧ RetV (.bl (lSt v)) H Q
theorem ok__law_is_string {P : Program} {w : World} {K : PySem.W.Frag} {mg : Str → Option Value} {base : Heap} {a : Ads} (T : Txt w K mg a) :
    FnOk P w K mg base CX0 1 a._law_is_string a.d__law_is_string ["_law_item"] (sp__law_is_string K a) := by
  refine T.F__law_is_string.ok sc__law_is_string (fun vs H Q E h => ?_) (fun cdv A outer s H vs Q E hr h => ?_)
  · obtain ⟨_, rfl, _⟩ := h; rfl
  · obtain ⟨v, rfl, hv, k⟩ := h
    refine ⟨_, (pss_cons (ps_if (pt_not (pt_val (pe_callB call_isi (by rfl) T.n_isinstance b_isinstance (pa_cons (pv 0) (pa_cons (pe_bltn (v := .ty "str") (by rfl) T.n_str b_str rfl) pa_nil))))) (pss_one (ps_ret pe_bl)) pss_nil)
      (pss_cons (ps_setLc (i := 1) (own := [("_law_sign", 3)]) (g := gName 3) rfl sc__law_is_string.nd rfl rfl (sw_true rfl rfl rfl (by decide +kernel)) (pi_tup (pe_tup (pa_cons pe_str (pa_cons pe_str pa_nil)))) (blkOk_by (N := N__law_is_string) (sc := defScope s__law_is_string) (by decide +kernel)) (fun _ _ _ _ _ => (pg_name (i := 3) sc__law_is_string.nd rfl (Or.inl rfl))) (fun _ _ _ _ _ => (pts_one (pt_cmpR op_in_sign (pv 3) (pv 0) rfl))) (fun _ _ _ _ _ => (pe_m1 PySem.F.slot_str_index PySem.F.type_str_index mt_sindex (pv 0) (pv 3))))
      (pss_cons (ps_if (PW.pt (pw_or (pt_cmpR (op_eqD hr.units) (pv 1) (pe_lst pa_nil) (nomark _)) (pw_or1 (pt_cmpR op_notIn_seq (pe_lower (pe_slice sl_str (pv 0) po_none (po_some (pe_callB (cr_min rfl) (by rfl) T.n_min b_min (pa_cons (pv 1) pa_nil))))) (pe_tup (pa_cons pe_str (pa_cons pe_str (pa_cons pe_str (pa_cons pe_str (pa_cons pe_str (pa_cons pe_str pa_nil))))))) (by rfl))))) (pss_one (ps_ret pe_bl)) pss_nil)
      (pss_cons (ps_par (i := 2) (j := 3) (by rfl) sc__law_is_string.nd rfl rfl (by decide) rfl rfl (pa_cons (pe_slice sl_str (pv 0) (po_some (pe_callB (cr_min rfl) (by rfl) T.n_min b_min (pa_cons (pv 1) pa_nil))) po_none) (pa_cons (pe_ix ix_str (pv 0) (pe_callB (cr_min rfl) (by rfl) T.n_min b_min (pa_cons (pv 1) pa_nil)) (fun _ _ => rfl)) pa_nil)) (by rfl))
      (pss_cons (ps_set (i := 4) sc__law_is_string.nd rfl (Or.inl rfl) (pe_op op_mul_str (pv 3) (pe_ifExp (pt_cmpR op_eq (pe_slice sl_str (pv 2) po_none (po_some pe_int)) (pe_op op_mul_str (pv 3) pe_int) (nomark _)) pe_int pe_int)))
      (pss_cons (ps_set (i := 5) sc__law_is_string.nd rfl (Or.inl rfl) (pe_callB call_len_str (by rfl) T.n_len b_len (pa_cons (pv 4) pa_nil)))
      (pss_cons (ps_while PassesOwn.never (PW.pt (pw_and (pt_cmpR op_lt (pv 5) (pe_callB call_len_str (by rfl) T.n_len b_len (pa_cons (pv 2) pa_nil)) (nomark _)) (pw_and1 (pt_cmpR op_ne (pe_slice sl_str (pv 2) (po_some (pv 5)) (po_some (pe_op op_add (pv 5) (pe_callB call_len_str (by rfl) T.n_len b_len (pa_cons (pv 4) pa_nil))))) (pv 4) (nomark _))))) (pss_cons (ps_if (PW.pt (pw_and (pt_cmpR op_eq (pe_ix ix_str (pv 2) (pv 5) (fun _ _ => rfl)) pe_str (nomark _)) (pw_and1 (pt_cmpR op_eq (pe_callB call_len_str (by rfl) T.n_len b_len (pa_cons (pv 4) pa_nil)) pe_int (nomark _))))) (pss_one (ps_ret pe_bl)) pss_nil)
      (pss_one (ps_set (i := 5) sc__law_is_string.nd rfl (Or.inl rfl) (pe_op op_add (pe_op op_add (pv 5) pe_int) (pe_callTy call_int1 (by rfl) T.n_int b_int (pa_cons (pe_cmpR op_eq (pe_ix ix_str (pv 2) (pv 5) (fun _ _ => rfl)) pe_str (nomark _)) pa_nil)))))))
      (pss_one (ps_ret (pe_cmpR op_eq (pe_op op_add (pv 5) (pe_callB call_len_str (by rfl) T.n_len b_len (pa_cons (pv 4) pa_nil))) (pe_callB call_len_str (by rfl) T.n_len b_len (pa_cons (pv 2) pa_nil)) (nomark _))))))))))), ?_⟩
    have isi : EvT (tNot (tB (tCB (rIsi K) (tCons (tVar 0) (tCons (tC (.ty "str")) tNil))))) [some v, none, none, none, none, none] H (!isStr v) := et_not (et_B (ev_cb (ea_cons (ev_var rfl) (ea_cons ev_c ea_nil)) (rc_isStr hv)))
    refine q_when isi (fun hb H1 e1 => ?_) (fun hb H1 e1 => ?_)
    · refine s_ret ev_c fun H2 e2 => ?_
      rw [← not_strL (v := v) (by simpa using hb)]
      exact k H2 (e1.trans e2)
    · obtain ⟨x, rfl⟩ : ∃ x, v = .str x := by cases v <;> first | exact ⟨_, rfl⟩ | (cases hb)
      rw [← S_of x] at *
      have ha := hv.asc
      rw [S_toList] at ha
      generalize x.cps.toList = l at *
      have hl0 : l.length ≤ 50000 := by have := hv.short; rw [S_len] at this; exact this
      have hl : l.length ≤ 16000000 := by omega
      have kk : RetV (.bl (lstrOk l)) H Q := k
      have sg : ∀ x, x ∈ [V.str (S [39]), V.str (S [34])] → x = .str (S [sgn x]) := fun x hx => by
        simp only [List.mem_cons, List.not_mem_nil, or_false] at hx
        rcases hx with rfl | rfl <;> rfl
      refine q_asgL (xs := (spots l).map V.int) ?_ fun p H2 _ e2 hp => ?_
      · rw [← spots_eq]
        refine el_lcU (fun v => decide (sgn v ∈ l)) (fun v => V.int (l.idxOf (sgn v) : Int)) (eu_tup (ea_cons (ev_cS rfl) (ea_cons (ev_cS rfl) ea_nil)) (by decide)) (by decide) (fun _ => rfl) (fun x hx H3 e3 => ?_) (fun x hx hf H3 e3 => ?_)
        · rw [sg x hx]
          exact et_test (ev_op (ev_var rfl) (ev_var rfl) rv_inS)
        · rw [sg x hx]
          obtain ⟨h1, h2⟩ := idx_at (of_decide_eq_true hf)
          exact ev_index (ev_var rfl) (ev_var rfl) h1 h2
      have hps : ∀ {H' : Hp}, Ex H2 H' → SqL K H' p ((spots l).map V.int) := fun e => sq_of (e _ _ hp)
      have eqE : ∀ {H3 : Hp}, Ex H2 H3 → ∀ σ : L2.St, σ[1]? = some (some (.ref p)) → Ev (tOp (rEqD K) (tVar 1) (tLst tNil)) σ H3 (.bl (decide (spots l = []))) := fun {H3} e σ hσ => by
        have h := ev_eqD (K := K) (σ := σ) (H := H3) (ta := tVar 1) (tb := tLst tNil) (ed_var hσ (.lst (hps e) (dpa_ints (spots l)))) (ed_lst ed_nil (by simp)) (spots_shaped l) rfl
        rw [spots_eqv] at h
        exact h
      cases hc : l[fq l]? with
      | none =>
        refine q_when (b := true || true) (et_or (et_is (et_test (eqE (Ex.refl _) _ rfl)) (decide_eq_true (fq_none hc))) fun z => nomatch z) (fun _ H3 e3 => s_ret ev_c fun H4 e4 => ?_) (fun z => nomatch z)
        unfold lstrOk at kk
        rw [hc] at kk
        exact kk H4 (((e1.trans e2).trans e3).trans e4)
      | some q =>
        obtain ⟨hm, hlow⟩ := fq_some hc
        have hq := fq_at hc
        have kk2 : RetV (.bl (pfOk (l.take (fq l)) && decide (stringEnd (l.drop (fq l)) (quoteAt (l.drop (fq l)) 0 true).length (quoteAt (l.drop (fq l)) 0 true) true = (l.drop (fq l)).length))) H Q := by
          unfold lstrOk at kk
          rw [hc] at kk
          exact kk
        have mn : ∀ {H3 : Hp} {σ : L2.St}, Ex H2 H3 → σ[1]? = some (some (.ref p)) → Ev (tCB (rMin K) (tCons (tVar 1) tNil)) σ H3 (.int (fq l : Int)) := fun e hσ => ev_min (ev_var hσ) (hps e) hm hlow
        have ne : decide (spots l = []) = false := decide_eq_false fun z => by rw [z] at hm; cases hm
        have hfl : fq l < l.length := (List.getElem?_eq_some_iff.mp hc).1
        have low : ∀ {H3 : Hp}, Ex H2 H3 → Ev (tOp (rIn K true) (tM0 (fun x xs H Q => ∃ a, x = V.str a ∧ xs = [] ∧ a.length ≤ 5592405 ∧ Q (.str (Txt.lower a)) H) (tSl rSlS (tVar 0) tNoPart (tPart (tCB (rMin K) (tCons (tVar 1) tNil))))) (tTup (tCons (tC (.str "")) (tCons (tC (.str "r")) (tCons (tC (.str "u")) (tCons (tC (.str "b")) (tCons (tC (.str "br")) (tCons (tC (.str "rb")) tNil)))))))) [some (.str (S l)), some (.ref p), none, none, none, none] H3 (.bl (!pfOk (l.take (fq l)))) := fun e =>
          ev_niU (xs := tv_PLAIN_PREFIXES) (ev_lower (ev_slTo (ev_var rfl) (mn e rfl) hl) (fun c hc => ha c (List.mem_of_mem_take hc)) (by have := List.length_take_le (fq l) l; omega)) (eu_tup (by repeat' first | exact ea_nil | refine ea_cons ev_c ?_) (by decide)) rfl flat_pf
        refine q_when (b := false || !pfOk (l.take (fq l))) (et_or (et_is (et_test (eqE (Ex.refl _) _ rfl)) ne) fun _ => et_test (low (Ex.refl _))) (fun hb H3 e3 => s_ret ev_c fun H4 e4 => ?_) (fun hb H3 e3 => ?_)
        · have hb' : pfOk (l.take (fq l)) = false := by simpa using hb
          rw [hb'] at kk2
          exact kk2 H4 (((e1.trans e2).trans e3).trans e4)
        · have hb' : pfOk (l.take (fq l)) = true := by simpa using hb
          rw [hb', Bool.true_and] at kk2
          refine q_par (ev_slN (ev_var rfl) (mn e3 rfl) hl) (ev_op (ev_var rfl) (mn e3 rfl) (rv_ixSn hl hc)) fun H4 e4 => ?_
          have hr0 : (l.drop (fq l))[0]? = some q := by rw [List.getElem?_drop]; simpa using hc
          have hrl : (l.drop (fq l)).length ≤ 16000000 := by rw [List.length_drop]; omega
          generalize hr : l.drop (fq l) = r at *
          have hqa := quoteAt_at (fin := true) hr0
          rw [List.drop_zero] at hqa
          have hqt : quoteAt r 0 true = if r.take 3 = [q, q, q] then [q, q, q] else [q] := by rw [hqa]; rfl
          refine q_asg (v := .str (S (quoteAt r 0 true))) ?_ fun H5 e5 => ?_
          · have hrep : ∀ n : Nat, ((n : Int) = if decide (r.take 3 = [q, q, q]) = true then 3 else 1) → List.replicate n q = quoteAt r 0 true := fun n hn => by
              rw [hqt]
              by_cases z : r.take 3 = [q, q, q]
              · rw [if_pos z]
                rw [decide_eq_true z, if_pos rfl] at hn
                have : n = 3 := by omega
                rw [this]; rfl
              · rw [if_neg z]
                rw [decide_eq_false z, if_neg Bool.false_ne_true] at hn
                have : n = 1 := by omega
                rw [this]; rfl
            have e := ev_op (σ := [some (.str (S l)), some (.ref p), some (.str (S r)), some (.str (S [q])), none, none]) (H := H4) (ev_var (i := 3) rfl)
              (ev_if (v := .int (if decide (r.take 3 = [q, q, q]) = true then 3 else 1)) (et_test (ev_op (ev_slTo (n := 3) (ev_var (i := 2) rfl) ev_c hrl) (ev_mulC 3 (ev_var (i := 3) rfl) (by decide)) rv_eqS))
                (fun h => ev_is (w := .int (if decide (r.take 3 = [q, q, q]) = true then 3 else 1)) (ev_c (v := .int 3)) (by rw [if_pos (show decide (r.take 3 = [q, q, q]) = true from h)])) (fun h => ev_is (w := .int (if decide (r.take 3 = [q, q, q]) = true then 3 else 1)) (ev_c (v := .int 1)) (by rw [if_neg (by rw [show decide (r.take 3 = [q, q, q]) = false from h]; exact Bool.false_ne_true)])))
              (rv_mulS (a := [q]) (n := if decide (r.take 3 = [q, q, q]) = true then 3 else 1) (by split <;> decide) (by split <;> decide) (by split <;> (show 1 * _ ≤ _; decide)))
            rw [rep1, hrep _ (Int.toNat_of_nonneg (by split <;> decide))] at e
            exact e
          have hqc : ∀ c s, (c :: s).take (quoteAt r 0 true).length = quoteAt r 0 true → c = q := fun c s h => by
            rw [hqt] at h
            split at h <;> simp at h <;> first | exact h.1 | exact h
          have hqpos : 0 < (quoteAt r 0 true).length := by rw [hqt]; split <;> simp
          have hql : (quoteAt r 0 true).length ≤ 16000000 := by have := quoteAt_len r 0 true; omega
          generalize quoteAt r 0 true = u at *
          refine q_asg (ev_cb (ea_cons (ev_var rfl) ea_nil) (rc_lenS hql)) fun H6 e6 => ?_
          have e06 : Ex H H6 := (((((e1.trans e2).trans e3).trans e4)).trans e5).trans e6
          refine q_while (fun m σ H' => ∃ j : Nat, σ = [some (.str (S l)), some (.ref p), some (.str (S r)), some (.str (S [q])), some (.str (S u)), some (.int j)] ∧ Ex H H' ∧ m = r.length - j ∧ stringEnd r u.length u true = stringEnd r j u true) (r.length - u.length) ⟨u.length, rfl, e06, rfl, rfl⟩ ?_
          rintro m σ H' ⟨j, rfl, e, hm', hj⟩
          have fin : ∀ H1, Ex H' H1 → ∀ b : Bool, b = decide ((j : Int) + (u.length : Int) = (r.length : Int)) → decide (stringEnd r u.length u true = r.length) = b → tRet (tOp rEq (tOp (rI0 fun i j => .int (i + j)) (tVar 5) (tCB (fun xs H Q => ∃ z, xs = [V.str z] ∧ z.length ≤ sizeLine ∧ Q (.int z.length) H) (tCons (tVar 4) tNil))) (tCB (fun xs H Q => ∃ z, xs = [V.str z] ∧ z.length ≤ sizeLine ∧ Q (.int z.length) H) (tCons (tVar 2) tNil))) { nx := fun _ H' => Q .non H', rt := Q } [some (.str (S l)), some (.ref p), some (.str (S r)), some (.str (S [q])), some (.str (S u)), some (.int j)] H1 := fun H1 e1 b hb hb2 => by
            refine s_ret (ev_op (ev_op (ev_var rfl) (ev_cb (ea_cons (ev_var rfl) ea_nil) (rc_lenS hql)) rv_I0) (ev_cb (ea_cons (ev_var rfl) ea_nil) (rc_lenS hrl)) rv_eqI) fun H2 e2 => ?_
            rw [hb2] at kk2
            rw [← hb]
            exact kk2 H2 ((e.trans e1).trans e2)
          by_cases hlt : j < r.length
          · obtain ⟨c, hc'⟩ : ∃ c, r[j]? = some c := ⟨_, List.getElem?_eq_getElem hlt⟩
            have hcons : r.drop j = c :: r.drop (j + 1) := by
              obtain ⟨h1, h2⟩ := List.getElem?_eq_some_iff.mp hc'
              rw [List.drop_eq_getElem_cons h1, h2]
            rw [stringEnd_at hc'] at hj
            refine ⟨true && !decide ((r.drop j).take u.length = u), et_and (et_is (et_test (ev_op (ev_var rfl) (ev_cb (ea_cons (ev_var rfl) ea_nil) (rc_lenS hrl)) rv_I0)) (decide_eq_true (by omega))) fun _ => et_test (ev_op (ev_slNN u.length (ev_var rfl) (ev_var rfl) (ev_op (ev_var rfl) (ev_cb (ea_cons (ev_var rfl) ea_nil) (rc_lenS hql)) rv_I0) hrl) (ev_var rfl) rv_neS), fun hb H1 e1 => ?_, fun hb H1 e1 => ?_⟩
            · have hne : ¬ (r.drop j).take u.length = u := by simpa using hb
              rw [if_neg hne] at hj
              refine ⟨fun σ2 H2 => ∃ j' : Nat, σ2 = [some (.str (S l)), some (.ref p), some (.str (S r)), some (.str (S [q])), some (.str (S u)), some (.int j')] ∧ Ex H H2 ∧ j < j' ∧ stringEnd r u.length u true = stringEnd r j' u true, fun σ2 H2 ⟨j', a, b, c, d⟩ => ⟨r.length - j', by omega, j', a, b, rfl, d⟩, ?_⟩
              refine q_when (b := decide ([c] = [10]) && decide ((u.length : Int) = 1)) (et_and (et_test (ev_op (ev_op (ev_var rfl) (ev_var rfl) (rv_ixSn hrl hc')) (ev_cS rfl) rv_eqS)) fun _ => et_test (ev_op (ev_cb (ea_cons (ev_var rfl) ea_nil) (rc_lenS hql)) ev_c rv_eqI)) (fun hb H2 e2 => ?_) (fun hb H2 e2 => ?_)
              · obtain ⟨h1, h2⟩ := Bool.and_eq_true_iff.mp hb
                have h3 : c = 10 := (List.cons.inj (of_decide_eq_true h1)).1
                have h4 := of_decide_eq_true h2
                rw [if_neg (by omega), if_pos ⟨h3, by omega⟩] at hj
                refine s_ret ev_c fun H3 e3 => ?_
                rw [hj] at kk2
                have : decide ((-2 : Int) = (r.length : Int)) = false := decide_eq_false (by omega)
                rw [this] at kk2
                exact kk2 H3 (((e.trans e1).trans e2).trans e3)
              · have hn10 : ¬ (c = 10 ∧ u.length = 1) := fun z => by rw [z.1, z.2] at hb; cases hb
                rw [if_neg hn10] at hj
                refine s_asg (v := .int (((j : Int) + 1) + (if decide ([c] = [92]) = true then 1 else 0))) (ev_op (ev_op (ev_var rfl) ev_c rv_I0) (ev_intB (ev_op (ev_op (ev_var rfl) (ev_var rfl) (rv_ixSn hrl hc')) (ev_cS rfl) rv_eqS)) rv_I0) fun H3 e3 => ?_
                by_cases h92 : c = 92
                · rw [if_pos h92] at hj
                  refine ⟨j + 2, ?_, ((e.trans e1).trans e2).trans e3, by omega, hj⟩
                  rw [h92]
                  rfl
                · rw [if_neg h92] at hj
                  refine ⟨j + 1, ?_, ((e.trans e1).trans e2).trans e3, by omega, hj⟩
                  have : decide ([c] = [92]) = false := decide_eq_false fun z => h92 (List.cons.inj z).1
                  rw [this]
                  rfl
            · have he : (r.drop j).take u.length = u := by simpa using hb
              have hcq : c = q := by
                rw [hcons] at he
                exact hqc c _ he
              have h92 : ¬ c = 92 := fun z => by
                rcases isQ_iff.mp hq with y | y <;> omega
              rw [if_neg h92, if_pos he] at hj
              refine fin H1 e1 _ rfl ?_
              rw [hj]
          · rw [stringEnd_end (l := r) (n := j) (by omega)] at hj
            refine ⟨false && true, et_and (et_is (et_test (ev_op (ev_var rfl) (ev_cb (ea_cons (ev_var rfl) ea_nil) (rc_lenS hrl)) rv_I0)) (decide_eq_false (by omega))) (fun z => nomatch z), fun hb => absurd hb (by decide), fun hb H1 e1 => fin H1 e1 _ rfl ?_⟩
            rw [hj]
            exact decide_eq_decide.mpr ⟨fun z => absurd z (by show ¬ (-2 : Int) = _; omega), fun z => by omega⟩
/-! ### drawn strings -/
def sp__law_cased (_ : PySem.W.Frag) (_ : Ads) : Sp := fun vs H Q _ => ∃ (b : Addr) (l : List Nat) (c : Int), vs = [.ref b, .str (S l)] ∧ Bag H b c ∧ c ≤ 900000000 ∧ l.length ≤ 2 ∧ Asc l ∧
  ∀ (z : List Nat) (H' : Hp), Kp b H H' → Bag H' b (c + 2) → z.length ≤ 2 → Asc z → Q (.str (S z)) H'
theorem ok__law_cased {P : Program} {w : World} {K : PySem.W.Frag} {mg : Str → Option Value} {base : Heap} {a : Ads} (T : Txt w K mg a) (G__law_take : FnOk P w K mg base CX0 1 a._law_take a.d__law_take ["_law_bag_here", "_law_many"] (sp__law_take K a)) :
    FnOk P w K mg base CX0 2 a._law_cased a.d__law_cased ["_law_bag_here", "_law_prefix"] (sp__law_cased K a) := by
  refine T.F__law_cased.ok sc__law_cased (fun vs H Q E h => ?_) (fun cdv A outer s H vs Q E hr h => ?_)
  · obtain ⟨_, _, _, rfl, _⟩ := h; rfl
  · obtain ⟨b, l, c, rfl, hb, cl, hl, ha, k⟩ := h
    refine ⟨_, (pss_one (ps_ret (pe_join pe_str (pe_lc (own := [("_law_sign", 2)]) (g := gName 2) rfl sc__law_cased.nd (pi_str (pv 1)) (blkOk_by (N := N__law_cased) (sc := defScope s__law_cased) (by decide +kernel)) (fun _ _ _ _ _ => (pg_name (i := 2) sc__law_cased.nd rfl (Or.inl rfl))) (fun _ _ _ _ _ => pts_nil) (fun _ _ _ _ _ => (pe_ifExp (pt_cmpR op_eq (pe_call G__law_take (hr.mono (by decide)) rfl T.m__law_take T.F__law_take.kp T.b__law_take .nil pass0 (pa_cons (pv 0) (pa_cons pe_int pa_nil))) pe_int (nomark _)) (pe_upper (pv 2)) (pv 2))))))), ?_⟩
    refine ⟨⟨_, rfl⟩, lcBS (b := b) (c0 := c) (s := 1) (l := l) (by decide) (Tz 1) (ev_var rfl) (by omega) (fun _ => rfl) hb (fun x c' H1 hx hc' kp bg Q' q' => ?_) (fun D xs H' hD kp bg hd hlen hv => ?_)⟩
    · refine rd_take (n := 2) (ev_var rfl) ev_c bg (by omega) (by decide) (by decide) fun r H2 r0 r1 kp2 bg2 => ?_
      have hx1 : Asc [x] := fun y hy => by rw [List.mem_singleton.mp hy]; exact ha x hx
      refine ⟨rfl, _, rfl, ?_⟩
      dsimp only
      split
      · refine ev_upper (l := [x]) (ev_var rfl) hx1 (by simp) H2 (Ex.refl _) _ fun H3 e3 => q' _ H3 (kp2.trans (Kp.of e3)) (bg2.ex e3) ⟨_, rfl, by simp, fun y hy => ?_⟩
        have : y = up1 x := by simpa using hy
        rw [this]; exact up1_lt (ha x hx)
      · exact ⟨_, rfl, q' _ H2 kp2 bg2 ⟨_, rfl, by simp, hx1⟩⟩
    · obtain ⟨zs, rfl, hz⟩ := strs_of (P := fun z => z.length ≤ 1 ∧ Asc z) hv
      have hf := flat_len (m := 1) fun z hz' => (hz z hz').1
      rw [List.length_map] at hlen
      exact rd_join0 rfl hd (by omega) (k _ H' kp (bg.mono (by omega)) (by omega) (Asc.flat fun z h => (hz z h).2))
def pfxs : List V := [.str "", .str "r", .str "b", .str "br", .str "u", .str "f", .str "ur", .str "rb", .str "bb", .str "x"]
def qts : List V := [.str "'", .str "\"", .str "'''", .str "\"\"\""]
def ins : List V := [.str "a", .str "'", .str "\"", .str "\\", .str "\\'", .str "\\\"", .str "\n", .str "\\\n", .str "''", .str "\\\\", .str "#", .str ""]
def sp__law_quoted (_ : PySem.W.Frag) (_ : Ads) : Sp := fun vs H Q _ => ∃ (b : Addr) (c : Int), vs = [.ref b] ∧ Bag H b c ∧ c ≤ 800000000 ∧
  ∀ (z : List Nat) (H' : Hp), Kp b H H' → Bag H' b (c + 20) → z.length ≤ 100 → Asc z → Q (.str (S z)) H'
theorem ok__law_quoted {P : Program} {w : World} {K : PySem.W.Frag} {mg : Str → Option Value} {base : Heap} {a : Ads} (T : Txt w K mg a) (G__law_cased : FnOk P w K mg base CX0 2 a._law_cased a.d__law_cased ["_law_bag_here", "_law_prefix"] (sp__law_cased K a)) (G__law_take : FnOk P w K mg base CX0 1 a._law_take a.d__law_take ["_law_bag_here", "_law_many"] (sp__law_take K a)) :
    FnOk P w K mg base CX0 3 a._law_quoted a.d__law_quoted ["_law_bag_here"] (sp__law_quoted K a) := by
  refine T.F__law_quoted.ok sc__law_quoted (fun vs H Q E h => ?_) (fun cdv A outer s H vs Q E hr h => ?_)
  · obtain ⟨_, _, rfl, _⟩ := h; rfl
  · obtain ⟨b, c, rfl, hb, cl, k⟩ := h
    refine ⟨_, (pss_cons (ps_set (i := 1) sc__law_quoted.nd rfl (Or.inl rfl) (pe_call G__law_cased (hr.mono (by decide)) rfl T.m__law_cased T.F__law_cased.kp T.b__law_cased .nil pass0 (pa_cons (pv 0) (pa_cons (pe_ix ix_list (pe_lst (pa_cons pe_str (pa_cons pe_str (pa_cons pe_str (pa_cons pe_str (pa_cons pe_str (pa_cons pe_str (pa_cons pe_str (pa_cons pe_str (pa_cons pe_str (pa_cons pe_str pa_nil))))))))))) (pe_call G__law_take (hr.mono (by decide)) rfl T.m__law_take T.F__law_take.kp T.b__law_take .nil pass0 (pa_cons (pv 0) (pa_cons pe_int pa_nil))) (fun _ _ => rfl)) pa_nil))))
      (pss_cons (ps_set (i := 2) sc__law_quoted.nd rfl (Or.inl rfl) (pe_ix ix_list (pe_lst (pa_cons pe_str (pa_cons pe_str (pa_cons pe_str (pa_cons pe_str pa_nil))))) (pe_call G__law_take (hr.mono (by decide)) rfl T.m__law_take T.F__law_take.kp T.b__law_take .nil pass0 (pa_cons (pv 0) (pa_cons pe_int pa_nil))) (fun _ _ => rfl)))
      (pss_cons (ps_set (i := 3) sc__law_quoted.nd rfl (Or.inr rfl) (pe_lst (pa_cons pe_str (pa_cons pe_str (pa_cons pe_str (pa_cons pe_str (pa_cons pe_str (pa_cons pe_str (pa_cons pe_str (pa_cons pe_str (pa_cons pe_str (pa_cons pe_str (pa_cons pe_str (pa_cons pe_str pa_nil))))))))))))))
      (pss_cons (ps_set (i := 4) sc__law_quoted.nd rfl (Or.inl rfl) (pe_join pe_str (pe_lc (own := [("_law_turn", 5)]) (g := gName 5) rfl sc__law_quoted.nd (pi_range1 rfl T.n_range (pa_cons (pe_call G__law_take (hr.mono (by decide)) rfl T.m__law_take T.F__law_take.kp T.b__law_take .nil pass0 (pa_cons (pv 0) (pa_cons pe_int pa_nil))) pa_nil)) (blkOk_by (N := N__law_quoted) (sc := defScope s__law_quoted) (by decide +kernel)) (fun _ _ _ _ _ => (pg_name (i := 5) sc__law_quoted.nd rfl (Or.inl rfl))) (fun _ _ _ _ _ => pts_nil) (fun _ _ _ _ _ => (pe_ix (r := rIxL K) ix_list (pv 3) (pe_call G__law_take (hr.mono (by decide)) rfl T.m__law_take T.F__law_take.kp T.b__law_take .nil pass0 (pa_cons (pv 0) (pa_cons pe_int pa_nil))) (fun _ _ => rfl))))))
      (pss_one (ps_ret (pe_op op_add_str (pe_op op_add_str (pe_op op_add_str (pv 1) (pv 2)) (pv 4)) (pe_ix ix_list (pe_lst (pa_cons (pv 2) (pa_cons (pv 2) (pa_cons (pv 2) (pa_cons (pe_slice sl_str (pv 2) po_none (po_some pe_int)) (pa_cons pe_str pa_nil)))))) (pe_call G__law_take (hr.mono (by decide)) rfl T.m__law_take T.F__law_take.kp T.b__law_take .nil pass0 (pa_cons (pv 0) (pa_cons pe_int pa_nil))) (fun _ _ => rfl))))))))), ?_⟩
    refine q_asgQ (call_Q (ea_q ⟨_, rfl, ea_q ?_⟩))
    refine rd_pickN (xs := pfxs) (el_lst (by repeat' first | exact ea_nil | refine ea_cons ev_c ?_) (by decide)) (ev_var rfl) ev_c hb (by omega) (by decide) (by decide) (by decide) fun v H2 hv kp2 bg2 => ?_
    obtain ⟨z1, rfl, l1, a1⟩ := tz_all (n := 2) (xs := pfxs) (by decide +kernel) v hv
    refine ⟨b, z1, _, rfl, bg2, by omega, l1, a1, fun z2 H3 kp3 bg3 l2 a2 => ?_⟩
    refine q_asgQ ?_
    refine rd_pickN (xs := qts) (el_lst (by repeat' first | exact ea_nil | refine ea_cons ev_c ?_) (by decide)) (ev_var rfl) ev_c bg3 (by omega) (by decide) (by decide) (by decide) fun v H4 hv kp4 bg4 => ?_
    obtain ⟨z3, rfl, l3, a3⟩ := tz_all (n := 3) (xs := qts) (by decide +kernel) v hv
    have kp : Kp b H H4 := (kp2.trans kp3).trans kp4
    refine q_asgL (xs := ins) (el_lst (by repeat' first | exact ea_nil | refine ea_cons ev_c ?_) (by decide)) fun p H5 hp e5 h5 => ?_
    have bg5 := bg4.ex e5
    have np : p ≠ b := Ne.symm (bg4.ne hp)
    refine q_asgQ ?_
    refine rd_joined (m := 2) (s := 1) (fun z => z.length ≤ 2 ∧ Asc z) (fun z h => h.1) rfl (ev_var rfl) ev_c bg5 (by omega) (by decide) (by decide) (by decide) (fun _ => rfl) (by decide) (by decide)
      (fun i c' H6 _ hc' kp6 bg6 Q' q' => ?_) (fun zs H6 lz hz kp6 bg6 => ?_)
    · refine rd_pick (xs := ins) (ev_var rfl) (ev_var rfl) ev_c (kp6.seq (sq_of h5) np) np bg6 (by omega) (by decide) (by decide) (by decide) (fun w H7 hw kp7 bg7 => ?_)
      obtain ⟨z, rfl, lz, az⟩ := tz_all (n := 2) (xs := ins) (by decide +kernel) w hw
      exact q' z H7 kp7 bg7 ⟨lz, az⟩
    have hf := flat_len (m := 2) fun z hz' => (hz z hz').1
    have af : Asc zs.flatten := Asc.flat fun z h => (hz z h).2
    have t3 := List.length_take_le 1 z3
    refine s_retQ ?_
    refine op_l (ev_op (ev_op (ev_var rfl) (ev_var rfl) (rv_addS (by omega))) (ev_var rfl) (rv_addS (by rw [List.length_append]; omega))) fun H7 e7 => ?_
    refine rd_pickN (xs := [.str (S z3), .str (S z3), .str (S z3), .str (S (z3.take 1)), .str ""]) (el_lst (ea_cons (ev_var rfl) (ea_cons (ev_var rfl) (ea_cons (ev_var rfl) (ea_cons (ev_slTo (n := 1) (ev_var rfl) ev_c (by omega)) (ea_cons ev_c ea_nil))))) (by simp)) (ev_var rfl) ev_c (bg6.ex e7) (by omega) (by decide) (by decide) (by simp) fun v H8 hv kp8 bg8 => ?_
    have hv2 : Tz 3 v := by
      simp only [List.mem_cons, List.not_mem_nil, or_false] at hv
      rcases hv with rfl | rfl | rfl | rfl | rfl
      · exact ⟨_, rfl, l3, a3⟩
      · exact ⟨_, rfl, l3, a3⟩
      · exact ⟨_, rfl, l3, a3⟩
      · exact ⟨_, rfl, by omega, a3.take 1⟩
      · exact tz_of (by decide +kernel)
    obtain ⟨z4, rfl, l4, a4⟩ := hv2
    refine rv_addS (a := z2 ++ z3 ++ zs.flatten) (b := z4) (by rw [List.length_append, List.length_append]; omega) H8 (Ex.refl _) _ fun H9 e9 => ?_
    exact k _ H9 (((((kp.trans (Kp.of e5)).trans kp6).trans (Kp.of e7)).trans kp8).trans (Kp.of e9)) ((bg8.ex e9).mono (by omega)) (by simp only [List.length_append]; omega) (((a2.app a3).app af).app a4)
def sp_law0 (K : PySem.W.Frag) : Sp := fun vs H Q _ => ∃ (s : Addr) (ns : List Int), vs = [.ref s] ∧ SqL K H s (ns.map V.int) ∧ ns.length ≤ 63 ∧ ∀ H', Q (.bl true) H'
abbrev sp_law (K : PySem.W.Frag) (_ : Ads) : Sp := sp_law0 K
theorem law_sp {K : PySem.W.Frag} {H : Hp} {b : Addr} {ns : List Int} (hl : ns.length ≤ 63) (hS : SqL K H b (ns.map V.int)) : sp_law0 K [.ref b] H (fun v _ => v = .bl true) fun _ _ _ => False := ⟨b, ns, rfl, hS, hl, fun _ => rfl⟩

theorem long1 : isSt (.str (S (([39] : List Nat) ++ (List.replicate 1998 97) ++ [39]))) = true := by decide +kernel
theorem long2 : isSt (.str (S (([39] : List Nat) ++ (List.replicate 1999 97)))) = false := by decide +kernel
def lmenu : List V := [.str "'", .str "\"", .str "'", .str "\"", .str "\\", .str "\n", .str "r", .str "B", .str "a", .str " ", .str "u", .str "f"]
def lthings : List V := [.non, .str "", .str "''", .str "'''", .str "''''", .str "''''''", .str "'''''''", .str "'\\'", .str "r'\\'", .str "'a' "]
theorem things_any {H : Hp} : ∀ v ∈ lthings, AnyV H v := by
  intro v hv
  simp only [lthings, List.mem_cons, List.not_mem_nil, or_false] at hv
  rcases hv with rfl | rfl | rfl | rfl | rfl | rfl | rfl | rfl | rfl | rfl
  · exact .non
  all_goals exact (tz_of (n := 9) (by decide +kernel)).any (by decide)
theorem any_repl {H : Hp} {n : Nat} (hn : n ≤ 3000) : ∀ a b : List Nat, a.length ≤ 10 → b.length ≤ 10 → Asc a → Asc b → AnyV H (.str (S (a ++ List.replicate n 97 ++ b))) := fun a b ha hb aa ab =>
  any_of (by simp only [List.length_append, List.length_replicate]; omega) ((aa.app fun c hc => by rw [List.eq_of_mem_replicate hc]; decide).app ab)
theorem ok_law {P : Program} {w : World} {K : PySem.W.Frag} {mg : Str → Option Value} {base : Heap} {a : Ads} (T : Txt w K mg a) (G_is_string : FnOk P w K mg base CX0 3 a.is_string a.d_is_string ["thing"] (sp_is_string K a)) (G__law_bag : FnOk P w K mg base CX0 1 a._law_bag a.d__law_bag ["_law_script", "_law_at"] (sp__law_bag K a)) (G__law_any : FnOk P w K mg base CX0 2 a._law_any a.d__law_any ["_law_bag_here", "_law_objects"] (sp__law_any K a)) (G__law_take : FnOk P w K mg base CX0 1 a._law_take a.d__law_take ["_law_bag_here", "_law_many"] (sp__law_take K a)) (G__law_quoted : FnOk P w K mg base CX0 3 a._law_quoted a.d__law_quoted ["_law_bag_here"] (sp__law_quoted K a)) (G__law_is_string : FnOk P w K mg base CX0 1 a._law_is_string a.d__law_is_string ["_law_item"] (sp__law_is_string K a)) :
    FnOk P w K mg base CX0 4 a.law a.d_law ["_law_script"] (sp_law K a) := by
  refine T.F_law.ok sc_law (fun vs H Q E h => ?_) (fun cdv A outer s H vs Q E hr h => ?_)
  · obtain ⟨_, _, rfl, _⟩ := h; rfl
  · obtain ⟨s, ns, rfl, hS, hlen, k⟩ := h
    refine ⟨_, (pss_cons (ps_if (PW.pt (pw_or (pt_not (pt_val (pe_call G_is_string (hr.mono (by decide)) rfl T.m_is_string T.F_is_string.kp T.b_is_string .nil pass0 (pa_cons (pe_op op_add_str (pe_op op_add_str pe_str (pe_op op_mul_str pe_str pe_int)) pe_str) pa_nil)))) (pw_or1 (pt_val (pe_call G_is_string (hr.mono (by decide)) rfl T.m_is_string T.F_is_string.kp T.b_is_string .nil pass0 (pa_cons (pe_op op_add_str pe_str (pe_op op_mul_str pe_str pe_int)) pa_nil)))))) (pss_one (ps_ret pe_bl)) pss_nil)
      (pss_cons (ps_set (i := 1) sc_law.nd rfl (Or.inr rfl) (pe_lst (pa_cons pe_str (pa_cons pe_str (pa_cons pe_str (pa_cons pe_str (pa_cons pe_str (pa_cons pe_str (pa_cons pe_str (pa_cons pe_str (pa_cons pe_str (pa_cons pe_str (pa_cons pe_str (pa_cons pe_str pa_nil))))))))))))))
      (pss_cons (ps_for PassesOwn.never rfl (pi_range1 rfl T.n_range (pa_cons (pe_callB (call_max2 rfl) (by rfl) T.n_max b_max (pa_cons pe_int (pa_cons (pe_callB (call_min2 rfl) (by rfl) T.n_min b_min (pa_cons pe_int (pa_cons (pe_callB call_len_seq (by rfl) T.n_len b_len (pa_cons (pv 0) pa_nil)) pa_nil))) pa_nil))) pa_nil)) (pg_name (i := 2) sc_law.nd rfl (Or.inl rfl)) (pss_cons (ps_set (i := 3) sc_law.nd rfl (Or.inr rfl) (pe_call G__law_bag (hr.mono (by decide)) rfl T.m__law_bag T.F__law_bag.kp T.b__law_bag .nil pass0 (pa_cons (pv 0) (pa_cons (pv 2) pa_nil))))
      (pss_cons (ps_set (i := 4) sc_law.nd rfl (Or.inl rfl) (pe_lst (pa_cons (pe_call G__law_any (hr.mono (by decide)) rfl T.m__law_any T.F__law_any.kp T.b__law_any .nil pass0 (pa_cons (pv 3) (pa_cons (pe_lst pa_nil) pa_nil))) (pa_cons pe_non (pa_cons pe_str (pa_cons pe_str (pa_cons pe_str (pa_cons pe_str (pa_cons pe_str (pa_cons pe_str (pa_cons pe_str (pa_cons pe_str (pa_cons pe_str pa_nil)))))))))))))
      (pss_cons (ps_expr (pe_bm PySem.F.plainAttrs_list PySem.F.slot_list_append PySem.F.type_list_append mt_append (pv 4) (pa_cons (pe_lst (pa_cons pe_str pa_nil)) pa_nil)))
      (pss_cons (ps_for PassesOwn.never rfl (pi_range1 rfl T.n_range (pa_cons pe_int pa_nil)) (pg_name (i := 5) sc_law.nd rfl (Or.inl rfl)) (pss_cons (ps_expr (pe_bm PySem.F.plainAttrs_list PySem.F.slot_list_append PySem.F.type_list_append mt_append (pv 4) (pa_cons (pe_join pe_str (pe_lc (own := [("_law_sign", 8)]) (g := gName 8) rfl sc_law.nd (pi_range1 rfl T.n_range (pa_cons (pe_call G__law_take (hr.mono (by decide)) rfl T.m__law_take T.F__law_take.kp T.b__law_take .nil pass0 (pa_cons (pv 3) (pa_cons pe_int pa_nil))) pa_nil)) (blkOk_by (N := N_law) (sc := defScope s_law) (by decide +kernel)) (fun _ _ _ _ _ => (pg_name (i := 8) sc_law.nd rfl (Or.inl rfl))) (fun _ _ _ _ _ => pts_nil) (fun _ _ _ _ _ => (pe_ix (r := rIxL K) ix_list (pv 1) (pe_call G__law_take (hr.mono (by decide)) rfl T.m__law_take T.F__law_take.kp T.b__law_take .nil pass0 (pa_cons (pv 3) (pa_cons pe_int pa_nil))) (fun _ _ => rfl))))) pa_nil)))
      (pss_one (ps_expr (pe_bm PySem.F.plainAttrs_list PySem.F.slot_list_append PySem.F.type_list_append mt_append (pv 4) (pa_cons (pe_call G__law_quoted (hr.mono (by decide)) rfl T.m__law_quoted T.F__law_quoted.kp T.b__law_quoted .nil pass0 (pa_cons (pv 3) pa_nil)) pa_nil))))))
      (pss_one (ps_for PassesOwn.never rfl (pi_list (pv 4)) (pg_name (i := 6) sc_law.nd rfl (Or.inl rfl)) (pss_cons (ps_set (i := 7) sc_law.nd rfl (Or.inl rfl) (pe_call G_is_string (hr.mono (by decide)) rfl T.m_is_string T.F_is_string.kp T.b_is_string .nil pass0 (pa_cons (pv 6) pa_nil)))
      (pss_one (ps_if (PW.pt (pw_or (pt_not (pt_val (pe_callB call_isi (by rfl) T.n_isinstance b_isinstance (pa_cons (pv 7) (pa_cons (pe_bltn (v := .ty "bool") (by rfl) T.n_bool b_bool rfl) pa_nil))))) (pw_or1 (pt_cmpR op_ne (pv 7) (pe_call G__law_is_string (hr.mono (by decide)) rfl T.m__law_is_string T.F__law_is_string.kp T.b__law_is_string .nil pass0 (pa_cons (pv 6) pa_nil)) (nomark _))))) (pss_one (ps_ret pe_bl)) pss_nil))))))))))
      (pss_one (ps_ret (pe_cmpR op_is_bl (pe_callK0 G_is_string (hr.mono (by decide)) rfl T.m_is_string T.F_is_string.kp (T.kb_is_string_thing) pass0 (pk_cons pe_str pk_nil)) pe_bl (nomark _))))))), ?_⟩
    have a39 : Asc [39] := fun c hc => by rw [List.mem_singleton.mp hc]; decide
    refine q_when (b := !isSt (.str (S (([39] : List Nat) ++ (List.replicate 1998 97) ++ [39]))) || isSt (.str (S (([39] : List Nat) ++ (List.replicate 1999 97))))) ?_ (fun hb => ?_) (fun _ H1 e1 => ?_)
    · have h1 := any_repl (H := H) (n := 1998) (by decide) [39] [39] (by decide) (by decide) a39 a39
      have h2 := any_repl (H := H) (n := 1999) (by decide) [39] [] (by decide) (by decide) a39 (fun _ h => absurd h List.not_mem_nil)
      rw [List.append_nil] at h2
      exact et_or (et_not (et_B (ev_call (ea_cons (ev_op (ev_op (ev_cS (l := [39]) rfl) (ev_mulC 1998 (ev_cS (l := [97]) rfl) (by decide)) (rv_addS (by simp))) (ev_cS (l := [39]) rfl) (rv_addS (by simp))) ea_nil) (spv_is_string h1)))) fun _ =>
        et_B (ev_call (ea_cons (ev_op (ev_cS (l := [39]) rfl) (ev_mulC 1999 (ev_cS (l := [97]) rfl) (by decide)) (rv_addS (by simp))) ea_nil) (spv_is_string h2))
    · rw [long1, long2] at hb; cases hb
    refine q_asgL (xs := lmenu) (el_lst (by repeat' first | exact ea_nil | refine ea_cons ev_c ?_) (by decide)) fun pm H4 hpm0 e4 hpm => ?_
    have spm : ∀ {H' : Hp}, Ex H4 H' → SqL K H' pm lmenu := fun e => sq_of (e _ _ hpm)
    have e04 : Ex H H4 := e1.trans e4
    refine q_forR1 (n := if (if (ns.map V.int).length < (12 : Int) then ((ns.map V.int).length : Int) else 12) > 4 then (if (ns.map V.int).length < (12 : Int) then ((ns.map V.int).length : Int) else 12) else 4)
      (ea_cons (ev_cb (ea_cons ev_c (ea_cons (ev_cb (ea_cons ev_c (ea_cons (ev_cb (ea_cons (ev_var rfl) ea_nil) (fun H5 e Q q => ⟨s, _, rfl, Or.inl (ex_l (e04.trans e) hS), q H5 (Ex.refl _)⟩)) ea_nil)) (fun H5 _ Q q => ⟨_, _, rfl, q H5 (Ex.refl _)⟩)) ea_nil)) (fun H5 _ Q q => ⟨_, _, rfl, q H5 (Ex.refl _)⟩)) ea_nil) ?_
      (fun i σ H' => ∃ v2 v3 v4 v5 v6 v7 : Option V, σ = [some (.ref s), some (.ref pm), v2, v3, v4, v5, v6, v7, none] ∧ Ex H4 H') (fun H' e => ⟨none, none, none, none, none, none, rfl, e⟩) ?_ ?_
    · rw [List.length_map]
      split <;> split <;> omega
    · rintro i σ H5 hi ⟨v2, v3, v4, v5, v6, v7, rfl, e5⟩
      have hi63 : (i : Int) < 64 := by
        rw [List.length_map] at hi
        split at hi <;> split at hi <;> omega
      refine q_asgQ (call_Q (ea_q ⟨_, rfl, ea_q ⟨_, rfl, ea_n ⟨s, i, ns, rfl, ex_l (e04.trans e5) hS, by omega, by omega, fun b H6 hb e6 bg6 => ?_⟩⟩⟩))
      have npm : pm ≠ b := ne_of_none (e5 _ _ hpm) hb
      have hb4 : H4 b = none := fresh_back e5 hb
      refine q_asgQ (lst_Q (ea_q (call_Q (ea_q ⟨_, rfl, ea_q (lst_Q (ea_n ⟨by decide, fun o ho => ea_n ⟨b, o, 0, rfl, bg6.upd (bg6.ne ho), by decide, upd_same, fun v H7 kp7 bg7 av => ?_⟩⟩))⟩))))
      have ex7 : Ex H4 H7 := (Kp.exx (e5.trans (e6.trans (Ex.new ho))) kp7).ex (Ex.refl _) hb4
      show tCons _ _ _ H7 _
      refine ea_Q (vs := lthings) ?_ fun H8 e8 => ?_
      · repeat' first | exact ea_nil | refine ea_cons ev_c ?_
      refine ⟨sz_of (by simp [lthings]), fun tl htl => ?_⟩
      have ntl : b ≠ tl := (bg7.ex e8).ne htl
      have htl4 : H4 tl = none := fresh_back (ex7.trans e8) htl
      have l0 : (v :: lthings).length = 11 := rfl
      have k0 : ∀ w ∈ v :: lthings, AnyV (upd H8 tl (.lst (v :: lthings))) w := fun w hw => by
        rcases List.mem_cons.mp hw with r | r
        · rw [r]; exact (av.mono e8).mono (Ex.new htl)
        · exact things_any w r
      generalize hxs : v :: lthings = xs0 at *
      refine q_appL (xs := xs0) upd_same (ev_var rfl) (el_lst (ea_cons ev_c ea_nil) (by decide)) (by omega) fun q H9 hq e9 h9 => ?_
      have bg9 := ((bg7.ex e8).upd ntl).ex e9
      have ex9 : Ex H4 (upd H9 tl (.lst (xs0 ++ [.ref q]))) := (((ex7.trans e8).trans (Ex.new htl)).trans e9).mut htl4
      have nq : q ≠ tl := fun z => by rw [z, upd_same] at hq; cases hq
      have k9 : ∀ w ∈ xs0 ++ [.ref q], AnyV (upd H9 tl (.lst (xs0 ++ [.ref q]))) w := fun w hw => by
        rcases List.mem_append.mp hw with r | r
        · exact ((k0 w r).mono e9).upd (xs := [])
        · rw [List.mem_singleton.mp r]
          exact .lst (by rw [upd_ne nq]; exact h9)
      refine q_forR1 (n := 20) (ea_cons ev_c ea_nil) (by decide)
        (fun j σ H' => ∃ (xs : List V) (v5 : Option V), σ = [some (.ref s), some (.ref pm), some (.int i), some (.ref b), some (.ref tl), v5, v6, v7, none] ∧ Ex H4 H' ∧ Bag H' b (1 + j * 40) ∧ H' tl = some (.lst xs) ∧ xs.length = 12 + 2 * j ∧ ∀ w ∈ xs, AnyV H' w)
        (fun H10 e10 => ⟨xs0 ++ [.ref q], v5, rfl, ex9.trans e10, ((bg9.upd ntl).ex e10).mono (by omega), e10 _ _ upd_same, by simp [l0], fun w hw => (k9 w hw).mono e10⟩) ?_ ?_
      · rintro j σ H10 hj ⟨xs, w5, rfl, e10, bg10, h10, l10, k10⟩
        refine ⟨_, rfl, Or.inl ⟨rfl, _, SqL.of h10⟩, rd_joined (m := 2) (s := 1) (fun z => z.length ≤ 2 ∧ Asc z) (fun _ h => h.1) rfl (ev_var rfl) ev_c bg10 (by omega) (by decide) (by decide) (by decide) (fun _ => rfl) (by decide) (by decide)
          (fun i' c' H11 _ hc' kp11 bg11 Q' q' => ?_) (fun zs H11 lz hz kp11 bg11 => ?_)⟩
        · refine rd_pick (xs := lmenu) (ev_var rfl) (ev_var rfl) ev_c (kp11.seq (spm e10) npm) npm bg11 (by omega) (by decide) (by decide) (by decide) (fun w H12 hw kp12 bg12 => ?_)
          obtain ⟨z, rfl, lz, az⟩ := tz_all (n := 2) (xs := lmenu) (by decide +kernel) w hw
          exact q' z H12 kp12 bg12 ⟨lz, az⟩
        have fl := flat_len (m := 2) fun z hz' => (hz z hz').1
        have af : Asc zs.flatten := Asc.flat fun z h => (hz z h).2
        have h11 := kp11 _ _ h10 (Ne.symm ntl)
        refine ⟨tl, _, _, rfl, rfl, h11, sz_lt (by omega), ?_⟩
        have e11 : Ex H4 (upd H11 tl (.lst (xs ++ [V.str (S zs.flatten)]))) := (kp11.ex e10 hb4).mut htl4
        have bg11' : Bag (upd H11 tl (.lst (xs ++ [V.str (S zs.flatten)]))) b (1 + j * 40 + 1 + 9 * 1) := bg11.upd ntl
        refine ⟨_, rfl, Or.inl ⟨rfl, _, SqL.of upd_same⟩, ⟨_, rfl, b, _, rfl, bg11', by omega, fun z H12 kp12 bg12 lz az => ?_⟩⟩
        have h12 := kp12 _ _ upd_same (Ne.symm ntl)
        refine ⟨tl, _, _, rfl, rfl, h12, sz_lt (by rw [List.length_append, l10]; simp; omega), ?_⟩
        refine ⟨_, _, rfl, (kp12.ex e11 hb4).mut htl4, (bg12.upd ntl).mono (by omega), upd_same, by simp [l10]; omega, fun w hw => ?_⟩
        obtain ⟨bs, hbs⟩ := bg12.lst
        obtain ⟨cs, hcs⟩ := bg11.lst
        rcases List.mem_append.mp hw with r | r
        · rcases List.mem_append.mp r with r | r
          · exact (((k10 w r).kp kp11 hcs).upd (xs := []) |>.kp kp12 hbs).upd (xs := [])
          · rw [List.mem_singleton.mp r]
            exact any_of (by omega) af
        · rw [List.mem_singleton.mp r]
          exact any_of (by omega) az
      · rintro σ H10 ⟨xs, w5, rfl, e10, bg10, h10, l10, k10⟩
        refine s_forLn (xs := xs) (ev_var rfl) (sq_of h10) (fun _ σ H' => ∃ w6 w7 : Option V, σ = [some (.ref s), some (.ref pm), some (.int i), some (.ref b), some (.ref tl), w5, w6, w7, none] ∧ Ex H10 H')
          (fun H' e => ⟨v6, v7, rfl, e⟩) (fun _ σ H' _ ⟨_, _, _, e⟩ => sq_of (e _ _ h10)) ?_ (fun σ H' ⟨w6, w7, e1', e⟩ => ⟨_, _, _, _, _, _, e1', e10.trans e⟩)
        rintro j x σ H11 hx ⟨w6, w7, rfl, e11⟩
        have ax : AnyV H11 x := (k10 x (mem_of_at hx)).mono e11
        refine q_asg (ev_call (ea_cons (ev_var rfl) ea_nil) (spv_is_string ax)) fun H12 e12 => ?_
        refine s_when (b := (!isBool (.bl (isSt x))) || !decide (V.bl (isSt x) = .bl (lSt x))) (et_or (et_not (et_B (ev_cb (ea_cons (ev_var rfl) (ea_cons ev_c ea_nil)) (rc_isBool (.bl _))))) fun _ => et_test (ev_op (ev_var rfl) (ev_call (ea_cons (ev_var rfl) ea_nil) (fun H13 e13 Q q E => ⟨x, rfl, (ax.mono e12).mono e13, fun H14 e14 => q H14 e14⟩)) (rv_ne rfl))) (fun hb => ?_) (fun _ H13 e13 => ?_)
        · rw [lSt_eq, decide_eq_true rfl] at hb
          cases hb
        · exact ⟨_, _, rfl, (e11.trans e12).trans e13⟩
    · rintro σ H5 ⟨v2, v3, v4, v5, v6, v7, rfl, e5⟩
      have n1 : isSt (.str "b''") = true := by decide +kernel
      refine s_ret (v := .bl (decide (isSt (.str "b''") = true))) (ev_op (ev_callK (ea_cons ev_c ea_nil) (spv_is_string (.str _ (by decide +kernel) (by decide +kernel)))) ev_c rv_isBl) fun H6 e6 => ?_
      rw [n1]
      exact k H6
theorem all_mk {P : Program} {w : World} {K : PySem.W.Frag} {h : Heap} {mg : Str → Option Value} {fa f_is_word_character f_name_end f_quote_at f_string_end f_is_string f__law_bag f__law_take f__law_any f__law_is_string f__law_cased f__law_quoted f_law r_PLAIN_PREFIXES : Addr} (X : K.In h) (G : h.Ns mainGlobals mg) (hfa : mg "law" = some (.ref fa))
    {od_is_word_character an_is_word_character od_name_end an_name_end od_quote_at an_quote_at od_string_end an_string_end od_is_string an_is_string od__law_bag an__law_bag od__law_take an__law_take od__law_any an__law_any od__law_is_string an__law_is_string od__law_cased an__law_cased od__law_quoted an__law_quoted od_law an_law dd_PLAIN_PREFIXES : Option Addr} {sl_is_word_character sl_name_end sl_quote_at sl_string_end sl_is_string sl__law_bag sl__law_take sl__law_any sl__law_is_string sl__law_cased sl__law_quoted sl_law sl_PLAIN_PREFIXES : Array (Option Value)} {oc_is_word_character kV_is_word_character dc_is_word_character pm_is_word_character cd_is_word_character ct_is_word_character oc_name_end kV_name_end dc_name_end pm_name_end cd_name_end ct_name_end oc_quote_at kV_quote_at dc_quote_at pm_quote_at cd_quote_at ct_quote_at oc_string_end kV_string_end dc_string_end pm_string_end cd_string_end ct_string_end oc_is_string kV_is_string dc_is_string pm_is_string cd_is_string ct_is_string oc__law_bag kV__law_bag dc__law_bag pm__law_bag cd__law_bag ct__law_bag oc__law_take kV__law_take dc__law_take pm__law_take cd__law_take ct__law_take oc__law_any kV__law_any dc__law_any pm__law_any cd__law_any ct__law_any oc__law_is_string kV__law_is_string dc__law_is_string pm__law_is_string cd__law_is_string ct__law_is_string oc__law_cased kV__law_cased dc__law_cased pm__law_cased cd__law_cased ct__law_cased oc__law_quoted kV__law_quoted dc__law_quoted pm__law_quoted cd__law_quoted ct__law_quoted oc_law kV_law dc_law pm_law cd_law ct_law : Value} {t_LETTERS t_DIGITS t_QUOTES t_PLAIN_PREFIXES_0 t_PLAIN_PREFIXES_1 t_PLAIN_PREFIXES_2 t_PLAIN_PREFIXES_3 t_PLAIN_PREFIXES_4 t_PLAIN_PREFIXES_5 t_MORE t_WRONG : Tok}{n_PLAIN_PREFIXES : Nat}
    (a_is_word_character : PySem.W.nsIn K mainGlobals "is_word_character" = some (some (.ref f_is_word_character)))
    (l_is_word_character : K.lookup f_is_word_character = some ⟨oc_is_word_character, od_is_word_character, .func (PySem.W.fnOf "is_word_character" "is_word_character" (defArgs s_is_word_character) (defBody s_is_word_character) (defScope s_is_word_character) .none kV_is_word_character dc_is_word_character pm_is_word_character an_is_word_character cd_is_word_character ct_is_word_character), sl_is_word_character⟩)
    (c_is_word_character : PySem.W.codeIn K cd_is_word_character "is_word_character" = true)
    (k_is_word_character : PySem.W.keepIn K (.ref f_is_word_character) = true)
    (a_name_end : PySem.W.nsIn K mainGlobals "name_end" = some (some (.ref f_name_end)))
    (l_name_end : K.lookup f_name_end = some ⟨oc_name_end, od_name_end, .func (PySem.W.fnOf "name_end" "name_end" (defArgs s_name_end) (defBody s_name_end) (defScope s_name_end) .none kV_name_end dc_name_end pm_name_end an_name_end cd_name_end ct_name_end), sl_name_end⟩)
    (c_name_end : PySem.W.codeIn K cd_name_end "name_end" = true)
    (k_name_end : PySem.W.keepIn K (.ref f_name_end) = true)
    (a_quote_at : PySem.W.nsIn K mainGlobals "quote_at" = some (some (.ref f_quote_at)))
    (l_quote_at : K.lookup f_quote_at = some ⟨oc_quote_at, od_quote_at, .func (PySem.W.fnOf "quote_at" "quote_at" (defArgs s_quote_at) (defBody s_quote_at) (defScope s_quote_at) .none kV_quote_at dc_quote_at pm_quote_at an_quote_at cd_quote_at ct_quote_at), sl_quote_at⟩)
    (c_quote_at : PySem.W.codeIn K cd_quote_at "quote_at" = true)
    (k_quote_at : PySem.W.keepIn K (.ref f_quote_at) = true)
    (a_string_end : PySem.W.nsIn K mainGlobals "string_end" = some (some (.ref f_string_end)))
    (l_string_end : K.lookup f_string_end = some ⟨oc_string_end, od_string_end, .func (PySem.W.fnOf "string_end" "string_end" (defArgs s_string_end) (defBody s_string_end) (defScope s_string_end) .none kV_string_end dc_string_end pm_string_end an_string_end cd_string_end ct_string_end), sl_string_end⟩)
    (c_string_end : PySem.W.codeIn K cd_string_end "string_end" = true)
    (k_string_end : PySem.W.keepIn K (.ref f_string_end) = true)
    (a_is_string : PySem.W.nsIn K mainGlobals "is_string" = some (some (.ref f_is_string)))
    (l_is_string : K.lookup f_is_string = some ⟨oc_is_string, od_is_string, .func (PySem.W.fnOf "is_string" "is_string" (defArgs s_is_string) (defBody s_is_string) (defScope s_is_string) .none kV_is_string dc_is_string pm_is_string an_is_string cd_is_string ct_is_string), sl_is_string⟩)
    (c_is_string : PySem.W.codeIn K cd_is_string "is_string" = true)
    (k_is_string : PySem.W.keepIn K (.ref f_is_string) = true)
    (a__law_bag : PySem.W.nsIn K mainGlobals "_law_bag" = some (some (.ref f__law_bag)))
    (l__law_bag : K.lookup f__law_bag = some ⟨oc__law_bag, od__law_bag, .func (PySem.W.fnOf "_law_bag" "_law_bag" (defArgs s__law_bag) (defBody s__law_bag) (defScope s__law_bag) .none kV__law_bag dc__law_bag pm__law_bag an__law_bag cd__law_bag ct__law_bag), sl__law_bag⟩)
    (c__law_bag : PySem.W.codeIn K cd__law_bag "_law_bag" = true)
    (k__law_bag : PySem.W.keepIn K (.ref f__law_bag) = true)
    (a__law_take : PySem.W.nsIn K mainGlobals "_law_take" = some (some (.ref f__law_take)))
    (l__law_take : K.lookup f__law_take = some ⟨oc__law_take, od__law_take, .func (PySem.W.fnOf "_law_take" "_law_take" (defArgs s__law_take) (defBody s__law_take) (defScope s__law_take) .none kV__law_take dc__law_take pm__law_take an__law_take cd__law_take ct__law_take), sl__law_take⟩)
    (c__law_take : PySem.W.codeIn K cd__law_take "_law_take" = true)
    (k__law_take : PySem.W.keepIn K (.ref f__law_take) = true)
    (a__law_any : PySem.W.nsIn K mainGlobals "_law_any" = some (some (.ref f__law_any)))
    (l__law_any : K.lookup f__law_any = some ⟨oc__law_any, od__law_any, .func (PySem.W.fnOf "_law_any" "_law_any" (defArgs s__law_any) (defBody s__law_any) (defScope s__law_any) .none kV__law_any dc__law_any pm__law_any an__law_any cd__law_any ct__law_any), sl__law_any⟩)
    (c__law_any : PySem.W.codeIn K cd__law_any "_law_any" = true)
    (k__law_any : PySem.W.keepIn K (.ref f__law_any) = true)
    (a__law_is_string : PySem.W.nsIn K mainGlobals "_law_is_string" = some (some (.ref f__law_is_string)))
    (l__law_is_string : K.lookup f__law_is_string = some ⟨oc__law_is_string, od__law_is_string, .func (PySem.W.fnOf "_law_is_string" "_law_is_string" (defArgs s__law_is_string) (defBody s__law_is_string) (defScope s__law_is_string) .none kV__law_is_string dc__law_is_string pm__law_is_string an__law_is_string cd__law_is_string ct__law_is_string), sl__law_is_string⟩)
    (c__law_is_string : PySem.W.codeIn K cd__law_is_string "_law_is_string" = true)
    (k__law_is_string : PySem.W.keepIn K (.ref f__law_is_string) = true)
    (a__law_cased : PySem.W.nsIn K mainGlobals "_law_cased" = some (some (.ref f__law_cased)))
    (l__law_cased : K.lookup f__law_cased = some ⟨oc__law_cased, od__law_cased, .func (PySem.W.fnOf "_law_cased" "_law_cased" (defArgs s__law_cased) (defBody s__law_cased) (defScope s__law_cased) .none kV__law_cased dc__law_cased pm__law_cased an__law_cased cd__law_cased ct__law_cased), sl__law_cased⟩)
    (c__law_cased : PySem.W.codeIn K cd__law_cased "_law_cased" = true)
    (k__law_cased : PySem.W.keepIn K (.ref f__law_cased) = true)
    (a__law_quoted : PySem.W.nsIn K mainGlobals "_law_quoted" = some (some (.ref f__law_quoted)))
    (l__law_quoted : K.lookup f__law_quoted = some ⟨oc__law_quoted, od__law_quoted, .func (PySem.W.fnOf "_law_quoted" "_law_quoted" (defArgs s__law_quoted) (defBody s__law_quoted) (defScope s__law_quoted) .none kV__law_quoted dc__law_quoted pm__law_quoted an__law_quoted cd__law_quoted ct__law_quoted), sl__law_quoted⟩)
    (c__law_quoted : PySem.W.codeIn K cd__law_quoted "_law_quoted" = true)
    (k__law_quoted : PySem.W.keepIn K (.ref f__law_quoted) = true)
    (a_law : PySem.W.nsIn K mainGlobals "law" = some (some (.ref f_law)))
    (l_law : K.lookup f_law = some ⟨oc_law, od_law, .func (PySem.W.fnOf "law" "law" (defArgs s_law) (defBody s_law) (defScope s_law) .none kV_law dc_law pm_law an_law cd_law ct_law), sl_law⟩)
    (c_law : PySem.W.codeIn K cd_law "law" = true)
    (k_law : PySem.W.keepIn K (.ref f_law) = true)
    (z_len : PySem.W.nsIn K mainGlobals "len" = some none)
    (z_abs : PySem.W.nsIn K mainGlobals "abs" = some none)
    (z_max : PySem.W.nsIn K mainGlobals "max" = some none)
    (z_min : PySem.W.nsIn K mainGlobals "min" = some none)
    (z_isinstance : PySem.W.nsIn K mainGlobals "isinstance" = some none)
    (z_range : PySem.W.nsIn K mainGlobals "range" = some none)
    (z_str : PySem.W.nsIn K mainGlobals "str" = some none)
    (z_int : PySem.W.nsIn K mainGlobals "int" = some none)
    (z_bool : PySem.W.nsIn K mainGlobals "bool" = some none)
    (a_LETTERS : PySem.W.nsIn K mainGlobals "LETTERS" = some (some (.str "abcdefghijklmnopqrstuvwxyzABCDEFGHIJKLMNOPQRSTUVWXYZ_" t_LETTERS)))
    (a_DIGITS : PySem.W.nsIn K mainGlobals "DIGITS" = some (some (.str "0123456789" t_DIGITS)))
    (a_QUOTES : PySem.W.nsIn K mainGlobals "QUOTES" = some (some (.str "'\"" t_QUOTES)))
    (a_PLAIN_PREFIXES : PySem.W.nsIn K mainGlobals "PLAIN_PREFIXES" = some (some (.ref r_PLAIN_PREFIXES)))
    (q_PLAIN_PREFIXES : K.lookup r_PLAIN_PREFIXES = some ⟨.type "tuple", dd_PLAIN_PREFIXES, .seq #[.str "" t_PLAIN_PREFIXES_0, .str "r" t_PLAIN_PREFIXES_1, .str "u" t_PLAIN_PREFIXES_2, .str "b" t_PLAIN_PREFIXES_3, .str "br" t_PLAIN_PREFIXES_4, .str "rb" t_PLAIN_PREFIXES_5] n_PLAIN_PREFIXES, sl_PLAIN_PREFIXES⟩)
    (a_MORE : PySem.W.nsIn K mainGlobals "MORE" = some (some (.int (-1) t_MORE)))
    (a_WRONG : PySem.W.nsIn K mainGlobals "WRONG" = some (some (.int (-2) t_WRONG)))
    : ∃ fd : FuncData, (∀ (s : Shared) (v : Value), BindsTo s fd ⟨[v], []⟩ [("_law_script", v)]) ∧ ∀ base : Heap, K.In base → base.Ns mainGlobals mg → FnOk P w K mg base CX0 4 fa fd ["_law_script"] (sp_law0 K) := by
  have e := hfa.symm.trans (PySem.W.mg_of X G a_law)
  cases e
  have F_is_word_character := fun_mk (st := s_is_word_character) l_is_word_character c_is_word_character k_is_word_character
  have b_is_word_character := F_is_word_character.binds (ps := ["character"]) fun _ _ _ _ _ _ us hl => match us, hl with | [_], _ => rfl
  have F_name_end := fun_mk (st := s_name_end) l_name_end c_name_end k_name_end
  have b_name_end := F_name_end.binds (ps := ["text", "at"]) fun _ _ _ _ _ _ us hl => match us, hl with | [_, _], _ => rfl
  have F_quote_at := fun_mk (st := s_quote_at) l_quote_at c_quote_at k_quote_at
  have b_quote_at := F_quote_at.binds (ps := ["text", "at", "is_final"]) fun _ _ _ _ _ _ us hl => match us, hl with | [_, _, _], _ => rfl
  have F_string_end := fun_mk (st := s_string_end) l_string_end c_string_end k_string_end
  have b_string_end := F_string_end.binds (ps := ["text", "at", "quote", "is_final"]) fun _ _ _ _ _ _ us hl => match us, hl with | [_, _, _, _], _ => rfl
  have F_is_string := fun_mk (st := s_is_string) l_is_string c_is_string k_is_string
  have b_is_string := F_is_string.binds (ps := ["thing"]) fun _ _ _ _ _ _ us hl => match us, hl with | [_], _ => rfl
  have F__law_bag := fun_mk (st := s__law_bag) l__law_bag c__law_bag k__law_bag
  have b__law_bag := F__law_bag.binds (ps := ["_law_script", "_law_at"]) fun _ _ _ _ _ _ us hl => match us, hl with | [_, _], _ => rfl
  have F__law_take := fun_mk (st := s__law_take) l__law_take c__law_take k__law_take
  have b__law_take := F__law_take.binds (ps := ["_law_bag_here", "_law_many"]) fun _ _ _ _ _ _ us hl => match us, hl with | [_, _], _ => rfl
  have F__law_any := fun_mk (st := s__law_any) l__law_any c__law_any k__law_any
  have b__law_any := F__law_any.binds (ps := ["_law_bag_here", "_law_objects"]) fun _ _ _ _ _ _ us hl => match us, hl with | [_, _], _ => rfl
  have F__law_is_string := fun_mk (st := s__law_is_string) l__law_is_string c__law_is_string k__law_is_string
  have b__law_is_string := F__law_is_string.binds (ps := ["_law_item"]) fun _ _ _ _ _ _ us hl => match us, hl with | [_], _ => rfl
  have F__law_cased := fun_mk (st := s__law_cased) l__law_cased c__law_cased k__law_cased
  have b__law_cased := F__law_cased.binds (ps := ["_law_bag_here", "_law_prefix"]) fun _ _ _ _ _ _ us hl => match us, hl with | [_, _], _ => rfl
  have F__law_quoted := fun_mk (st := s__law_quoted) l__law_quoted c__law_quoted k__law_quoted
  have b__law_quoted := F__law_quoted.binds (ps := ["_law_bag_here"]) fun _ _ _ _ _ _ us hl => match us, hl with | [_], _ => rfl
  have F_law := fun_mk (st := s_law) l_law c_law k_law
  have b_law := F_law.binds (ps := ["_law_script"]) fun _ _ _ _ _ _ us hl => match us, hl with | [_], _ => rfl
  let a : Ads := { is_word_character := f_is_word_character, d_is_word_character := PySem.W.fnOf "is_word_character" "is_word_character" (defArgs s_is_word_character) (defBody s_is_word_character) (defScope s_is_word_character) .none kV_is_word_character dc_is_word_character pm_is_word_character an_is_word_character cd_is_word_character ct_is_word_character, name_end := f_name_end, d_name_end := PySem.W.fnOf "name_end" "name_end" (defArgs s_name_end) (defBody s_name_end) (defScope s_name_end) .none kV_name_end dc_name_end pm_name_end an_name_end cd_name_end ct_name_end, quote_at := f_quote_at, d_quote_at := PySem.W.fnOf "quote_at" "quote_at" (defArgs s_quote_at) (defBody s_quote_at) (defScope s_quote_at) .none kV_quote_at dc_quote_at pm_quote_at an_quote_at cd_quote_at ct_quote_at, string_end := f_string_end, d_string_end := PySem.W.fnOf "string_end" "string_end" (defArgs s_string_end) (defBody s_string_end) (defScope s_string_end) .none kV_string_end dc_string_end pm_string_end an_string_end cd_string_end ct_string_end, is_string := f_is_string, d_is_string := PySem.W.fnOf "is_string" "is_string" (defArgs s_is_string) (defBody s_is_string) (defScope s_is_string) .none kV_is_string dc_is_string pm_is_string an_is_string cd_is_string ct_is_string, _law_bag := f__law_bag, d__law_bag := PySem.W.fnOf "_law_bag" "_law_bag" (defArgs s__law_bag) (defBody s__law_bag) (defScope s__law_bag) .none kV__law_bag dc__law_bag pm__law_bag an__law_bag cd__law_bag ct__law_bag, _law_take := f__law_take, d__law_take := PySem.W.fnOf "_law_take" "_law_take" (defArgs s__law_take) (defBody s__law_take) (defScope s__law_take) .none kV__law_take dc__law_take pm__law_take an__law_take cd__law_take ct__law_take, _law_any := f__law_any, d__law_any := PySem.W.fnOf "_law_any" "_law_any" (defArgs s__law_any) (defBody s__law_any) (defScope s__law_any) .none kV__law_any dc__law_any pm__law_any an__law_any cd__law_any ct__law_any, _law_is_string := f__law_is_string, d__law_is_string := PySem.W.fnOf "_law_is_string" "_law_is_string" (defArgs s__law_is_string) (defBody s__law_is_string) (defScope s__law_is_string) .none kV__law_is_string dc__law_is_string pm__law_is_string an__law_is_string cd__law_is_string ct__law_is_string, _law_cased := f__law_cased, d__law_cased := PySem.W.fnOf "_law_cased" "_law_cased" (defArgs s__law_cased) (defBody s__law_cased) (defScope s__law_cased) .none kV__law_cased dc__law_cased pm__law_cased an__law_cased cd__law_cased ct__law_cased, _law_quoted := f__law_quoted, d__law_quoted := PySem.W.fnOf "_law_quoted" "_law_quoted" (defArgs s__law_quoted) (defBody s__law_quoted) (defScope s__law_quoted) .none kV__law_quoted dc__law_quoted pm__law_quoted an__law_quoted cd__law_quoted ct__law_quoted, law := fa, d_law := PySem.W.fnOf "law" "law" (defArgs s_law) (defBody s_law) (defScope s_law) .none kV_law dc_law pm_law an_law cd_law ct_law, r_PLAIN_PREFIXES := r_PLAIN_PREFIXES }
  have T : Txt w K mg a := { F_is_word_character := F_is_word_character, b_is_word_character := b_is_word_character, m_is_word_character := PySem.W.mg_of X G a_is_word_character, F_name_end := F_name_end, b_name_end := b_name_end, m_name_end := PySem.W.mg_of X G a_name_end, F_quote_at := F_quote_at, b_quote_at := b_quote_at, m_quote_at := PySem.W.mg_of X G a_quote_at, F_string_end := F_string_end, b_string_end := b_string_end, m_string_end := PySem.W.mg_of X G a_string_end, F_is_string := F_is_string, b_is_string := b_is_string, m_is_string := PySem.W.mg_of X G a_is_string, kb_is_string_thing := kb1 (fun _ => rfl) (fun _ => rfl), F__law_bag := F__law_bag, b__law_bag := b__law_bag, m__law_bag := PySem.W.mg_of X G a__law_bag, F__law_take := F__law_take, b__law_take := b__law_take, m__law_take := PySem.W.mg_of X G a__law_take, F__law_any := F__law_any, b__law_any := b__law_any, m__law_any := PySem.W.mg_of X G a__law_any, F__law_is_string := F__law_is_string, b__law_is_string := b__law_is_string, m__law_is_string := PySem.W.mg_of X G a__law_is_string, F__law_cased := F__law_cased, b__law_cased := b__law_cased, m__law_cased := PySem.W.mg_of X G a__law_cased, F__law_quoted := F__law_quoted, b__law_quoted := b__law_quoted, m__law_quoted := PySem.W.mg_of X G a__law_quoted, F_law := F_law, b_law := b_law, m_law := PySem.W.mg_of X G a_law, n_len := PySem.W.mg_none_of X G z_len, n_abs := PySem.W.mg_none_of X G z_abs, n_max := PySem.W.mg_none_of X G z_max, n_min := PySem.W.mg_none_of X G z_min, n_isinstance := PySem.W.mg_none_of X G z_isinstance, n_range := PySem.W.mg_none_of X G z_range, n_str := PySem.W.mg_none_of X G z_str, n_int := PySem.W.mg_none_of X G z_int, n_bool := PySem.W.mg_none_of X G z_bool, m_LETTERS := ⟨_, PySem.W.mg_of X G a_LETTERS⟩, m_DIGITS := ⟨_, PySem.W.mg_of X G a_DIGITS⟩, m_QUOTES := ⟨_, PySem.W.mg_of X G a_QUOTES⟩, m_PLAIN_PREFIXES := PySem.W.mg_of X G a_PLAIN_PREFIXES, q_PLAIN_PREFIXES := fun H => Or.inr ⟨_, _, _, q_PLAIN_PREFIXES, rfl, rfl, (by show 6 ≤ sizeLine; decide), (show Vals _ _ from (.cons ⟨_, rfl⟩ (.cons ⟨_, rfl⟩ (.cons ⟨_, rfl⟩ (.cons ⟨_, rfl⟩ (.cons ⟨_, rfl⟩ (.cons ⟨_, rfl⟩ .nil)))))))⟩, m_MORE := ⟨_, PySem.W.mg_of X G a_MORE⟩, m_WRONG := ⟨_, PySem.W.mg_of X G a_WRONG⟩ }
  refine ⟨a.d_law, fun s v => .of_eq rfl, fun base _ _ => ?_⟩
  have G_is_word_character : FnOk P w K mg base CX0 1 a.is_word_character a.d_is_word_character ["character"] (sp_is_word_character K a) := ok_is_word_character T
  have G_name_end : FnOk P w K mg base CX0 2 a.name_end a.d_name_end ["text", "at"] (sp_name_end K a) := ok_name_end T G_is_word_character
  have G_quote_at : FnOk P w K mg base CX0 1 a.quote_at a.d_quote_at ["text", "at", "is_final"] (sp_quote_at K a) := ok_quote_at T
  have G_string_end : FnOk P w K mg base CX0 1 a.string_end a.d_string_end ["text", "at", "quote", "is_final"] (sp_string_end K a) := ok_string_end T
  have G_is_string : FnOk P w K mg base CX0 3 a.is_string a.d_is_string ["thing"] (sp_is_string K a) := ok_is_string T G_name_end G_quote_at G_string_end
  have G__law_bag : FnOk P w K mg base CX0 1 a._law_bag a.d__law_bag ["_law_script", "_law_at"] (sp__law_bag K a) := ok__law_bag T
  have G__law_take : FnOk P w K mg base CX0 1 a._law_take a.d__law_take ["_law_bag_here", "_law_many"] (sp__law_take K a) := ok__law_take T
  have G__law_any : FnOk P w K mg base CX0 2 a._law_any a.d__law_any ["_law_bag_here", "_law_objects"] (sp__law_any K a) := ok__law_any T G__law_take
  have G__law_cased : FnOk P w K mg base CX0 2 a._law_cased a.d__law_cased ["_law_bag_here", "_law_prefix"] (sp__law_cased K a) := ok__law_cased T G__law_take
  have G__law_quoted : FnOk P w K mg base CX0 3 a._law_quoted a.d__law_quoted ["_law_bag_here"] (sp__law_quoted K a) := ok__law_quoted T G__law_cased G__law_take
  have G__law_is_string : FnOk P w K mg base CX0 1 a._law_is_string a.d__law_is_string ["_law_item"] (sp__law_is_string K a) := ok__law_is_string T
  have G_law : FnOk P w K mg base CX0 4 a.law a.d_law ["_law_script"] (sp_law K a) := ok_law T G_is_string G__law_bag G__law_any G__law_take G__law_quoted G__law_is_string
  exact G_law
end K05
open PySem PySem.W PyProof.Rows
set_option maxRecDepth 100000 in
set_option maxHeartbeats 0 in
theorem PySem.Challenge.cw_indentokens_k05_strings_known_holds : PySem.Challenge.rw_indentokens_k05_strings_known.Holds := by
  w_on; o_law; k_head; (case hw => w_witness2)
  k_fill
  refine L2.walk_of (CX := fun _ => L2.CX0) (l := PySem.Challenge.rw_indentokens_k05_strings_known) (n := 63) (k := 4) (x := "_law_script") (sp := fun w => K05.sp_law0 _) rfl (by decide) rfl ⟨rfl, by decide, by decide⟩ (fun w h Y => PySem.W.kIn_of Y) ?F (fun w H b ns hl _ hS => K05.law_sp hl hS) (fun _ _ _ _ _ z => z)
  case F =>
    intro w mg fa h KX G hmg
    refine' K05.all_mk KX G hmg ?a_is_word_character ?l_is_word_character ?c_is_word_character ?k_is_word_character ?a_name_end ?l_name_end ?c_name_end ?k_name_end ?a_quote_at ?l_quote_at ?c_quote_at ?k_quote_at ?a_string_end ?l_string_end ?c_string_end ?k_string_end ?a_is_string ?l_is_string ?c_is_string ?k_is_string ?a__law_bag ?l__law_bag ?c__law_bag ?k__law_bag ?a__law_take ?l__law_take ?c__law_take ?k__law_take ?a__law_any ?l__law_any ?c__law_any ?k__law_any ?a__law_is_string ?l__law_is_string ?c__law_is_string ?k__law_is_string ?a__law_cased ?l__law_cased ?c__law_cased ?k__law_cased ?a__law_quoted ?l__law_quoted ?c__law_quoted ?k__law_quoted ?a_law ?l_law ?c_law ?k_law ?z_len ?z_abs ?z_max ?z_min ?z_isinstance ?z_range ?z_str ?z_int ?z_bool ?a_LETTERS ?a_DIGITS ?a_QUOTES ?a_PLAIN_PREFIXES ?q_PLAIN_PREFIXES ?a_MORE ?a_WRONG
    (case a_is_word_character => k_is)
    (case l_is_word_character => k_is)
    (case c_is_word_character => k_is)
    (case k_is_word_character => k_is)
    (case a_name_end => k_is)
    (case l_name_end => k_is)
    (case c_name_end => k_is)
    (case k_name_end => k_is)
    (case a_quote_at => k_is)
    (case l_quote_at => k_is)
    (case c_quote_at => k_is)
    (case k_quote_at => k_is)
    (case a_string_end => k_is)
    (case l_string_end => k_is)
    (case c_string_end => k_is)
    (case k_string_end => k_is)
    (case a_is_string => k_is)
    (case l_is_string => k_is)
    (case c_is_string => k_is)
    (case k_is_string => k_is)
    (case a__law_bag => k_is)
    (case l__law_bag => k_is)
    (case c__law_bag => k_is)
    (case k__law_bag => k_is)
    (case a__law_take => k_is)
    (case l__law_take => k_is)
    (case c__law_take => k_is)
    (case k__law_take => k_is)
    (case a__law_any => k_is)
    (case l__law_any => k_is)
    (case c__law_any => k_is)
    (case k__law_any => k_is)
    (case a__law_is_string => k_is)
    (case l__law_is_string => k_is)
    (case c__law_is_string => k_is)
    (case k__law_is_string => k_is)
    (case a__law_cased => k_is)
    (case l__law_cased => k_is)
    (case c__law_cased => k_is)
    (case k__law_cased => k_is)
    (case a__law_quoted => k_is)
    (case l__law_quoted => k_is)
    (case c__law_quoted => k_is)
    (case k__law_quoted => k_is)
    (case a_law => k_is)
    (case l_law => k_is)
    (case c_law => k_is)
    (case k_law => k_is)
    (case z_len => k_is)
    (case z_abs => k_is)
    (case z_max => k_is)
    (case z_min => k_is)
    (case z_isinstance => k_is)
    (case z_range => k_is)
    (case z_str => k_is)
    (case z_int => k_is)
    (case z_bool => k_is)
    (case a_LETTERS => k_is)
    (case a_DIGITS => k_is)
    (case a_QUOTES => k_is)
    (case a_PLAIN_PREFIXES => k_is)
    (case q_PLAIN_PREFIXES => k_is)
    (case a_MORE => k_is)
    (case a_WRONG => k_is)
