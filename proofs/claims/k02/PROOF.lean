import PyProof.Rows.All
import Wide.All
import OpenK.AllK
import Wide.FinOn
import HandS.HeadHook2
import HandS.ExcInit
import HandS.ExcCtx
import HandS.ExcIs
import HandS.ExcField
import KE.KExcSuper
import KE.KSuper
import HandS.ForMost
import HandS.Exc
import HandS.ExcOwn
import HandS.Hot
import HandS.HotCalls
import HandS.Wide
import HandS.CallSlots
import HandS.Gcd
import HandS.IsInst
import HandS.SortInts
import HandS.Defaults
import HandS.Comp
import KE.KExcIs
import HandS.Codes
import HandS.Head0
import HandS.Head1
import HandS.Head2
import HandS.Head3
import HandS.HeadEnd
import HandS.Ends
import HandS.Dict
import HandS.SetFor
import HandS.Small
import HandS.Words
import PyProof.Rows.CountFlat
import HandS.Strs
import HandS.Style
import KE.GoesEnum
import HandS.Iter
import HandS.Conv
import PySem.Challenge.RW_coinholes_k02_rests_are_least
-- FxE
set_option Elab.async false
set_option linter.all false
set_option maxRecDepth 100000
set_option maxHeartbeats 2000000
/-! FxE: the making of own errors whose __init__ is super().__init__('..'); self.f = f .. -/
namespace FxEr

open PySem PySem.W PySem.Calls PyProof.Rows PySem.Spec

def supE (txt : Str) (j : Nat) (p0 p1 p2 p3 p4 : Pos) : PySem.Expr := .Call (.Attribute (.Call (.Name "super" p0) [] [] p1) "__init__" p2) [.Constant (.str txt) j p3] [] p4
def supS (txt : Str) (j : Nat) (p0 p1 p2 p3 p4 p5 : Pos) : Stmt := .Expr (supE txt j p0 p1 p2 p3 p4) p5
/-- how it is taken, wherever it runs -/
def SupOk (qual : Str) (scope : Scope) (txt : Str) (j : Nat) (p0 p1 p2 p3 p4 : Pos) : Prop := ∀ (L fI cda cc : Addr), ∃ pl : Sem Bool, eval (supE txt j p0 p1 p2 p3 p4) (ksEnv qual scope L fI (.ref cda) cc) = (do
  let ov ← attributeBase (.Call (.Name "super" p0) [] [] p1) "__init__" (ksEnv qual scope L fI (.ref cda) cc) (eval (.Call (.Name "super" p0) [] [] p1) (ksEnv qual scope L fI (.ref cda) cc))
  standAt p2.atName
  let (f, first) ← holding [ov] (getMethod ov "__init__" pl)
  callWith p4 f first (backTo p4 (starEach [.Constant (.str txt) j p3] (ksEnv qual scope L fI (.ref cda) cc))) [])
def asgS (f : Str) (q1 q2 q3 q4 : Pos) : Stmt := .Assign [.Attribute (.Name "self" q1) f q2] (.Name f q3) q4
/-- such a body -/
inductive InitB (qual : Str) (scope : Scope) : List Str → List Stmt → Prop
  | b0 (txt j p0 p1 p2 p3 p4 p5) : SupOk qual scope txt j p0 p1 p2 p3 p4 → InitB qual scope [] [supS txt j p0 p1 p2 p3 p4 p5]
  | b1 (f : Str) (txt j p0 p1 p2 p3 p4 p5 q1 q2 q3 q4) : SupOk qual scope txt j p0 p1 p2 p3 p4 → InitB qual scope [f] [supS txt j p0 p1 p2 p3 p4 p5, asgS f q1 q2 q3 q4]
  | b2 (f g : Str) (txt j p0 p1 p2 p3 p4 p5 q1 q2 q3 q4 r1 r2 r3 r4) : f ≠ g → SupOk qual scope txt j p0 p1 p2 p3 p4 → InitB qual scope [f, g] [supS txt j p0 p1 p2 p3 p4 p5, asgS f q1 q2 q3 q4, asgS g r1 r2 r3 r4]
/-- what the written part says of the class at C, of its __init__ at fI -/
structure Txt (prog : Program) (K : Frag) (mg : Str → Option Value) (x : Str) (C fI : Addr) (fs : List Str) : Prop where
  gC : mg x = some (.ref C)
  cls : ∃ nm q N bs bm sn sub ab col dd k0 k1 k2 k3 k5, K.lookup C = some (excClassObj nm q C N bs bm true sn sub ab col dd k0 k1 k2 k3 k5 "ValueError.__new__") ∧ HandSPX.refsVE bm = true
  sa : findIn K (.ref C) "__setattr__" = some (some (.builtin "object.__setattr__"))
  noN : ∀ f ∈ fs, findIn K (.ref C) f = some none
  iC : findIn K (.ref C) "__init__" = some (some (.ref fI))
  tC : typeIn K (.ref fI) = some (.type "function")
  kC : keepIn K (.ref C) = true
  exC : subIn K (.ref C) (.type "BaseException") = some true
  tyC : typeIn K (.ref C) = some (.type "type")
  iq : excInitIn K C He.veBase "ValueError.__new__" = true
  hm : ks_superIn K C C "__init__" = some (some (.builtin "ValueError.__init__"))
  hB : subIn K (.ref C) (.type "ValueError") = some true
  hsub : mroIn K C (.ref C) = some true
  hsup : nsIn K mainGlobals "super" = some none
  ho : nsIn K cStatics "thirdparty.any" = some none
  htop : (prog.main.scope.names.lookup ("super" : Str)).isSome = false
  fn : ∃ (oc : Value) (od : Option Addr) (osl : Array (Option Value)) (qual : Str) (params : Arguments) (body : List Stmt) (scope : Scope) (kV doc pm ct : Value) (an : Option Addr) (cda cc : Addr) (ccl : Value) (cdd : Option Addr) (vs : Array Value) (ccs : Array (Option Value)) (file : Str) (tf : Tok)
      (cl : Value) (cld : Option Addr) (csl : Array (Option Value)) (ar : Arg),
    K.lookup fI = some ⟨oc, od, .func (ksFn "__init__" qual params body scope .none kV doc pm an (.ref cda) ct cc), osl⟩ ∧ codeIn K (.ref cda) qual = true ∧ K.lookup cda = some ⟨ccl, cdd, .fields vs, ccs⟩ ∧ vs[2]? = some (.str file tf) ∧ ((prog.main.file : Str) == file) = true ∧
    K.lookup cc = some ⟨cl, cld, .cell (some (.ref C)), csl⟩ ∧ InitB qual scope fs body ∧ (params.posonlyargs ++ params.args).head? = some ar ∧ ar.arg = ("self" : Str) ∧
    (∀ y ∈ scope.names, y.2 ≠ .cell) ∧ scope.isCoroutine = false ∧ scope.isGenerator = false ∧ scope.kind = .function ∧ scope.names.lookup ("super" : Str) = some .globalImplicit ∧ scope.names.lookup ("__class__" : Str) = some .free ∧ scope.names.lookup ("self" : Str) = some .local ∧
    (∀ f ∈ fs, scope.names.lookup f = some .local ∧ f ≠ ("self" : Str) ∧ (f == ("__debug__" : Str)) = false) ∧
    ∀ us : List Value, us.length = fs.length + 1 → bindArgs (ksFn "__init__" qual params body scope .none kV doc pm an (.ref cda) ct cc) ⟨us, []⟩ = pure ((("self" : Str) :: fs).zip us)
section
variable {prog : Program} {w : World} {A : Around} {E : Value → Shared → Prop} {s : Shared} {h₀ : Heap} {L : Addr} {m mg mb : Str → Option Value} {news : List (Addr × Obj)} {K : Frag} {x C D f cc cda so : Addr} {ox : Obj} {odx : Option Obj}
/-- super(), where the module's names are known -/
theorem node0 {body : List Stmt} {q : Str} {scope : Scope} {p0 p1 : Pos} {attr : Str} {whole : Sem Value} {fd : FuncData} {ar : Arg} {vs : Array Value} {file : Str} {tf : Tok} {oc ccl cl : Value} {od cdd cld : Option Addr} {osl ccs csl : Array (Option Value)} {cdD : ClassData} {Q : Value → Shared → Prop}
    (F : Fr h₀ L s.heap m) (X₀ : K.In h₀) (N : News h₀ L s.heap news) (Tg : h₀.Ns mainGlobals mg) (Tb : h₀.Ns builtinsNs mb) (Tm : ∀ x : Str, x ≠ "__name__" → mb x = bootBuiltins x)
    (hf : K.lookup f = some ⟨oc, od, .func fd, osl⟩) (hp : (fd.params.posonlyargs ++ fd.params.args).head? = some ar) (hv : m ar.arg = some (.ref x)) (I : InstAt s.heap x ox C odx)
    (hcode : K.lookup cda = some ⟨ccl, cdd, .fields vs, ccs⟩) (hvs : vs[2]? = some (.str file tf)) (hfile : ((prog.main.file : Str) == file) = true)
    (hcell : K.lookup cc = some ⟨cl, cld, .cell (some (.ref D)), csl⟩) (hD : clsIn K D = some cdD) (hsub : mroIn K C (.ref D) = some true) (hsuper : nsIn K mainGlobals "super" = some none)
    (hat : (attr == ("__class__" : Str)) = false) (hks : scope.names.lookup ("super" : Str) = some .globalImplicit) (hkc : scope.names.lookup ("__class__" : Str) = some .free) (hka : scope.names.lookup ar.arg = some .local) (hk : scope.kind = .function)
    (htop : (prog.main.scope.names.lookup ("super" : Str)).isSome = false)
    (h : ∀ so h', Fr h₀ L h' m → News h₀ L h' ((so, ks_superObj D x C) :: news) → (∀ p ∈ news, p.1 < so) → Q (.ref so) { s with heap := h' }) :
    _root_.PySem.wpAt (model prog w) A (.func body (ksEnv q scope L f (.ref cda) cc)) (attributeBase (.Call (.Name "super" p0) [] [] p1) attr (ksEnv q scope L f (.ref cda) cc) whole) Q E s := by
  have X : K.In s.heap := X₀.keeps F.keep
  obtain ⟨hh, g, d, t, os⟩ := s
  obtain ⟨oD, hD1, hD2⟩ : ∃ oD, hh.get? D = some oD ∧ oD.data = .cls cdD := by
    unfold clsIn at hD
    split at hD
    · rename_i c d cd' sl ho
      cases hD
      exact ⟨_, X _ _ ho, rfl⟩
    · cases hD
  refine ks_wpAt_super_base (env := ksEnv q scope L f (.ref cda) cc) hks hkc hat rfl (X _ _ hf) rfl hp rfl (X _ _ hcode) rfl hvs hfile htop ?_
  refine ks_loadName_global hk hks (loadGlobal_builtin (env := ksEnv q scope L f (.ref cda) cc) (Tg.keeps F.keep) (mg_none_of X₀ Tg hsuper) (Tb.keeps F.keep) ((Tm _ (by decide +kernel)).trans (by first | boot_by_name | rfl | kernel_rfl)) ⟨rfl, ?_⟩)
  refine wpAny_loadName_free hk hkc rfl ⟨_, X _ _ hcell, rfl⟩ ?_
  refine wpAny_loadName_local hk hka F.ns hv ?_
  refine ks_wpAny_isType_cls hD1 hD2 ⟨rfl, ?_⟩
  refine ks_wpAny_call_super hD1 hD2 I.at_ I.cls (fun c e => ?_) (looks_mroIn X hsub) (fun h' e k => ?_)
  · have := I.no
    unfold notCls at this
    rw [e] at this
    exact Bool.noConfusion this
  · obtain ⟨F', N', l'⟩ := ks_newsPush (s := ⟨hh, g, d, t, os⟩) F N rfl e k
    exact h _ _ F' N' l'
end
theorem one_size (v : Value) : [v].length ≤ sizeLine := by
  rw [sizeLine_eq]
  exact (by decide : 1 ≤ 16777216)
section
variable {prog : Program} {w : World} {A : Around} {E : Value → Shared → Prop} {s : Shared} {h₀ : Heap} {L : Addr} {m mg mb : Str → Option Value} {K : Frag} {x C fI cc cda : Addr}
/-- super().__init__('..') -/
theorem sup_step {body : List Stmt} {qual : Str} {scope : Scope} {txt : Str} {j : Nat} {p0 p1 p2 p3 p4 p5 : Pos} {fd : FuncData} {ar : Arg} {vs : Array Value} {file : Str} {tf : Tok} {oc ccl cl : Value} {od cdd cld : Option Addr} {osl ccs csl : Array (Option Value)} {cdC : ClassData} {Q : Flow → Shared → Prop} {t0 : Addr}
    (F : Fr h₀ L s.heap m) (X₀ : K.In h₀) (N : News h₀ L s.heap [(x, excObj C t0 none .none)]) (Tg : h₀.Ns mainGlobals mg) (Tb : h₀.Ns builtinsNs mb) (Tm : ∀ x : Str, x ≠ "__name__" → mb x = bootBuiltins x)
    (sok : SupOk qual scope txt j p0 p1 p2 p3 p4) (hf : K.lookup fI = some ⟨oc, od, .func fd, osl⟩) (hp : (fd.params.posonlyargs ++ fd.params.args).head? = some ar) (ha : ar.arg = ("self" : Str)) (hv : m "self" = some (.ref x))
    (hcode : K.lookup cda = some ⟨ccl, cdd, .fields vs, ccs⟩) (hvs : vs[2]? = some (.str file tf)) (hfile : ((prog.main.file : Str) == file) = true)
    (hcell : K.lookup cc = some ⟨cl, cld, .cell (some (.ref C)), csl⟩) (hC : clsIn K C = some cdC) (hsub : mroIn K C (.ref C) = some true) (hsuper : nsIn K mainGlobals "super" = some none)
    (hks : scope.names.lookup ("super" : Str) = some .globalImplicit) (hkc : scope.names.lookup ("__class__" : Str) = some .free) (hka : scope.names.lookup ("self" : Str) = some .local) (hk : scope.kind = .function)
    (htop : (prog.main.scope.names.lookup ("super" : Str)).isSome = false) (ho : nsIn K cStatics "thirdparty.any" = some none) (hm : ks_superIn K C C "__init__" = some (some (.builtin "ValueError.__init__"))) (hB : subIn K (.ref C) (.type "ValueError") = some true)
    (iq : excInitIn K C He.veBase "ValueError.__new__" = true)
    (h : ∀ h' t' tk, Fr h₀ L h' m → News h₀ L h' [(x, excObj C t' none .none)] → Q .next { s with heap := h', toks := tk }) :
    _root_.PySem.wpAt (model prog w) A (.func body (ksEnv qual scope L fI (.ref cda) cc)) (exec (supS txt j p0 p1 p2 p3 p4 p5) (ksEnv qual scope L fI (.ref cda) cc)) Q E s := by
  have bk : (ksEnv qual scope L fI (.ref cda) cc).blockKind = .function := by unfold Env.blockKind; rw [show (ksEnv qual scope L fI (.ref cda) cc).scope.kind = .function from hk]; rfl
  obtain ⟨pl, hev⟩ := sok L fI cda cc
  refine ks_wpAt_Expr_any (ks_wpAt_MethodCall (pl := pl) ?_ hev) (by unfold interactive; rw [show (ksEnv qual scope L fI (.ref cda) cc).scope.kind = .function from hk]; rfl) (by rfl)
  refine node0 (C := C) (D := C) F X₀ N Tg Tb Tm hf hp (by rw [ha]; exact hv) (.of_exc0 N List.mem_cons_self) hcode hvs hfile hcell hC hsub hsuper (by decide) hks hkc (by rw [ha]; exact hka) hk htop fun so h1 F1 N1 l1 => ?_
  refine kxs_method kxs_ValueError (s := { s with heap := h1 }) F1 X₀ N1 List.mem_cons_self (.of_exc0 N1 (.tail _ List.mem_cons_self)) ho hm hB (by decide) fun q h2 F2 N2 l2 => ?_
  refine kxs_callWith1 N2 List.mem_cons_self (spliced_more (wpAny_Constant_str (spliced_none ⟨kxs_at (h := h2) N2 List.mem_cons_self, ?_⟩)) rfl) rfl rfl
  have n1 : q ≠ x := Nat.ne_of_gt (l2 (x, excObj C t0 none .none) (.tail _ List.mem_cons_self))
  have n2 : so ≠ x := Nat.ne_of_gt (l1 (x, excObj C t0 none .none) List.mem_cons_self)
  refine kxs_call (L := L) (m := m) (s := ⟨h2, s.gens, s.drawn, s.toks + 1 + 1, s.os⟩) F2 X₀ N2 PySem.F.excBase_ValueError iq List.mem_cons_self (.tail n1 (.tail n2 (.head fun p hp => nomatch hp))) (one_size _) fun t' h3 F3 N3 l3 => ?_
  exact h h3 t' _ F3 fun p hp => N3 p (by
    rcases List.mem_cons.mp hp with e | e
    · subst e; simp
    · cases e)
/-- what __init__ leaves -/
structure InitEnd (h₀ h' : Heap) (x C : Addr) (fs : List Str) (vs : List Value) : Prop where
  keep : ∀ b o, h₀.get? b = some o → h'.get? b = some o
  ex : ∃ (t1 : Addr) (dd : Option Addr), h'.get? x = some { cls := .ref C, dict := dd, data := .fields #[.ref t1, .none, .none, .none, .bool false, .none] } ∧
    ((fs = [] ∧ dd = none) ∨ fs ≠ [] ∧ ∃ (dx : Addr) (mA : Str → Option Value), dd = some dx ∧ h₀.objs.size ≤ dx ∧ dx ≠ x ∧ h'.Ns1 dx mA ∧ ∀ y, mA y = (fs.zip vs).lookup y)
theorem kept_but {h h' : Heap} (X : K.In h) (hx : K.lookup x = none) (k : ∀ b o, b ≠ x → h.get? b = some o → h'.get? b = some o) : K.In h' := fun a o e =>
  k a o (fun z => by rw [z, hx] at e; cases e) (X a o e)
theorem ldX {M : Model} {qual : Str} {scope : Scope} {cd : Value} {y : Str} {pos : Pos} {v : Value} {Q : Value → Shared → Prop} {f : Addr} (hn : s.heap.Ns L m) (hv : m y = some v) (h : Q v s)
    (hk : scope.kind = .function) (hl : scope.names.lookup y = some .local) (hd : (y == ("__debug__" : Str)) = false) :
    wpAny M A (eval (.Name y pos) (ksEnv qual scope L f cd cc)) Q E s := wpAny_Name (wpAny_loadName_local (env := ksEnv qual scope L f cd cc) hk hl hn hv h) hd
theorem init_run {fs : List Str} {vs : List Value} {R : Result → Shared → Prop} {y : Str} {t0 : Addr} (T : Txt prog K mg y C fI fs) (X₀ : K.In h₀) (k0 : ∀ b o, h₀.get? b = some o → s.heap.get? b = some o) (hsz : h₀.objs.size ≤ s.heap.objs.size) (hx0 : h₀.get? x = none) (hx : s.heap.get? x = some (excObj C t0 none .none)) (hlim : s.heap.NoLimit)
    (Tg : h₀.Ns mainGlobals mg) (Tb : h₀.Ns builtinsNs mb) (Tm : ∀ x : Str, x ≠ "__name__" → mb x = bootBuiltins x) (hvs : vs.length = fs.length) (hroom : A.depth < recursionLimit)
    (hq : ∀ h' tk, InitEnd h₀ h' x C fs vs → R (.ok (.ret .none)) { s with heap := h', toks := tk }) :
    codeAny (model prog w) A (.call (.ref fI) ⟨.ref x :: vs, []⟩) R s := by
  obtain ⟨oc, od, osl, qual, params, body, scope, kV, doc, pm, ct, an, cda, cc, ccl, cdd, cvs, ccs, file, tf, cl, cld, csl, ar, lk, hcd, lcode, hvf, hfile, lcell, hb, hp, ha, hnc, hco, hgen, hkind, hks, hkc, hka, hfs, hbind⟩ := T.fn
  obtain ⟨nm, q, N, bs, bm, sn, sub, ab, col, dd, k0', k1, k2, k3, k5, hC, hbm⟩ := T.cls
  have hcl : clsIn K C = some { name := nm, bases := bs, mro := .ref C :: bm, ns := N, qualname := q, hasDict := true, slotNames := sn, subclasses := sub, abstract := ab, collection := col, hasDel := false } := by unfold clsIn; rw [hC] <;> rfl
  have Xs : K.In s.heap := X₀.keeps k0
  have hnx : K.lookup x = none := by
    cases e : K.lookup x with
    | none => rfl
    | some o =>
      have z : h₀.get? x = some o := X₀ _ _ e
      rw [hx0] at z
      cases z
  have hlen : (Value.ref x :: vs).length = fs.length + 1 := by rw [List.length_cons, hvs]
  refine ks_codeAny_call_defAt (fd := ksFn "__init__" qual params body scope .none kV doc pm an (.ref cda) ct cc) (body := body) (binds := (("self" : Str) :: fs).zip (.ref x :: vs)) hroom (Xs _ _ lk) rfl hlim (codeRec_of Xs hcd) rfl (BindsTo.of_eq (hbind _ hlen)) hnc (fun z hz => ?_) (fun h₁ hns hk₁ => ?_) hco hgen hkind
  · rcases List.mem_cons.mp (List.of_mem_zip hz).1 with e | e
    · rw [e]; exact hka
    · exact (hfs _ e).1
  · have F : Fr h₀ s.heap.objs.size h₁ _ := ⟨hns, fun b o e => hk₁ b o (k0 b o e), hsz⟩
    have N : News h₀ s.heap.objs.size h₁ [(x, excObj C t0 none .none)] := fun p hp => by
      rcases List.mem_cons.mp hp with e | e
      · subst e
        exact ⟨hk₁ _ _ hx, Nat.ne_of_lt (Heap.lt_size hx), hx0⟩
      · cases e
    have mself : ((("self" : Str), Value.ref x) :: fs.zip vs).reverse.lookup ("self" : Str) = some (.ref x) := by
      rw [List.reverse_cons, List.lookup_append]
      have : (fs.zip vs).reverse.lookup ("self" : Str) = none := by
        rw [List.lookup_eq_none_iff]
        intro p hp
        have := (hfs _ (List.of_mem_zip (List.mem_reverse.mp hp)).1).2.1
        simpa using fun e => this e.symm
      rw [this]
      rfl
    show _root_.PySem.wpAt _ (A.deeper (ksEnv qual scope s.heap.objs.size fI (.ref cda) cc)) (.func body (ksEnv qual scope s.heap.objs.size fI (.ref cda) cc)) (execs body (ksEnv qual scope s.heap.objs.size fI (.ref cda) cc)) _ _ _
    have bL : h₀.objs.size ≤ s.heap.objs.size := hsz
    have step : ∀ {txt j p0 p1 p2 p3 p4 p5} {rest : List Stmt} {Q : Flow → Shared → Prop} {E : Value → Shared → Prop} {bd : List Stmt}, SupOk qual scope txt j p0 p1 p2 p3 p4 →
        (∀ h' t' tk, Fr h₀ s.heap.objs.size h' (fun z => ((("self" : Str) :: fs).zip (Value.ref x :: vs)).reverse.lookup z) → News h₀ s.heap.objs.size h' [(x, excObj C t' none .none)] →
          wpAny (model prog w) (A.deeper (ksEnv qual scope s.heap.objs.size fI (.ref cda) cc)) (execs rest (ksEnv qual scope s.heap.objs.size fI (.ref cda) cc)) Q E { s with heap := h', toks := tk }) →
        _root_.PySem.wpAt (model prog w) (A.deeper (ksEnv qual scope s.heap.objs.size fI (.ref cda) cc)) (.func bd (ksEnv qual scope s.heap.objs.size fI (.ref cda) cc)) (execs (supS txt j p0 p1 p2 p3 p4 p5 :: rest) (ksEnv qual scope s.heap.objs.size fI (.ref cda) cc)) Q E
          { s with heap := h₁, toks := s.toks + ((("self" : Str) :: fs).zip (Value.ref x :: vs)).length } := fun {txt j p0 p1 p2 p3 p4 p5 rest Q E bd} sok k =>
      ks_wpAt_execs_cons (sup_step (s := { s with heap := h₁, toks := s.toks + ((("self" : Str) :: fs).zip (Value.ref x :: vs)).length }) F X₀ N Tg Tb Tm sok lk hp ha mself lcode hvf hfile lcell hcl T.hsub T.hsup hks hkc hka hkind T.htop T.ho T.hm T.hB T.iq
        fun h' t' tk F' N' => wpAt_of_wpAny (k h' t' tk F' N'))
    have newDx : ∀ {h' : Heap} {dx : Addr}, Fr h₀ s.heap.objs.size h' (fun z => ((("self" : Str) :: fs).zip (Value.ref x :: vs)).reverse.lookup z) → h'.objs.size ≤ dx → h₀.objs.size ≤ dx := fun F' l => Nat.le_trans bL (Nat.le_trans (Nat.le_of_lt F'.ns.lt) l)
    cases hb with
    | b0 txt j p0 p1 p2 p3 p4 p5 sok =>
      refine step sok fun h' t' tk F' N' => wpAny_execs_nil ?_
      exact hq h' tk ⟨F'.keep, t', none, (N' _ List.mem_cons_self).1, .inl ⟨rfl, rfl⟩⟩
    | b1 f txt j p0 p1 p2 p3 p4 p5 q1 q2 q3 q4 sok =>
      refine step sok fun h' t' tk F' N' => wpAny_execs_cons (plainObj_wpAny_Assign_Attribute ?_ (by rfl))
      match vs, hvs with
      | [v], _ =>
        obtain ⟨hf1, hf2, hf3⟩ := hfs f List.mem_cons_self
        have nf : (("self" : Str) == f) = false := by simpa using fun e => hf2 e.symm
        refine ldX (cc := cc) (v := v) F'.ns (by simp [List.lookup]) ?_ hkind hf1 hf3
        refine ldX (cc := cc) (v := .ref x) F'.ns (by simp [List.lookup, nf]) ?_ hkind hka (by decide)
        have X₁ : K.In h' := X₀.keeps F'.keep
        have hx₁ := (N' _ List.mem_cons_self).1
        refine set_plain X₁ (ox := excObj C t' none .none) (od := none) ⟨hx₁, rfl, rfl, trivial⟩ T.sa ?_
        refine HandSPX.exc_osa X₁ hx₁ hcl (show HandSPX.refsVE (.ref C :: bm) = true from hbm) rfl (T.noN f List.mem_cons_self) (fun h₃ tk₃ dx k₃ dn dne hx₃ hn₃ => ?_)
        refine wpAny_execs_nil (hq h₃ _ ⟨fun b o e => k₃ b o (fun z => by rw [z, hx0] at e; cases e) (F'.keep b o e), t', some dx, hx₃, .inr ⟨List.cons_ne_nil _ _, dx, _, rfl, newDx F' dn, dne, hn₃, fun y => ?_⟩⟩)
        by_cases e : y = f
        · subst e; simp [List.lookup]
        · have : (y == f) = false := by simpa using e
          rw [if_neg e]; simp [List.lookup, this]
    | b2 f g txt j p0 p1 p2 p3 p4 p5 q1 q2 q3 q4 r1 r2 r3 r4 nfg sok =>
      refine step sok fun h' t' tk F' N' => wpAny_execs_cons (plainObj_wpAny_Assign_Attribute ?_ (by rfl))
      match vs, hvs with
      | [v, u], _ =>
        obtain ⟨hf1, hf2, hf3⟩ := hfs f List.mem_cons_self
        obtain ⟨hg1, hg2, hg3⟩ := hfs g (.tail _ List.mem_cons_self)
        have nf : (("self" : Str) == f) = false := by simpa using fun e => hf2 e.symm
        have ng : (("self" : Str) == g) = false := by simpa using fun e => hg2 e.symm
        have nfg' : (f == g) = false := by simpa using nfg
        refine ldX (cc := cc) (v := v) F'.ns (by simp [List.lookup, nfg']) ?_ hkind hf1 hf3
        refine ldX (cc := cc) (v := .ref x) F'.ns (by simp [List.lookup, nf, ng]) ?_ hkind hka (by decide)
        have X₁ : K.In h' := X₀.keeps F'.keep
        have hx₁ := (N' _ List.mem_cons_self).1
        have nL := (N' _ List.mem_cons_self).2.1
        refine set_plain X₁ (ox := excObj C t' none .none) (od := none) ⟨hx₁, rfl, rfl, trivial⟩ T.sa ?_
        refine HandSPX.exc_osa X₁ hx₁ hcl (show HandSPX.refsVE (.ref C :: bm) = true from hbm) rfl (T.noN f List.mem_cons_self) (fun h₃ tk₃ dx k₃ dn dne hx₃ hn₃ => ?_)
        refine wpAny_execs_cons (plainObj_wpAny_Assign_Attribute ?_ (by rfl))
        have keep3 : ∀ b o, h₀.get? b = some o → h₃.get? b = some o := fun b o e => k₃ b o (fun z => by rw [z, hx0] at e; cases e) (F'.keep b o e)
        have X₃ : K.In h₃ := X₀.keeps keep3
        have ns3 : h₃.Ns s.heap.objs.size (fun z => ((("self" : Str) :: [f, g]).zip (Value.ref x :: [v, u])).reverse.lookup z) := by
          obtain ⟨oL, es, ep, hL, r⟩ := F'.ns
          exact ⟨oL, es, ep, k₃ _ _ (Ne.symm nL) hL, r⟩
        refine ldX (s := ⟨h₃, s.gens, s.drawn, tk₃, s.os⟩) (cc := cc) (v := u) ns3 (by simp [List.lookup]) ?_ hkind hg1 hg3
        refine ldX (s := ⟨h₃, s.gens, s.drawn, tk₃, s.os⟩) (cc := cc) (v := .ref x) ns3 (by simp [List.lookup, nf, ng]) ?_ hkind hka (by decide)
        have hw : Within (fun y => if y = f then some v else none) [f] := Within.cons f v Within.nil
        obtain ⟨oD, _, _, hoD, _, _⟩ := hn₃.count hw
        refine set_plain X₃ (ox := { cls := .ref C, dict := some dx, data := .fields #[.ref t', .none, .none, .none, .bool false, .none] }) (od := some oD) ⟨hx₃, rfl, rfl, hoD⟩ T.sa ?_
        refine OEX.osa_old X₃ hx₃ hn₃ hw (by simp) hcl (show HandSPX.refsVE (.ref C :: bm) = true from hbm) rfl (T.noN g (.tail _ List.mem_cons_self)) (fun h₄ tk₄ k₄ hn₄ => ?_)
        refine wpAny_execs_nil (hq h₄ _ ⟨fun b o e => k₄ b o (fun z => ?_) (keep3 b o e), t', some dx, k₄ _ _ (Ne.symm dne) hx₃, .inr ⟨List.cons_ne_nil _ _, dx, _, rfl, newDx F' dn, dne, hn₄, fun y => ?_⟩⟩)
        · have y1 := Heap.lt_size e
          have y2 := newDx F' dn
          rw [z] at y1
          exact absurd (Nat.lt_of_lt_of_le y1 y2) (Nat.lt_irrefl _)
        · by_cases e : y = g
          · subst e
            have : (y == f) = false := by simpa using fun z => nfg z.symm
            simp [List.lookup, this]
          · have e1 : (y == g) = false := by simpa using e
            rw [if_neg e]
            by_cases e2 : y = f
            · subst e2; simp [List.lookup]
            · have e3 : (y == f) = false := by simpa using e2
              rw [if_neg e2]; simp [List.lookup, e3, e1]
/-- a made error -/
structure Made (h h' : Heap) (e C : Addr) (fs : List Str) (vs : List Value) : Prop where
  keep : ∀ b o, h.get? b = some o → h'.get? b = some o
  new : h.objs.size ≤ e
  ex : ∃ (t1 : Addr) (dd : Option Addr), h'.get? e = some { cls := .ref C, dict := dd, data := .fields #[.ref t1, .none, .none, .none, .bool false, .none] } ∧
    ((fs = [] ∧ dd = none) ∨ fs ≠ [] ∧ ∃ (dx : Addr) (mA : Str → Option Value), dd = some dx ∧ h.objs.size ≤ dx ∧ dx ≠ e ∧ h'.Ns1 dx mA ∧ ∀ y, mA y = (fs.zip vs).lookup y)
theorem made_run {fs : List Str} {vs : List Value} {R : Result → Shared → Prop} {y : Str} (T : Txt prog K mg y C fI fs) (X : K.In s.heap) (hlim : s.heap.NoLimit)
    (Tg : s.heap.Ns mainGlobals mg) (Tb : s.heap.Ns builtinsNs mb) (Tm : ∀ x : Str, x ≠ "__name__" → mb x = bootBuiltins x) (hvs : vs.length = fs.length) (hsz : vs.length ≤ 1000) (hroom : A.depth + 1 < recursionLimit)
    (hq : ∀ h' tk e, Made s.heap h' e C fs vs → R (.ok (.ret (.ref e))) { s with heap := h', toks := tk }) :
    codeAny (model prog w) A (.call (.ref C) ⟨vs, []⟩) R s := by
  obtain ⟨nm, q, N, bs, bm, sn, sub, ab, col, dd, k0, k1, k2, k3, k5, hC, hbm⟩ := T.cls
  obtain ⟨hp, g, dr, tk, os⟩ := s
  have k : ∀ b o, hp.get? b = some o → ((hp.push (kdv_tup vs)).push (HandSPX.excO C hp.objs.size)).get? b = some o := fun b o e => Heap.get?_push_of_some _ (Heap.get?_push_of_some _ e)
  have hget : ((hp.push (kdv_tup vs)).push (HandSPX.excO C hp.objs.size)).get? (hp.objs.size + 1) = some (HandSPX.excO C hp.objs.size) := by heap_get
  have hx0 : hp.get? (hp.objs.size + 1) = none := Heap.get?_none_of_le (Nat.le_succ _)
  have hz : vs.length ≤ sizeLine := Nat.le_trans hsz (by rw [sizeLine_eq]; decide)
  refine HandSPX.call_own F.excBase_ValueError (fun X => HandSPX.refsVE_contains X bm hbm) (X _ _ hC) (looks_findIn X T.iC) (fun self => bind_fn X self T.tC) hz ?_
  refine init_run (s := ⟨(hp.push (kdv_tup vs)).push (HandSPX.excO C hp.objs.size), g, dr, tk, os⟩) (h₀ := hp) (t0 := hp.objs.size) T X k (by rw [Heap.size_push, Heap.size_push]; omega) hx0 hget (hlim.keeps k) Tg Tb Tm hvs ?_ fun h' tk' I => ?_
  · show A.depth + 1 < recursionLimit
    exact hroom
  · exact ⟨rfl, hq h' tk' (hp.objs.size + 1) ⟨I.keep, Nat.le_succ _, I.ex⟩⟩
end
end FxEr

-- Fx0
set_option Elab.async false
set_option linter.all false
set_option maxRecDepth 100000
set_option maxHeartbeats 2000000
/-! Fx0: data, what stands for it in the heap, the state of a def's body. -/
namespace Fx
open PySem PySem.Spec PyProof.Rows L2

/-- data -/
inductive D where
  | non | bl (b : Bool) | int (i : Int) | str (s : Str)
  | tup (xs : List D) | lst (xs : List D) | dic (t : Bool) (kvs : List (D × D))
  | ins (c : Str) (fs : List (Str × D))
  /-- a pool: a list of a list of ints and an int, of which nothing more is known -/
  | pool

/-- an exception: its class's name, its fields -/
structure Exn where
  c : Str
  fs : List (Str × D)

inductive R (α : Type) where
  | ok (a : α) | err (x : Exn) | bad
@[inline] def R.bind {α β : Type} (x : R α) (f : α → R β) : R β := match x with
  | .ok a => f a
  | .err x => .err x
  | .bad => .bad
@[simp] theorem R.bind_ok {α β : Type} (a : α) (f : α → R β) : (R.ok a).bind f = f a := rfl
@[simp] theorem R.bind_err {α β : Type} (x : Exn) (f : α → R β) : (R.err x : R α).bind f = .err x := rfl
@[simp] theorem R.bind_bad {α β : Type} (f : α → R β) : (R.bad : R α).bind f = .bad := rfl
theorem R.bind_is {α β : Type} {x : R α} {f : α → R β} {b : β} (h : x.bind f = .ok b) : ∃ a, x = .ok a ∧ f a = .ok b := by
  cases x with
  | ok a => exact ⟨a, rfl, h⟩
  | err x => cases h
  | bad => cases h

/-- what the names of the module stand for, the pins of the context -/
structure Sig where
  K : PySem.W.Frag
  mg : Str → Option Value

def Ex (H H' : Hp) : Prop := ∀ a o, H a = some o → H' a = some o
theorem Ex.refl (H : Hp) : Ex H H := fun _ _ h => h
theorem Ex.trans {H H1 H2 : Hp} (a : Ex H H1) (b : Ex H1 H2) : Ex H H2 := fun x o h => b x o (a x o h)
theorem Ex.new {H : Hp} {p : Addr} {o : HO} (h : H p = none) : Ex H (upd H p o) := fun a u e => by
  rw [upd_ne (ne_of_none e h)]
  exact e
/-- the heap without what is hidden -/
def hid (H : Hp) (G : Addr → Bool) : Hp := fun a => if G a = true then none else H a
theorem hid_no {H : Hp} {G : Addr → Bool} {a : Addr} (h : G a = false) : hid H G a = H a := by
  unfold hid
  rw [h, if_neg Bool.false_ne_true]
theorem hid_yes {H : Hp} {G : Addr → Bool} {a : Addr} (h : G a = true) : hid H G a = none := by
  unfold hid
  rw [if_pos h]
theorem hid_some {H : Hp} {G : Addr → Bool} {a : Addr} {o : HO} (h : hid H G a = some o) : G a = false ∧ H a = some o := by
  cases g : G a with
  | true => rw [hid_yes g] at h; cases h
  | false => rw [hid_no g] at h; exact ⟨rfl, h⟩
theorem hid_of {H : Hp} {G : Addr → Bool} {a : Addr} {o : HO} (g : G a = false) (h : H a = some o) : hid H G a = some o := by
  rw [hid_no g]; exact h
theorem hid_sub {H : Hp} {G : Addr → Bool} : Ex (hid H G) H := fun _ _ h => (hid_some h).2
theorem hid_ex {H H' : Hp} {G : Addr → Bool} (e : Ex H H') : Ex (hid H G) (hid H' G) := fun a o h => by
  obtain ⟨g, h⟩ := hid_some h
  exact hid_of g (e a o h)
theorem hid_anti {H : Hp} {G G' : Addr → Bool} (h : ∀ a, G' a = true → G a = true) : Ex (hid H G) (hid H G') := fun a o q => by
  obtain ⟨g, q⟩ := hid_some q
  refine hid_of ?_ q
  cases g' : G' a with
  | false => rfl
  | true => rw [h a g'] at g; cases g
def noG : Addr → Bool := fun _ => false
theorem hid_noG {H : Hp} : hid H noG = H := by
  funext a
  exact hid_no rfl
/-- an object that a body may change -/
def MutO : Option HO → Prop
  | some (.lst _) => True
  | some (.dK _) => True
  | some (.dT _) => True
  | some (.ins _ _ _) => True
  | _ => False

/-- the data of a key -/
def keyD : Key → D
  | .inl i => .int i
  | .inr x => .str x

/-- a list of ints, in the heap -/
def PoolC (c : Addr) : HO := .ext fun h => ∃ ns : List Int, (ns.map V.int).length ≤ sizeLine ∧ ∃ (its : List Value) (n : Nat), Vals (ns.map V.int) its ∧ h.get? c = some { cls := .type "list", data := .seq its.toArray n }
/-- the list of it and of a place -/
def PoolQ (q c : Addr) : HO := .ext fun h => ∃ at_ : Int, 0 ≤ at_ ∧ ∃ (its : List Value) (n : Nat), Vals [V.ref c, V.int at_] its ∧ h.get? q = some { cls := .type "list", data := .seq its.toArray n }
inductive Rep (S : Sig) (H : Hp) : V → D → Prop
  | non : Rep S H .non .non
  | bl (b : Bool) : Rep S H (.bl b) (.bl b)
  | int (i : Int) : Rep S H (.int i) (.int i)
  | str (x : Str) : Rep S H (.str x) (.str x)
  | pool {q c : Addr} : H q = some (PoolQ q c) → H c = some (PoolC c) → q ≠ c → Rep S H (.ref q) .pool
  | tup {a : Addr} {xs : List V} {ds : List D} : H a = some (.tup xs) → xs.length = ds.length → (∀ (i : Nat) (x : V) (d : D), xs[i]? = some x → ds[i]? = some d → Rep S H x d) → Rep S H (.ref a) (.tup ds)
  | lst {a : Addr} {xs : List V} {ds : List D} : Rd H a (.lst xs) → xs.length = ds.length → (∀ (i : Nat) (x : V) (d : D), xs[i]? = some x → ds[i]? = some d → Rep S H x d) → Rep S H (.ref a) (.lst ds)
  | dK {a : Addr} {kvs : List (Key × V)} {ds : List (D × D)} : H a = some (.dK kvs) → kvs.length = ds.length →
      (∀ (i : Nat) (k : Key) (x : V) (d e : D), kvs[i]? = some (k, x) → ds[i]? = some (d, e) → keyD k = d) → (∀ (i : Nat) (k : Key) (x : V) (d e : D), kvs[i]? = some (k, x) → ds[i]? = some (d, e) → Rep S H x e) → Rep S H (.ref a) (.dic false ds)
  | dT {a : Addr} {kvs : List (List Key × V)} {ds : List (D × D)} : H a = some (.dT kvs) → kvs.length = ds.length →
      (∀ (i : Nat) (k : List Key) (x : V) (d e : D), kvs[i]? = some (k, x) → ds[i]? = some (d, e) → D.tup (k.map keyD) = d) → (∀ (i : Nat) (k : List Key) (x : V) (d e : D), kvs[i]? = some (k, x) → ds[i]? = some (d, e) → Rep S H x e) → Rep S H (.ref a) (.dic true ds)
  | ins {a C dx : Addr} {c : Str} {fs : List (Str × V)} {ds : List (Str × D)} : H a = some (.ins C dx fs) → S.mg c = some (.ref C) → Cls S.K C → fs.length = ds.length →
      (∀ (i : Nat) (f g : Str) (x : V) (d : D), fs[i]? = some (f, x) → ds[i]? = some (g, d) → f = g) → (∀ (i : Nat) (f g : Str) (x : V) (d : D), fs[i]? = some (f, x) → ds[i]? = some (g, d) → Rep S H x d) → Rep S H (.ref a) (.ins c ds)

def Reps (S : Sig) (H : Hp) (xs : List V) (ds : List D) : Prop := xs.length = ds.length ∧ ∀ (i : Nat) (x : V) (d : D), xs[i]? = some x → ds[i]? = some d → Rep S H x d
/-- fields by name -/
def RepF (S : Sig) (H : Hp) (fs : List (Str × V)) (ds : List (Str × D)) : Prop := fs.length = ds.length ∧ (∀ (i : Nat) (f g : Str) (x : V) (d : D), fs[i]? = some (f, x) → ds[i]? = some (g, d) → f = g) ∧
  ∀ (i : Nat) (f g : Str) (x : V) (d : D), fs[i]? = some (f, x) → ds[i]? = some (g, d) → Rep S H x d

section
variable {S : Sig} {P : PX} {H H' : Hp}
theorem sqL_ex {K : PySem.W.Frag} {a : Addr} {xs : List V} (e : Ex H H') (h : SqL K H a xs) : SqL K H' a xs := by
  rcases h with (h | ⟨o, h⟩) | h
  · exact .inl (.inl (e _ _ h))
  · exact .inl (.inr ⟨o, e _ _ h⟩)
  · exact .inr h
theorem rd_ex {a : Addr} {u : HO} (e : Ex H H') (h : Rd H a u) : Rd H' a u := by
  rcases h with h | ⟨o, h⟩
  · exact .inl (e _ _ h)
  · exact .inr ⟨o, e _ _ h⟩
theorem sqT_ex {K : PySem.W.Frag} {a : Addr} {xs : List V} (e : Ex H H') (h : SqT K H a xs) : SqT K H' a xs := by
  rcases h with (h | ⟨o, h⟩) | h
  · exact .inl (.inl (e _ _ h))
  · exact .inl (.inr ⟨o, e _ _ h⟩)
  · exact .inr h
theorem Rep.ex (e : Ex H H') {v : V} {d : D} (h : Rep S H v d) : Rep S H' v d := by
  induction h with
  | non => exact .non
  | bl b => exact .bl b
  | int i => exact .int i
  | str x => exact .str x
  | pool h1 h2 ne => exact .pool (e _ _ h1) (e _ _ h2) ne
  | tup hs hl _ ih => exact .tup (e _ _ hs) hl ih
  | lst hs hl _ ih => exact .lst (rd_ex e hs) hl ih
  | dK hs hl hk _ ih => exact .dK (e _ _ hs) hl hk ih
  | dT hs hl hk _ ih => exact .dT (e _ _ hs) hl hk ih
  | ins hs hc cl hl hk _ ih => exact .ins (e _ _ hs) hc cl hl hk ih
theorem Reps.ex (e : Ex H H') {xs : List V} {ds : List D} (h : Reps S H xs ds) : Reps S H' xs ds := ⟨h.1, fun i x d h1 h2 => (h.2 i x d h1 h2).ex e⟩
theorem Reps.nil : Reps S H [] [] := ⟨rfl, fun i x d h _ => by cases h⟩
theorem Reps.cons {x : V} {d : D} {xs : List V} {ds : List D} (h : Rep S H x d) (t : Reps S H xs ds) : Reps S H (x :: xs) (d :: ds) := ⟨by rw [List.length_cons, List.length_cons, t.1], fun i y e h1 h2 => by
  cases i with
  | zero => cases h1; cases h2; exact h
  | succ i => exact t.2 i y e h1 h2⟩
theorem Reps.head {x : V} {d : D} {xs : List V} {ds : List D} (h : Reps S H (x :: xs) (d :: ds)) : Rep S H x d := h.2 0 x d rfl rfl
theorem Reps.tail {x : V} {d : D} {xs : List V} {ds : List D} (h : Reps S H (x :: xs) (d :: ds)) : Reps S H xs ds := ⟨by have := h.1; simpa using this, fun i y e h1 h2 => h.2 (i + 1) y e h1 h2⟩
theorem Reps.append {xs ys : List V} {ds es : List D} (h : Reps S H xs ds) (t : Reps S H ys es) : Reps S H (xs ++ ys) (ds ++ es) := ⟨by rw [List.length_append, List.length_append, h.1, t.1], fun i y e h1 h2 => by
  by_cases q : i < xs.length
  · rw [List.getElem?_append_left q] at h1
    rw [List.getElem?_append_left (h.1 ▸ q)] at h2
    exact h.2 i y e h1 h2
  · rw [List.getElem?_append_right (Nat.le_of_not_lt q)] at h1
    rw [List.getElem?_append_right (by rw [← h.1]; exact Nat.le_of_not_lt q), ← h.1] at h2
    exact t.2 _ y e h1 h2⟩
theorem Reps.get {xs : List V} {ds : List D} {i : Nat} {d : D} (h : Reps S H xs ds) (q : ds[i]? = some d) : ∃ x, xs[i]? = some x ∧ Rep S H x d := by
  have hi : i < xs.length := by rw [h.1]; exact (List.getElem?_eq_some_iff.mp q).1
  exact ⟨xs[i], List.getElem?_eq_getElem hi, h.2 i _ d (List.getElem?_eq_getElem hi) q⟩
theorem Reps.getV {xs : List V} {ds : List D} {i : Nat} {x : V} (h : Reps S H xs ds) (q : xs[i]? = some x) : ∃ d, ds[i]? = some d ∧ Rep S H x d := by
  have hi : i < ds.length := by rw [← h.1]; exact (List.getElem?_eq_some_iff.mp q).1
  exact ⟨ds[i], List.getElem?_eq_getElem hi, h.2 i x _ q (List.getElem?_eq_getElem hi)⟩
theorem Reps.take {xs : List V} {ds : List D} (n : Nat) (h : Reps S H xs ds) : Reps S H (xs.take n) (ds.take n) := ⟨by rw [List.length_take, List.length_take, h.1], fun i x d h1 h2 => by
  rw [List.getElem?_take] at h1 h2
  split at h1
  · rename_i q
    rw [if_pos q] at h2
    exact h.2 i x d h1 h2
  · cases h1⟩
theorem Reps.drop {xs : List V} {ds : List D} (n : Nat) (h : Reps S H xs ds) : Reps S H (xs.drop n) (ds.drop n) := ⟨by rw [List.length_drop, List.length_drop, h.1], fun i x d h1 h2 => by
  rw [List.getElem?_drop] at h1 h2
  exact h.2 _ x d h1 h2⟩
theorem Reps.set {xs : List V} {ds : List D} {x : V} {d : D} (j : Nat) (h : Reps S H xs ds) (r : Rep S H x d) : Reps S H (xs.set j x) (ds.set j d) := ⟨by rw [List.length_set, List.length_set, h.1], fun i y e h1 h2 => by
  by_cases q : i = j
  · subst q
    by_cases hi : i < xs.length
    · rw [List.getElem?_set_self hi] at h1
      rw [List.getElem?_set_self (h.1 ▸ hi)] at h2
      cases h1; cases h2; exact r
    · rw [List.getElem?_eq_none (by rw [List.length_set]; omega)] at h1
      cases h1
  · rw [List.getElem?_set_ne (Ne.symm q)] at h1 h2
    exact h.2 i y e h1 h2⟩
theorem Reps.repl {x : V} {d : D} (n : Nat) (r : Rep S H x d) : Reps S H (List.replicate n x) (List.replicate n d) := ⟨by rw [List.length_replicate, List.length_replicate], fun i y e h1 h2 => by
  rw [List.getElem?_replicate] at h1 h2
  split at h1
  · rename_i q
    rw [if_pos q] at h2
    cases h1; cases h2; exact r
  · cases h1⟩
theorem Rep.mkT {a : Addr} {xs : List V} {ds : List D} (h : H a = some (.tup xs)) (r : Reps S H xs ds) : Rep S H (.ref a) (.tup ds) := .tup h r.1 r.2
theorem Rep.mkL {a : Addr} {xs : List V} {ds : List D} (h : Rd H a (.lst xs)) (r : Reps S H xs ds) : Rep S H (.ref a) (.lst ds) := .lst h r.1 r.2
/-- what stands for a datum, by its form -/
theorem Rep.is_int {v : V} {i : Int} (h : Rep S H v (.int i)) : v = .int i := by cases h; rfl
theorem Rep.is_bl {v : V} {b : Bool} (h : Rep S H v (.bl b)) : v = .bl b := by cases h; rfl
theorem Rep.is_non {v : V} (h : Rep S H v .non) : v = .non := by cases h; rfl
theorem Rep.is_str {v : V} {s : Str} (h : Rep S H v (.str s)) : v = .str s := by cases h; rfl
theorem Rep.is_tup {v : V} {ds : List D} (h : Rep S H v (.tup ds)) : ∃ a xs, v = .ref a ∧ H a = some (.tup xs) ∧ Reps S H xs ds := by
  cases h with
  | tup hs hl hr => exact ⟨_, _, rfl, hs, hl, hr⟩
theorem Rep.is_lst {v : V} {ds : List D} (h : Rep S H v (.lst ds)) : ∃ a xs, v = .ref a ∧ Rd H a (.lst xs) ∧ Reps S H xs ds := by
  cases h with
  | lst hs hl hr => exact ⟨_, _, rfl, hs, hl, hr⟩
theorem Reps.ints {ns : List Int} : ∀ {xs : List V}, Reps S H xs (ns.map D.int) → xs = ns.map V.int := fun {xs} h => by
  induction ns generalizing xs with
  | nil => cases xs with
    | nil => rfl
    | cons x xs => have := h.1; simp at this
  | cons n ns ih => cases xs with
    | nil => have := h.1; simp at this
    | cons x xs =>
      have e := (Reps.head (d := .int n) h).is_int
      rw [e, ih (Reps.tail (d := .int n) h)]
      rfl
theorem Reps.of_ints : ∀ (ns : List Int), Reps S H (ns.map V.int) (ns.map D.int)
  | [] => .nil
  | n :: ns => .cons (.int n) (Reps.of_ints ns)
end

/-! ### data without lists and dicts -/
mutual
def lf : D → Bool
  | .non => true
  | .bl _ => true
  | .int _ => true
  | .str _ => true
  | .tup ds => lfs ds
  | .lst _ => false
  | .dic _ _ => false
  | .ins _ _ => false
  | .pool => false
def lfs : List D → Bool
  | [] => true
  | d :: ds => lf d && lfs ds
def lff : List (Str × D) → Bool
  | [] => true
  | p :: ds => lf p.2 && lff ds
end
theorem lfs_get : ∀ {ds : List D} {i : Nat} {d : D}, lfs ds = true → ds[i]? = some d → lf d = true
  | [], _, _, _, h => by cases h
  | e :: ds, 0, d, h, q => by
    cases q
    unfold lfs at h
    exact (Bool.and_eq_true_iff.mp h).1
  | e :: ds, i + 1, d, h, q => by
    unfold lfs at h
    exact lfs_get (Bool.and_eq_true_iff.mp h).2 (by simpa using q)
theorem lff_get : ∀ {ds : List (Str × D)} {i : Nat} {f : Str} {d : D}, lff ds = true → ds[i]? = some (f, d) → lf d = true
  | [], _, _, _, _, h => by cases h
  | e :: ds, 0, f, d, h, q => by
    cases q
    unfold lff at h
    exact (Bool.and_eq_true_iff.mp h).1
  | e :: ds, i + 1, f, d, h, q => by
    unfold lff at h
    exact lff_get (Bool.and_eq_true_iff.mp h).2 (by simpa using q)
theorem mutO_not {H : Hp} {G : Addr → Bool} (g : ∀ a, G a = true → MutO (H a)) {a : Addr} {o : HO} (h : H a = some o) (n : ¬ MutO (some o)) : hid H G a = some o := by
  cases q : G a with
  | false => exact hid_of q h
  | true =>
    have z := g a q
    rw [h] at z
    exact absurd z n
/-- data without lists do not see what is hidden -/
theorem Rep.lf {S : Sig} {H : Hp} {G : Addr → Bool} (g : ∀ a, G a = true → MutO (H a)) {v : V} {d : D} (h : Rep S H v d) : Fx.lf d = true → Rep S (hid H G) v d := by
  induction h with
  | non => exact fun _ => .non
  | bl b => exact fun _ => .bl b
  | int i => exact fun _ => .int i
  | str x => exact fun _ => .str x
  | pool h1 h2 ne => intro q; unfold Fx.lf at q; cases q
  | tup hs hl _ ih =>
    intro q
    unfold Fx.lf at q
    exact .tup (mutO_not g hs fun z => z) hl fun i x d h1 h2 => ih i x d h1 h2 (lfs_get q h2)
  | lst hs hl _ ih => intro q; unfold Fx.lf at q; cases q
  | dK hs hl hk _ ih => intro q; unfold Fx.lf at q; cases q
  | dT hs hl hk _ ih => intro q; unfold Fx.lf at q; cases q
  | ins hs hc cl hl hk _ ih => intro q; unfold Fx.lf at q; cases q

/-! ### the state of a body -/
/-- an exception: its class, its own dict -/
def RepX (S : Sig) (H : Hp) (cls : Value) (dd : Option Addr) (x : Exn) : Prop :=
  ∃ C, cls = .ref C ∧ S.mg x.c = some (.ref C) ∧ ((x.fs = [] ∧ dd = none) ∨ ∃ a fs, dd = some a ∧ H a = some (.xd fs) ∧ RepF S H fs x.fs)
theorem RepX.ex {S : Sig} {H H' : Hp} {cls : Value} {dd : Option Addr} {x : Exn} (e : Ex H H') (h : RepX S H cls dd x) : RepX S H' cls dd x := by
  obtain ⟨C, a, b, h⟩ := h
  refine ⟨C, a, b, ?_⟩
  rcases h with h | ⟨p, fs, q, r, l, n, z⟩
  · exact .inl h
  · exact .inr ⟨p, fs, q, e _ _ r, l, n, fun i f g x d h1 h2 => (z i f g x d h1 h2).ex e⟩

abbrev PX := Addr → Value → Option Addr → Prop
/-- may be changed -/
def mutB : Option HO → Bool
  | some (.lst _) => true
  | some (.dK _) => true
  | some (.dT _) => true
  | some (.ins _ _ _) => true
  | _ => false
theorem mutB_of {o : Option HO} (h : MutO o) : mutB o = true := by
  unfold MutO at h
  split at h <;> first | rfl | exact h.elim
theorem mutB_to {o : Option HO} (h : mutB o = true) : MutO o := by
  unfold mutB at h
  split at h <;> first | exact True.intro | cases h
/-- what a def gives back: a shared datum, an object of its own, a datum whose lists are all new -/
inductive Fk where
  | val | own | new
def Fk.isNew : Fk → Bool
  | .new => true
  | _ => false
/-- read only -/
def frzB : Option HO → Bool
  | some (.frz _ _) => true
  | _ => false
/-- what is hidden together with what could be changed already -/
def newG (H H' : Hp) (G : Addr → Bool) : Addr → Bool := fun a => G a || (mutB (H a) || frzB (H' a))
/-- a slot; ins: the instance that an __init__ fills; deep: a datum whose lists are all the slot's own -/
inductive Sl where
  | no | val (d : D) | lst (ds : List D) | dic (t : Bool) (kvs : List (D × D)) | exc (x : Exn) | ins (c : Str) (fs : List (Str × D)) | deep (d : D)
abbrev Env := List Sl
/-- the def's entry: the heap, what the callers hide, the instance that is filled -/
structure Bs where
  H : Hp
  G : Addr → Bool
  me : Addr
/-- a dict's object -/
def DicAt (S : Sig) (H : Hp) (o : HO) : Bool → List (D × D) → Prop
  | false, ds => ∃ kvs : List (Key × V), o = .dK kvs ∧ kvs.length = ds.length ∧ ∀ (i : Nat) (k : Key) (x : V) (d e : D), kvs[i]? = some (k, x) → ds[i]? = some (d, e) → keyD k = d ∧ Rep S H x e
  | true, ds => ∃ kvs : List (List Key × V), o = .dT kvs ∧ kvs.length = ds.length ∧ ∀ (i : Nat) (k : List Key) (x : V) (d e : D), kvs[i]? = some (k, x) → ds[i]? = some (d, e) → D.tup (k.map keyD) = d ∧ Rep S H x e
theorem DicAt.ex {S : Sig} {H H' : Hp} (e : Ex H H') {o : HO} {t : Bool} {ds : List (D × D)} (h : DicAt S H o t ds) : DicAt S H' o t ds := by
  cases t <;> exact (let ⟨kvs, a, b, c⟩ := h; ⟨kvs, a, b, fun i k x d e' h1 h2 => ⟨(c i k x d e' h1 h2).1, (c i k x d e' h1 h2).2.ex e⟩⟩)
theorem DicAt.rep {S : Sig} {H : Hp} {p : Addr} {o : HO} {t : Bool} {ds : List (D × D)} (h : DicAt S H o t ds) (hp : H p = some o) : Rep S H (.ref p) (.dic t ds) := by
  cases t
  · obtain ⟨kvs, rfl, b, c⟩ := h
    exact .dK hp b (fun i k x d e h1 h2 => (c i k x d e h1 h2).1) fun i k x d e h1 h2 => (c i k x d e h1 h2).2
  · obtain ⟨kvs, rfl, b, c⟩ := h
    exact .dT hp b (fun i k x d e h1 h2 => (c i k x d e h1 h2).1) fun i k x d e h1 h2 => (c i k x d e h1 h2).2
theorem DicAt.mut {S : Sig} {H : Hp} {o : HO} {t : Bool} {ds : List (D × D)} (h : DicAt S H o t ds) : MutO (some o) := by
  cases t <;> (obtain ⟨kvs, rfl, b, c⟩ := h; exact True.intro)
/-- an own slot's object -/
def OwnAt (S : Sig) (H : Hp) (G : Addr → Bool) (p : Addr) : Sl → Prop
  | .no => False
  | .val _ => False
  | .exc _ => False
  | .lst ds => ∃ xs, H p = some (.lst xs) ∧ Reps S (hid H G) xs ds
  | .dic t kvs => ∃ o, H p = some o ∧ DicAt S (hid H G) o t kvs
  | .ins c fs => ∃ C dx vs, H p = some (.ins C dx vs) ∧ S.mg c = some (.ref C) ∧ Cls S.K C ∧ RepF S (hid H G) vs fs
  | .deep _ => False
def Own : Sl → Bool
  | .lst _ => true
  | .dic _ _ => true
  | .ins _ _ => true
  | _ => false
theorem RepF.ex {S : Sig} {H H' : Hp} {vs : List (Str × V)} {fs : List (Str × D)} (e : Ex H H') (h : RepF S H vs fs) : RepF S H' vs fs := ⟨h.1, h.2.1, fun i f g x d h1 h2 => (h.2.2 i f g x d h1 h2).ex e⟩
/-- what may be changed and is not of L is hidden -/
def onlyG (H : Hp) (L : Addr → Bool) : Addr → Bool := fun a => (mutB (H a) && !L a) || frzB (H a)
def DeepAt (S : Sig) (H : Hp) (L : Addr → Bool) (v : V) (d : D) : Prop := Rep S (hid H (onlyG H L)) v d
theorem onlyG_ex {H H' : Hp} {L : Addr → Bool} (nm : ∀ a o, H a = some o → mutB (some o) = false → H' a = some o) (k : ∀ a, L a = true → H' a = H a) : Ex (hid H (onlyG H L)) (hid H' (onlyG H' L)) := fun a o h => by
  obtain ⟨g, h⟩ := hid_some h
  unfold onlyG at g
  have e : H' a = some o := by
    cases l : L a with
    | true => rw [k a l]; exact h
    | false =>
      rw [l, h] at g
      refine nm a o h ?_
      have g := (Bool.or_eq_false_iff.mp g).1
      simpa using g
  refine hid_of ?_ e
  unfold onlyG
  rw [e, ← h]
  exact g
/-- of the instance that is filled, of the deep slots -/
structure Bx (S : Sig) (B : Bs) (G : Addr → Bool) (ρ : Env) (σ : L2.St) (H : Hp) : Prop where
  me : ∀ (i : Nat) (c : Str) (fs : List (Str × D)), ρ[i]? = some (.ins c fs) → σ[i]? = some (some (.ref B.me))
  dp : ∃ L : Nat → Addr → Bool, (∀ (i : Nat) (d : D), ρ[i]? = some (.deep d) → ∃ v, σ[i]? = some (some v) ∧ DeepAt S H (L i) v d) ∧ (∀ (i : Nat) (d : D) (a : Addr), ρ[i]? = some (.deep d) → L i a = true → G a = true ∧ B.H a = none) ∧
    (∀ (i j : Nat) (d d' : D) (a : Addr), i ≠ j → ρ[i]? = some (.deep d) → ρ[j]? = some (.deep d') → L i a = true → L j a = false) ∧
    (∀ (i j : Nat) (s : Sl) (d : D) (p : Addr), ρ[i]? = some s → Own s = true → σ[i]? = some (some (.ref p)) → ρ[j]? = some (.deep d) → L j p = false)
theorem Bx.none {S : Sig} {B : Bs} {G : Addr → Bool} {ρ : Env} {σ : L2.St} {H : Hp} (h1 : ∀ (i : Nat) (c : Str) (fs : List (Str × D)), ρ[i]? ≠ Option.some (Sl.ins c fs)) (h2 : ∀ (i : Nat) (d : D), ρ[i]? ≠ Option.some (Sl.deep d)) : Bx S B G ρ σ H :=
  ⟨fun i c fs h => absurd h (h1 i c fs), fun _ _ => false, fun i d h => absurd h (h2 i d), fun i d a h => absurd h (h2 i d), fun i j d d' a _ h => absurd h (h2 i d), fun i j s d p _ _ _ h => absurd h (h2 j d)⟩
theorem Bx.sub {S : Sig} {B : Bs} {G : Addr → Bool} {ρ ρ' : Env} {σ : L2.St} {H : Hp} (I : Bx S B G ρ σ H) (h : ∀ (i : Nat) (s : Sl), ρ'[i]? = Option.some s → (Own s = true ∨ ∃ d, s = .deep d) → ρ[i]? = Option.some s) : Bx S B G ρ' σ H := by
  obtain ⟨L, a1, a2, a3, a4⟩ := I.dp
  exact ⟨fun i c fs k => I.me i c fs (h i _ k (.inl rfl)), L, fun i d k => a1 i d (h i _ k (.inr ⟨_, rfl⟩)), fun i d a k => a2 i d a (h i _ k (.inr ⟨_, rfl⟩)), fun i j d d' a n k k2 => a3 i j d d' a n (h i _ k (.inr ⟨_, rfl⟩)) (h j _ k2 (.inr ⟨_, rfl⟩)),
    fun i j s d p k o k2 k3 => a4 i j s d p (h i _ k (.inl o)) o k2 (h j _ k3 (.inr ⟨_, rfl⟩))⟩
/-- a slot that is not deep -/
theorem Bx.move {S : Sig} {B : Bs} {G G' : Addr → Bool} {ρ : Env} {σ σ' : L2.St} {H H' : Hp} (I : Bx S B G ρ σ H) {i : Nat} {t : Sl} (nb : ∀ d, t ≠ .deep d) (ni : i < ρ.length → ∀ c fs, t = .ins c fs → σ'[i]? = some (some (.ref B.me)))
    (hσ : ∀ j, j ≠ i → σ'[j]? = σ[j]?) (nm : ∀ a o, H a = some o → mutB (some o) = false → H' a = some o)
    (keep : ∀ (j : Nat) (d : D) (a : Addr) (l : Addr → Bool), ρ[j]? = some (.deep d) → j ≠ i → G a = true → (∀ (k : Nat) (s : Sl) (p : Addr), ρ[k]? = some s → Own s = true → σ[k]? = some (some (.ref p)) → l p = false) → l a = true → H' a = H a ∧ G' a = true)
    (own : Own t = true → ∀ p0, σ'[i]? = some (some (.ref p0)) → ∀ (l : Addr → Bool), (∀ (k : Nat) (s : Sl) (p : Addr), ρ[k]? = some s → Own s = true → σ[k]? = some (some (.ref p)) → l p = false) → (∀ a, l a = true → G a = true) → l p0 = false) : Bx S B G' (ρ.set i t) σ' H' := by
  obtain ⟨L, a1, a2, a3, a4⟩ := I.dp
  have off : ∀ {j : Nat} {s : Sl}, (ρ.set i t)[j]? = some s → (j = i ∧ s = t ∧ i < ρ.length) ∨ (j ≠ i ∧ ρ[j]? = some s) := fun {j s} h => by
    by_cases q : j = i
    · subst q
      have hl : j < ρ.length := by
        have := (List.getElem?_eq_some_iff.mp h).1
        rwa [List.length_set] at this
      rw [List.getElem?_set_self hl] at h
      exact .inl ⟨rfl, (Option.some.inj h).symm, hl⟩
    · rw [List.getElem?_set_ne (Ne.symm q)] at h
      exact .inr ⟨q, h⟩
  have bxo : ∀ {j : Nat} {d : D}, (ρ.set i t)[j]? = some (.deep d) → j ≠ i ∧ ρ[j]? = some (.deep d) := fun {j d} h => by
    rcases off h with ⟨_, h2, _⟩ | h2
    · exact absurd h2.symm (nb d)
    · exact h2
  have kp : ∀ {j : Nat} {d : D} {a : Addr}, ρ[j]? = some (.deep d) → j ≠ i → L j a = true → H' a = H a ∧ G' a = true := fun {j d a} h n l => keep j d a (L j) h n (a2 j d a h l).1 (fun k s p h1 h2 h3 => a4 k j s d p h1 h2 h3 h) l
  refine ⟨fun j c fs h => ?_, L, fun j d h => ?_, fun j d a h l => ?_, fun j k d d' a n h1 h2 => ?_, fun j k s d p h1 o a0 h2 => ?_⟩
  · rcases off h with ⟨rfl, h2, hl⟩ | ⟨n, h2⟩
    · exact ni hl c fs h2.symm
    · rw [hσ j n]; exact I.me j c fs h2
  · obtain ⟨n, h4⟩ := bxo h
    obtain ⟨v, e1, e2⟩ := a1 j d h4
    exact ⟨v, by rw [hσ j n]; exact e1, Rep.ex (onlyG_ex nm fun a l => (kp h4 n l).1) e2⟩
  · obtain ⟨n, h4⟩ := bxo h
    exact ⟨(kp h4 n l).2, (a2 j d a h4 l).2⟩
  · exact a3 j k d d' a n (bxo h1).2 (bxo h2).2
  · obtain ⟨n, h4⟩ := bxo h2
    rcases off h1 with ⟨rfl, rfl, _⟩ | ⟨m, h8⟩
    · exact own o p a0 (L k) (fun k' s' p' h1 h2 h3 => a4 k' k s' d p' h1 h2 h3 h4) fun a l => (a2 k d a h4 l).1
    · rw [hσ j m] at a0
      exact a4 j k s d p h8 o a0 h4
structure Sts (S : Sig) (P : PX) (B : Bs) (G : Addr → Bool) (ρ : Env) (σ : L2.St) (H : Hp) : Prop where
  ex : Ex B.H H
  bg : ∀ a, B.G a = true → ∃ o, B.H a = some o
  gb : ∀ a, B.G a = true → G a = true
  gm : ∀ a, G a = true → MutO (H a)
  len : ρ.length = σ.length
  val : ∀ (i : Nat) (d : D), ρ[i]? = some (.val d) → ∃ v, σ[i]? = some (some v) ∧ Rep S (hid H G) v d
  own : ∀ (i : Nat) (s : Sl), ρ[i]? = some s → Own s = true → ∃ p, σ[i]? = some (some (.ref p)) ∧ G p = true ∧ B.H p = none ∧ OwnAt S H G p s
  sep : ∀ (i j : Nat) (s t : Sl) (p : Addr), ρ[i]? = some s → ρ[j]? = some t → Own s = true → Own t = true → σ[i]? = some (some (.ref p)) → σ[j]? = some (some (.ref p)) → i = j
  exc : ∀ (i : Nat) (x : Exn), ρ[i]? = some (.exc x) → ∃ a cls dd, σ[i]? = some (some (.ref a)) ∧ P a cls dd ∧ RepX S (hid H G) cls dd x
  bx : Bx S B G ρ σ H
theorem OwnAt.mono {S : Sig} {H H' : Hp} {G G' : Addr → Bool} {p : Addr} {s : Sl} (h : OwnAt S H G p s) (hp : H' p = H p) (e : Ex (hid H G) (hid H' G')) : OwnAt S H' G' p s := by
  cases s with
  | no => exact h
  | val d => exact h
  | exc x => exact h
  | lst ds =>
    obtain ⟨xs, a, b⟩ := h
    exact ⟨xs, hp.trans a, b.ex e⟩
  | dic t kvs =>
    obtain ⟨o, a, b⟩ := h
    exact ⟨o, hp.trans a, b.ex e⟩
  | ins c fs =>
    obtain ⟨C, dx, vs, a, m, k, b⟩ := h
    exact ⟨C, dx, vs, hp.trans a, m, k, b.ex e⟩
  | deep d => exact h
theorem OwnAt.some {S : Sig} {H : Hp} {G : Addr → Bool} {p : Addr} {s : Sl} (h : OwnAt S H G p s) : ∃ o, H p = some o ∧ MutO (some o) := by
  cases s with
  | no => exact h.elim
  | val d => exact h.elim
  | exc x => exact h.elim
  | lst ds =>
    obtain ⟨xs, a, b⟩ := h
    exact ⟨_, a, True.intro⟩
  | dic t kvs =>
    obtain ⟨o, a, b⟩ := h
    exact ⟨o, a, b.mut⟩
  | ins c fs =>
    obtain ⟨C, dx, vs, a, m, k, b⟩ := h
    exact ⟨_, a, True.intro⟩
  | deep d => exact h.elim
theorem Own.not_val {s : Sl} {d : D} (h : Own s = true) : s ≠ .val d := by
  rintro rfl
  cases h
section
variable {S : Sig} {P : PX} {B : Bs} {G G' : Addr → Bool} {ρ : Env} {σ : L2.St} {H H' : Hp}
theorem Sts.excs (I : Sts S P B G ρ σ H) {i : Nat} {t : Sl} {σ' : L2.St} (ht : ∀ x, t ≠ .exc x) (hσ : ∀ j, j ≠ i → σ'[j]? = σ[j]?) (e : Ex (hid H G) (hid H' G')) :
    ∀ (j : Nat) (x : Exn), (ρ.set i t)[j]? = some (.exc x) → ∃ a cls dd, σ'[j]? = some (some (.ref a)) ∧ P a cls dd ∧ RepX S (hid H' G') cls dd x := fun j x h => by
  by_cases q : j = i
  · subst q
    have hl : j < ρ.length := by
      have := (List.getElem?_eq_some_iff.mp h).1
      rwa [List.length_set] at this
    rw [List.getElem?_set_self hl] at h
    exact absurd (Option.some.inj h) (ht x)
  · rw [List.getElem?_set_ne (Ne.symm q)] at h
    obtain ⟨a, cls, dd, h1, h2, h3⟩ := I.exc j x h
    exact ⟨a, cls, dd, by rw [hσ j q]; exact h1, h2, h3.ex e⟩
theorem set_off {α : Type} {l : List α} {i : Nat} {v : α} : ∀ j, j ≠ i → (l.set i v)[j]? = l[j]? := fun j h => List.getElem?_set_ne (Ne.symm h)
theorem ne_exc_val {d : D} : ∀ x, Sl.val d ≠ .exc x := fun x h => by cases h
theorem ne_exc_no : ∀ x, Sl.no ≠ .exc x := fun x h => by cases h
theorem ne_exc_own {s : Sl} (h : Own s = true) : ∀ x, s ≠ .exc x := fun x e => by subst e; cases h
theorem Bx.grow (I : Bx S B G ρ σ H) (gm : ∀ a, G a = true → MutO (H a)) (e : Ex H H') : Bx S B G ρ σ H' := by
  obtain ⟨L, a1, a2, a3, a4⟩ := I.dp
  refine ⟨I.me, L, fun i d h => ?_, a2, a3, a4⟩
  obtain ⟨v, e1, e2⟩ := a1 i d h
  refine ⟨v, e1, Rep.ex (onlyG_ex (fun a o h _ => e a o h) fun a l => ?_) e2⟩
  have z := gm a (a2 i d a h l).1
  cases q : H a with
  | none => rw [q] at z; exact z.elim
  | some o => exact e a o q
theorem Bx.put (I : Bx S B G ρ σ H) {i : Nat} {t : Sl} {σ' : L2.St} (nb : ∀ d, t ≠ .deep d) (ni : ∀ c fs, t ≠ .ins c fs) (no : Own t = false) (hσ : ∀ j, j ≠ i → σ'[j]? = σ[j]?) : Bx S B G (ρ.set i t) σ' H :=
  I.move nb (fun _ c fs h => absurd h (ni c fs)) hσ (fun _ _ h _ => h) (fun j d a l _ _ g _ _ => ⟨rfl, g⟩) (fun z => by rw [no] at z; cases z)
theorem nb_val {d : D} : ∀ e, Sl.val d ≠ .deep e := fun _ h => by cases h
theorem ni_val {d : D} : ∀ c fs, Sl.val d ≠ .ins c fs := fun _ _ h => by cases h
theorem nb_no : ∀ e, Sl.no ≠ .deep e := fun _ h => by cases h
theorem ni_no : ∀ c fs, Sl.no ≠ .ins c fs := fun _ _ h => by cases h
theorem nb_own {s : Sl} (h : Own s = true) : ∀ e, s ≠ .deep e := fun _ e => by subst e; cases h
/-- the heap has grown -/
theorem Sts.grow (I : Sts S P B G ρ σ H) (e : Ex H H') : Sts S P B G ρ σ H' where
  ex := I.ex.trans e
  bg := I.bg
  gb := I.gb
  gm := fun a g => by
    have z := I.gm a g
    cases q : H a with
    | none => rw [q] at z; exact z.elim
    | some o => rw [q] at z; rw [e a o q]; exact z
  len := I.len
  val := fun i d h => by
    obtain ⟨v, a, b⟩ := I.val i d h
    exact ⟨v, a, b.ex (hid_ex e)⟩
  own := fun i s h o => by
    obtain ⟨p, a, b, c, d⟩ := I.own i s h o
    obtain ⟨u, hu, _⟩ := d.some
    exact ⟨p, a, b, c, d.mono ((e p u hu).trans hu.symm) (hid_ex e)⟩
  sep := I.sep
  exc := fun i x h => by
    obtain ⟨a, cls, dd, h1, h2, h3⟩ := I.exc i x h
    exact ⟨a, cls, dd, h1, h2, h3.ex (hid_ex e)⟩
  bx := I.bx.grow I.gm e
/-- a slot takes a datum -/
theorem Sts.setVal (I : Sts S P B G ρ σ H) {i : Nat} {v : V} {d : D} (r : Rep S (hid H G) v d) : Sts S P B G (ρ.set i (.val d)) (σ.set i (some v)) H where
  bx := I.bx.put nb_val ni_val rfl set_off
  exc := I.excs ne_exc_val set_off (Ex.refl _)
  ex := I.ex
  bg := I.bg
  gb := I.gb
  gm := I.gm
  len := by rw [List.length_set, List.length_set, I.len]
  val := fun j e h => by
    by_cases q : j = i
    · subst q
      have hl : j < ρ.length := by
        have := (List.getElem?_eq_some_iff.mp h).1
        rwa [List.length_set] at this
      rw [List.getElem?_set_self hl] at h
      cases h
      exact ⟨v, by rw [List.getElem?_set_self (I.len ▸ hl)], r⟩
    · rw [List.getElem?_set_ne (Ne.symm q)] at h
      obtain ⟨w, a, b⟩ := I.val j e h
      exact ⟨w, by rw [List.getElem?_set_ne (Ne.symm q)]; exact a, b⟩
  own := fun j s h o => by
    by_cases q : j = i
    · subst q
      have hl : j < ρ.length := by
        have := (List.getElem?_eq_some_iff.mp h).1
        rwa [List.length_set] at this
      rw [List.getElem?_set_self hl] at h
      cases h
      cases o
    · rw [List.getElem?_set_ne (Ne.symm q)] at h
      obtain ⟨p, a, b⟩ := I.own j s h o
      exact ⟨p, by rw [List.getElem?_set_ne (Ne.symm q)]; exact a, b⟩
  sep := fun j k s t p h1 h2 o1 o2 a1 a2 => by
    have nj : ∀ {m : Nat} {u : Sl}, (ρ.set i (.val d))[m]? = some u → Own u = true → m ≠ i := fun {m u} h o q => by
      subst q
      have hl : m < ρ.length := by
        have := (List.getElem?_eq_some_iff.mp h).1
        rwa [List.length_set] at this
      rw [List.getElem?_set_self hl] at h
      cases h
      cases o
    have n1 := nj h1 o1
    have n2 := nj h2 o2
    rw [List.getElem?_set_ne (Ne.symm n1)] at h1 a1
    rw [List.getElem?_set_ne (Ne.symm n2)] at h2 a2
    exact I.sep j k s t p h1 h2 o1 o2 a1 a2
/-- a slot is emptied -/
theorem Sts.setNo (I : Sts S P B G ρ σ H) {i : Nat} {o : Option V} : Sts S P B G (ρ.set i .no) (σ.set i o) H where
  bx := I.bx.put nb_no ni_no rfl set_off
  exc := I.excs ne_exc_no set_off (Ex.refl _)
  ex := I.ex
  bg := I.bg
  gb := I.gb
  gm := I.gm
  len := by rw [List.length_set, List.length_set, I.len]
  val := fun j e h => by
    by_cases q : j = i
    · subst q
      have hl : j < ρ.length := by
        have := (List.getElem?_eq_some_iff.mp h).1
        rwa [List.length_set] at this
      rw [List.getElem?_set_self hl] at h
      cases h
    · rw [List.getElem?_set_ne (Ne.symm q)] at h
      obtain ⟨w, a, b⟩ := I.val j e h
      exact ⟨w, by rw [List.getElem?_set_ne (Ne.symm q)]; exact a, b⟩
  own := fun j s h o => by
    by_cases q : j = i
    · subst q
      have hl : j < ρ.length := by
        have := (List.getElem?_eq_some_iff.mp h).1
        rwa [List.length_set] at this
      rw [List.getElem?_set_self hl] at h
      cases h
      cases o
    · rw [List.getElem?_set_ne (Ne.symm q)] at h
      obtain ⟨p, a, b⟩ := I.own j s h o
      exact ⟨p, by rw [List.getElem?_set_ne (Ne.symm q)]; exact a, b⟩
  sep := fun j k s t p h1 h2 o1 o2 a1 a2 => by
    have nj : ∀ {m : Nat} {u : Sl}, (ρ.set i .no)[m]? = some u → Own u = true → m ≠ i := fun {m u} h o q => by
      subst q
      have hl : m < ρ.length := by
        have := (List.getElem?_eq_some_iff.mp h).1
        rwa [List.length_set] at this
      rw [List.getElem?_set_self hl] at h
      cases h
      cases o
    have n1 := nj h1 o1
    have n2 := nj h2 o2
    rw [List.getElem?_set_ne (Ne.symm n1)] at h1 a1
    rw [List.getElem?_set_ne (Ne.symm n2)] at h2 a2
    exact I.sep j k s t p h1 h2 o1 o2 a1 a2
/-- one more address is hidden -/
def addG (G : Addr → Bool) (p : Addr) : Addr → Bool := fun a => if a = p then true else G a
def delG (G : Addr → Bool) (p : Addr) : Addr → Bool := fun a => if a = p then false else G a
theorem addG_self {p : Addr} : addG G p p = true := if_pos rfl
theorem addG_ne {p a : Addr} (h : a ≠ p) : addG G p a = G a := if_neg h
theorem delG_self {p : Addr} : delG G p p = false := if_pos rfl
theorem delG_ne {p a : Addr} (h : a ≠ p) : delG G p a = G a := if_neg h
theorem addG_sub {p : Addr} : ∀ a, G a = true → addG G p a = true := fun a h => by
  unfold addG
  split
  · rfl
  · exact h
/-- what stood ahead of a new object is seen though the object is hidden -/
theorem hid_addG {p : Addr} (h : H p = none) (e : Ex H H') : Ex (hid H G) (hid H' (addG G p)) := fun a o q => by
  obtain ⟨g, q⟩ := hid_some q
  have ne : a ≠ p := fun z => by rw [z, h] at q; cases q
  exact hid_of (by rw [addG_ne ne]; exact g) (e a o q)
/-- a slot takes a new object as its own: I is the state ahead of the making -/
theorem Sts.setOwn (I : Sts S P B G ρ σ H) (e : Ex H H') {i : Nat} {p : Addr} {s : Sl} (hp : H p = none) (ho : Own s = true) (r : OwnAt S H' (addG G p) p s) (ni : ∀ c fs, s = .ins c fs → p = B.me := by intro _ _ h; cases h) : Sts S P B (addG G p) (ρ.set i s) (σ.set i (some (.ref p))) H' where
  bx := by
    refine I.bx.move (nb_own ho) (fun hl c fs h => by rw [List.getElem?_set_self (I.len ▸ hl), ni c fs h]) set_off (fun a o h _ => e a o h) (fun j d a l h n g _ _ => ?_) fun _ p0 h0 l _ lg => ?_
    · have z := I.gm a g
      cases q : H a with
      | none => rw [q] at z; exact z.elim
      | some o => exact ⟨e a o q, addG_sub _ g⟩
    · have e0 : p0 = p := by
        by_cases hl : i < σ.length
        · rw [List.getElem?_set_self hl] at h0
          cases h0
          rfl
        · rw [List.getElem?_eq_none (by rw [List.length_set]; omega)] at h0
          cases h0
      subst e0
      cases z : l p0 with
      | false => rfl
      | true =>
        have y := I.gm p0 (lg p0 z)
        rw [hp] at y
        exact y.elim
  exc := I.excs (ne_exc_own ho) set_off (hid_addG hp e)
  ex := I.ex.trans e
  bg := I.bg
  gb := fun a h => addG_sub a (I.gb a h)
  gm := fun a g => by
    by_cases q : a = p
    · subst q
      obtain ⟨o, h1, h2⟩ := r.some
      rw [h1]
      exact h2
    · rw [addG_ne q] at g
      exact (I.grow e).gm a g
  len := by rw [List.length_set, List.length_set, I.len]
  val := fun j d h => by
    by_cases q : j = i
    · subst q
      have hl : j < ρ.length := by
        have := (List.getElem?_eq_some_iff.mp h).1
        rwa [List.length_set] at this
      rw [List.getElem?_set_self hl] at h
      cases h
      cases ho
    · rw [List.getElem?_set_ne (Ne.symm q)] at h
      obtain ⟨w, a, b⟩ := I.val j d h
      exact ⟨w, by rw [List.getElem?_set_ne (Ne.symm q)]; exact a, b.ex (hid_addG hp e)⟩
  own := fun j t h o => by
    by_cases q : j = i
    · subst q
      have hl : j < ρ.length := by
        have := (List.getElem?_eq_some_iff.mp h).1
        rwa [List.length_set] at this
      rw [List.getElem?_set_self hl] at h
      cases h
      refine ⟨p, by rw [List.getElem?_set_self (I.len ▸ hl)], addG_self, ?_, r⟩
      cases z : B.H p with
      | none => rfl
      | some o =>
        rw [I.ex p o z] at hp
        cases hp
    · rw [List.getElem?_set_ne (Ne.symm q)] at h
      obtain ⟨p', a, b, c, d⟩ := I.own j t h o
      obtain ⟨u, hu, _⟩ := d.some
      exact ⟨p', by rw [List.getElem?_set_ne (Ne.symm q)]; exact a, addG_sub _ b, c, d.mono ((e p' u hu).trans hu.symm) (hid_addG hp e)⟩
  sep := fun j k t u p' h1 h2 o1 o2 a1 a2 => by
    have at_ : ∀ {m : Nat} {z : Sl}, m ≠ i → (ρ.set i s)[m]? = some z → Own z = true → (σ.set i (some (V.ref p)))[m]? ≠ some (some (.ref p)) := fun {m z} hm h o q => by
      rw [List.getElem?_set_ne (Ne.symm hm)] at h q
      obtain ⟨p2, a, _, _, d⟩ := I.own m z h o
      obtain ⟨u, hu, _⟩ := d.some
      rw [q] at a
      cases a
      rw [hp] at hu
      cases hu
    have self : ∀ {m : Nat} {z : Sl}, m = i → (ρ.set i s)[m]? = some z → (σ.set i (some (V.ref p)))[m]? = some (some (.ref p)) := fun {m z} hm h => by
      subst hm
      have hl : m < ρ.length := by
        have := (List.getElem?_eq_some_iff.mp h).1
        rwa [List.length_set] at this
      rw [List.getElem?_set_self (I.len ▸ hl)]
    by_cases q1 : j = i
    · by_cases q2 : k = i
      · rw [q1, q2]
      · exfalso
        have z := self q1 h1
        rw [a1] at z
        have z' : V.ref p' = V.ref p := Option.some.inj (Option.some.inj z)
        rw [z'] at a2
        exact at_ q2 h2 o2 a2
    · by_cases q2 : k = i
      · exfalso
        have z := self q2 h2
        rw [a2] at z
        have z' : V.ref p' = V.ref p := Option.some.inj (Option.some.inj z)
        rw [z'] at a1
        exact at_ q1 h1 o1 a1
      · rw [List.getElem?_set_ne (Ne.symm q1)] at h1 a1
        rw [List.getElem?_set_ne (Ne.symm q2)] at h2 a2
        exact I.sep j k t u p' h1 h2 o1 o2 a1 a2
/-- an own object is changed -/
theorem Sts.write (I : Sts S P B G ρ σ H) {i : Nat} {p : Addr} {s t : Sl} {o : HO} (h : ρ[i]? = some s) (ho : Own s = true) (hσ : σ[i]? = some (some (.ref p))) (ht : Own t = true) (r : ∀ H', (∀ a, a ≠ p → H' a = H a) → H' p = some o → Ex (hid H G) (hid H' G) → OwnAt S H' G p t) (ni : ∀ c fs, t = .ins c fs → σ[i]? = some (some (.ref B.me)) := by intro _ _ h; cases h) :
    Sts S P B G (ρ.set i t) σ (upd H p o) := by
  obtain ⟨p0, a0, g0, b0, w0⟩ := I.own i s h ho
  rw [hσ] at a0
  cases a0
  have hne : ∀ a, a ≠ p → upd H p o a = H a := fun a q => upd_ne q
  have ex : Ex (hid H G) (hid (upd H p o) G) := fun a u q => by
    obtain ⟨g, q⟩ := hid_some q
    have ne : a ≠ p := fun z => by rw [z, g0] at g; cases g
    exact hid_of g ((hne a ne).trans q)
  have rt := r (upd H p o) hne upd_same ex
  have hl : i < ρ.length := (List.getElem?_eq_some_iff.mp h).1
  have bx : Bx S B G (ρ.set i t) σ (upd H p o) := by
    have mp : MutO (H p) := I.gm p g0
    refine I.bx.move (nb_own ht) (fun _ => ni) (fun _ _ => rfl) (fun a u hu nu => ?_) (fun j d a l hj n g ls hl => ?_) fun _ p0 h0 l ls _ => ?_
    · have ne : a ≠ p := fun z => by rw [← z, hu] at mp; rw [mutB_of mp] at nu; cases nu
      rw [hne a ne]; exact hu
    · have ne : a ≠ p := fun z => by rw [z, ls i s p h ho hσ] at hl; cases hl
      exact ⟨hne a ne, g⟩
    · rw [hσ] at h0
      cases h0
      exact ls i s p h ho hσ
  refine ⟨fun a u q => ?_, I.bg, I.gb, fun a g => ?_, by rw [List.length_set, I.len], fun j d q => ?_, fun j u q ou => ?_, fun j k u w p' h1 h2 o1 o2 a1 a2 => ?_, I.excs (ne_exc_own ht) (fun _ _ => rfl) ex, bx⟩
  · have ne : a ≠ p := fun z => by rw [z, b0] at q; cases q
    rw [hne a ne]
    exact I.ex a u q
  · by_cases q : a = p
    · subst q
      obtain ⟨z, z1, z2⟩ := rt.some
      rw [z1]
      exact z2
    · rw [hne a q]
      exact I.gm a g
  · by_cases z : j = i
    · subst z
      rw [List.getElem?_set_self hl] at q
      cases q
      cases ht
    · rw [List.getElem?_set_ne (Ne.symm z)] at q
      obtain ⟨v, a, b⟩ := I.val j d q
      exact ⟨v, a, b.ex ex⟩
  · by_cases z : j = i
    · subst z
      rw [List.getElem?_set_self hl] at q
      cases q
      exact ⟨p, hσ, g0, b0, rt⟩
    · rw [List.getElem?_set_ne (Ne.symm z)] at q
      obtain ⟨p', a, b, c, d⟩ := I.own j u q ou
      have ne : p' ≠ p := fun e => by
        subst e
        exact z (I.sep j i u s p' q h ou ho a hσ)
      exact ⟨p', a, b, c, d.mono (hne p' ne) ex⟩
  · have back : ∀ {m : Nat} {z : Sl}, (ρ.set i t)[m]? = some z → Own z = true → ∃ z', ρ[m]? = some z' ∧ Own z' = true := fun {m z} q oz => by
      by_cases e : m = i
      · subst e
        exact ⟨s, h, ho⟩
      · rw [List.getElem?_set_ne (Ne.symm e)] at q
        exact ⟨z, q, oz⟩
    obtain ⟨u', q1, o1'⟩ := back h1 o1
    obtain ⟨w', q2, o2'⟩ := back h2 o2
    exact I.sep j k u' w' p' q1 q2 o1' o2' a1 a2
/-- an own list, an own dict is let go: from now on it is shared and stays -/
theorem Sts.freeze (I : Sts S P B G ρ σ H) {i : Nat} {p : Addr} {s : Sl} {d : D} (h : ρ[i]? = some s) (ho : Own s = true) (hσ : σ[i]? = some (some (.ref p))) (hd : Rep S (hid H (delG G p)) (.ref p) d) : Sts S P B (delG G p) (ρ.set i (.val d)) σ H := by
  have hB : B.G p = false := by
    obtain ⟨p0, a0, g0, b0, w0⟩ := I.own i s h ho
    rw [hσ] at a0
    cases a0
    cases z : B.G p with
    | false => rfl
    | true =>
      obtain ⟨o, q⟩ := I.bg p z
      rw [b0] at q
      cases q
  have hl : i < ρ.length := (List.getElem?_eq_some_iff.mp h).1
  have sub : ∀ a, delG G p a = true → G a = true := fun a q => by
    unfold delG at q
    split at q
    · cases q
    · exact q
  have ex : Ex (hid H G) (hid H (delG G p)) := hid_anti sub
  have bx : Bx S B (delG G p) (ρ.set i (.val d)) σ H := by
    refine I.bx.move nb_val (fun _ c fs h => absurd h (ni_val c fs)) (fun _ _ => rfl) (fun _ _ h _ => h) (fun j e a l hj n g ls hl => ?_) fun z => by cases z
    have ne : a ≠ p := fun z => by rw [z, ls i s p h ho hσ] at hl; cases hl
    exact ⟨rfl, by rw [delG_ne ne]; exact g⟩
  refine ⟨I.ex, I.bg, fun a q => ?_, fun a g => I.gm a (sub a g), by rw [List.length_set, I.len], fun j e q => ?_, fun j u q ou => ?_, fun j k u w p' h1 h2 o1 o2 a1 a2 => ?_, I.excs ne_exc_val (fun _ _ => rfl) ex, bx⟩
  · have ne : a ≠ p := fun z => by rw [z, hB] at q; cases q
    rw [delG_ne ne]
    exact I.gb a q
  · by_cases z : j = i
    · subst z
      rw [List.getElem?_set_self hl] at q
      cases q
      exact ⟨_, hσ, hd⟩
    · rw [List.getElem?_set_ne (Ne.symm z)] at q
      obtain ⟨v, a, b⟩ := I.val j e q
      exact ⟨v, a, b.ex ex⟩
  · by_cases z : j = i
    · subst z
      rw [List.getElem?_set_self hl] at q
      cases q
      cases ou
    · rw [List.getElem?_set_ne (Ne.symm z)] at q
      obtain ⟨p', a, b, c, w⟩ := I.own j u q ou
      have ne : p' ≠ p := fun e => by
        subst e
        exact z (I.sep j i u s p' q h ou ho a hσ)
      exact ⟨p', a, by rw [delG_ne ne]; exact b, c, w.mono rfl ex⟩
  · have back : ∀ {m : Nat} {z : Sl}, (ρ.set i (.val d))[m]? = some z → Own z = true → ρ[m]? = some z := fun {m z} q oz => by
      by_cases e : m = i
      · subst e
        rw [List.getElem?_set_self hl] at q
        cases q
        cases oz
      · rw [List.getElem?_set_ne (Ne.symm e)] at q
        exact q
    exact I.sep j k u w p' (back h1 o1) (back h2 o2) o1 o2 a1 a2
/-- an own slot as a datum, seen with its object -/
def Sl.d : Sl → D
  | .no => .non
  | .val d => d
  | .exc _ => .non
  | .lst ds => .lst ds
  | .dic t kvs => .dic t kvs
  | .ins c fs => .ins c fs
  | .deep d => d
theorem delG_sub {p : Addr} : ∀ a, delG G p a = true → G a = true := fun a q => by
  unfold delG at q
  split at q
  · cases q
  · exact q
theorem OwnAt.rep {p : Addr} {s : Sl} (h : OwnAt S H G p s) : Rep S (hid H (delG G p)) (.ref p) s.d := by
  have ex : Ex (hid H G) (hid H (delG G p)) := hid_anti delG_sub
  cases s with
  | no => exact h.elim
  | val d => exact h.elim
  | exc x => exact h.elim
  | lst ds =>
    obtain ⟨xs, a, b⟩ := h
    exact .mkL (Rd.of (hid_of delG_self a)) (b.ex ex)
  | dic t kvs =>
    obtain ⟨o, a, b⟩ := h
    exact (b.ex ex).rep (hid_of delG_self a)
  | ins c fs =>
    obtain ⟨C, dx, vs, a, m, k, b⟩ := h
    have b := b.ex ex
    exact .ins (hid_of delG_self a) m k b.1 b.2.1 b.2.2
  | deep d => exact h.elim
end
end Fx

-- Fx1
set_option Elab.async false
set_option linter.all false
set_option maxRecDepth 100000
set_option maxHeartbeats 2000000
/-! Fx1: expressions. -/
namespace Fx
open PySem PySem.Spec PyProof.Rows L2

abbrev ME := Env → R D
abbrev MA := Env → R (List D)
abbrev MT := Env → R Bool
abbrev sg (X : Cx) : Sig := ⟨X.K, X.mg⟩
/-- the exceptions that the context bears -/
def pinP (pn : List (Addr × Obj)) : PX := fun a cls dd => ∃ oe, (a, oe) ∈ pn ∧ oe.cls = cls ∧ oe.dict = dd ∧ ∃ vs, oe.data = .fields vs
abbrev pp (X : Cx) : PX := pinP (X.pn.take 1)
def R.of {α : Type} : Option α → R α
  | some a => .ok a
  | none => .bad
@[simp] theorem R.of_some {α : Type} (a : α) : R.of (some a) = .ok a := rfl
@[simp] theorem R.of_none {α : Type} : R.of (none : Option α) = .bad := rfl
theorem R.of_err {α : Type} {o : Option α} {x : Exn} : R.of o ≠ .err x := by cases o <;> intro h <;> cases h

/-- a list whose entries have no lists -/
def flat : D → Bool
  | .lst ds => lfs ds
  | _ => false
/-- clean, or an own object with clean entries, or any flat list -/
def RepC (S : Sig) (H : Hp) (G : Addr → Bool) : Bool → V → D → Prop
  | true, v, d => Rep S (hid H G) v d
  | false, v, d => Rep S (hid H G) v d ∨ (∃ a s, v = .ref a ∧ s.d = d ∧ G a = true ∧ OwnAt S H G a s) ∨ (Rep S H v d ∧ flat d = true ∧ ∀ a, G a = true → MutO (H a))
section
variable {S : Sig} {P : PX} {H H' : Hp} {G : Addr → Bool} {c : Bool} {v : V} {d : D}
theorem RepC.weak (h : RepC S H G c v d) : RepC S H G false v d := by
  cases c with
  | true => exact .inl h
  | false => exact h
theorem RepC.full (h : RepC S H G c v d) : Rep S H v d := by
  rcases h.weak with h | ⟨a, s, rfl, rfl, g, w⟩ | ⟨h, _⟩
  · exact h.ex hid_sub
  · exact w.rep.ex hid_sub
  · exact h
theorem mut_grow (gm : ∀ a, G a = true → MutO (H a)) (e : Ex H H') : ∀ a, G a = true → MutO (H' a) := fun a g => by
  have z := gm a g
  cases q : H a with
  | none => rw [q] at z; exact z.elim
  | some o => rw [q] at z; rw [e a o q]; exact z
theorem RepC.grow (e : Ex H H') (h : RepC S H G c v d) : RepC S H' G c v d := by
  cases c with
  | true => exact Rep.ex (hid_ex e) h
  | false =>
    rcases h with h | ⟨a, s, rfl, rfl, g, w⟩ | ⟨h, f, gm⟩
    · exact .inl (h.ex (hid_ex e))
    · obtain ⟨o, ho, _⟩ := w.some
      exact .inr (.inl ⟨a, s, rfl, rfl, g, w.mono ((e a o ho).trans ho.symm) (hid_ex e)⟩)
    · exact .inr (.inr ⟨h.ex e, f, mut_grow gm e⟩)
theorem RepC.clean (h : RepC S H G c v d) (l : lf d = true) : Rep S (hid H G) v d := by
  rcases h.weak with h | ⟨a, s, rfl, rfl, g, w⟩ | ⟨h, f, gm⟩
  · exact h
  · cases s with
    | no => exact w.elim
    | val d => exact w.elim
    | exc x => exact w.elim
    | lst ds => unfold Sl.d Fx.lf at l; cases l
    | dic t kvs => unfold Sl.d Fx.lf at l; cases l
    | ins c fs => unfold Sl.d Fx.lf at l; cases l
    | deep d => exact w.elim
  · exact h.lf gm l
theorem RepC.list {ds : List D} (h : RepC S H G c v (.lst ds)) : ∃ a xs, v = .ref a ∧ Rd H a (.lst xs) ∧ Reps S (hid H G) xs ds := by
  rcases h.weak with h | ⟨a, s, rfl, e, g, w⟩ | ⟨h, f, gm⟩
  · obtain ⟨a, xs, rfl, r, q⟩ := h.is_lst
    exact ⟨a, xs, rfl, rd_ex hid_sub r, q⟩
  · cases s with
    | no => exact w.elim
    | val d => exact w.elim
    | exc x => exact w.elim
    | lst es =>
      cases e
      obtain ⟨xs, p, q⟩ := w
      exact ⟨a, xs, rfl, Rd.of p, q⟩
    | dic t kvs => cases e
    | ins c fs => cases e
    | deep d => exact w.elim
  · obtain ⟨a, xs, rfl, r, q⟩ := h.is_lst
    exact ⟨a, xs, rfl, r, q.1, fun i x d h1 h2 => (q.2 i x d h1 h2).lf gm (lfs_get f h2)⟩
theorem RepC.tuple {ds : List D} (h : RepC S H G c v (.tup ds)) : ∃ a xs, v = .ref a ∧ H a = some (.tup xs) ∧ Reps S (hid H G) xs ds := by
  rcases h.weak with h | ⟨a, s, rfl, e, g, w⟩ | ⟨h, f, gm⟩
  · obtain ⟨a, xs, rfl, r, q⟩ := h.is_tup
    exact ⟨a, xs, rfl, hid_sub _ _ r, q⟩
  · cases s with
    | no => exact w.elim
    | val d => exact w.elim
    | exc x => exact w.elim
    | lst es => cases e
    | dic t kvs => cases e
    | ins c fs => cases e
    | deep d => exact w.elim
  · cases f
theorem RepC.dict {t : Bool} {ds : List (D × D)} (h : RepC S H G c v (.dic t ds)) : ∃ a o, v = .ref a ∧ H a = some o ∧ DicAt S (hid H G) o t ds := by
  rcases h.weak with h | ⟨a, s, rfl, e, g, w⟩ | ⟨h, f, gm⟩
  · cases h with
    | dK ho hl hk hr => exact ⟨_, _, rfl, hid_sub _ _ ho, ⟨_, rfl, hl, fun i k x d e h1 h2 => ⟨hk i k x d e h1 h2, hr i k x d e h1 h2⟩⟩⟩
    | dT ho hl hk hr => exact ⟨_, _, rfl, hid_sub _ _ ho, ⟨_, rfl, hl, fun i k x d e h1 h2 => ⟨hk i k x d e h1 h2, hr i k x d e h1 h2⟩⟩⟩
  · cases s with
    | no => exact w.elim
    | val d => exact w.elim
    | exc x => exact w.elim
    | lst es => cases e
    | dic t kvs =>
      cases e
      obtain ⟨o, p, q⟩ := w
      exact ⟨a, o, rfl, p, q⟩
    | ins c fs => cases e
    | deep d => exact w.elim
  · cases f
theorem RepC.inst {x : Str} {fs : List (Str × D)} (h : RepC S H G c v (.ins x fs)) : ∃ a C dx vs, v = .ref a ∧ H a = some (.ins C dx vs) ∧ S.mg x = some (.ref C) ∧ Cls S.K C ∧ RepF S (hid H G) vs fs := by
  rcases h.weak with h | ⟨a, s, rfl, e, g, w⟩ | ⟨h, f, gm⟩
  · cases h with
    | ins ho hc cl hl hk hr => exact ⟨_, _, _, _, rfl, hid_sub _ _ ho, hc, cl, hl, hk, hr⟩
  · cases s with
    | no => exact w.elim
    | val d => exact w.elim
    | exc x => exact w.elim
    | lst es => cases e
    | dic t kvs => cases e
    | ins c fs' =>
      cases e
      obtain ⟨C, dx, vs, a1, a2, a3, a4⟩ := w
      exact ⟨a, C, dx, vs, rfl, a1, a2, a3, a4⟩
    | deep d => exact w.elim
  · cases f
end

def SndE (S : Sig) (P : PX) (W : WX) (c : Bool) (t : TE) (m : ME) : Prop :=
  ∀ (B : Bs) (G : Addr → Bool) (ρ : Env) (σ : L2.St) (H : Hp) (Q : VK), Sts S P B G ρ σ H → m ρ ≠ .bad → (∀ d, m ρ = .ok d → ∀ v H', Ex H H' → RepC S H' G c v d → Q v H') →
    (∀ x, m ρ = .err x → ∀ cls dd H', Ex H H' → RepX S (hid H' G) cls dd x → W cls dd σ H') → t σ H Q
def SndT (S : Sig) (P : PX) (W : WX) (t : TT) (m : MT) : Prop :=
  ∀ (B : Bs) (G : Addr → Bool) (ρ : Env) (σ : L2.St) (H : Hp) (Q : Bool → Hp → Prop), Sts S P B G ρ σ H → m ρ ≠ .bad → (∀ d, m ρ = .ok d → ∀ H', Ex H H' → Q d H') →
    (∀ x, m ρ = .err x → ∀ cls dd H', Ex H H' → RepX S (hid H' G) cls dd x → W cls dd σ H') → t σ H Q
def SndA (S : Sig) (P : PX) (W : WX) (c : Bool) (n : Nat) (t : TA) (m : MA) : Prop :=
  ∀ (B : Bs) (G : Addr → Bool) (ρ : Env) (σ : L2.St) (H : Hp) (Q : List V → Hp → Prop), Sts S P B G ρ σ H → m ρ ≠ .bad →
    (∀ ds, m ρ = .ok ds → ∀ vs H', Ex H H' → vs.length = n → vs.length = ds.length → (∀ (i : Nat) (v : V) (d : D), vs[i]? = some v → ds[i]? = some d → RepC S H' G c v d) → Q vs H') →
    (∀ x, m ρ = .err x → ∀ cls dd H', Ex H H' → RepX S (hid H' G) cls dd x → W cls dd σ H') → t σ H Q
/-- an expression that makes a list of its own -/
def SndF (S : Sig) (P : PX) (W : WX) (t : TE) (m : ME) : Prop :=
  ∀ (B : Bs) (G : Addr → Bool) (ρ : Env) (σ : L2.St) (H : Hp) (Q : VK), Sts S P B G ρ σ H → m ρ ≠ .bad →
    (∀ d, m ρ = .ok d → ∀ p s H', H p = none → Ex H H' → s.d = d → OwnAt S H' (addG G p) p s → Q (.ref p) H') →
    (∀ x, m ρ = .err x → ∀ cls dd H', Ex H H' → RepX S (hid H' G) cls dd x → W cls dd σ H') → t σ H Q
structure RE (X : Cx) (W : WX) (c : Bool) (e : Expr) (m : ME) : Prop where
  ex : ∃ t, PE X e t ∧ SndE (sg X) (pp X) W c t m
structure RF (X : Cx) (W : WX) (e : Expr) (m : ME) : Prop where
  ex : ∃ t, PE X e t ∧ SndF (sg X) (pp X) W t m
structure RT (X : Cx) (W : WX) (e : Expr) (m : MT) : Prop where
  ex : ∃ t, PT X e t ∧ SndT (sg X) (pp X) W t m
structure RW (X : Cx) (W : WX) (e : Expr) (m : MT) : Prop where
  ex : ∃ t, PW X e t ∧ SndT (sg X) (pp X) W t m
structure RA (X : Cx) (W : WX) (c : Bool) (es : List Expr) (m : MA) : Prop where
  ex : ∃ t, PA X es t ∧ SndA (sg X) (pp X) W c es.length t m

theorem R.bad_bind {α β : Type} {x : R α} {f : α → R β} (h : x.bind f ≠ .bad) : x ≠ .bad := by
  rintro rfl
  exact h rfl
section
variable {S : Sig} {P : PX} {W : WX} {c c1 c2 : Bool}
theorem SndF.clean {t : TE} {m : ME} (h : SndF S P W t m) : SndE S P W true t m := fun B G ρ σ H Q I nb k ke =>
  h B G ρ σ H Q I nb (fun d e p s H' hp x es w => by
    refine k d e _ H' x ?_
    have g : G p = false := by
      cases z : G p with
      | false => rfl
      | true =>
        have y := I.gm p z
        rw [hp] at y
        exact y.elim
    have eq : delG (addG G p) p = G := by
      funext a
      by_cases q : a = p
      · subst q
        rw [delG_self, g]
      · rw [delG_ne q, addG_ne q]
    have r := w.rep
    rw [eq, es] at r
    exact r) ke
theorem SndE.weak {t : TE} {m : ME} (h : SndE S P W c t m) : SndE S P W false t m := fun B G ρ σ H Q I nb k ke => h B G ρ σ H Q I nb (fun d e v H' x r => k d e v H' x r.weak) ke
/-- a datum without lists -/
def mLf (m : ME) : ME := fun ρ => (m ρ).bind fun d => if lf d = true then .ok d else .bad
theorem SndE.lf {t : TE} {m : ME} (h : SndE S P W c t m) : SndE S P W true t (mLf m) := fun B G ρ σ H Q I nb k ke => by
  unfold mLf at nb k ke
  refine h B G ρ σ H Q I (R.bad_bind nb) (fun d e v H' x r => ?_) (fun x e => ke x (by rw [e]; rfl))
  rw [e] at nb k
  rw [R.bind_ok] at nb k
  by_cases q : Fx.lf d = true
  · rw [if_pos q] at k
    exact k d rfl v H' x (r.clean q)
  · rw [if_neg q] at nb
    exact absurd rfl nb
/-- two in a row -/
theorem snd2 {ta tb : TE} {ma mb : ME} {f : D → D → R D} {R' : V → V → Hp → Prop} {B : Bs} {G : Addr → Bool} {ρ : Env} {σ : L2.St} {H : Hp} (ha : SndE S P W c1 ta ma) (hb : SndE S P W c2 tb mb) (I : Sts S P B G ρ σ H)
    (nb : ((ma ρ).bind fun x => (mb ρ).bind fun y => f x y) ≠ .bad) (ke : ∀ x, ((ma ρ).bind fun x => (mb ρ).bind fun y => f x y) = .err x → ∀ cls dd H', Ex H H' → RepX S (hid H' G) cls dd x → W cls dd σ H')
    (k : ∀ x y, ma ρ = .ok x → mb ρ = .ok y → f x y ≠ .bad → ∀ v u H', Ex H H' → RepC S H' G c1 v x → RepC S H' G c2 u y → R' v u H') : ta σ H fun v H1 => tb σ H1 fun u H2 => R' v u H2 := by
  refine ha B G ρ σ H _ I (R.bad_bind nb) (fun d e v H1 x1 r1 => ?_) (fun x e => ke x (by rw [e]; rfl))
  rw [e, R.bind_ok] at nb ke
  refine hb B G ρ σ H1 _ (I.grow x1) (R.bad_bind nb) (fun d2 e2 u H2 x2 r2 => ?_) (fun x e2 cls dd H' x2 => ke x (by rw [e2]; rfl) cls dd H' (x1.trans x2))
  rw [e2, R.bind_ok] at nb
  exact k d d2 e e2 nb v u H2 (x1.trans x2) (r1.grow x2) r2
end

/-! ### binary operations -/
/-- what an operation on values is, on data -/
def OpS (S : Sig) (r : R2) (g : D → D → Option D) : Prop := ∀ (H : Hp) (G : Addr → Bool) (x y : V) (dx dy d : D) (Q : VK), (∀ a, G a = true → MutO (H a)) → RepC S H G false x dx → RepC S H G false y dy → g dx dy = some d → (∀ v H', Ex H H' → Rep S (hid H' G) v d → Q v H') → r x y H Q
structure OpD (X : Cx) (f : Value → Value → Sem Value) (g : D → D → Option D) : Prop where
  ex : ∃ r, OpR X f r ∧ OpS (sg X) r g
theorem OpR.or {X : Cx} {f : Value → Value → Sem Value} {r r' : R2} (h : OpR X f r) (h' : OpR X f r') : OpR X f fun x y H Q => r x y H Q ∨ r' x y H Q := fun pins s σ H x y v u Q I rx ry q => by
  rcases q with q | q
  · exact h pins s σ H x y v u Q I rx ry q
  · exact h' pins s σ H x y v u Q I rx ry q
/-- one way or the other, by the data -/
theorem OpD.or {X : Cx} {f : Value → Value → Sem Value} {g g' : D → D → Option D} (h : OpD X f g) (h' : OpD X f g') : OpD X f fun x y => (g x y).orElse fun _ => g' x y := by
  obtain ⟨r, a, b⟩ := h.ex
  obtain ⟨r', a', b'⟩ := h'.ex
  refine ⟨_, OpR.or a a', fun H G x y dx dy d Q gm rx ry e k => ?_⟩
  dsimp only at e
  cases q : g dx dy with
  | some z =>
    rw [q] at e
    cases e
    exact .inl (b H G x y dx dy _ Q gm rx ry q k)
  | none =>
    rw [q] at e
    exact .inr (b' H G x y dx dy _ Q gm rx ry e k)
def mBin (g : D → D → Option D) (ma mb : ME) : ME := fun ρ => (ma ρ).bind fun x => (mb ρ).bind fun y => R.of (g x y)
theorem snd_bin {S : Sig} {P : PX} {W : WX} {c1 c2 : Bool} {r : R2} {g : D → D → Option D} {ta tb : TE} {ma mb : ME} (hr : OpS S r g) (ha : SndE S P W c1 ta ma) (hb : SndE S P W c2 tb mb) : SndE S P W true (tOp r ta tb) (mBin g ma mb) := fun B G ρ σ H Q I nb k ke => by
  refine snd2 (f := fun x y => R.of (g x y)) (R' := fun v u H2 => r v u H2 Q) ha hb I nb ke fun x y e1 e2 n v u H' x2 r1 r2 => ?_
  cases q : g x y with
  | none => rw [q] at n; exact absurd rfl n
  | some d => exact hr H' G v u x y d Q (I.grow x2).gm r1.weak r2.weak q fun w H2 x3 rw' => k d (by unfold mBin; rw [e1, e2, R.bind_ok, R.bind_ok, q]; rfl) w H2 (x2.trans x3) rw'
section
variable {X : Cx} {W : WX} {c c1 c2 : Bool} {a b : Expr} {ma mb : ME} {pos : Pos}
theorem re_bin {op : Operator} {g : D → D → Option D} (h : OpD X (binaryOp op) g) (ha : RE X W c1 a ma) (hb : RE X W c2 b mb) : RE X W true (.BinOp a op b pos) (mBin g ma mb) := by
  obtain ⟨r, h1, h2⟩ := h.ex
  obtain ⟨ta, a1, a2⟩ := ha.ex
  obtain ⟨tb, b1, b2⟩ := hb.ex
  exact ⟨_, pe_op h1 a1 b1, snd_bin h2 a2 b2⟩
theorem re_cmp {op : CmpOp} {g : D → D → Option D} (h : OpD X (compareOp op) g) (ha : RE X W c1 a ma) (hb : RE X W c2 b mb) (hm : behindInMarks op b = false) : RE X W true (.Compare a [op] [b] pos) (mBin g ma mb) := by
  obtain ⟨r, h1, h2⟩ := h.ex
  obtain ⟨ta, a1, a2⟩ := ha.ex
  obtain ⟨tb, b1, b2⟩ := hb.ex
  exact ⟨_, pe_cmpR h1 a1 b1 hm, snd_bin h2 a2 b2⟩
/-- a comparison as a test -/
def mBool (m : ME) : MT := fun ρ => (m ρ).bind fun d => match d with
  | .bl b => .ok b
  | _ => .bad
theorem snd_test {S : Sig} {P : PX} {t : TE} {m : ME} (h : SndE S P W c t m) : SndT S P W (tTest t) (mBool m) := fun B G ρ σ H Q I nb k ke => by
  unfold mBool at nb k ke
  refine h B G ρ σ H _ I (R.bad_bind nb) (fun d e v H' x r => ?_) (fun x e => ke x (by rw [e]; rfl))
  rw [e, R.bind_ok] at nb k
  cases d with
  | bl b =>
    have ev := r.full.is_bl
    subst ev
    exact ⟨b, rfl, k b rfl H' x⟩
  | _ => exact absurd rfl nb
theorem rt_cmp {op : CmpOp} {g : D → D → Option D} (h : OpD X (compareOp op) g) (ha : RE X W c1 a ma) (hb : RE X W c2 b mb) (hm : behindInMarks op b = false) : RT X W (.Compare a [op] [b] pos) (mBool (mBin g ma mb)) := by
  obtain ⟨r, h1, h2⟩ := h.ex
  obtain ⟨ta, a1, a2⟩ := ha.ex
  obtain ⟨tb, b1, b2⟩ := hb.ex
  exact ⟨_, pt_cmpR h1 a1 b1 hm, snd_test (snd_bin h2 a2 b2)⟩

/-! ### names, constants -/
theorem rep_okI {S : Sig} {H : Hp} {G : Addr → Bool} {v : V} {d : D} (h : Rep S (hid H G) v d) : RepC S H G true v d := h
def mC (d : D) : ME := fun _ => .ok d
theorem snd_c {S : Sig} {P : PX} {v : V} {d : D} (h : ∀ H, Rep S H v d) : SndE S P W true (tC v) (mC d) := fun B G ρ σ H Q I nb k ke => k d rfl v H (Ex.refl H) (h _)
theorem re_int {i : Int} {j pos} : RE X W true (.Constant (.int i) j pos) (mC (.int i)) := ⟨_, pe_int, snd_c fun _ => .int i⟩
theorem re_bl {i : Bool} {j pos} : RE X W true (.Constant (.bool i) j pos) (mC (.bl i)) := ⟨_, pe_bl, snd_c fun _ => .bl i⟩
theorem re_non {j pos} : RE X W true (.Constant .none j pos) (mC .non) := ⟨_, pe_non, snd_c fun _ => .non⟩
theorem re_str {x : Str} {j pos} : RE X W true (.Constant (.str x) j pos) (mC (.str x)) := ⟨_, pe_str, snd_c fun _ => .str x⟩
/-- a shared datum in slot i -/
def mV (i : Nat) : ME := fun ρ => match ρ[i]? with
  | some (.val d) => .ok d
  | _ => .bad
/-- an own object in slot i, looked at -/
def mO (i : Nat) : ME := fun ρ => match ρ[i]? with
  | some (.lst ds) => .ok (.lst ds)
  | some (.dic t ds) => .ok (.dic t ds)
  | _ => .bad
theorem snd_v {S : Sig} {P : PX} {i : Nat} : SndE S P W true (tVar i) (mV i) := fun B G ρ σ H Q I nb k ke => by
  unfold mV at nb k
  cases e : ρ[i]? with
  | none => rw [e] at nb; exact absurd rfl nb
  | some s =>
    rw [e] at nb k
    cases s with
    | val d =>
      obtain ⟨v, h1, h2⟩ := I.val i d e
      exact ⟨v, h1, k d rfl v H (Ex.refl H) h2⟩
    | _ => exact absurd rfl nb
theorem snd_o {S : Sig} {P : PX} {i : Nat} : SndE S P W false (tVar i) (mO i) := fun B G ρ σ H Q I nb k ke => by
  unfold mO at nb k
  cases e : ρ[i]? with
  | none => rw [e] at nb; exact absurd rfl nb
  | some s =>
    rw [e] at nb k
    cases s with
    | lst ds =>
      obtain ⟨p, h1, h2, h3, h4⟩ := I.own i _ e rfl
      exact ⟨_, h1, k _ rfl _ H (Ex.refl H) (.inr (.inl ⟨p, _, rfl, rfl, h2, h4⟩))⟩
    | dic t ds =>
      obtain ⟨p, h1, h2, h3, h4⟩ := I.own i _ e rfl
      exact ⟨_, h1, k _ rfl _ H (Ex.refl H) (.inr (.inl ⟨p, _, rfl, rfl, h2, h4⟩))⟩
    | _ => exact absurd rfl nb
theorem re_v (i : Nat) {x : Str} {pos : Pos} (hN : X.N[i]? = some x := by rfl) (hv : Vis X.env.scope x := by first | exact Or.inl rfl | exact Or.inr (Or.inl rfl) | exact Or.inr (Or.inr rfl)) (hd : (x == ("__debug__" : Str)) = false := by decide)
    (hcd : (x == ("__classdict__" : Str)) = false := by decide) : RE X W true (.Name x pos) (mV i) := ⟨_, pe_var hN hv hd hcd, snd_v⟩
theorem re_o (i : Nat) {x : Str} {pos : Pos} (hN : X.N[i]? = some x := by rfl) (hv : Vis X.env.scope x := by first | exact Or.inl rfl | exact Or.inr (Or.inl rfl) | exact Or.inr (Or.inr rfl)) (hd : (x == ("__debug__" : Str)) = false := by decide)
    (hcd : (x == ("__classdict__" : Str)) = false := by decide) : RE X W false (.Name x pos) (mO i) := ⟨_, pe_var hN hv hd hcd, snd_o⟩
/-- a module's constant -/
theorem re_gint {x : Str} {i : Int} {t : Tok} {pos : Pos} (hg : Gl X x) (hm : X.mg x = some (.int i t)) (hd : (x == ("__debug__" : Str)) = false := by decide) : RE X W true (.Name x pos) (mC (.int i)) :=
  ⟨_, pe_glob (v := .int i) hg hm ⟨_, rfl⟩ hd, snd_c fun _ => .int i⟩
theorem RF.re {e : Expr} {m : ME} (h : RF X W e m) : RE X W true e m := by
  obtain ⟨t, a, b⟩ := h.ex
  exact ⟨t, a, b.clean⟩
theorem RE.lf {e : Expr} {m : ME} (h : RE X W c e m) : RE X W true e (mLf m) := by
  obtain ⟨t, a, b⟩ := h.ex
  exact ⟨t, a, b.lf⟩
theorem RE.weak {e : Expr} {m : ME} (h : RE X W c e m) : RE X W false e m := by
  obtain ⟨t, a, b⟩ := h.ex
  exact ⟨t, a, b.weak⟩

/-! ### tests -/
def mAnd (m n : MT) : MT := fun ρ => (m ρ).bind fun k => if k = true then n ρ else .ok false
def mOr (m n : MT) : MT := fun ρ => (m ρ).bind fun k => if k = true then .ok true else n ρ
def mNot (m : MT) : MT := fun ρ => (m ρ).bind fun k => .ok (!k)
theorem snd_and {S : Sig} {P : PX} {t u : TT} {m n : MT} (h : SndT S P W t m) (h' : SndT S P W u n) : SndT S P W (tAnd t u) (mAnd m n) := fun B G ρ σ H Q I nb k ke => by
  unfold mAnd at nb k ke
  refine h B G ρ σ H _ I (R.bad_bind nb) (fun d e H' x => ?_) (fun x e => ke x (by rw [e]; rfl))
  rw [e, R.bind_ok] at nb k ke
  cases d with
  | true =>
    show (if true = true then u σ H' Q else Q false H')
    rw [if_pos rfl] at nb k ke ⊢
    exact h' B G ρ σ H' Q (I.grow x) nb (fun d e H2 x2 => k d e H2 (x.trans x2)) (fun y e cls dd H2 x2 => ke y e cls dd H2 (x.trans x2))
  | false =>
    show (if false = true then u σ H' Q else Q false H')
    rw [if_neg Bool.false_ne_true] at k ⊢
    exact k false rfl H' x
theorem snd_or {S : Sig} {P : PX} {t u : TT} {m n : MT} (h : SndT S P W t m) (h' : SndT S P W u n) : SndT S P W (tOr t u) (mOr m n) := fun B G ρ σ H Q I nb k ke => by
  unfold mOr at nb k ke
  refine h B G ρ σ H _ I (R.bad_bind nb) (fun d e H' x => ?_) (fun x e => ke x (by rw [e]; rfl))
  rw [e, R.bind_ok] at nb k ke
  cases d with
  | true =>
    show (if true = true then Q true H' else u σ H' Q)
    rw [if_pos rfl] at k ⊢
    exact k true rfl H' x
  | false =>
    show (if false = true then Q true H' else u σ H' Q)
    rw [if_neg Bool.false_ne_true] at nb k ke ⊢
    exact h' B G ρ σ H' Q (I.grow x) nb (fun d e H2 x2 => k d e H2 (x.trans x2)) (fun y e cls dd H2 x2 => ke y e cls dd H2 (x.trans x2))
variable {rest : List Expr} {m n : MT}
theorem rw_and1 (h : RT X W a m) : RW X W (.BoolOp .And [a] pos) m := by
  obtain ⟨t, h1, h2⟩ := h.ex
  exact ⟨t, pw_and1 h1, h2⟩
theorem rw_or1 (h : RT X W a m) : RW X W (.BoolOp .Or [a] pos) m := by
  obtain ⟨t, h1, h2⟩ := h.ex
  exact ⟨t, pw_or1 h1, h2⟩
theorem rw_and (h : RT X W a m) (h' : RW X W (.BoolOp .And (b :: rest) pos) n) : RW X W (.BoolOp .And (a :: b :: rest) pos) (mAnd m n) := by
  obtain ⟨t, h1, h2⟩ := h.ex
  obtain ⟨u, k1, k2⟩ := h'.ex
  exact ⟨_, pw_and h1 k1, snd_and h2 k2⟩
theorem rw_or (h : RT X W a m) (h' : RW X W (.BoolOp .Or (b :: rest) pos) n) : RW X W (.BoolOp .Or (a :: b :: rest) pos) (mOr m n) := by
  obtain ⟨t, h1, h2⟩ := h.ex
  obtain ⟨u, k1, k2⟩ := h'.ex
  exact ⟨_, pw_or h1 k1, snd_or h2 k2⟩
theorem RW.rt {e : Expr} (h : RW X W e m) : RT X W e m := by
  obtain ⟨t, h1, h2⟩ := h.ex
  exact ⟨t, h1.pt, h2⟩
theorem rt_not (h : RT X W a m) : RT X W (.UnaryOp .Not a pos) (mNot m) := by
  obtain ⟨t, h1, h2⟩ := h.ex
  refine ⟨_, pt_not h1, fun B G ρ σ H Q I nb k ke => ?_⟩
  unfold mNot at nb k ke
  refine h2 B G ρ σ H _ I (R.bad_bind nb) (fun d e H' x => ?_) (fun x e => ke x (by rw [e]; rfl))
  rw [e, R.bind_ok] at k
  exact k _ rfl H' x
/-- the truth of a datum -/
def truD : D → Option Bool
  | .non => some false
  | .bl b => some b
  | .int i => some (i != 0)
  | .str s => if s.length ≤ 1000000 then some ((s.length : Int) != 0) else none
  | .tup ds => some (!ds.isEmpty)
  | .lst ds => some (!ds.isEmpty)
  | _ => none
theorem empty_of {S : Sig} {H : Hp} {xs : List V} {ds : List D} (h : Reps S H xs ds) : xs.isEmpty = ds.isEmpty := by
  have e := h.1
  cases xs <;> cases ds <;> first | rfl | cases e
theorem truV_of {S : Sig} {H : Hp} {G : Addr → Bool} {v : V} {d : D} {k : Bool} (r : RepC S H G c v d) (e : truD d = some k) : TruV S.K v H k := by
  cases d with
  | non => cases e; rw [r.full.is_non]; rfl
  | bl b => cases e; rw [r.full.is_bl]; rfl
  | int i => cases e; rw [r.full.is_int]; rfl
  | str s =>
    unfold truD at e
    by_cases q : s.length ≤ 1000000
    · simp only [if_pos q] at e
      cases e
      rw [r.full.is_str]
      exact ⟨Nat.le_trans q (by rw [sizeLine_eq]; decide), rfl⟩
    · simp only [if_neg q] at e
      cases e
  | tup ds =>
    cases e
    obtain ⟨a, xs, rfl, h1, h2⟩ := r.tuple
    exact .inr (.inl ⟨xs, SqT.of h1, by rw [empty_of h2]⟩)
  | lst ds =>
    cases e
    obtain ⟨a, xs, rfl, h1, h2⟩ := r.list
    exact .inl ⟨xs, .inl h1, by rw [empty_of h2]⟩
  | pool => cases e
  | dic t ds => cases e
  | ins c fs => cases e
def mTru (m : ME) : MT := fun ρ => (m ρ).bind fun d => R.of (truD d)
theorem rt_tru (h : RE X W c a ma) (he : ∀ whole, isTrue a X.env whole = (do let v ← whole; standAt a.pos; holding [v] (truthy v)) := by intro _; rfl) : RT X W a (mTru ma) := by
  obtain ⟨t, h1, h2⟩ := h.ex
  refine ⟨_, pt_truth h1 he, fun B G ρ σ H Q I nb k ke => ?_⟩
  unfold mTru at nb k ke
  refine h2 B G ρ σ H _ I (R.bad_bind nb) (fun d e v H' x r => ?_) (fun x e => ke x (by rw [e]; rfl))
  rw [e, R.bind_ok] at nb k
  cases q : truD d with
  | none => rw [q] at nb; exact absurd rfl nb
  | some b => exact ⟨b, truV_of r q, k b (by rw [q]; rfl) H' x⟩
/-- a if t else b -/
def mIf (m : MT) (a b : ME) : ME := fun ρ => (m ρ).bind fun k => if k = true then a ρ else b ρ
theorem re_if {e : Expr} (h : RT X W e m) (ha : RE X W c a ma) (hb : RE X W c b mb) : RE X W c (.IfExp e a b pos) (mIf m ma mb) := by
  obtain ⟨t, h1, h2⟩ := h.ex
  obtain ⟨ta, a1, a2⟩ := ha.ex
  obtain ⟨tb, b1, b2⟩ := hb.ex
  refine ⟨_, pe_ifExp h1 a1 b1, fun B G ρ σ H Q I nb k ke => ?_⟩
  unfold mIf at nb k ke
  refine h2 B G ρ σ H _ I (R.bad_bind nb) (fun d e H' x => ?_) (fun x e => ke x (by rw [e]; rfl))
  rw [e, R.bind_ok] at nb k ke
  cases d with
  | true =>
    show (if true = true then ta σ H' Q else tb σ H' Q)
    rw [if_pos rfl] at nb k ke ⊢
    exact a2 B G ρ σ H' Q (I.grow x) nb (fun d e v H2 x2 => k d e v H2 (x.trans x2)) (fun y e cls dd H2 x2 => ke y e cls dd H2 (x.trans x2))
  | false =>
    show (if false = true then ta σ H' Q else tb σ H' Q)
    rw [if_neg Bool.false_ne_true] at nb k ke ⊢
    exact b2 B G ρ σ H' Q (I.grow x) nb (fun d e v H2 x2 => k d e v H2 (x.trans x2)) (fun y e cls dd H2 x2 => ke y e cls dd H2 (x.trans x2))
/-- and, or, not as values: bools -/
def mAndV (a b : ME) : ME := fun ρ => (a ρ).bind fun d => match d with
  | .bl true => b ρ
  | .bl false => .ok (.bl false)
  | _ => .bad
def mOrV (a b : ME) : ME := fun ρ => (a ρ).bind fun d => match d with
  | .bl true => .ok (.bl true)
  | .bl false => b ρ
  | _ => .bad
def mNotV (a : ME) : ME := fun ρ => (a ρ).bind fun d => match d with
  | .bl k => .ok (.bl (!k))
  | _ => .bad
theorem re_one {op : BoolOp} (h : RE X W c a ma) : RE X W c (.BoolOp op [a] pos) ma := by
  obtain ⟨t, h1, h2⟩ := h.ex
  exact ⟨t, pe_one h1, h2⟩
theorem re_and (ha : RE X W c1 a ma) (hb : RE X W true (.BoolOp .And (b :: rest) pos) mb) : RE X W true (.BoolOp .And (a :: b :: rest) pos) (mAndV ma mb) := by
  obtain ⟨ta, a1, a2⟩ := ha.ex
  obtain ⟨tb, b1, b2⟩ := hb.ex
  refine ⟨_, pe_and a1 b1, fun B G ρ σ H Q I nb k ke => ?_⟩
  unfold mAndV at nb k ke
  refine a2 B G ρ σ H _ I (R.bad_bind nb) (fun d e v H' x r => ?_) (fun x e => ke x (by rw [e]; rfl))
  rw [e, R.bind_ok] at nb k ke
  cases d with
  | bl q =>
    have ev := r.full.is_bl
    subst ev
    cases q with
    | true => exact ⟨true, rfl, b2 B G ρ σ H' Q (I.grow x) nb (fun d e v H2 x2 => k d e v H2 (x.trans x2)) (fun y e cls dd H2 x2 => ke y e cls dd H2 (x.trans x2))⟩
    | false => exact ⟨false, rfl, k _ rfl _ H' x (.bl false)⟩
  | _ => exact absurd rfl nb
theorem re_or (ha : RE X W c1 a ma) (hb : RE X W true (.BoolOp .Or (b :: rest) pos) mb) : RE X W true (.BoolOp .Or (a :: b :: rest) pos) (mOrV ma mb) := by
  obtain ⟨ta, a1, a2⟩ := ha.ex
  obtain ⟨tb, b1, b2⟩ := hb.ex
  refine ⟨_, pe_or a1 b1, fun B G ρ σ H Q I nb k ke => ?_⟩
  unfold mOrV at nb k ke
  refine a2 B G ρ σ H _ I (R.bad_bind nb) (fun d e v H' x r => ?_) (fun x e => ke x (by rw [e]; rfl))
  rw [e, R.bind_ok] at nb k ke
  cases d with
  | bl q =>
    have ev := r.full.is_bl
    subst ev
    cases q with
    | false => exact ⟨false, rfl, b2 B G ρ σ H' Q (I.grow x) nb (fun d e v H2 x2 => k d e v H2 (x.trans x2)) (fun y e cls dd H2 x2 => ke y e cls dd H2 (x.trans x2))⟩
    | true => exact ⟨true, rfl, k _ rfl _ H' x (.bl true)⟩
  | _ => exact absurd rfl nb
theorem re_not (ha : RE X W c1 a ma) : RE X W true (.UnaryOp .Not a pos) (mNotV ma) := by
  obtain ⟨ta, a1, a2⟩ := ha.ex
  refine ⟨_, pe_not a1, fun B G ρ σ H Q I nb k ke => ?_⟩
  unfold mNotV at nb k ke
  refine a2 B G ρ σ H _ I (R.bad_bind nb) (fun d e v H' x r => ?_) (fun x e => ke x (by rw [e]; rfl))
  rw [e, R.bind_ok] at nb k
  cases d with
  | bl q =>
    have ev := r.full.is_bl
    subst ev
    exact ⟨q, rfl, k _ rfl _ H' x (.bl _)⟩
  | _ => exact absurd rfl nb

/-! ### argument lists, displays -/
def mNil : MA := fun _ => .ok []
def mCons (a : ME) (r : MA) : MA := fun ρ => (a ρ).bind fun x => (r ρ).bind fun xs => .ok (x :: xs)
theorem ra_nil : RA X W c [] mNil := ⟨_, pa_nil, fun B G ρ σ H Q I nb k ke => k [] rfl [] H (Ex.refl H) rfl rfl fun i v d h => by cases h⟩
theorem ra_cons {es : List Expr} {mr : MA} (ha : RE X W c a ma) (hr : RA X W c es mr) (hs : starEach (a :: es) X.env = (false, eval a X.env) :: starEach es X.env := by rfl) : RA X W c (a :: es) (mCons ma mr) := by
  obtain ⟨ta, a1, a2⟩ := ha.ex
  obtain ⟨tr, r1, r2⟩ := hr.ex
  refine ⟨_, pa_cons a1 r1 hs, fun B G ρ σ H Q I nb k ke => ?_⟩
  unfold mCons at nb k ke
  refine a2 B G ρ σ H _ I (R.bad_bind nb) (fun d e v H' x r => ?_) (fun x e => ke x (by rw [e]; rfl))
  rw [e, R.bind_ok] at nb k ke
  refine r2 B G ρ σ H' _ (I.grow x) (R.bad_bind nb) (fun ds e2 vs H2 x2 hn hl rs => ?_) (fun y e2 cls dd H2 x2 => ke y (by rw [e2]; rfl) cls dd H2 (x.trans x2))
  refine k (d :: ds) (by rw [e2]; rfl) _ H2 (x.trans x2) (by rw [List.length_cons, List.length_cons, hn]) (by rw [List.length_cons, List.length_cons, hl]) fun i w z h1 h2 => ?_
  cases i with
  | zero => cases h1; cases h2; exact r.grow x2
  | succ i => exact rs i w z h1 h2
theorem reps_of {S : Sig} {H : Hp} {G : Addr → Bool} {vs : List V} {ds : List D} (hl : vs.length = ds.length) (h : ∀ (i : Nat) (v : V) (d : D), vs[i]? = some v → ds[i]? = some d → RepC S H G true v d) : Reps S (hid H G) vs ds := ⟨hl, h⟩
def mTup (m : MA) : ME := fun ρ => (m ρ).bind fun ds => .ok (.tup ds)
def mLst (m : MA) : ME := fun ρ => (m ρ).bind fun ds => .ok (.lst ds)
theorem re_tup {es : List Expr} {mr : MA} {x1} (h : RA X W true es mr) (hz : es.length ≤ sizeLine := by first | exact Nat.le_of_ble_eq_true rfl | decide) : RE X W true (.Tuple es x1 pos) (mTup mr) := by
  obtain ⟨t, r1, r2⟩ := h.ex
  refine ⟨_, pe_tup r1, fun B G ρ σ H Q I nb k ke => ?_⟩
  unfold mTup at nb k ke
  refine r2 B G ρ σ H _ I (R.bad_bind nb) (fun ds e vs H' x hn hl rs => ⟨by rw [hn]; exact hz, fun p hp => ?_⟩) (fun x e => ke x (by rw [e]; rfl))
  rw [e, R.bind_ok] at k
  have g : G p = false := by
    cases z : G p with
    | false => rfl
    | true =>
      have y := (I.grow x).gm p z
      rw [hp] at y
      exact y.elim
  have e2 : Ex H' (upd H' p (.tup vs)) := Ex.new hp
  exact k _ rfl _ _ (x.trans e2) (Rep.mkT (hid_of g upd_same) ((reps_of hl rs).ex (hid_ex e2)))
theorem rf_lst {es : List Expr} {mr : MA} (h : RA X W true es mr) (hz : es.length ≤ sizeLine := by first | exact Nat.le_of_ble_eq_true rfl | decide) : RF X W (.List es pos) (mLst mr) := by
  obtain ⟨t, r1, r2⟩ := h.ex
  refine ⟨_, pe_lst r1, fun B G ρ σ H Q I nb k ke => ?_⟩
  unfold mLst at nb k ke
  refine r2 B G ρ σ H _ I (R.bad_bind nb) (fun ds e vs H' x hn hl rs => ⟨by rw [hn]; exact hz, fun p hp => ?_⟩) (fun x e => ke x (by rw [e]; rfl))
  rw [e, R.bind_ok] at k
  have hp0 : H p = none := by
    cases z : H p with
    | none => rfl
    | some o => rw [x p o z] at hp; cases hp
  have e2 : Ex H' (upd H' p (.lst vs)) := Ex.new hp
  exact k _ rfl p (.lst ds) _ hp0 (x.trans e2) rfl ⟨vs, upd_same, (reps_of hl rs).ex (hid_addG hp e2)⟩
/-! ### minus -/
def mNeg (a : ME) : ME := fun ρ => (a ρ).bind fun d => match d with
  | .int i => .ok (.int (-i))
  | _ => .bad
theorem re_neg (ha : RE X W c1 a ma) : RE X W true (.UnaryOp .USub a pos) (mNeg ma) := by
  obtain ⟨ta, a1, a2⟩ := ha.ex
  refine ⟨_, pe_un un_neg a1, fun B G ρ σ H Q I nb k ke => ?_⟩
  unfold mNeg at nb k ke
  refine a2 B G ρ σ H _ I (R.bad_bind nb) (fun d e v H' x r => ?_) (fun x e => ke x (by rw [e]; rfl))
  rw [e, R.bind_ok] at nb k
  cases d with
  | int q =>
    have ev := r.full.is_int
    subst ev
    exact ⟨q, rfl, k _ rfl _ H' x (.int _)⟩
  | _ => exact absurd rfl nb
end
end Fx

-- Fx2
set_option Elab.async false
set_option linter.all false
set_option maxRecDepth 100000
set_option maxHeartbeats 2000000
/-! Fx2: operators, comparisons, subscripts, slices, calls of built-ins. -/
namespace Fx
open PySem PySem.Spec PyProof.Rows L2

/-! ### ints -/
section
variable {X : Cx}
def gI (f : Int → Int → Option D) : D → D → Option D
  | .int i, .int j => f i j
  | _, _ => none
theorem gI_some {f : Int → Int → Option D} {x y d : D} (h : gI f x y = some d) : ∃ i j, x = .int i ∧ y = .int j ∧ f i j = some d := by
  cases x <;> cases y <;> first | exact ⟨_, _, rfl, rfl, h⟩ | cases h
/-- two ints under C -/
theorem opd_I {f : Value → Value → Sem Value} {C : Int → Int → Prop} {g : Int → Int → V} {k : Int → Int → Option D} (h : OpR X f (rI C g)) (hk : ∀ i j d, k i j = some d → C i j ∧ ∀ H, Rep (sg X) H (g i j) d) : OpD X f (gI k) :=
  ⟨_, h, fun H G x y dx dy d Q gm rx ry e q => by
    obtain ⟨i, j, rfl, rfl, e⟩ := gI_some e
    obtain ⟨c, r⟩ := hk i j d e
    exact ⟨i, j, rx.full.is_int, ry.full.is_int, c, q _ H (Ex.refl H) (r _)⟩⟩
theorem opd_I0 {f : Value → Value → Sem Value} {g : Int → Int → V} {k : Int → Int → Option D} (h : OpR X f (rI0 g)) (hk : ∀ i j d, k i j = some d → ∀ H, Rep (sg X) H (g i j) d) : OpD X f (gI k) :=
  ⟨_, h, fun H G x y dx dy d Q gm rx ry e q => by
    obtain ⟨i, j, rfl, rfl, e⟩ := gI_some e
    exact ⟨i, j, rx.full.is_int, ry.full.is_int, q _ H (Ex.refl H) (hk i j d e _)⟩⟩
def kInt (f : Int → Int → Int) : Int → Int → Option D := fun i j => some (.int (f i j))
def kBl (f : Int → Int → Bool) : Int → Int → Option D := fun i j => some (.bl (f i j))
theorem opd_lt : OpD X (compareOp .Lt) (gI (kBl fun i j => decide (i < j))) := opd_I0 op_lt fun i j d e H => by cases e; exact .bl _
theorem opd_le : OpD X (compareOp .LtE) (gI (kBl fun i j => decide (i ≤ j))) := opd_I0 op_le fun i j d e H => by cases e; exact .bl _
theorem opd_gt : OpD X (compareOp .Gt) (gI (kBl fun i j => decide (j < i))) := opd_I0 op_gt fun i j d e H => by cases e; exact .bl _
theorem opd_ge : OpD X (compareOp .GtE) (gI (kBl fun i j => decide (j ≤ i))) := opd_I0 op_ge fun i j d e H => by cases e; exact .bl _
theorem opd_sub : OpD X (binaryOp .Sub) (gI (kInt fun i j => i - j)) := opd_I0 op_sub fun i j d e H => by cases e; exact .int _
/-- bits below which a product, a divisor stays -/
def small (i : Int) : Bool := decide (i.natAbs.log2 < 8000)
def kMul : Int → Int → Option D := fun i j => if small i && small j then some (.int (i * j)) else none
theorem small_lt {i : Int} (h : small i = true) : i.natAbs.log2 < 8000 := of_decide_eq_true h
theorem opd_mul : OpD X (binaryOp .Mult) (gI kMul) := opd_I op_mulW fun i j d e => by
  unfold kMul at e
  split at e
  · rename_i h
    obtain ⟨h1, h2⟩ := Bool.and_eq_true_iff.mp h
    cases e
    refine ⟨?_, fun H => .int _⟩
    have h1 := small_lt h1
    have h2 := small_lt h2
    unfold CMulW
    omega
  · cases e
def kDiv : Int → Int → Option D := fun i j => if decide (0 < j) && small j then some (.int (i / j)) else none
theorem opd_div : OpD X (binaryOp .FloorDiv) (gI kDiv) := opd_I op_fdivW fun i j d e => by
  unfold kDiv at e
  split at e
  · rename_i h
    obtain ⟨h1, h2⟩ := Bool.and_eq_true_iff.mp h
    cases e
    exact ⟨⟨of_decide_eq_true h1, by have := small_lt h2; omega⟩, fun H => .int _⟩
  · cases e
def kMod : Int → Int → Option D := fun i j => if 0 < j then some (.int (i % j)) else none
theorem opd_mod : OpD X (binaryOp .Mod) (gI kMod) := opd_I op_mod fun i j d e => by
  unfold kMod at e
  split at e
  · rename_i h
    cases e
    exact ⟨h, fun H => .int _⟩
  · cases e
def kPow : Int → Int → Option D := fun i j => if decide (0 ≤ j) && (decide (j ≤ 1000) && decide (i.natAbs < 2 ^ 64)) then some (.int (i ^ j.toNat)) else none
theorem opd_pow : OpD X (binaryOp .Pow) (gI kPow) := opd_I op_pow fun i j d e => by
  unfold kPow at e
  split at e
  · rename_i h
    obtain ⟨h1, h⟩ := Bool.and_eq_true_iff.mp h
    obtain ⟨h2, h3⟩ := Bool.and_eq_true_iff.mp h
    cases e
    have h2 := of_decide_eq_true h2
    exact ⟨⟨of_decide_eq_true h1, by omega, of_decide_eq_true h3⟩, fun H => .int _⟩
  · cases e
end

/-! ### lists: +, * -/
section
variable {X : Cx} {pins : List (Addr × Obj)} {σ : L2.St} {H : Hp} {s : Shared} {l : Addr} {xs : List V}
theorem lstR (I : Inv X pins σ H s) (h : Rd H l (.lst xs)) : xs.length ≤ sizeLine ∧ ∃ (its : List Value) (n : Nat), Vals xs its ∧ xs.length = its.length ∧ s.heap.get? l = some { cls := .type "list", data := .seq its.toArray n } := by
  obtain ⟨z, its, n, r, e⟩ := h.ok I.hok
  exact ⟨z, its, n, r, r.length, e⟩
end
section
variable {X : Cx}
def rCatR : R2 := fun x y H Q => ∃ l b xs zs, x = .ref l ∧ y = .ref b ∧ Rd H l (.lst xs) ∧ Rd H b (.lst zs) ∧ xs.length + zs.length ≤ sizeLine ∧ ∀ p, H p = none → Q (.ref p) (upd H p (.lst (xs ++ zs)))
theorem op_catR : OpR X (binaryOp .Add) rCatR := by
  intro pins s σ H x y v u Q I rx ry h
  obtain ⟨l, b, xs, zs, rfl, rfl, hH, hB, hz, q⟩ := h
  cases rx
  cases ry
  obtain ⟨z, its, n, r, hl, e⟩ := lstR I hH
  obtain ⟨z2, its2, n2, r2, hl2, e2⟩ := lstR I hB
  refine PySem.P.add_list e e2 ?_ (by rw [List.size_toArray, List.size_toArray]; omega)
  have ea : its.toArray ++ its2.toArray = (its ++ its2).toArray := by simp
  rw [ea]
  exact ⟨.ref _, _, I.lnew (t' := s.toks) (r.append r2) (by rw [List.length_append]; omega), rfl, q _ I.fresh⟩
def szOk (n : Nat) : Bool := decide (n ≤ 16000000)
theorem szOk_le {n : Nat} (h : szOk n = true) : n ≤ sizeLine := Nat.le_trans (of_decide_eq_true h) (by rw [sizeLine_eq]; decide)
/-- a + b of ints, of lists -/
def gAdd : D → D → Option D
  | .int i, .int j => some (.int (i + j))
  | .lst a, .lst b => if szOk (a.length + b.length) then some (.lst (a ++ b)) else none
  | _, _ => none
def gCat : D → D → Option D
  | .lst a, .lst b => if szOk (a.length + b.length) then some (.lst (a ++ b)) else none
  | _, _ => none
def gMul : D → D → Option D
  | .int i, .int j => kMul i j
  | .lst a, .int k => if decide (k < 1000000) && szOk (a.length * k.toNat) then some (.lst (List.replicate k.toNat a).flatten) else none
  | _, _ => none
def gRep : D → D → Option D
  | .lst a, .int k => if decide (k < 1000000) && (decide (-1000000 < k) && szOk (a.length * k.toNat)) then some (.lst (List.replicate k.toNat a).flatten) else none
  | _, _ => none
/-- an operation that makes a list of its own -/
def OpSF (S : Sig) (r : R2) (g : D → D → Option D) : Prop := ∀ (H : Hp) (G : Addr → Bool) (x y : V) (dx dy d : D) (Q : VK), (∀ a, G a = true → MutO (H a)) → RepC S H G false x dx → RepC S H G false y dy → g dx dy = some d →
  (∀ p s H', H p = none → Ex H H' → s.d = d → OwnAt S H' (addG G p) p s → Q (.ref p) H') → r x y H Q
theorem snd_binF {S : Sig} {P : PX} {W : WX} {c1 c2 : Bool} {r : R2} {g : D → D → Option D} {ta tb : TE} {ma mb : ME} (hr : OpSF S r g) (ha : SndE S P W c1 ta ma) (hb : SndE S P W c2 tb mb) : SndF S P W (tOp r ta tb) (mBin g ma mb) := fun B G ρ σ H Q I nb k ke => by
  refine snd2 (f := fun x y => R.of (g x y)) (R' := fun v u H2 => r v u H2 Q) ha hb I nb ke fun x y e1 e2 n v u H' x2 r1 r2 => ?_
  cases q : g x y with
  | none => rw [q] at n; exact absurd rfl n
  | some d =>
    refine hr H' G v u x y d Q (I.grow x2).gm r1.weak r2.weak q fun p s H2 hp x3 es w => ?_
    · refine k d (by unfold mBin; rw [e1, e2, R.bind_ok, R.bind_ok, q]; rfl) p s H2 ?_ (x2.trans x3) es w
      cases z : H p with
      | none => rfl
      | some o => rw [x2 p o z] at hp; cases hp
theorem ops_cat {S : Sig} : OpSF S rCatR gCat := fun H G x y dx dy d Q gm rx ry e k => by
  cases dx with
  | lst a =>
    cases dy with
    | lst b =>
      unfold gCat at e
      dsimp only at e
      split at e
      · rename_i hz
        cases e
        obtain ⟨l, xs, rfl, h1, h2⟩ := rx.list
        obtain ⟨l', ys, rfl, h3, h4⟩ := ry.list
        refine ⟨l, l', xs, ys, rfl, rfl, h1, h3, by rw [h2.1, h4.1]; exact szOk_le hz, fun p hp => ?_⟩
        exact k p (.lst (a ++ b)) _ hp (Ex.new hp) rfl ⟨_, upd_same, (h2.append h4).ex (hid_addG hp (Ex.new hp))⟩
      · cases e
    | _ => cases e
  | _ => cases e
theorem ownAt_clean {S : Sig} {H H' : Hp} {G : Addr → Bool} {p : Addr} {s : Sl} (gm : ∀ a, G a = true → MutO (H a)) (hp : H p = none) (w : OwnAt S H' (addG G p) p s) : Rep S (hid H' G) (.ref p) s.d := by
  have g : G p = false := by
    cases z : G p with
    | false => rfl
    | true =>
      have y := gm p z
      rw [hp] at y
      exact y.elim
  have eq : delG (addG G p) p = G := by
    funext a
    by_cases q : a = p
    · subst q
      rw [delG_self, g]
    · rw [delG_ne q, addG_ne q]
  have r := w.rep
  rw [eq] at r
  exact r
theorem re_binF {W : WX} {c1 c2 : Bool} {op : Operator} {a b : Expr} {ma mb : ME} {pos : Pos} {g : D → D → Option D} {r : R2} (h : OpR X (binaryOp op) r) (hs : OpSF (sg X) r g) (ha : RE X W c1 a ma) (hb : RE X W c2 b mb) : RF X W (.BinOp a op b pos) (mBin g ma mb) := by
  obtain ⟨ta, a1, a2⟩ := ha.ex
  obtain ⟨tb, b1, b2⟩ := hb.ex
  exact ⟨_, pe_op h a1 b1, snd_binF hs a2 b2⟩
theorem rf_cat {W : WX} {c1 c2 : Bool} {a b : Expr} {ma mb : ME} {pos : Pos} (ha : RE X W c1 a ma) (hb : RE X W c2 b mb) : RF X W (.BinOp a .Add b pos) (mBin gCat ma mb) := re_binF op_catR ops_cat ha hb
def rRepR : R2 := fun x y H Q => ∃ l k xs, x = .ref l ∧ y = .int k ∧ H l = some (.lst xs) ∧ -(2 ^ 63) ≤ k ∧ k < 2 ^ 63 ∧ xs.length * k.toNat ≤ sizeLine ∧
  ∀ p, H p = none → Q (.ref p) (upd H p (.lst (List.replicate k.toNat xs).flatten))
theorem reps_flat {S : Sig} {H : Hp} {xs : List V} {ds : List D} (h : Reps S H xs ds) : ∀ n : Nat, Reps S H (List.replicate n xs).flatten (List.replicate n ds).flatten
  | 0 => .nil
  | n + 1 => by
    rw [List.replicate_succ, List.replicate_succ, List.flatten_cons, List.flatten_cons]
    exact h.append (reps_flat h n)
/-- [e] * k, the list a display's (or an own one) -/
theorem snd_rep {S : Sig} {P : PX} {W : WX} {c2 : Bool} {ta tb : TE} {ma mb : ME} (ha : SndF S P W ta ma) (hb : SndE S P W c2 tb mb) : SndF S P W (tOp rRep ta tb) (mBin gRep ma mb) := fun B G ρ σ H Q I nb k ke => by
  unfold mBin at nb k ke
  refine ha B G ρ σ H _ I (R.bad_bind nb) (fun d e p s H1 hp x1 es w => ?_) (fun x e => ke x (by rw [e]; rfl))
  rw [e, R.bind_ok] at nb k ke
  refine hb B G ρ σ H1 _ (I.grow x1) (R.bad_bind nb) (fun d2 e2 u H2 x2 r2 => ?_) (fun x e2 cls dd H' x2 => ke x (by rw [e2]; rfl) cls dd H' (x1.trans x2))
  rw [e2, R.bind_ok] at nb k
  cases q : gRep d d2 with
  | none => rw [q] at nb; exact absurd rfl nb
  | some z =>
    rw [q] at k
    cases d with
    | lst a =>
      cases d2 with
      | int i =>
        unfold gRep at q
        dsimp only at q
        split at q
        · rename_i hz
          obtain ⟨h1, hz⟩ := Bool.and_eq_true_iff.mp hz
          obtain ⟨h2, h3⟩ := Bool.and_eq_true_iff.mp hz
          have h1 := of_decide_eq_true h1
          have h2 := of_decide_eq_true h2
          cases q
          cases s with
          | lst es' =>
            cases es
            obtain ⟨xs, w1, w2⟩ := w
            have hp2 := x2 p _ w1
            refine ⟨p, i, xs, rfl, r2.full.is_int, hp2, by omega, by omega, by rw [w2.1]; exact szOk_le h3, fun p' hp' => ?_⟩
            have ne : p ≠ p' := fun e => by rw [← e, hp2] at hp'; cases hp'
            have hp0 : H p' = none := by
              cases z : H p' with
              | none => rfl
              | some o => rw [x2 p' o (x1 p' o z)] at hp'; cases hp'
            refine k _ rfl p' (.lst (List.replicate i.toNat a).flatten) _ hp0 ((x1.trans x2).trans (Ex.new hp')) rfl ⟨_, upd_same, ?_⟩
            refine reps_flat ?_ _
            refine (w2.ex (H' := hid H1 G) (hid_anti addG_sub)).ex ?_
            exact (hid_ex x2).trans (hid_addG hp' (Ex.new hp'))
          | val d => exact w.elim
          | exc x => cases es
          | no => cases es
          | dic t k => cases es
          | ins c fs => cases es
          | deep d => exact w.elim
        · cases q
      | _ => cases q
    | _ => cases q
theorem rf_rep {W : WX} {c2 : Bool} {a b : Expr} {ma mb : ME} {pos : Pos} (ha : RF X W a ma) (hb : RE X W c2 b mb) : RF X W (.BinOp a .Mult b pos) (mBin gRep ma mb) := by
  obtain ⟨ta, a1, a2⟩ := ha.ex
  obtain ⟨tb, b1, b2⟩ := hb.ex
  exact ⟨_, pe_op op_rep a1 b1, snd_rep a2 b2⟩
theorem opd_add : OpD X (binaryOp .Add) gAdd := by
  refine ⟨_, OpR.or op_add op_catR, fun H G x y dx dy d Q gm rx ry e k => ?_⟩
  cases dx with
  | int i =>
    cases dy with
    | int j =>
      cases e
      exact .inl ⟨i, j, rx.full.is_int, ry.full.is_int, k _ H (Ex.refl H) (.int _)⟩
    | _ => cases e
  | lst a =>
    cases dy with
    | lst b =>
      unfold gAdd at e
      dsimp only at e
      split at e
      · rename_i hz
        cases e
        obtain ⟨l, xs, rfl, h1, h2⟩ := rx.list
        obtain ⟨l', ys, rfl, h3, h4⟩ := ry.list
        refine .inr ⟨l, l', xs, ys, rfl, rfl, h1, h3, by rw [h2.1, h4.1]; exact szOk_le hz, fun p hp => ?_⟩
        exact k _ _ (Ex.new hp) (ownAt_clean (s := .lst (a ++ b)) gm hp ⟨_, upd_same, (h2.append h4).ex (hid_addG hp (Ex.new hp))⟩)
      · cases e
    | _ => cases e
  | _ => cases e
end

/-! ### == and != of data -/
mutual
/-- data that == looks at: no dicts, no instances, at most n deep -/
def okE : D → Nat → Bool
  | .non, _ => true
  | .bl _, _ => true
  | .int _, _ => true
  | .str s, _ => PyData.strOk s
  | .tup _, 0 => false
  | .tup ds, n + 1 => okEs ds n
  | .lst _, 0 => false
  | .lst ds, n + 1 => okEs ds n
  | .dic _ _, _ => false
  | .ins _ _, _ => false
  | .pool, _ => false
def okEs : List D → Nat → Bool
  | [], _ => true
  | d :: ds, n => okE d n && okEs ds n
end
mutual
def deq : D → D → Bool
  | .non, .non => true
  | .bl a, .bl b => a == b
  | .bl a, .int j => (if a then 1 else 0) == j
  | .int i, .bl b => i == (if b then 1 else 0)
  | .int i, .int j => i == j
  | .str x, .str y => x == y
  | .lst xs, .lst ys => deqs xs ys
  | .tup xs, .tup ys => deqs xs ys
  | _, _ => false
def deqs : List D → List D → Bool
  | [], [] => true
  | x :: xs, y :: ys => deq x y && deqs xs ys
  | _, _ => false
end
mutual
def toP : D → PyData
  | .non => .none
  | .bl b => .bool b
  | .int i => .int i
  | .str s => .str s
  | .tup ds => .tuple (toPs ds)
  | .lst ds => .list (toPs ds)
  | .dic _ _ => .none
  | .ins _ _ => .none
  | .pool => .none
def toPs : List D → List PyData
  | [] => []
  | d :: ds => toP d :: toPs ds
end
mutual
theorem okE_shape : ∀ (d : D) (n : Nat), okE d n = true → (toP d).canLay0 = true ∧ (toP d).depth ≤ n
  | .non, _, _ => ⟨rfl, Nat.zero_le _⟩
  | .bl _, _, _ => ⟨rfl, Nat.zero_le _⟩
  | .int _, _, _ => ⟨rfl, Nat.zero_le _⟩
  | .str s, _, h => ⟨by unfold okE at h; exact h, Nat.zero_le _⟩
  | .tup _, 0, h => by unfold okE at h; cases h
  | .tup ds, n + 1, h => by
    unfold okE at h
    obtain ⟨a, b⟩ := okEs_shape ds n h
    exact ⟨a, Nat.succ_le_succ b⟩
  | .lst _, 0, h => by unfold okE at h; cases h
  | .lst ds, n + 1, h => by
    unfold okE at h
    obtain ⟨a, b⟩ := okEs_shape ds n h
    exact ⟨a, Nat.succ_le_succ b⟩
  | .dic _ _, _, h => by unfold okE at h; cases h
  | .ins _ _, _, h => by unfold okE at h; cases h
theorem okEs_shape : ∀ (ds : List D) (n : Nat), okEs ds n = true → PyData.canLayAll0 (toPs ds) = true ∧ PyData.depthAll (toPs ds) ≤ n
  | [], _, _ => ⟨rfl, Nat.zero_le _⟩
  | d :: ds, n, h => by
    unfold okEs at h
    obtain ⟨h1, h2⟩ := Bool.and_eq_true_iff.mp h
    obtain ⟨a, b⟩ := okE_shape d n h1
    obtain ⟨c, e⟩ := okEs_shape ds n h2
    refine ⟨?_, ?_⟩
    · show ((toP d).canLay0 && PyData.canLayAll0 (toPs ds)) = true
      rw [a, c]; rfl
    · show max (toP d).depth (PyData.depthAll (toPs ds)) ≤ n
      omega
end
mutual
theorem eqv_toP : ∀ (d e : D) (n m : Nat), okE d n = true → okE e m = true → PyData.eqv (toP d) (toP e) = deq d e
  | .non, e, _, m, _, h => by cases e <;> first | (unfold okE at h; cases h; done) | (unfold toP PyData.eqv deq; rfl)
  | .bl a, e, _, m, _, h => by cases e <;> first | (unfold okE at h; cases h; done) | (unfold toP PyData.eqv deq; rfl)
  | .int a, e, _, m, _, h => by cases e <;> first | (unfold okE at h; cases h; done) | (unfold toP PyData.eqv deq; rfl)
  | .str a, e, _, m, _, h => by cases e <;> first | (unfold okE at h; cases h; done) | (unfold toP PyData.eqv deq; rfl)
  | .tup _, _, 0, _, h, _ => by unfold okE at h; cases h
  | .lst _, _, 0, _, h, _ => by unfold okE at h; cases h
  | .dic _ _, _, _, _, h, _ => by unfold okE at h; cases h
  | .ins _ _, _, _, _, h, _ => by unfold okE at h; cases h
  | .tup xs, .tup ys, n + 1, 0, _, h => by unfold okE at h; cases h
  | .tup xs, .tup ys, n + 1, m + 1, h, h' => by
    unfold okE at h h'
    unfold toP PyData.eqv deq
    exact eqvs_toP xs ys n m h h'
  | .lst xs, .lst ys, n + 1, 0, _, h => by unfold okE at h; cases h
  | .lst xs, .lst ys, n + 1, m + 1, h, h' => by
    unfold okE at h h'
    unfold toP PyData.eqv deq
    exact eqvs_toP xs ys n m h h'
  | .tup xs, .non, n + 1, _, _, _ => by unfold toP PyData.eqv deq; rfl
  | .tup xs, .bl _, n + 1, _, _, _ => by unfold toP PyData.eqv deq; rfl
  | .tup xs, .int _, n + 1, _, _, _ => by unfold toP PyData.eqv deq; rfl
  | .tup xs, .str _, n + 1, _, _, _ => by unfold toP PyData.eqv deq; rfl
  | .tup xs, .lst _, n + 1, _, _, _ => by unfold toP PyData.eqv deq; rfl
  | .tup xs, .dic _ _, n + 1, _, _, h => by unfold okE at h; cases h
  | .tup xs, .ins _ _, n + 1, _, _, h => by unfold okE at h; cases h
  | .lst xs, .non, n + 1, _, _, _ => by unfold toP PyData.eqv deq; rfl
  | .lst xs, .bl _, n + 1, _, _, _ => by unfold toP PyData.eqv deq; rfl
  | .lst xs, .int _, n + 1, _, _, _ => by unfold toP PyData.eqv deq; rfl
  | .lst xs, .str _, n + 1, _, _, _ => by unfold toP PyData.eqv deq; rfl
  | .lst xs, .tup _, n + 1, _, _, _ => by unfold toP PyData.eqv deq; rfl
  | .lst xs, .dic _ _, n + 1, _, _, h => by unfold okE at h; cases h
  | .lst xs, .ins _ _, n + 1, _, _, h => by unfold okE at h; cases h
theorem eqvs_toP : ∀ (xs ys : List D) (n m : Nat), okEs xs n = true → okEs ys m = true → PyData.eqvAll (toPs xs) (toPs ys) = deqs xs ys
  | [], [], _, _, _, _ => by unfold toPs PyData.eqvAll deqs; rfl
  | [], y :: ys, _, _, _, _ => by unfold toPs PyData.eqvAll deqs; rfl
  | x :: xs, [], _, _, _, _ => by unfold toPs PyData.eqvAll deqs; rfl
  | x :: xs, y :: ys, n, m, h, h' => by
    unfold okEs at h h'
    obtain ⟨h1, h2⟩ := Bool.and_eq_true_iff.mp h
    obtain ⟨k1, k2⟩ := Bool.and_eq_true_iff.mp h'
    unfold toPs PyData.eqvAll deqs
    rw [eqv_toP x y n m h1 k1, eqvs_toP xs ys n m h2 k2]
end
mutual
theorem rep_dp {S : Sig} {H : Hp} : ∀ (d : D) (n : Nat) (v : V), okE d n = true → Rep S H v d → Dp S.K H v (toP d)
  | .non, _, v, _, r => by rw [r.is_non]; exact .non
  | .bl b, _, v, _, r => by rw [r.is_bl]; exact .bl b
  | .int i, _, v, _, r => by rw [r.is_int]; exact .int i
  | .str s, _, v, _, r => by rw [r.is_str]; exact .str s
  | .tup _, 0, _, h, _ => by unfold okE at h; cases h
  | .tup ds, n + 1, v, h, r => by
    unfold okE at h
    obtain ⟨a, xs, rfl, h1, h2⟩ := r.is_tup
    unfold toP
    exact .tup (SqT.of h1) (reps_dp ds n xs h h2)
  | .lst _, 0, _, h, _ => by unfold okE at h; cases h
  | .lst ds, n + 1, v, h, r => by
    unfold okE at h
    obtain ⟨a, xs, rfl, h1, h2⟩ := r.is_lst
    unfold toP
    exact .lst (.inl h1) (reps_dp ds n xs h h2)
  | .dic _ _, _, _, h, _ => by unfold okE at h; cases h
  | .ins _ _, _, _, h, _ => by unfold okE at h; cases h
theorem reps_dp {S : Sig} {H : Hp} : ∀ (ds : List D) (n : Nat) (xs : List V), okEs ds n = true → Reps S H xs ds → DpAll S.K H xs (toPs ds)
  | [], _, [], _, _ => by unfold toPs; exact .nil
  | [], _, _ :: _, _, r => by have := r.1; simp at this
  | d :: ds, _, [], _, r => by have := r.1; simp at this
  | d :: ds, n, x :: xs, h, r => by
    unfold okEs at h
    obtain ⟨h1, h2⟩ := Bool.and_eq_true_iff.mp h
    unfold toPs
    exact .cons (rep_dp d n x h1 r.head) (reps_dp ds n xs h2 r.tail)
end
theorem okE_shaped {d : D} (h : okE d 60 = true) : SeqAt.shaped (toP d) = true := by
  obtain ⟨a, b⟩ := okE_shape d 60 h
  unfold SeqAt.shaped
  rw [a, decide_eq_true (by omega : (toP d).depth ≤ 64)]
  rfl
def gEq : D → D → Option D := fun x y => if okE x 60 && okE y 60 then some (.bl (deq x y)) else none
def gNe : D → D → Option D := fun x y => if okE x 60 && okE y 60 then some (.bl (!deq x y)) else none
section
variable {X : Cx}
theorem opd_eq (hu : X.A.units + 64 < cLine) : OpD X (compareOp .Eq) gEq := ⟨_, op_eqD hu, fun H G x y dx dy d Q gm rx ry e k => by
  unfold gEq at e
  split at e
  · rename_i h
    obtain ⟨h1, h2⟩ := Bool.and_eq_true_iff.mp h
    cases e
    refine ⟨toP dx, toP dy, rep_dp dx 60 x h1 rx.full, rep_dp dy 60 y h2 ry.full, okE_shaped h1, okE_shaped h2, ?_⟩
    rw [eqv_toP dx dy 60 60 h1 h2]
    exact k _ H (Ex.refl H) (.bl _)
  · cases e⟩
theorem opd_ne (hu : X.A.units + 64 < cLine) : OpD X (compareOp .NotEq) gNe := ⟨_, op_neD hu, fun H G x y dx dy d Q gm rx ry e k => by
  unfold gNe at e
  split at e
  · rename_i h
    obtain ⟨h1, h2⟩ := Bool.and_eq_true_iff.mp h
    cases e
    refine ⟨toP dx, toP dy, rep_dp dx 60 x h1 rx.full, rep_dp dy 60 y h2 ry.full, okE_shaped h1, okE_shaped h2, ?_⟩
    rw [eqv_toP dx dy 60 60 h1 h2]
    exact k _ H (Ex.refl H) (.bl _)
  · cases e⟩
/-- x is None -/
def isNon : D → Bool
  | .non => true
  | _ => false
theorem isNon_of {S : Sig} {H : Hp} {v : V} {d : D} (r : Rep S H v d) : decide (v = .non) = isNon d := by
  cases r <;> rfl
def gIsN : D → D → Option D
  | x, .non => some (.bl (isNon x))
  | _, _ => none
def gNotN : D → D → Option D
  | x, .non => some (.bl (!isNon x))
  | _, _ => none
theorem opd_isN : OpD X (compareOp .Is) gIsN := ⟨_, op_isN, fun H G x y dx dy d Q gm rx ry e k => by
  cases dy with
  | non =>
    have ed : D.bl (isNon dx) = d := by cases dx <;> exact Option.some.inj e
    subst ed
    refine ⟨ry.full.is_non, ?_⟩
    rw [isNon_of rx.full]
    exact k _ H (Ex.refl H) (.bl _)
  | _ => cases dx <;> cases e⟩
theorem opd_notN : OpD X (compareOp .IsNot) gNotN := ⟨_, op_notN, fun H G x y dx dy d Q gm rx ry e k => by
  cases dy with
  | non =>
    have ed : D.bl (!isNon dx) = d := by cases dx <;> exact Option.some.inj e
    subst ed
    refine ⟨ry.full.is_non, ?_⟩
    rw [isNon_of rx.full]
    exact k _ H (Ex.refl H) (.bl _)
  | _ => cases dx <;> cases e⟩

/-! ### x[i] -/
def ixL (ds : List D) (i : Int) : Option D := if 0 ≤ i then ds[i.toNat]? else if -(ds.length : Int) ≤ i then ds[(i + ds.length).toNat]? else none
def gIx : D → D → Option D
  | .lst ds, .int i => ixL ds i
  | .tup ds, .int i => ixL ds i
  | _, _ => none
theorem atI_of {S : Sig} {H : Hp} {xs : List V} {ds : List D} {i : Int} {d : D} (r : Reps S H xs ds) (h : ixL ds i = some d) : ∃ x, atI xs i = some x ∧ Rep S H x d := by
  unfold ixL at h
  unfold atI ixN
  split at h
  · rename_i h0
    obtain ⟨x, h1, h2⟩ := r.get h
    have hl : i.toNat < xs.length := (List.getElem?_eq_some_iff.mp h1).1
    refine ⟨x, ?_, h2⟩
    rw [if_pos h0, if_pos (by omega)]
    exact h1
  · rename_i h0
    split at h
    · rename_i h3
      obtain ⟨x, h1, h2⟩ := r.get h
      refine ⟨x, ?_, h2⟩
      rw [if_neg h0, if_pos (by rw [r.1]; exact h3), r.1]
      exact h1
    · cases h
theorem snd_ix {S : Sig} {K : PySem.W.Frag} (hK : S.K = K) : OpS S (rIx K) gIx := fun H G x y dx dy d Q gm rx ry e k => by
  cases dy with
  | int i =>
    cases dx with
    | lst ds =>
      obtain ⟨a, xs, rfl, h1, h2⟩ := rx.list
      obtain ⟨v, h3, h4⟩ := atI_of h2 (show ixL ds i = some d from e)
      exact .inl ⟨a, xs, i, v, rfl, ry.full.is_int, .inl h1, h3, k v H (Ex.refl H) h4⟩
    | tup ds =>
      obtain ⟨a, xs, rfl, h1, h2⟩ := rx.tuple
      obtain ⟨v, h3, h4⟩ := atI_of h2 (show ixL ds i = some d from e)
      exact .inr (.inl ⟨a, xs, i, v, rfl, ry.full.is_int, SqT.of h1, h3, k v H (Ex.refl H) h4⟩)
    | _ => cases e
  | _ => cases dx <;> cases e
variable {W : WX} {c c1 c2 : Bool} {a b : Expr} {ma mb : ME} {pos p2 : Pos}
theorem re_ix (ha : RE X W c1 a ma) (hb : RE X W c2 b mb) (hs : PlainIx b := by exact fun _ _ => rfl) : RE X W true (.Subscript a b pos) (mBin gIx ma mb) := by
  obtain ⟨ta, a1, a2⟩ := ha.ex
  obtain ⟨tb, b1, b2⟩ := hb.ex
  exact ⟨_, pe_ix ix_seq a1 b1 hs, snd_bin (snd_ix rfl) a2 b2⟩

/-! ### x[i:j] -/
abbrev MO := Env → R (Option Int)
def SndO (S : Sig) (P : PX) (W : WX) (t : TO) (m : MO) : Prop :=
  ∀ (B : Bs) (G : Addr → Bool) (ρ : Env) (σ : L2.St) (H : Hp) (Q : Option Int → Hp → Prop), Sts S P B G ρ σ H → m ρ ≠ .bad → (∀ d, m ρ = .ok d → ∀ H', Ex H H' → Q d H') →
    (∀ x, m ρ = .err x → ∀ cls dd H', Ex H H' → RepX S (hid H' G) cls dd x → W cls dd σ H') → t σ H Q
structure RO (X : Cx) (W : WX) (e : Option Expr) (m : MO) : Prop where
  ex : ∃ t, PO X e t ∧ SndO (sg X) (pp X) W t m
def mNo : MO := fun _ => .ok none
def mPart (a : ME) : MO := fun ρ => (a ρ).bind fun d => match d with
  | .int i => .ok (some i)
  | _ => .bad
theorem ro_no : RO X W none mNo := ⟨_, po_none, fun B G ρ σ H Q I nb k ke => k none rfl H (Ex.refl H)⟩
theorem ro_part (ha : RE X W c a ma) : RO X W (some a) (mPart ma) := by
  obtain ⟨ta, a1, a2⟩ := ha.ex
  refine ⟨_, po_some a1, fun B G ρ σ H Q I nb k ke => ?_⟩
  unfold mPart at nb k ke
  refine a2 B G ρ σ H _ I (R.bad_bind nb) (fun d e v H' x r => ?_) (fun x e => ke x (by rw [e]; rfl))
  rw [e, R.bind_ok] at nb k
  cases d with
  | int i => exact ⟨i, r.full.is_int, k _ rfl H' x⟩
  | _ => exact absurd rfl nb
def cutD (ds : List D) (lo hi : Option Int) : List D := (ds.drop (HT.sIx ds.length 0 lo)).take (HT.sIx ds.length ds.length hi - HT.sIx ds.length 0 lo)
theorem cut_reps {S : Sig} {H : Hp} {xs : List V} {ds : List D} (r : Reps S H xs ds) (lo hi : Option Int) : Reps S H (cutV xs lo hi) (cutD ds lo hi) := by
  unfold cutV cutD
  rw [r.1]
  exact (r.drop _).take _
/-- a slice of a list -/
def mSl (a : ME) (l h : MO) : ME := fun ρ => (a ρ).bind fun d => (l ρ).bind fun i => (h ρ).bind fun j => match d with
  | .lst ds => .ok (.lst (cutD ds i j))
  | _ => .bad
theorem rf_sl {lo hi : Option Expr} {ml mh : MO} (ha : RE X W c a ma) (hl : RO X W lo ml) (hh : RO X W hi mh) : RF X W (.Subscript a (.Slice lo hi none p2) pos) (mSl ma ml mh) := by
  obtain ⟨ta, a1, a2⟩ := ha.ex
  obtain ⟨tl, l1, l2⟩ := hl.ex
  obtain ⟨th, h1, h2⟩ := hh.ex
  refine ⟨_, pe_slice sl_list a1 l1 h1, fun B G ρ σ H Q I nb k ke => ?_⟩
  unfold mSl at nb k ke
  refine a2 B G ρ σ H _ I (R.bad_bind nb) (fun d e v H1 x1 r => ?_) (fun x e => ke x (by rw [e]; rfl))
  rw [e, R.bind_ok] at nb k ke
  refine l2 B G ρ σ H1 _ (I.grow x1) (R.bad_bind nb) (fun i ei H2 x2 => ?_) (fun x e2 cls dd H' x2 => ke x (by rw [e2]; rfl) cls dd H' (x1.trans x2))
  rw [ei, R.bind_ok] at nb k ke
  refine h2 B G ρ σ H2 _ (I.grow (x1.trans x2)) (R.bad_bind nb) (fun j ej H3 x3 => ?_) (fun x e2 cls dd H' x3 => ke x (by rw [e2]; rfl) cls dd H' ((x1.trans x2).trans x3))
  rw [ej, R.bind_ok] at nb k
  cases d with
  | lst ds =>
    obtain ⟨p, xs, rfl, q1, q2⟩ := (r.grow (x2.trans x3)).list
    refine ⟨p, xs, rfl, .inl q1, fun l hl => ?_⟩
    have hp0 : H l = none := by
      cases z : H l with
      | none => rfl
      | some o => rw [((x1.trans x2).trans x3) l o z] at hl; cases hl
    exact k _ rfl l (.lst (cutD ds i j)) _ hp0 (((x1.trans x2).trans x3).trans (Ex.new hl)) rfl ⟨_, upd_same, (cut_reps q2 i j).ex (hid_addG hl (Ex.new hl))⟩
  | _ => exact absurd rfl nb
end

/-! ### calls of built-ins -/
def CallS (S : Sig) (r : List V → Hp → VK → Prop) (g : List D → Option D) : Prop := ∀ (H : Hp) (G : Addr → Bool) (vs : List V) (ds : List D) (d : D) (Q : VK), (∀ a, G a = true → MutO (H a)) → vs.length = ds.length →
  (∀ (i : Nat) (v : V) (e : D), vs[i]? = some v → ds[i]? = some e → RepC S H G false v e) → g ds = some d → (∀ v H', Ex H H' → Rep S (hid H' G) v d → Q v H') → r vs H Q
/-- that make a list of their own -/
def CallSF (S : Sig) (r : List V → Hp → VK → Prop) (g : List D → Option D) : Prop := ∀ (H : Hp) (G : Addr → Bool) (vs : List V) (ds : List D) (d : D) (Q : VK), (∀ a, G a = true → MutO (H a)) → vs.length = ds.length →
  (∀ (i : Nat) (v : V) (e : D), vs[i]? = some v → ds[i]? = some e → RepC S H G false v e) → g ds = some d → (∀ p s H', H p = none → Ex H H' → s.d = d → OwnAt S H' (addG G p) p s → Q (.ref p) H') → r vs H Q
def mCall (g : List D → Option D) (m : MA) : ME := fun ρ => (m ρ).bind fun ds => R.of (g ds)
theorem repc_f {S : Sig} {H : Hp} {G : Addr → Bool} {c : Bool} {vs : List V} {ds : List D} (h : ∀ (i : Nat) (v : V) (d : D), vs[i]? = some v → ds[i]? = some d → RepC S H G c v d) : ∀ (i : Nat) (v : V) (d : D), vs[i]? = some v → ds[i]? = some d → RepC S H G false v d :=
  fun i v d h1 h2 => (h i v d h1 h2).weak
theorem snd_call {S : Sig} {P : PX} {W : WX} {c : Bool} {n : Nat} {r : List V → Hp → VK → Prop} {g : List D → Option D} {t : TA} {m : MA} (hr : CallS S r g) (h : SndA S P W c n t m) : SndE S P W true (tCB r t) (mCall g m) := fun B G ρ σ H Q I nb k ke => by
  unfold mCall at nb k ke
  refine h B G ρ σ H _ I (R.bad_bind nb) (fun ds e vs H' x hn hl rs => ?_) (fun x e => ke x (by rw [e]; rfl))
  rw [e, R.bind_ok] at nb k
  cases q : g ds with
  | none => rw [q] at nb; exact absurd rfl nb
  | some d => exact hr H' G vs ds d Q (I.grow x).gm hl (repc_f rs) q fun v H2 x2 r2 => k d (by rw [q]; rfl) v H2 (x.trans x2) r2
theorem snd_callF {S : Sig} {P : PX} {W : WX} {c : Bool} {n : Nat} {r : List V → Hp → VK → Prop} {g : List D → Option D} {t : TA} {m : MA} (hr : CallSF S r g) (h : SndA S P W c n t m) : SndF S P W (tCB r t) (mCall g m) := fun B G ρ σ H Q I nb k ke => by
  unfold mCall at nb k ke
  refine h B G ρ σ H _ I (R.bad_bind nb) (fun ds e vs H' x hn hl rs => ?_) (fun x e => ke x (by rw [e]; rfl))
  rw [e, R.bind_ok] at nb k
  cases q : g ds with
  | none => rw [q] at nb; exact absurd rfl nb
  | some d =>
    refine hr H' G vs ds d Q (I.grow x).gm hl (repc_f rs) q fun p s H2 hp x2 es w => k d (by rw [q]; rfl) p s H2 ?_ (x.trans x2) es w
    cases z : H p with
    | none => rfl
    | some o => rw [x p o z] at hp; cases hp
theorem vs1 {vs : List V} {d : D} (h : vs.length = [d].length) : ∃ v, vs = [v] := by
  match vs, h with
  | [v], _ => exact ⟨v, rfl⟩
theorem vs2 {vs : List V} {d e : D} (h : vs.length = [d, e].length) : ∃ v u, vs = [v, u] := by
  match vs, h with
  | [v, u], _ => exact ⟨v, u, rfl⟩
section
variable {X : Cx} {W : WX} {c : Bool} {e : Expr} {es : List Expr} {m : MA} {x : Str} {p pos : Pos}
/-- a built-in function of a built-in name -/
theorem re_callB {id : String} {r : List V → Hp → VK → Prop} {g : List D → Option D} (hc : CallR X (.builtin id) r) (hs : CallS (sg X) r g) (hg : Gl X x) (hm : X.mg x = none) (hv : bootBuiltins x = some (.builtin id)) (ha : RA X W c (e :: es) m) (hn : x ≠ "__name__" := by decide)
    (hdb : (x == ("__debug__" : Str)) = false := by decide) (he : starEach (e :: es) X.env = (false, eval e X.env) :: starEach es X.env := by rfl) (hpl : (backTo pos (starEach es X.env)).any (·.1) = false := by rfl) : RE X W true (.Call (.Name x p) (e :: es) [] pos) (mCall g m) := by
  obtain ⟨t, a1, a2⟩ := ha.ex
  exact ⟨_, pe_callB hc hg hm hv a1 hn hdb he hpl, snd_call hs a2⟩
theorem re_callTy {T : String} {r : List V → Hp → VK → Prop} {g : List D → Option D} (hc : CallR X (.type T) r) (hs : CallS (sg X) r g) (hg : Gl X x) (hm : X.mg x = none) (hv : bootBuiltins x = some (.type T)) (ha : RA X W c (e :: es) m) (hn : x ≠ "__name__" := by decide)
    (hdb : (x == ("__debug__" : Str)) = false := by decide) (he : starEach (e :: es) X.env = (false, eval e X.env) :: starEach es X.env := by rfl) (hpl : (backTo pos (starEach es X.env)).any (·.1) = false := by rfl) : RE X W true (.Call (.Name x p) (e :: es) [] pos) (mCall g m) := by
  obtain ⟨t, a1, a2⟩ := ha.ex
  exact ⟨_, pe_callTy hc hg hm hv a1 hn hdb he hpl, snd_call hs a2⟩
theorem rf_callTy {T : String} {r : List V → Hp → VK → Prop} {g : List D → Option D} (hc : CallR X (.type T) r) (hs : CallSF (sg X) r g) (hg : Gl X x) (hm : X.mg x = none) (hv : bootBuiltins x = some (.type T)) (ha : RA X W c (e :: es) m) (hn : x ≠ "__name__" := by decide)
    (hdb : (x == ("__debug__" : Str)) = false := by decide) (he : starEach (e :: es) X.env = (false, eval e X.env) :: starEach es X.env := by rfl) (hpl : (backTo pos (starEach es X.env)).any (·.1) = false := by rfl) : RF X W (.Call (.Name x p) (e :: es) [] pos) (mCall g m) := by
  obtain ⟨t, a1, a2⟩ := ha.ex
  exact ⟨_, pe_callTy hc hg hm hv a1 hn hdb he hpl, snd_callF hs a2⟩
theorem rf_callB {id : String} {r : List V → Hp → VK → Prop} {g : List D → Option D} (hc : CallR X (.builtin id) r) (hs : CallSF (sg X) r g) (hg : Gl X x) (hm : X.mg x = none) (hv : bootBuiltins x = some (.builtin id)) (ha : RA X W c (e :: es) m) (hn : x ≠ "__name__" := by decide)
    (hdb : (x == ("__debug__" : Str)) = false := by decide) (he : starEach (e :: es) X.env = (false, eval e X.env) :: starEach es X.env := by rfl) (hpl : (backTo pos (starEach es X.env)).any (·.1) = false := by rfl) : RF X W (.Call (.Name x p) (e :: es) [] pos) (mCall g m) := by
  obtain ⟨t, a1, a2⟩ := ha.ex
  exact ⟨_, pe_callB hc hg hm hv a1 hn hdb he hpl, snd_callF hs a2⟩
/-- a module's built-in function (gcd) -/
theorem re_callM {id : String} {r : List V → Hp → VK → Prop} {g : List D → Option D} (hc : CallR X (.builtin id) r) (hs : CallS (sg X) r g) (hg : Gl X x) (hm : X.mg x = some (.builtin id)) (ha : RA X W c (e :: es) m)
    (hdb : (x == ("__debug__" : Str)) = false := by decide) (he : starEach (e :: es) X.env = (false, eval e X.env) :: starEach es X.env := by rfl) (hpl : (backTo pos (starEach es X.env)).any (·.1) = false := by rfl) : RE X W true (.Call (.Name x p) (e :: es) [] pos) (mCall g m) := by
  obtain ⟨t, a1, a2⟩ := ha.ex
  exact ⟨_, pe_callBfun hc hg hm a1 hdb he hpl, snd_call hs a2⟩
end
/-! ### len, list, tuple, int, gcd, max, min -/
def gLen : List D → Option D
  | [.lst ds] => some (.int ds.length)
  | [.tup ds] => some (.int ds.length)
  | _ => none
def rLenQ (K : PySem.W.Frag) : List V → Hp → VK → Prop := fun xs H Q => ∃ p ys, xs = [.ref p] ∧ (SqL K H p ys ∨ SqT K H p ys) ∧ Q (.int ys.length) H
theorem calls_len {S : Sig} : CallS S (rLenQ S.K) gLen := fun H G vs ds d Q gm hl rs e k => by
  match ds, e with
  | [.lst es], e =>
    cases e
    obtain ⟨v, rfl⟩ := vs1 hl
    obtain ⟨a, xs, rfl, h1, h2⟩ := (rs 0 v _ rfl rfl).list
    exact ⟨a, xs, rfl, .inl (.inl h1), by rw [h2.1]; exact k _ H (Ex.refl H) (.int _)⟩
  | [.tup es], e =>
    cases e
    obtain ⟨v, rfl⟩ := vs1 hl
    obtain ⟨a, xs, rfl, h1, h2⟩ := (rs 0 v _ rfl rfl).tuple
    exact ⟨a, xs, rfl, .inr (SqT.of h1), by rw [h2.1]; exact k _ H (Ex.refl H) (.int _)⟩
def gList : List D → Option D
  | [.lst ds] => some (.lst ds)
  | [.tup ds] => some (.lst ds)
  | _ => none
def rListQ (K : PySem.W.Frag) : List V → Hp → VK → Prop := fun xs H Q => ∃ p ys, xs = [.ref p] ∧ (SqL K H p ys ∨ SqT K H p ys) ∧ ∀ l, H l = none → Q (.ref l) (upd H l (.lst ys))
theorem calls_list {S : Sig} : CallSF S (rListQ S.K) gList := fun H G vs ds d Q gm hl rs e k => by
  match ds, e with
  | [.lst es], e =>
    cases e
    obtain ⟨v, rfl⟩ := vs1 hl
    obtain ⟨a, xs, rfl, h1, h2⟩ := (rs 0 v _ rfl rfl).list
    exact ⟨a, xs, rfl, .inl (.inl h1), fun l hl => k l (.lst es) _ hl (Ex.new hl) rfl ⟨_, upd_same, h2.ex (hid_addG hl (Ex.new hl))⟩⟩
  | [.tup es], e =>
    cases e
    obtain ⟨v, rfl⟩ := vs1 hl
    obtain ⟨a, xs, rfl, h1, h2⟩ := (rs 0 v _ rfl rfl).tuple
    exact ⟨a, xs, rfl, .inr (SqT.of h1), fun l hl => k l (.lst es) _ hl (Ex.new hl) rfl ⟨_, upd_same, h2.ex (hid_addG hl (Ex.new hl))⟩⟩
def gTuple : List D → Option D
  | [.lst ds] => some (.tup ds)
  | _ => none
def rTupleQ (K : PySem.W.Frag) : List V → Hp → VK → Prop := fun xs H Q => ∃ p ys, xs = [.ref p] ∧ ((SqL K H p ys ∧ ∀ l, H l = none → Q (.ref l) (upd H l (.tup ys))) ∨ (SqT K H p ys ∧ Q (.ref p) H))
theorem fresh_vis {G : Addr → Bool} {H : Hp} {p : Addr} (gm : ∀ a, G a = true → MutO (H a)) (hp : H p = none) : G p = false := by
  cases z : G p with
  | false => rfl
  | true =>
    have y := gm p z
    rw [hp] at y
    exact y.elim
theorem calls_tuple {S : Sig} : CallS S (rTupleQ S.K) gTuple := fun H G vs ds d Q gm hl rs e k => by
  match ds, e with
  | [.lst es], e =>
    cases e
    obtain ⟨v, rfl⟩ := vs1 hl
    obtain ⟨a, xs, rfl, h1, h2⟩ := (rs 0 v _ rfl rfl).list
    exact ⟨a, xs, rfl, .inl ⟨.inl h1, fun l hl => k _ _ (Ex.new hl) (Rep.mkT (hid_of (fresh_vis gm hl) upd_same) (h2.ex (hid_ex (Ex.new hl))))⟩⟩
def gInt : List D → Option D
  | [.int i] => some (.int i)
  | [.bl b] => some (.int (if b then 1 else 0))
  | _ => none
def rIntQ : List V → Hp → VK → Prop := fun xs H Q => (∃ i, xs = [.int i] ∧ Q (.int i) H) ∨ ∃ k, xs = [.bl k] ∧ Q (.int (if k then 1 else 0)) H
theorem calls_int {S : Sig} : CallS S rIntQ gInt := fun H G vs ds d Q gm hl rs e k => by
  match ds, e with
  | [.int i], e =>
    cases e
    obtain ⟨v, rfl⟩ := vs1 hl
    have ev := (rs 0 v _ rfl rfl).full.is_int
    subst ev
    exact .inl ⟨i, rfl, k _ H (Ex.refl H) (.int _)⟩
  | [.bl i], e =>
    cases e
    obtain ⟨v, rfl⟩ := vs1 hl
    have ev := (rs 0 v _ rfl rfl).full.is_bl
    subst ev
    exact .inr ⟨i, rfl, k _ H (Ex.refl H) (.int _)⟩
def gII (f : Int → Int → Int) : List D → Option D
  | [.int i, .int j] => some (.int (f i j))
  | _ => none
theorem calls_ii {S : Sig} {f : Int → Int → Int} : CallS S (fun xs H Q => ∃ i j, xs = [.int i, .int j] ∧ Q (.int (f i j)) H) (gII f) := fun H G vs ds d Q gm hl rs e k => by
  match ds, e with
  | [.int i, .int j], e =>
    cases e
    obtain ⟨v, u, rfl⟩ := vs2 hl
    have ev := (rs 0 v _ rfl rfl).full.is_int
    have eu := (rs 1 u _ rfl rfl).full.is_int
    subst ev eu
    exact ⟨i, j, rfl, k _ H (Ex.refl H) (.int _)⟩
def fGcd (a b : Int) : Int := ((Nat.gcd a.natAbs b.natAbs : Nat) : Int)
def fMax (i j : Int) : Int := if j > i then j else i
def fMin (i j : Int) : Int := if j < i then j else i
end Fx

-- Fx3
set_option Elab.async false
set_option linter.all false
set_option maxRecDepth 100000
set_option maxHeartbeats 2000000
/-! Fx3: statements. -/
namespace Fx
open PySem PySem.Spec PyProof.Rows L2

inductive Out where
  | nx (ρ : Env) | rt (d : D) | bk (ρ : Env) | ct (ρ : Env) | err (x : Exn) (ρ : Env) | bad
abbrev MS := Env → Out
/-- what is seen stays, and stays seen -/
def Fr (G : Addr → Bool) (H : Hp) (G' : Addr → Bool) (H' : Hp) : Prop := ∀ a o, G a = false → H a = some o → H' a = some o ∧ G' a = false
theorem Fr.refl (G : Addr → Bool) (H : Hp) : Fr G H G H := fun a o g h => ⟨h, g⟩
theorem Fr.trans {G G1 G2 : Addr → Bool} {H H1 H2 : Hp} (a : Fr G H G1 H1) (b : Fr G1 H1 G2 H2) : Fr G H G2 H2 := fun x o g h => by
  obtain ⟨h1, g1⟩ := a x o g h
  exact b x o g1 h1
theorem Fr.of_ex {G : Addr → Bool} {H H' : Hp} (e : Ex H H') : Fr G H G H' := fun a o g h => ⟨e a o h, g⟩
theorem Fr.ex {G G' : Addr → Bool} {H H' : Hp} (f : Fr G H G' H') : Ex (hid H G) (hid H' G') := fun a o h => by
  obtain ⟨g, h⟩ := hid_some h
  obtain ⟨h2, g2⟩ := f a o g h
  exact hid_of g2 h2
/-- what is wanted behind a statement, by the mirror's outcome; fr: a def that hands back a list of its own -/
def PostS (S : Sig) (P : PX) (W : WX) (fr : Fk) (B : Bs) (G : Addr → Bool) (H : Hp) (E : Ends) : Out → Prop
  | .nx ρ' => ∀ G' σ' H', Sts S P B G' ρ' σ' H' → Fr G H G' H' → E.nx σ' H'
  | .bk ρ' => ∀ G' σ' H', Sts S P B G' ρ' σ' H' → Fr G H G' H' → E.bk σ' H'
  | .ct ρ' => ∀ G' σ' H', Sts S P B G' ρ' σ' H' → Fr G H G' H' → E.ct σ' H'
  | .rt d => match fr with
    | .own => ∀ p s H', Ex B.H H' → B.H p = none → s.d = d → OwnAt S H' (addG B.G p) p s → E.rt (.ref p) H'
    | .val => ∀ v H', Ex B.H H' → Rep S (hid H' B.G) v d → E.rt v H'
    | .new => ∀ v H', Ex B.H H' → Rep S (hid H' (newG B.H H' B.G)) v d → E.rt v H'
  | .err x ρ' => ∀ cls dd G' σ' H', Sts S P B G' ρ' σ' H' → Fr G H G' H' → RepX S (hid H' G') cls dd x → W cls dd σ' H'
  | .bad => False
theorem PostS.move {S : Sig} {P : PX} {W : WX} {fr : Fk} {B : Bs} {G G' : Addr → Bool} {H H' : Hp} {E : Ends} (f : Fr G H G' H') : ∀ {o : Out}, PostS S P W fr B G H E o → PostS S P W fr B G' H' E o
  | .nx _, h => fun G2 σ2 H2 I f2 => h G2 σ2 H2 I (f.trans f2)
  | .bk _, h => fun G2 σ2 H2 I f2 => h G2 σ2 H2 I (f.trans f2)
  | .ct _, h => fun G2 σ2 H2 I f2 => h G2 σ2 H2 I (f.trans f2)
  | .rt _, h => h
  | .err _ _, h => fun c dd G2 σ2 H2 I f2 => h c dd G2 σ2 H2 I (f.trans f2)
  | .bad, h => h
def SndS (S : Sig) (P : PX) (W : WX) (fr : Fk) (t : TS) (m : MS) : Prop := ∀ (B : Bs) (G : Addr → Bool) (ρ : Env) (σ : L2.St) (H : Hp) (E : Ends), Sts S P B G ρ σ H → PostS S P W fr B G H E (m ρ) → t E σ H
structure RS (X : Cx) (W : WX) (fr : Fk) (st : Stmt) (m : MS) : Prop where
  ex : ∃ t, PS X st t ∧ SndS (sg X) (pp X) W fr t m
structure RSs (X : Cx) (W : WX) (fr : Fk) (st : List Stmt) (m : MS) : Prop where
  ex : ∃ t, PSs X st t ∧ SndS (sg X) (pp X) W fr t m

/-- an expression's result, then -/
def R.out {α : Type} (ρ : Env) (r : R α) (k : α → Out) : Out := match r with
  | .ok a => k a
  | .err x => .err x ρ
  | .bad => .bad
@[simp] theorem R.out_ok {α : Type} (ρ : Env) (a : α) (k : α → Out) : (R.ok a).out ρ k = k a := rfl
@[simp] theorem R.out_err {α : Type} (ρ : Env) (x : Exn) (k : α → Out) : (R.err x : R α).out ρ k = .err x ρ := rfl
@[simp] theorem R.out_bad {α : Type} (ρ : Env) (k : α → Out) : (R.bad : R α).out ρ k = .bad := rfl
section
variable {S : Sig} {P : PX} {W : WX} {fr : Fk} {B : Bs} {G : Addr → Bool} {ρ : Env} {σ : L2.St} {H : Hp} {E : Ends} {α : Type} {r : R α} {k : α → Out}
theorem post_nb (h : PostS S P W fr B G H E (r.out ρ k)) : r ≠ .bad := by
  rintro rfl
  exact h
theorem post_err (I : Sts S P B G ρ σ H) (h : PostS S P W fr B G H E (r.out ρ k)) : ∀ x, r = .err x → ∀ cls dd H', Ex H H' → RepX S (hid H' G) cls dd x → W cls dd σ H' := fun x e cls dd H' x1 rx => by
  rw [e] at h
  exact h cls dd G σ H' (I.grow x1) (.of_ex x1) rx
theorem post_ok {a : α} (e : r = .ok a) (h : PostS S P W fr B G H E (r.out ρ k)) : PostS S P W fr B G H E (k a) := by
  rw [e] at h
  exact h
end

/-! ### blocks -/
def mNext : MS := fun ρ => .nx ρ
def mSeq (m n : MS) : MS := fun ρ => match m ρ with
  | .nx ρ' => n ρ'
  | o => o
section
variable {X : Cx} {W : WX} {fr : Fk} {st : Stmt} {rest : List Stmt} {m n : MS} {pos : Pos}
theorem rss_nil : RSs X W fr [] mNext := ⟨_, pss_nil, fun B G ρ σ H E I h => h G σ H I (Fr.refl G H)⟩
theorem snd_seq {S : Sig} {P : PX} {t u : TS} (h1 : SndS S P W fr t m) (h2 : SndS S P W fr u n) : SndS S P W fr (tSeq t u) (mSeq m n) := fun B G ρ σ H E I h => by
  refine h1 B G ρ σ H _ I ?_
  unfold mSeq at h
  cases q : m ρ with
  | nx ρ' => rw [q] at h; exact fun G' σ' H' I' f => h2 B G' ρ' σ' H' E I' (PostS.move f h)
  | rt d => rw [q] at h; exact h
  | bk ρ' => rw [q] at h; exact h
  | ct ρ' => rw [q] at h; exact h
  | err x ρ' => rw [q] at h; exact h
  | bad => rw [q] at h; exact h
theorem rss_cons (h1 : RS X W fr st m) (h2 : RSs X W fr rest n) : RSs X W fr (st :: rest) (mSeq m n) := by
  obtain ⟨t, a1, a2⟩ := h1.ex
  obtain ⟨u, b1, b2⟩ := h2.ex
  exact ⟨_, pss_cons a1 b1, snd_seq a2 b2⟩
theorem rss_one (h1 : RS X W fr st m) : RSs X W fr [st] m := by
  obtain ⟨t, a1, a2⟩ := h1.ex
  exact ⟨_, pss_one a1, a2⟩
theorem rs_pass : RS X W fr (.Pass pos) mNext := ⟨_, ps_pass, fun B G ρ σ H E I h => h G σ H I (Fr.refl G H)⟩
def mBreak : MS := fun ρ => .bk ρ
def mCont : MS := fun ρ => .ct ρ
theorem rs_break : RS X W fr (.Break pos) mBreak := ⟨_, ps_break, fun B G ρ σ H E I h => h G σ H I (Fr.refl G H)⟩
theorem rs_cont : RS X W fr (.Continue pos) mCont := ⟨_, ps_continue, fun B G ρ σ H E I h => h G σ H I (Fr.refl G H)⟩
def mIte (t : MT) (m n : MS) : MS := fun ρ => (t ρ).out ρ fun k => if k = true then m ρ else n ρ
theorem rs_if {c : Expr} {a b : List Stmt} {mt : MT} (hc : RT X W c mt) (ha : RSs X W fr a m) (hb : RSs X W fr b n) : RS X W fr (.If c a b pos) (mIte mt m n) := by
  obtain ⟨t, c1, c2⟩ := hc.ex
  obtain ⟨u, a1, a2⟩ := ha.ex
  obtain ⟨v, b1, b2⟩ := hb.ex
  refine ⟨_, ps_if c1 a1 b1, fun B G ρ σ H E I h => ?_⟩
  unfold mIte at h
  refine c2 B G ρ σ H _ I (post_nb h) (fun k e H' x => ?_) (post_err I h)
  have h := PostS.move (.of_ex x) (post_ok e h)
  cases k with
  | true =>
    show (if true = true then u E σ H' else v E σ H')
    rw [if_pos rfl] at h ⊢
    exact a2 B G ρ σ H' E (I.grow x) h
  | false =>
    show (if false = true then u E σ H' else v E σ H')
    rw [if_neg Bool.false_ne_true] at h ⊢
    exact b2 B G ρ σ H' E (I.grow x) h

/-! ### assignments -/
variable {e : Expr} {me : ME} {c : Bool}
def mSet (i : Nat) (m : ME) : MS := fun ρ => (m ρ).out ρ fun d => .nx (ρ.set i (.val d))
theorem snd_set {S : Sig} {P : PX} {t : TE} {i : Nat} (h : SndE S P W true t me) : SndS S P W fr (tAsg t (gName i)) (mSet i me) := fun B G ρ σ H E I h' => by
  unfold mSet at h'
  exact h B G ρ σ H _ I (post_nb h') (fun d e v H' x r => post_ok e h' G _ H' ((I.grow x).setVal r) (.of_ex x)) (post_err I h')
/-- name = e, e's value shared from now on -/
theorem rs_set {i : Nat} {x : Str} {pos' : Pos} (hN : X.N.Nodup) (hi : X.N[i]? = some x) (hx : Loc X.env.scope x) (he : RE X W true e me) (hs : swapsWith e (some (.Name x pos')) pos.line X.env = pure false := by rfl)
    (hf : X.fn x = true ∨ X.env.scope.names.lookup x = some .local := by first | exact .inl rfl | exact .inr rfl | assumption) : RS X W fr (.Assign [.Name x pos'] e pos) (mSet i me) := by
  obtain ⟨t, a1, a2⟩ := he.ex
  exact ⟨_, ps_set hN hi hx a1 hs hf, snd_set a2⟩
def slOf : D → Sl
  | .lst ds => .lst ds
  | .dic t kvs => .dic t kvs
  | d => .val d
theorem own_slOf {S : Sig} {H : Hp} {G : Addr → Bool} {p : Addr} {s : Sl} (w : OwnAt S H G p s) : (slOf s.d = s ∧ Own s = true ∧ ∀ c fs, s ≠ .ins c fs) ∨ slOf s.d = .val s.d := by
  cases s with
  | no => exact w.elim
  | val d => exact w.elim
  | exc x => exact w.elim
  | lst ds => exact .inl ⟨rfl, rfl, fun c fs h => by cases h⟩
  | dic t ds => exact .inl ⟨rfl, rfl, fun c fs h => by cases h⟩
  | ins c fs => exact .inr rfl
  | deep d => exact w.elim
def mSetO (i : Nat) (m : ME) : MS := fun ρ => (m ρ).out ρ fun d => .nx (ρ.set i (slOf d))
theorem fr_own {G : Addr → Bool} {H H' : Hp} {p : Addr} (hp : H p = none) (e : Ex H H') : Fr G H (addG G p) H' := fun a o g h => by
  have ne : a ≠ p := fun z => by rw [z, hp] at h; cases h
  exact ⟨e a o h, by rw [addG_ne ne]; exact g⟩
theorem snd_setO {S : Sig} {P : PX} {t : TE} {i : Nat} (h : SndF S P W t me) : SndS S P W fr (tAsg t (gName i)) (mSetO i me) := fun B G ρ σ H E I h' => by
  unfold mSetO at h'
  refine h B G ρ σ H _ I (post_nb h') (fun d e p s H' hp x es w => ?_) (post_err I h')
  have h2 := post_ok e h'
  rcases own_slOf w with ⟨e1, e2, e3⟩ | e1
  · rw [← es, e1] at h2
    exact h2 _ _ H' (I.setOwn x hp e2 w fun c fs h => absurd h (e3 c fs)) (fr_own hp x)
  · rw [← es, e1] at h2
    exact h2 _ _ H' ((I.grow x).setVal (ownAt_clean I.gm hp w)) (.of_ex x)
/-- name = a list of its own -/
theorem rs_setO {i : Nat} {x : Str} {pos' : Pos} (hN : X.N.Nodup) (hi : X.N[i]? = some x) (hx : Loc X.env.scope x) (he : RF X W e me) (hs : swapsWith e (some (.Name x pos')) pos.line X.env = pure false := by rfl)
    (hf : X.fn x = true ∨ X.env.scope.names.lookup x = some .local := by first | exact .inl rfl | exact .inr rfl | assumption) : RS X W fr (.Assign [.Name x pos'] e pos) (mSetO i me) := by
  obtain ⟨t, a1, a2⟩ := he.ex
  exact ⟨_, ps_set hN hi hx a1 hs hf, snd_setO a2⟩
/-- an expression, dropped -/
def mDrop (m : ME) : MS := fun ρ => (m ρ).out ρ fun _ => .nx ρ
theorem rs_expr (he : RE X W c e me) (hs : swapsWith e none pos.line X.env = pure false := by rfl) : RS X W fr (.Expr e pos) (mDrop me) := by
  obtain ⟨t, a1, a2⟩ := he.ex
  refine ⟨_, ps_expr a1 hs, fun B G ρ σ H E I h => ?_⟩
  unfold mDrop at h
  exact a2 B G ρ σ H _ I (post_nb h) (fun d e v H' x r => post_ok e h G _ H' (I.grow x) (.of_ex x)) (post_err I h)
/-- name = name, the own object goes over -/
def mGive (i j : Nat) : MS := fun ρ => match ρ[j]? with
  | some (.lst ds) => .nx ((ρ.set j (.val (.lst ds))).set i (.val (.lst ds)))
  | some (.dic t ds) => .nx ((ρ.set j (.val (.dic t ds))).set i (.val (.dic t ds)))
  | _ => .bad
theorem Sts.give {S : Sig} {P : PX} {B : Bs} {G : Addr → Bool} {ρ : Env} {σ : L2.St} {H : Hp} {i : Nat} {s : Sl} (I : Sts S P B G ρ σ H) (h : ρ[i]? = some s) (ho : Own s = true) : ∃ p, σ[i]? = some (some (.ref p)) ∧ Sts S P B (delG G p) (ρ.set i (.val s.d)) σ H ∧ Rep S (hid H (delG G p)) (.ref p) s.d ∧ Fr G H (delG G p) H := by
  obtain ⟨p, a, b, c, d⟩ := I.own i s h ho
  refine ⟨p, a, I.freeze h ho a d.rep, d.rep, fun x o g q => ⟨q, ?_⟩⟩
  unfold delG
  split
  · rfl
  · exact g
theorem snd_give {S : Sig} {P : PX} {i j : Nat} : SndS S P W fr (tAsg (tVar j) (gName i)) (mGive i j) := fun B G ρ σ H E I h => by
  unfold mGive at h
  cases q : ρ[j]? with
  | none => rw [q] at h; exact h.elim
  | some s =>
    rw [q] at h
    have go : ∀ (ho : Own s = true), (∀ G' σ' H', Sts S P B G' ((ρ.set j (.val s.d)).set i (.val s.d)) σ' H' → Fr G H G' H' → E.nx σ' H') → tAsg (tVar j) (gName i) E σ H := fun ho h => by
      obtain ⟨p, h1, h2, h3, h4⟩ := I.give q ho
      exact ⟨_, h1, h _ _ H (h2.setVal h3) h4⟩
    cases s with
    | lst ds => exact go rfl h
    | dic t ds => exact go rfl h
    | _ => exact h.elim
theorem rs_give {i j : Nat} {x y : Str} {pos' p2 : Pos} (hN : X.N.Nodup) (hi : X.N[i]? = some x) (hx : Loc X.env.scope x) (he : PE X (.Name y p2) (tVar j)) (hs : swapsWith (.Name y p2) (some (.Name x pos')) pos.line X.env = pure false := by rfl)
    (hf : X.fn x = true ∨ X.env.scope.names.lookup x = some .local := by first | exact .inl rfl | exact .inr rfl | assumption) : RS X W fr (.Assign [.Name x pos'] (.Name y p2) pos) (mGive i j) :=
  ⟨_, ps_set hN hi hx he hs hf, snd_give⟩

/-! ### targets -/
abbrev MG := D → Env → Option Env
def SndG (S : Sig) (P : PX) (g : TG) (m : MG) : Prop := ∀ (B : Bs) (G : Addr → Bool) (ρ ρ' : Env) (σ : L2.St) (H : Hp) (v : V) (d : D) (Q : L2.St → Hp → Prop), Sts S P B G ρ σ H → Rep S (hid H G) v d → m d ρ = some ρ' → (∀ σ', Sts S P B G ρ' σ' H → Q σ' H) → g v σ H Q
structure RG (X : Cx) (e : Expr) (m : MG) : Prop where
  ex : ∃ g, PG X e g ∧ SndG (sg X) (pp X) g m
abbrev MGs := List D → Env → Option Env
def SndGs (S : Sig) (P : PX) (g : TGs) (m : MGs) : Prop := ∀ (B : Bs) (G : Addr → Bool) (ρ ρ' : Env) (σ : L2.St) (H : Hp) (vs : List V) (ds : List D) (Q : L2.St → Hp → Prop), Sts S P B G ρ σ H → Reps S (hid H G) vs ds → m ds ρ = some ρ' → (∀ σ', Sts S P B G ρ' σ' H → Q σ' H) → g vs σ H Q
structure RGs (X : Cx) (es : List Expr) (m : MGs) : Prop where
  ex : ∃ g, PGs X es g ∧ SndGs (sg X) (pp X) g m
def gSet (i : Nat) : MG := fun d ρ => some (ρ.set i (.val d))
theorem rg_name {i : Nat} {x : Str} (hN : X.N.Nodup) (hi : X.N[i]? = some x) (hx : Loc X.env.scope x) (hf : X.fn x = true ∨ X.env.scope.names.lookup x = some .local := by first | exact .inl rfl | exact .inr rfl | assumption) : RG X (.Name x pos) (gSet i) :=
  ⟨_, pg_name hN hi hx hf, fun B G ρ ρ' σ H v d Q I r e k => by
    cases e
    exact k _ (I.setVal r)⟩
def gsNil : MGs := fun ds ρ => match ds with
  | [] => some ρ
  | _ => none
def gsCons (g : MG) (r : MGs) : MGs := fun ds ρ => match ds with
  | d :: ds => (g d ρ).bind fun ρ' => r ds ρ'
  | [] => none
theorem rgs_nil : RGs X [] gsNil := ⟨_, pgs_nil, fun B G ρ ρ' σ H vs ds Q I r e k => by
  cases ds with
  | nil =>
    cases e
    have hl := r.1
    cases vs with
    | nil => exact ⟨rfl, k _ I⟩
    | cons v vs => cases hl
  | cons d ds => cases e⟩
theorem rgs_cons {x : Expr} {es : List Expr} {g : MG} {r : MGs} (h1 : RG X x g) (h2 : RGs X es r) (hs : (assignEach (x :: es) X.env).map (·.2) = assign x X.env :: (assignEach es X.env).map (·.2) := by rfl) : RGs X (x :: es) (gsCons g r) := by
  obtain ⟨t, a1, a2⟩ := h1.ex
  obtain ⟨u, b1, b2⟩ := h2.ex
  refine ⟨_, pgs_cons a1 b1 hs, fun B G ρ ρ' σ H vs ds Q I r e k => ?_⟩
  cases ds with
  | nil => cases e
  | cons d ds =>
    cases vs with
    | nil => have := r.1; simp at this
    | cons v vs =>
      obtain ⟨ρ1, e1, e2⟩ := Option.bind_eq_some_iff.mp (show (g d ρ).bind (fun ρ' => _) = some ρ' from e)
      exact ⟨v, vs, rfl, a2 B G ρ ρ1 σ H v d _ I r.head e1 fun σ' I' => b2 B G ρ1 ρ' σ' H vs ds Q I' r.tail e2 k⟩
def gTupM (n : Nat) (m : MGs) : MG := fun d ρ => match d with
  | .tup ds => if ds.length = n then m ds ρ else none
  | _ => none
theorem rg_tup {es : List Expr} {k : Nat} {m : MGs} {n : Nat} (hc : X.calm = true) (h : RGs X es m) (hn : (assignEach es X.env).length = n := by rfl) (hst : (assignEach es X.env).findIdx? (·.1) = none := by rfl) : RG X (.Tuple es k pos) (gTupM n m) := by
  obtain ⟨t, a1, a2⟩ := h.ex
  refine ⟨_, pg_tup hc a1 hn hst, fun B G ρ ρ' σ H v d Q I r e q => ?_⟩
  cases d with
  | tup ds =>
    unfold gTupM at e
    dsimp only at e
    split at e
    · rename_i hl
      obtain ⟨a, xs, rfl, h1, h2⟩ := r.is_tup
      exact ⟨a, xs, rfl, SqT.of (hid_sub _ _ h1), by rw [h2.1, hl], a2 B G ρ ρ' σ H xs ds Q I h2 e q⟩
    · cases e
  | _ => cases e
def mAsg (m : ME) (g : MG) : MS := fun ρ => (m ρ).out ρ fun d => match g d ρ with
  | some ρ' => .nx ρ'
  | none => .bad
theorem rs_asg {tg : Expr} {g : MG} (he : RE X W true e me) (hg : RG X tg g) (hs : swapsWithSole [tg] e pos.line X.env = pure false := by rfl) (hw : swappedStores [tg] e X.env = pure none := by rfl)
    (h1 : (assignEach [tg] X.env).map (·.2) = [assign tg X.env] := by rfl) : RS X W fr (.Assign [tg] e pos) (mAsg me g) := by
  obtain ⟨t, a1, a2⟩ := he.ex
  obtain ⟨u, b1, b2⟩ := hg.ex
  refine ⟨_, ps_asg a1 b1 hs hw h1, fun B G ρ σ H E I h => ?_⟩
  unfold mAsg at h
  refine a2 B G ρ σ H _ I (post_nb h) (fun d e v H' x r => ?_) (post_err I h)
  have h2 := post_ok e h
  cases q : g d ρ with
  | none => rw [q] at h2; exact h2.elim
  | some ρ' =>
    rw [q] at h2
    exact b2 B G ρ ρ' σ H' v d _ (I.grow x) r q fun σ' I' => h2 G σ' H' I' (.of_ex x)
/-- a, b = x, y -/
def mPar (i j : Nat) (ma mb : ME) : MS := fun ρ => (ma ρ).out ρ fun d => (mb ρ).out ρ fun d2 => .nx ((ρ.set i (.val d)).set j (.val d2))
theorem rs_par {i j : Nat} {x y : Str} {a b : Expr} {ma mb : ME} {px py pt : Pos} {kt k2 pt2} (hc : X.calm = true) (hN : X.N.Nodup) (hi : X.N[i]? = some x) (hj : X.N[j]? = some y) (hij : i ≠ j)
    (hx : X.env.scope.names.lookup x = some .local) (hy : X.env.scope.names.lookup y = some .local) (ha : RE X W true a ma) (hb : RE X W true b mb)
    (hw : swappedStores [.Tuple [.Name x px, .Name y py] kt pt] (.Tuple [a, b] k2 pt2) X.env = pure (some [x, y]) := by rfl)
    (hs : swapsWithSole [.Tuple [.Name x px, .Name y py] kt pt] (.Tuple [a, b] k2 pt2) pos.line X.env = pure false := by rfl)
    (h1 : starEach [a, b] X.env = (false, eval a X.env) :: starEach [b] X.env := by rfl) (h2 : starEach [b] X.env = (false, eval b X.env) :: starEach [] X.env := by rfl) :
    RS X W fr (.Assign [.Tuple [.Name x px, .Name y py] kt pt] (.Tuple [a, b] k2 pt2) pos) (mPar i j ma mb) := by
  obtain ⟨t, a1, a2⟩ := ha.ex
  obtain ⟨u, b1, b2⟩ := hb.ex
  refine ⟨_, ps_par hc hN hi hj hij hx hy (pa_cons a1 (pa_cons b1 pa_nil h2) h1) hw hs, fun B G ρ σ H E I h => ?_⟩
  unfold mPar at h
  refine a2 B G ρ σ H _ I (post_nb h) (fun d e v H' x r => ?_) (post_err I h)
  have h := PostS.move (.of_ex x) (post_ok e h)
  refine b2 B G ρ σ H' _ (I.grow x) (post_nb h) (fun d2 e2 v2 H2 x2 r2 => ?_) (post_err (I.grow x) h)
  have h := post_ok e2 h
  exact ⟨v, v2, rfl, h G _ H2 (((I.grow (x.trans x2)).setVal (Rep.ex (hid_ex x2) r)).setVal r2) (.of_ex x2)⟩

/-! ### return, raise -/
def mRet (m : ME) : MS := fun ρ => (m ρ).out ρ fun d => .rt d
theorem rs_ret (he : RE X W true e me) : RS X W .val (.Return (some e) pos) (mRet me) := by
  obtain ⟨t, a1, a2⟩ := he.ex
  refine ⟨_, ps_ret a1, fun B G ρ σ H E I h => ?_⟩
  unfold mRet at h
  exact a2 B G ρ σ H _ I (post_nb h) (fun d e v H' x r => post_ok e h v H' (I.ex.trans x) (Rep.ex (hid_anti I.gb) r)) (post_err I h)
theorem rs_retF (he : RF X W e me) : RS X W .own (.Return (some e) pos) (mRet me) := by
  obtain ⟨t, a1, a2⟩ := he.ex
  refine ⟨_, ps_ret a1, fun B G ρ σ H E I h => ?_⟩
  unfold mRet at h
  refine a2 B G ρ σ H _ I (post_nb h) (fun d e p s H' hp x es w => post_ok e h p s H' (I.ex.trans x) ?_ es (w.mono rfl (hid_anti fun a q => ?_))) (post_err I h)
  · cases z : B.H p with
    | none => rfl
    | some o => rw [I.ex p o z] at hp; cases hp
  · by_cases z : a = p
    · rw [z, addG_self]
    · rw [addG_ne z] at q ⊢
      exact I.gb a q
def mRetO (i : Nat) : MS := fun ρ => match ρ[i]? with
  | some (.lst ds) => .rt (.lst ds)
  | some (.dic t ds) => .rt (.dic t ds)
  | _ => .bad
theorem snd_retO {S : Sig} {P : PX} {i : Nat} (hf : fr.isNew = false) : SndS S P W fr (tRet (tVar i)) (mRetO i) := fun B G ρ σ H E I h => by
  unfold mRetO at h
  cases q : ρ[i]? with
  | none => rw [q] at h; exact h.elim
  | some s =>
    rw [q] at h
    have go : ∀ (ho : Own s = true), PostS S P W fr B G H E (.rt s.d) → tRet (tVar i) E σ H := fun ho h => by
      obtain ⟨p, h1, h2, h3, h4⟩ := I.own i s q ho
      refine ⟨_, h1, ?_⟩
      have hB : B.G p = false := by
        cases z : B.G p with
        | false => rfl
        | true =>
          obtain ⟨o, q⟩ := I.bg p z
          rw [h3] at q
          cases q
      have sub : ∀ a, addG B.G p a = true → G a = true := fun a q => by
        by_cases z : a = p
        · rw [z]; exact h2
        · rw [addG_ne z] at q
          exact I.gb a q
      cases fr with
      | new => cases hf
      | own => exact h p s H I.ex h3 rfl (h4.mono rfl (hid_anti sub))
      | val =>
        refine h _ H I.ex (h4.rep.ex (hid_anti fun a q => ?_))
        by_cases z : a = p
        · rw [z, hB] at q; cases q
        · rw [delG_ne z]; exact I.gb a q
    cases s with
    | lst ds => exact go rfl h
    | dic t ds => exact go rfl h
    | _ => exact h.elim
theorem rs_retO {i : Nat} (he : PE X e (tVar i)) (hf : fr.isNew = false := by rfl) : RS X W fr (.Return (some e) pos) (mRetO i) := ⟨_, ps_ret he, snd_retO hf⟩
theorem rs_retN : RS X W .val (.Return none pos) (fun _ => .rt .non) := ⟨_, ps_retN, fun B G ρ σ H E I h => h .non H I.ex .non⟩
/-- an exception's making, on data -/
def SndX (S : Sig) (P : PX) (W : WX) (t : L2.St → Hp → XK → Prop) (m : Env → R Exn) : Prop :=
  ∀ (B : Bs) (G : Addr → Bool) (ρ : Env) (σ : L2.St) (H : Hp) (Q : XK), Sts S P B G ρ σ H → m ρ ≠ .bad → (∀ x, m ρ = .ok x → ∀ cls dd H', Ex H H' → RepX S (hid H' G) cls dd x → Q cls dd H') →
    (∀ x, m ρ = .err x → ∀ cls dd H', Ex H H' → RepX S (hid H' G) cls dd x → W cls dd σ H') → t σ H Q
structure RX (X : Cx) (W : WX) (e : Expr) (m : Env → R Exn) : Prop where
  ex : ∃ t, L2N.PMk X e t ∧ SndX (sg X) (pp X) W t m
def mRaise (m : Env → R Exn) : MS := fun ρ => (m ρ).out ρ fun x => .err x ρ
theorem rs_raise {mx : Env → R Exn} (hc : X.calm = true) (tk : L2N.Takes X W) (he : RX X W e mx) : RS X W fr (.Raise (some e) none pos) (mRaise mx) := by
  obtain ⟨t, a1, a2⟩ := he.ex
  refine ⟨_, L2N.ps_raise hc tk a1, fun B G ρ σ H E I h => ?_⟩
  unfold mRaise at h
  exact a2 B G ρ σ H _ I (post_nb h) (fun x e cls dd H' x1 r => post_ok e h cls dd G σ H' (I.grow x1) (.of_ex x1) r) (post_err I h)

/-! ### own lists changed -/
def mApp (i : Nat) (m : ME) : MS := fun ρ => match ρ[i]? with
  | some (.lst ds) => (m ρ).out ρ fun d => if szOk ds.length then .nx (ρ.set i (.lst (ds ++ [d]))) else .bad
  | _ => .bad
theorem szOk_lt {n : Nat} (h : szOk n = true) : n < sizeLine := Nat.lt_of_le_of_lt (of_decide_eq_true h) (by rw [sizeLine_eq]; decide)
theorem fr_write {G : Addr → Bool} {H : Hp} {p : Addr} {o : HO} (g : G p = true) : Fr G H G (upd H p o) := fun a u ga h => by
  have ne : a ≠ p := fun z => by rw [z, g] at ga; cases ga
  exact ⟨by rw [upd_ne ne]; exact h, ga⟩
theorem snd_app {S : Sig} {P : PX} {t : TE} {i : Nat} (h : SndE S P W true t me) : SndS S P W fr (tDrop (tBM S.K "list" rAppend (tVar i) (tCons t tNil))) (mApp i me) := fun B G ρ σ H E I h' => by
  unfold mApp at h'
  cases q : ρ[i]? with
  | none => rw [q] at h'; exact h'.elim
  | some s =>
    rw [q] at h'
    cases s with
    | lst ds =>
      dsimp only at h'
      obtain ⟨p, h1, h2, h3, xs, h4, h5⟩ := I.own i _ q rfl
      refine ⟨_, h1, .inl ⟨rfl, xs, SqL.of h4⟩, ?_⟩
      refine h B G ρ σ H _ I (post_nb h') (fun d e v H' x r => ?_) (post_err I h')
      have hz := post_ok e h'
      split at hz
      · rename_i z
        have h6 := x p _ h4
        have h7 := Reps.ex (hid_ex (G := G) x) h5
        refine ⟨p, xs, v, rfl, rfl, h6, by rw [h5.1]; exact szOk_lt z, ?_⟩
        have J := I.grow x
        exact hz G σ _ (J.write q rfl h1 rfl fun H2 ne e2 ex => ⟨xs ++ [v], e2, (h7.ex ex).append (.cons (Rep.ex ex r) .nil)⟩) ((Fr.of_ex x).trans (fr_write h2))
      · exact hz.elim
    | _ => exact h'.elim
/-- x.append(e) -/
theorem rs_app {i : Nat} {o : Expr} {apos cpos : Pos} (ho : PE X o (tVar i)) (he : RE X W true e me)
    (hbase : attributeBase o "append" X.env (eval o X.env) = eval o X.env := by rfl)
    (hfew : ((backTo cpos (starEach [e] X.env)).all (fun x => !x.1) && (backToKw cpos (keywordEach [] X.env)).all (fun x => x.1.isSome)
      && decide (([e] : List Expr).length + ([] : List Keyword).length + (if ([] : List Keyword).isEmpty then 0 else 1) < 30)) = true := by rfl)
    (hline : (apos.endLine == cpos.line) = true := by rfl) (hs : starEach [e] X.env = (false, eval e X.env) :: starEach [] X.env := by rfl) (hplain : (backTo cpos (starEach [] X.env)).any (·.1) = false := by rfl)
    (hsw : swapsWith (.Call (.Attribute o "append" apos) [e] [] cpos) none pos.line X.env = pure false := by rfl) : RS X W fr (.Expr (.Call (.Attribute o "append" apos) [e] [] cpos) pos) (mApp i me) := by
  obtain ⟨t, a1, a2⟩ := he.ex
  exact ⟨_, ps_expr (pe_bm PySem.F.plainAttrs_list PySem.F.slot_list_append PySem.F.type_list_append mt_append ho (pa_cons a1 pa_nil hs) hbase hfew hline hs hplain) hsw, snd_app (S := sg X) a2⟩
/-- x[k] = e -/
def ixS (n : Nat) (i : Int) : Option Nat := if 0 ≤ i then (if i.toNat < n then some i.toNat else none) else if -(n : Int) ≤ i then some (i + n).toNat else none
def mPutL (i : Nat) (mk me : ME) : MS := fun ρ => (me ρ).out ρ fun d => match ρ[i]? with
  | some (.lst ds) => (mk ρ).out ρ fun k => match k with
    | .int j => (match ixS ds.length j with
      | some n => .nx (ρ.set i (.lst (ds.set n d)))
      | none => .bad)
    | _ => .bad
  | _ => .bad
theorem ixS_ixN {n : Nat} {i : Int} {j : Nat} (h : ixS n i = some j) : ixN n i = some j := by
  unfold ixS at h
  unfold ixN
  by_cases h0 : 0 ≤ i
  · rw [if_pos h0] at h ⊢
    by_cases h1 : i.toNat < n
    · rw [if_pos h1] at h
      rw [if_pos (by omega)]
      exact h
    · rw [if_neg h1] at h; cases h
  · rw [if_neg h0] at h ⊢
    exact h
theorem snd_putL {S : Sig} {P : PX} {t tk : TE} {i : Nat} {c2 : Bool} {mk : ME} (h : SndE S P W true t me) (hk : SndE S P W c2 tk mk) : SndS S P W fr (tAsg t (gSub (tVar i) tk rSetL)) (mPutL i mk me) := fun B G ρ σ H E I h' => by
  unfold mPutL at h'
  refine h B G ρ σ H _ I (post_nb h') (fun d e v H' x r => ?_) (post_err I h')
  have h' := PostS.move (.of_ex x) (post_ok e h')
  have I := I.grow x
  cases q : ρ[i]? with
  | none => rw [q] at h'; exact h'.elim
  | some s =>
    rw [q] at h'
    cases s with
    | lst ds =>
      dsimp only at h'
      obtain ⟨p, h1, h2, h3, xs, h4, h5⟩ := I.own i _ q rfl
      refine ⟨_, h1, ?_⟩
      refine hk B G ρ σ H' _ I (post_nb h') (fun k e2 u H2 x2 r2 => ?_) (post_err I h')
      have hz := post_ok e2 h'
      cases k with
      | int j =>
        dsimp only at hz
        cases w : ixS ds.length j with
        | none => rw [w] at hz; exact hz.elim
        | some n =>
          rw [w] at hz
          have h6 := x2 p _ h4
          have h7 := Reps.ex (hid_ex (G := G) x2) h5
          refine ⟨p, xs, j, n, rfl, r2.full.is_int, h6, by rw [h5.1]; exact ixS_ixN w, ?_⟩
          exact hz G σ _ ((I.grow x2).write q rfl h1 rfl fun H3 ne e3 ex => ⟨xs.set n v, e3, (h7.ex ex).set n (Rep.ex ((hid_ex x2).trans ex) r)⟩) ((Fr.of_ex x2).trans (fr_write h2))
      | _ => exact hz.elim
    | _ => exact h'.elim
theorem rs_putL {i : Nat} {o k : Expr} {p2 : Pos} {c2 : Bool} {mk : ME} (ho : PE X o (tVar i)) (hk : RE X W c2 k mk) (he : RE X W true e me)
    (ha : ∀ v, assign (.Subscript o k p2) X.env v = (do
      let ov ← holding [v] (eval o X.env)
      let iv ← holding [v, ov] (eval k X.env)
      standAt p2
      holding [v, ov, iv] (setItem ov iv v)
      release [v, ov, iv] []) := by intro _; rfl)
    (hs : swapsWithSole [.Subscript o k p2] e pos.line X.env = pure false := by rfl) (hw : swappedStores [.Subscript o k p2] e X.env = pure none := by rfl)
    (h1 : (assignEach [.Subscript o k p2] X.env).map (·.2) = [assign (.Subscript o k p2) X.env] := by rfl) : RS X W fr (.Assign [.Subscript o k p2] e pos) (mPutL i mk me) := by
  obtain ⟨t, a1, a2⟩ := he.ex
  obtain ⟨u, b1, b2⟩ := hk.ex
  exact ⟨_, ps_asg a1 (pg_sub ho b1 set_list ha) hs hw h1, snd_putL a2 b2⟩

/-! ### loops -/
abbrev MI := Env → R (List D)
/-- what is walked gives the data ds, one a turn, as long as what is seen stays -/
def WalkD (S : Sig) (J : It) (G : Addr → Bool) (H1 : Hp) (ds : List D) : Prop := ∀ G' H', (∀ a, G' a = true → MutO (H' a)) → Fr G H1 G' H' →
  (∀ i, i < ds.length → J.go i H') ∧ (∀ i, ds.length ≤ i → J.stop i H') ∧ ∀ i d x H2, ds[i]? = some d → J.yld i H' x H2 → Ex H' H2 ∧ Rep S (hid H2 G') x d
def SndI (S : Sig) (P : PX) (W : WX) (wi : TI) (m : MI) : Prop :=
  ∀ (B : Bs) (G : Addr → Bool) (ρ : Env) (σ : L2.St) (H : Hp) (Q : It → Hp → Prop), Sts S P B G ρ σ H → m ρ ≠ .bad → (∀ ds, m ρ = .ok ds → ∀ J H', Ex H H' → WalkD S J G H' ds → Q J H') →
    (∀ x, m ρ = .err x → ∀ cls dd H', Ex H H' → RepX S (hid H' G) cls dd x → W cls dd σ H') → wi σ H Q
structure RI (X : Cx) (W : WX) (tg e : Expr) (m : MI) : Prop where
  ex : ∃ t, PI X tg e t ∧ SndI (sg X) (pp X) W t m
def mItems (m : ME) : MI := fun ρ => (m ρ).bind fun d => match d with
  | .lst ds => .ok ds
  | _ => .bad
def mItemsT (m : ME) : MI := fun ρ => (m ρ).bind fun d => match d with
  | .tup ds => .ok ds
  | _ => .bad
theorem ri_list {tg : Expr} (he : RE X W true e me) : RI X W tg e (mItems me) := by
  obtain ⟨t, a1, a2⟩ := he.ex
  refine ⟨_, pi_list a1, fun B G ρ σ H Q I nb k ke => ?_⟩
  unfold mItems at nb k ke
  refine a2 B G ρ σ H _ I (R.bad_bind nb) (fun d e v H' x r => ?_) (fun x e => ke x (by rw [e]; rfl))
  rw [e, R.bind_ok] at nb k
  cases d with
  | lst ds =>
    obtain ⟨a, xs, rfl, h1, h2⟩ := Rep.is_lst (H := hid H' G) r
    have at_ : ∀ {G2 : Addr → Bool} {H2 : Hp}, Fr G H' G2 H2 → Rd (hid H2 G2) a (.lst xs) := fun f => rd_ex f.ex h1
    refine ⟨a, rfl, ⟨xs, .inl (rd_ex hid_sub h1)⟩, k ds rfl _ H' x fun G2 H2 gm f => ?_⟩
    have q : SqL X.K H2 a xs := .inl (rd_ex hid_sub (at_ f))
    refine ⟨fun i hi => ?_, fun i hi => ⟨xs, q, by rw [h2.1]; exact hi⟩, fun i d x H3 hd hy => ?_⟩
    · have hi : i < xs.length := by rw [h2.1]; exact hi
      exact ⟨xs, xs[i], q, List.getElem?_eq_getElem hi⟩
    · obtain ⟨e, hy⟩ := hy
      subst e
      exact ⟨Ex.refl _, (h2.2 i x d (hy xs q) hd).ex f.ex⟩
  | _ => exact absurd rfl nb
theorem ri_tup {tg : Expr} (he : RE X W true e me) : RI X W tg e (mItemsT me) := by
  obtain ⟨t, a1, a2⟩ := he.ex
  refine ⟨_, pi_tup a1, fun B G ρ σ H Q I nb k ke => ?_⟩
  unfold mItemsT at nb k ke
  refine a2 B G ρ σ H _ I (R.bad_bind nb) (fun d e v H' x r => ?_) (fun x e => ke x (by rw [e]; rfl))
  rw [e, R.bind_ok] at nb k
  cases d with
  | tup ds =>
    obtain ⟨a, xs, rfl, h1, h2⟩ := Rep.is_tup (H := hid H' G) r
    refine ⟨a, rfl, ⟨xs, SqT.of (hid_sub _ _ h1)⟩, k ds rfl _ H' x fun G2 H2 gm f => ?_⟩
    have q : SqT X.K H2 a xs := SqT.of (hid_sub _ _ (f.ex _ _ h1))
    refine ⟨fun i hi => ?_, fun i hi => ⟨xs, q, by rw [h2.1]; exact hi⟩, fun i d x H3 hd hy => ?_⟩
    · have hi : i < xs.length := by rw [h2.1]; exact hi
      exact ⟨xs, xs[i], q, List.getElem?_eq_getElem hi⟩
    · obtain ⟨e, hy⟩ := hy
      subst e
      exact ⟨Ex.refl _, (h2.2 i x d (hy xs q) hd).ex f.ex⟩
  | _ => exact absurd rfl nb
/-- range(lo, hi) as data -/
def rangeD (lo hi : Int) : List D := (List.range (hi - lo).toNat).map fun i : Nat => .int (lo + (i : Int))
theorem rangeD_len (lo hi : Int) : (rangeD lo hi).length = (hi - lo).toNat := by unfold rangeD; rw [List.length_map, List.length_range]
theorem rangeD_get {lo hi : Int} {i : Nat} {d : D} (h : (rangeD lo hi)[i]? = some d) : d = .int (lo + (i : Int)) := by
  unfold rangeD at h
  rw [List.getElem?_map] at h
  cases q : (List.range (hi - lo).toNat)[i]? with
  | none => rw [q] at h; cases h
  | some j =>
    rw [q] at h
    have : j = i := by
      obtain ⟨h1, h2⟩ := List.getElem?_eq_some_iff.mp q
      rw [List.getElem_range] at h2
      exact h2.symm
    subst this
    exact (Option.some.inj h).symm
theorem walk_range {S : Sig} {G : Addr → Bool} {H : Hp} (lo hi : Int) : WalkD S (Itr lo (hi - lo).toNat) G H (rangeD lo hi) := fun G' H' gm f => by
  refine ⟨fun i h => ?_, fun i h => ?_, fun i d x H2 hd hy => ?_⟩
  · show i < (hi - lo).toNat
    rw [← rangeD_len]; exact h
  · show (hi - lo).toNat ≤ i
    rw [← rangeD_len]; exact h
  · obtain ⟨rfl, rfl⟩ := hy
    rw [rangeD_get hd]
    exact ⟨Ex.refl _, .int _⟩
def farOk (i : Int) : Bool := decide (-4000000000000000000 ≤ i) && decide (i < 4000000000000000000)
theorem farOk_of {i : Int} (h : farOk i = true) : -(2 ^ 62) ≤ i ∧ i < 2 ^ 62 := by
  obtain ⟨a, b⟩ := Bool.and_eq_true_iff.mp h
  have a := of_decide_eq_true a
  have b := of_decide_eq_true b
  omega
def mRange1 (m : ME) : MI := fun ρ => (m ρ).bind fun d => match d with
  | .int n => if farOk n then .ok (rangeD 0 n) else .bad
  | _ => .bad
def mRange2 (m n : ME) : MI := fun ρ => (m ρ).bind fun d => (n ρ).bind fun d2 => match d, d2 with
  | .int i, .int j => if farOk i && farOk j then .ok (rangeD i j) else .bad
  | _, _ => .bad
variable {p : Pos} {a b : Expr} {ma mb : ME} {c1 c2 : Bool}
theorem ri_range1 {tg : Expr} (hg : Gl X "range") (hm : X.mg "range" = none) (ha : RE X W c1 a ma) (hs : starEach [a] X.env = [(false, eval a X.env)] := by rfl) : RI X W tg (.Call (.Name "range" p) [a] [] pos) (mRange1 ma) := by
  obtain ⟨t, a1, a2⟩ := ha.ex
  refine ⟨_, pi_range1 hg hm (pa_cons a1 pa_nil hs) hs, fun B G ρ σ H Q I nb k ke => ?_⟩
  unfold mRange1 at nb k ke
  refine a2 B G ρ σ H _ I (R.bad_bind nb) (fun d e v H' x r => ?_) (fun x e => ke x (by rw [e]; rfl))
  rw [e, R.bind_ok] at nb k
  cases d with
  | int n =>
    dsimp only at nb k
    by_cases z : farOk n = true
    · rw [if_pos z] at k
      have ev := r.full.is_int
      subst ev
      obtain ⟨z1, z2⟩ := farOk_of z
      have w := walk_range (S := sg X) (G := G) (H := H') 0 n
      rw [Int.sub_zero] at w
      exact ⟨n, rfl, z1, z2, k _ rfl _ H' x w⟩
    · rw [if_neg z] at nb; exact absurd rfl nb
  | _ => exact absurd rfl nb
theorem ri_range2 {tg : Expr} (hg : Gl X "range") (hm : X.mg "range" = none) (ha : RE X W c1 a ma) (hb : RE X W c2 b mb) (hs : starEach [a, b] X.env = [(false, eval a X.env), (false, eval b X.env)] := by rfl) (hs2 : starEach [b] X.env = [(false, eval b X.env)] := by rfl) :
    RI X W tg (.Call (.Name "range" p) [a, b] [] pos) (mRange2 ma mb) := by
  obtain ⟨t, a1, a2⟩ := ha.ex
  obtain ⟨u, b1, b2⟩ := hb.ex
  refine ⟨_, pi_range2 hg hm (pa_cons a1 (pa_cons b1 pa_nil hs2) (by rw [hs, hs2])) hs hs2, fun B G ρ σ H Q I nb k ke => ?_⟩
  unfold mRange2 at nb k ke
  refine a2 B G ρ σ H _ I (R.bad_bind nb) (fun d e v H' x r => ?_) (fun x e => ke x (by rw [e]; rfl))
  rw [e, R.bind_ok] at nb k ke
  refine b2 B G ρ σ H' _ (I.grow x) (R.bad_bind nb) (fun d2 e2 v2 H2 x2 r2 => ?_) (fun y e2 cls dd H2 x2 => ke y (by rw [e2]; rfl) cls dd H2 (x.trans x2))
  rw [e2, R.bind_ok] at nb k
  cases d with
  | int i =>
    cases d2 with
    | int j =>
      dsimp only at nb k
      by_cases z : (farOk i && farOk j) = true
      · rw [if_pos z] at k
        obtain ⟨z1, z2⟩ := Bool.and_eq_true_iff.mp z
        have ev := r.full.is_int
        have eu := r2.full.is_int
        subst ev eu
        exact ⟨i, j, rfl, ⟨(farOk_of z1).1, (farOk_of z1).2, (farOk_of z2).1, (farOk_of z2).2⟩, k _ rfl _ H2 (x.trans x2) (walk_range i j)⟩
      · rw [if_neg z] at nb; exact absurd rfl nb
    | _ => exact absurd rfl nb
  | _ => cases d2 <;> exact absurd rfl nb
/-- the loop on data -/
def forL (g : MG) (body : MS) : List D → Env → Out
  | [], ρ => .nx ρ
  | d :: ds, ρ => match g d ρ with
    | none => .bad
    | some ρ1 => match body ρ1 with
      | .nx ρ2 => forL g body ds ρ2
      | .ct ρ2 => forL g body ds ρ2
      | .bk ρ2 => .nx ρ2
      | .rt d => .rt d
      | .err x ρ2 => .err x ρ2
      | .bad => .bad
def mFor (m : MI) (g : MG) (body : MS) : MS := fun ρ => (m ρ).out ρ fun ds => forL g body ds ρ
theorem snd_for {S : Sig} {P : PX} {wi : TI} {g : TG} {tb : TS} {mi : MI} {mg : MG} {body : MS} (hi : SndI S P W wi mi) (hg : SndG S P g mg) (hb : SndS S P W fr tb body) : SndS S P W fr (tFor wi g tb) (mFor mi mg body) := fun B G ρ σ H E I h => by
  unfold mFor at h
  refine hi B G ρ σ H _ I (post_nb h) (fun ds e J H1 x w => ?_) (post_err I h)
  have h := PostS.move (.of_ex x) (post_ok e h)
  have I := I.grow x
  refine ⟨fun i m σ' H' => m = ds.length - i ∧ i ≤ ds.length ∧ ∃ G' ρ', Sts S P B G' ρ' σ' H' ∧ Fr G H1 G' H' ∧ PostS S P W fr B G' H' E (forL mg body (ds.drop i) ρ'), ⟨ds.length, by rw [Nat.sub_zero], Nat.zero_le _, G, ρ, I, .refl _ _, h⟩, ?_⟩
  rintro i m σ' H' ⟨rfl, hi, G', ρ', I', f, h⟩
  obtain ⟨w1, w2, w3⟩ := w G' H' I'.gm f
  by_cases hlt : i < ds.length
  · right
    refine ⟨w1 i hlt, fun σ2 H2 => ∃ G2 ρ2, Sts S P B G2 ρ2 σ2 H2 ∧ Fr G H1 G2 H2 ∧ PostS S P W fr B G2 H2 E (forL mg body (ds.drop (i + 1)) ρ2), fun σ2 H2 n => ⟨ds.length - (i + 1), by omega, rfl, hlt, n⟩, fun v H2 y => ?_⟩
    obtain ⟨x2, r⟩ := w3 i _ v H2 (List.getElem?_eq_getElem hlt) y
    rw [List.drop_eq_getElem_cons hlt] at h
    unfold forL at h
    cases q : mg ds[i] ρ' with
    | none => rw [q] at h; exact h.elim
    | some ρ1 =>
      rw [q] at h
      dsimp only at h
      have h := PostS.move (.of_ex x2) h
      have f2 := f.trans (.of_ex x2)
      refine hg B G' ρ' ρ1 σ' H2 v _ _ (I'.grow x2) r q fun σ3 I3 => hb B G' ρ1 σ3 H2 _ I3 ?_
      cases z : body ρ1 with
      | nx ρ2 => rw [z] at h; exact fun G4 σ4 H4 I4 f4 => ⟨G4, ρ2, I4, f2.trans f4, PostS.move f4 h⟩
      | ct ρ2 => rw [z] at h; exact fun G4 σ4 H4 I4 f4 => ⟨G4, ρ2, I4, f2.trans f4, PostS.move f4 h⟩
      | bk ρ2 => rw [z] at h; exact fun G4 σ4 H4 I4 f4 => h G4 σ4 H4 I4 f4
      | rt d => rw [z] at h; exact h
      | err x ρ2 => rw [z] at h; exact h
      | bad => rw [z] at h; exact h
  · left
    have e : i = ds.length := by omega
    subst e
    rw [List.drop_length] at h
    exact ⟨w2 _ (Nat.le_refl _), h G' σ' H' I' (.refl _ _)⟩
theorem rs_for {tg iter : Expr} {body : List Stmt} {mi : MI} {g : MG} {mb : MS} (hp : PassesOwn (model X.prog X.w) X.A X.env X.xe) (hc : X.calm = true) (hi : RI X W tg iter mi) (hg : RG X tg g) (hb : RSs X W fr body mb)
    (hs : ∀ x, foldedSetIterable iter X.env x = pure x := by intro _; rfl) : RS X W fr (.For tg iter body [] pos) (mFor mi g mb) := by
  obtain ⟨t, a1, a2⟩ := hi.ex
  obtain ⟨u, b1, b2⟩ := hg.ex
  obtain ⟨v, c1, c2⟩ := hb.ex
  exact ⟨_, ps_for hp hc a1 b1 c1 hs, snd_for a2 b2 c2⟩
/-- while, at most n turns -/
def whileL (t : MT) (body : MS) : Nat → Env → Out
  | 0, _ => .bad
  | n + 1, ρ => match t ρ with
    | .ok true => (match body ρ with
      | .nx ρ2 => whileL t body n ρ2
      | .ct ρ2 => whileL t body n ρ2
      | .bk ρ2 => .nx ρ2
      | .rt d => .rt d
      | .err x ρ2 => .err x ρ2
      | .bad => .bad)
    | .ok false => .nx ρ
    | .err x => .err x ρ
    | .bad => .bad
def mWhile (n : Nat) (t : MT) (body : MS) : MS := fun ρ => whileL t body n ρ
theorem snd_while {S : Sig} {P : PX} {tc : TT} {tb : TS} {mt : MT} {body : MS} (n : Nat) (hc : SndT S P W tc mt) (hb : SndS S P W fr tb body) : SndS S P W fr (tWhile tc tb) (mWhile n mt body) := fun B G ρ σ H E I h => by
  refine ⟨fun m σ' H' => ∃ G' ρ', Sts S P B G' ρ' σ' H' ∧ PostS S P W fr B G' H' E (whileL mt body m ρ'), ⟨n, G, ρ, I, h⟩, ?_⟩
  rintro m σ' H' ⟨G', ρ', I', h⟩
  cases m with
  | zero => exact h.elim
  | succ m =>
    unfold whileL at h
    refine hc B G' ρ' σ' H' _ I' (fun e => by rw [e] at h; exact h) (fun k e H2 x => ?_) (fun y e cls dd H2 x r => by rw [e] at h; exact h cls dd G' σ' H2 (I'.grow x) (.of_ex x) r)
    rw [e] at h
    cases k with
    | true =>
      show (if true = true then _ else _)
      rw [if_pos rfl]
      dsimp only at h
      have h := PostS.move (.of_ex x) h
      refine ⟨fun σ2 H3 => ∃ G2 ρ2, Sts S P B G2 ρ2 σ2 H3 ∧ PostS S P W fr B G2 H3 E (whileL mt body m ρ2), fun σ2 H3 q => ⟨m, Nat.lt_succ_self m, q⟩, hb B G' ρ' σ' H2 _ (I'.grow x) ?_⟩
      cases z : body ρ' with
      | nx ρ2 => rw [z] at h; exact fun G4 σ4 H4 I4 f4 => ⟨G4, ρ2, I4, PostS.move f4 h⟩
      | ct ρ2 => rw [z] at h; exact fun G4 σ4 H4 I4 f4 => ⟨G4, ρ2, I4, PostS.move f4 h⟩
      | bk ρ2 => rw [z] at h; exact fun G4 σ4 H4 I4 f4 => h G4 σ4 H4 I4 f4
      | rt d => rw [z] at h; exact h
      | err x ρ2 => rw [z] at h; exact h
      | bad => rw [z] at h; exact h
    | false =>
      show (if false = true then _ else _)
      rw [if_neg Bool.false_ne_true]
      exact h G' σ' H2 (I'.grow x) (.of_ex x)
theorem rs_while (n : Nat) {t : Expr} {body : List Stmt} {mt : MT} {mb : MS} (hp : PassesOwn (model X.prog X.w) X.A X.env X.xe) (hc : RT X W t mt) (hb : RSs X W fr body mb) : RS X W fr (.While t body [] pos) (mWhile n mt mb) := by
  obtain ⟨u, a1, a2⟩ := hc.ex
  obtain ⟨v, b1, b2⟩ := hb.ex
  exact ⟨_, ps_while hp a1 b1, snd_while n a2 b2⟩
end
end Fx

-- Fx4
set_option Elab.async false
set_option linter.all false
set_option maxRecDepth 100000
set_option maxHeartbeats 2000000
/-! Fx4: defs and their calls. -/
namespace Fx
open PySem PySem.Spec PyProof.Rows L2

abbrev MF := List D → R D
/-- a def's promise, by its mirror -/
def spF (S : Sig) (fr : Fk) (n : Nat) (mf : MF) : Sp := fun vs H Q E => vs.length = n ∧ ∃ (G : Addr → Bool) (ds : List D), (∀ a, G a = true → MutO (H a)) ∧ Reps S (hid H G) vs ds ∧ mf ds ≠ .bad ∧
  (∀ d, mf ds = .ok d → match fr with
    | .own => ∀ p s H', Ex H H' → H p = none → s.d = d → OwnAt S H' (addG G p) p s → Q (.ref p) H'
    | .val => ∀ v H', Ex H H' → Rep S (hid H' G) v d → Q v H'
    | .new => ∀ v H', Ex H H' → Rep S (hid H' (newG H H' G)) v d → Q v H') ∧
  (∀ x, mf ds = .err x → ∀ cls dd H', Ex H H' → RepX S (hid H' G) cls dd x → E cls dd H')
/-- the slots at the entry -/
def ent (N : Nat) (ds : List D) : Env := ds.map .val ++ List.replicate (N - ds.length) .no
/-- a def's result, from its body's -/
def Out.res (fr : Fk) : Out → R D
  | .rt d => .ok d
  | .nx _ => match fr with
    | .val => .ok .non
    | _ => .bad
  | .err x _ => .err x
  | _ => .bad
def mfn (fr : Fk) (N : Nat) (m : MS) : MF := fun ds => (m (ent N ds)).res fr
theorem ent_get {N : Nat} {ds : List D} {i : Nat} {s : Sl} (h : (ent N ds)[i]? = some s) : (∃ d, ds[i]? = some d ∧ s = .val d) ∨ (ds.length ≤ i ∧ s = .no) := by
  unfold ent at h
  by_cases hi : i < ds.length
  · rw [List.getElem?_append_left (by simpa using hi), List.getElem?_map] at h
    cases q : ds[i]? with
    | none => rw [q] at h; cases h
    | some d => rw [q] at h; cases h; exact .inl ⟨d, rfl, rfl⟩
  · rw [List.getElem?_append_right (by simpa using hi), List.getElem?_replicate] at h
    split at h
    · cases h; exact .inr ⟨by omega, rfl⟩
    · cases h
theorem sts_start {S : Sig} {P : PX} {N : List Str} {H : Hp} {G : Addr → Bool} {vs : List V} {ds : List D} (gm : ∀ a, G a = true → MutO (H a)) (r : Reps S (hid H G) vs ds) : Sts S P ⟨H, G, 0⟩ G (ent N.length ds) (L2.start N vs) H where
  bx := .none (fun i c fs h => by rcases ent_get h with ⟨d', h1, h2⟩ | ⟨_, h2⟩ <;> cases h2) (fun i e h => by rcases ent_get h with ⟨d', h1, h2⟩ | ⟨_, h2⟩ <;> cases h2)
  ex := Ex.refl H
  bg := fun a g => by
    have := gm a g
    cases q : H a with
    | none => rw [q] at this; exact this.elim
    | some o => exact ⟨o, q⟩
  gb := fun a g => g
  gm := gm
  len := by
    unfold ent L2.start
    rw [List.length_append, List.length_append, List.length_map, List.length_map, List.length_replicate, List.length_replicate, r.1]
  val := fun i d h => by
    rcases ent_get h with ⟨d', h1, h2⟩ | ⟨_, h2⟩
    · cases h2
      obtain ⟨v, h3, h4⟩ := r.get h1
      refine ⟨v, ?_, h4⟩
      unfold L2.start
      have hi : i < vs.length := (List.getElem?_eq_some_iff.mp h3).1
      rw [List.getElem?_append_left (by simpa using hi), List.getElem?_map, h3]
      rfl
    · cases h2
  own := fun i s h ho => by
    rcases ent_get h with ⟨d', h1, rfl⟩ | ⟨_, rfl⟩ <;> cases ho
  sep := fun i j s t p h h' ho => by
    rcases ent_get h with ⟨d', h1, rfl⟩ | ⟨_, rfl⟩ <;> cases ho
  exc := fun i x h => by
    rcases ent_get h with ⟨d', h1, h2⟩ | ⟨_, h2⟩ <;> cases h2

section
variable {P : Program} {w : World} {K : PySem.W.Frag} {mg : Str → Option Value} {base : Heap} {x qual : Str} {params : Arguments} {body : List Stmt} {scope : Scope} {dvs : List V} {kws : List (Str × V)} {f : Addr} {fd : FuncData}
/-- a def by its body's mirror -/
theorem fx_fn {N ps : List Str} {k : Nat} {fr : Fk} {m : MS} (F : FunD K x qual params body scope dvs kws f fd) (S : FnScope N ps scope)
    (h : ∀ (cdv : Value) (A : Around) (outer : List PySem.Env) (s : Shared) (H : Hp) (E : XK), Room k (A.deeper (envOfC qual scope s.heap.objs.size f cdv)) →
      RSs (cxOf (L2N.CX P w) P w K mg base N qual scope f cdv A outer s H E) (fun cls d _ H => E cls d H) fr body m) :
    FnOk P w K mg base (L2N.CX P w) (k + 1) f fd ps (spF ⟨K, mg⟩ fr ps.length (mfn fr N.length m)) := by
  refine F.ok S (fun vs H Q E q => q.1) fun cdv A outer s H vs Q E hr hsp => ?_
  obtain ⟨t, h1, h2⟩ := (h cdv A outer s H E hr).ex
  refine ⟨t, h1, ?_⟩
  obtain ⟨hl, G, ds, gm, r, nb, k1, k2⟩ := hsp
  have I := sts_start (P := pinP []) (N := N) gm r
  refine h2 ⟨H, G, 0⟩ G (ent N.length ds) (L2.start N vs) H _ I ?_
  unfold mfn at nb k1 k2
  cases q : m (ent N.length ds) with
  | nx ρ' =>
    rw [q] at nb k1
    intro G' σ' H' J fr'
    unfold Out.res at nb k1
    cases fr with
    | own => exact absurd rfl nb
    | new => exact absurd rfl nb
    | val => exact k1 .non rfl .non H' J.ex .non
  | bk ρ' => rw [q] at nb; exact absurd rfl nb
  | ct ρ' => rw [q] at nb; exact absurd rfl nb
  | bad => rw [q] at nb; exact absurd rfl nb
  | rt d =>
    rw [q] at k1
    exact k1 d rfl
  | err y ρ' =>
    rw [q] at k2
    refine fun cls dd G' σ' H' J fr' rx => ?_
    refine k2 y rfl cls dd H' J.ex ?_
    exact rx.ex (hid_anti J.gb)
end

/-! ### calls -/
/-- a def that may be called by its name; dvs: values of the parameters that are not written -/
structure Cl (P : Program) (w : World) (K : PySem.W.Frag) (mg : Str → Option Value) (base : Heap) (k : Nat) (x : Str) (fr : Fk) (n : Nat) (mf : MF) : Prop where
  ex : ∃ (f : Addr) (fd : FuncData) (ps : List Str), FnOk P w K mg base (L2N.CX P w) k f fd ps (spF ⟨K, mg⟩ fr n mf) ∧ mg x = some (.ref f) ∧ PySem.W.keepIn K (.ref f) = true ∧ Binds K fd ps []
/-- the same with defaults: dvs, on data dd, behind the written ones -/
structure ClD (P : Program) (w : World) (K : PySem.W.Frag) (mg : Str → Option Value) (base : Heap) (k : Nat) (x : Str) (fr : Fk) (n : Nat) (dd : List D) (mf : MF) : Prop where
  ex : ∃ (f : Addr) (fd : FuncData) (ps : List Str) (dvs : List V) (ds : List Value), FnOk P w K mg base (L2N.CX P w) k f fd ps (spF ⟨K, mg⟩ fr n mf) ∧ mg x = some (.ref f) ∧ PySem.W.keepIn K (.ref f) = true ∧ Binds K fd ps ds ∧ Vals dvs ds ∧ (∀ H, Reps ⟨K, mg⟩ H dvs dd)
def mDef (mf : MF) (ma : MA) : ME := fun ρ => (ma ρ).bind mf
def mDefD (mf : MF) (dd : List D) (ma : MA) : ME := fun ρ => (ma ρ).bind fun ds => mf (ds ++ dd)
/-- a call that looks at own objects: its result has no lists -/
def lfR : R D → R D
  | .ok d => if lf d = true then .ok d else .bad
  | .err x => if lff x.fs = true then .err x else .bad
  | .bad => .bad
def mDefL (mf : MF) (ma : MA) : ME := fun ρ => (ma ρ).bind fun ds => lfR (mf ds)
theorem RepF.lf {S : Sig} {H : Hp} {G : Addr → Bool} (gm : ∀ a, G a = true → MutO (H a)) {fs : List (Str × V)} {ds : List (Str × D)} (h : RepF S H fs ds) (l : lff ds = true) : RepF S (hid H G) fs ds := by
  obtain ⟨h1, h2, h3⟩ := h
  exact ⟨h1, h2, fun i f g x d a b => (h3 i f g x d a b).lf gm (lff_get l b)⟩
theorem RepX.lf {S : Sig} {H : Hp} {G : Addr → Bool} (gm : ∀ a, G a = true → MutO (H a)) {cls : Value} {dd : Option Addr} {x : Exn} (h : RepX S H cls dd x) (l : lff x.fs = true) : RepX S (hid H G) cls dd x := by
  obtain ⟨C, a, b, h⟩ := h
  refine ⟨C, a, b, ?_⟩
  rcases h with h | ⟨p, fs, q, r, z⟩
  · exact .inl h
  · exact .inr ⟨p, fs, q, mutO_not gm r (fun m => m), z.lf gm l⟩
section
variable {X : Cx} {W : WX} {k j n : Nat} {x : Str} {mf : MF} {ma : MA} {e : Expr} {es : List Expr} {p pos : Pos} {fr : Fk} {dd : List D}
theorem snd_def {t : TA} (h : SndA (sg X) (pp X) W true n t ma) : SndE (sg X) (pp X) W true (tCallS (spF (sg X) .val n mf) (WE W) t) (mDef mf ma) := fun B G ρ σ H Q I nb k ke => by
  unfold mDef at nb k ke
  refine h B G ρ σ H _ I (R.bad_bind nb) (fun ds e vs H' x hn hl rs => ?_) (fun x e => ke x (by rw [e]; rfl))
  rw [e, R.bind_ok] at nb k ke
  exact ⟨hn, G, ds, (I.grow x).gm, reps_of hl rs, nb, fun d e => by exact fun v H2 x2 r => k d e v H2 (x.trans x2) r, fun y e cls dd H2 x2 r => ke y e cls dd H2 (x.trans x2) r⟩
theorem snd_defL {t : TA} (h : SndA (sg X) (pp X) W false n t ma) : SndE (sg X) (pp X) W true (tCallS (spF (sg X) .val n mf) (WE W) t) (mDefL mf ma) := fun B G ρ σ H Q I nb k ke => by
  unfold mDefL at nb k ke
  refine h B G ρ σ H _ I (R.bad_bind nb) (fun ds e vs H' x hn hl rs => ?_) (fun x e => ke x (by rw [e]; rfl))
  rw [e, R.bind_ok] at nb k ke
  have e0 : hid H' noG = H' := hid_noG
  refine ⟨hn, noG, ds, (fun a g => by cases g), ⟨hl, fun i v d h1 h2 => by rw [e0]; exact (rs i v d h1 h2).full⟩, fun z => nb (by rw [z]; rfl), fun d e => ?_, fun y e cls dd H2 x2 r => ?_⟩
  · intro v H2 x2 r
    rw [e] at nb k
    unfold lfR at nb k
    by_cases q : lf d = true
    · simp only [if_pos q] at k
      have r : Rep (sg X) (hid H2 noG) v d := r
      rw [hid_noG] at r
      exact k d rfl v H2 (x.trans x2) (r.lf (I.grow (x.trans x2)).gm q)
    · simp only [if_neg q] at nb
      exact absurd rfl nb
  · rw [e] at nb ke
    unfold lfR at nb ke
    by_cases q : lff y.fs = true
    · simp only [if_pos q] at ke
      have r : RepX (sg X) (hid H2 noG) cls dd y := r
      rw [hid_noG] at r
      exact ke y rfl cls dd H2 (x.trans x2) (r.lf (I.grow (x.trans x2)).gm q)
    · simp only [if_neg q] at nb
      exact absurd rfl nb
theorem snd_defF {t : TA} (h : SndA (sg X) (pp X) W true n t ma) : SndF (sg X) (pp X) W (tCallS (spF (sg X) .own n mf) (WE W) t) (mDef mf ma) := fun B G ρ σ H Q I nb k ke => by
  unfold mDef at nb k ke
  refine h B G ρ σ H _ I (R.bad_bind nb) (fun ds e vs H' x hn hl rs => ?_) (fun x e => ke x (by rw [e]; rfl))
  rw [e, R.bind_ok] at nb k ke
  refine ⟨hn, G, ds, (I.grow x).gm, reps_of hl rs, nb, fun d e => ?_, fun y e cls dd H2 x2 r => ke y e cls dd H2 (x.trans x2) r⟩
  refine fun p s H2 x2 hp es w => k d e p s H2 ?_ (x.trans x2) es w
  cases z : H p with
  | none => rfl
  | some o => rw [x p o z] at hp; cases hp
theorem re_def (c : Cl X.prog X.w X.K X.mg X.base k x .val (e :: es).length mf) (hr : Room j X.A) (hk : k ≤ j) (hg : Gl X x) (tk : L2N.Takes X W) (ha : RA X W true (e :: es) ma)
    (hdb : (x == ("__debug__" : Str)) = false := by decide) (he : starEach (e :: es) X.env = (false, eval e X.env) :: starEach es X.env := by rfl) (hpl : (backTo pos (starEach es X.env)).any (·.1) = false := by rfl) :
    RE X W true (.Call (.Name x p) (e :: es) [] pos) (mDef mf ma) := by
  obtain ⟨f, fd, ps, F, hm, hkp, hb⟩ := c.ex
  obtain ⟨t, a1, a2⟩ := ha.ex
  exact ⟨_, pe_callS F (hr.mono hk) hg hm hkp hb (L2N.passAt tk) a1 hdb he hpl, snd_def a2⟩
theorem re_defL (c : Cl X.prog X.w X.K X.mg X.base k x .val (e :: es).length mf) (hr : Room j X.A) (hk : k ≤ j) (hg : Gl X x) (tk : L2N.Takes X W) (ha : RA X W false (e :: es) ma)
    (hdb : (x == ("__debug__" : Str)) = false := by decide) (he : starEach (e :: es) X.env = (false, eval e X.env) :: starEach es X.env := by rfl) (hpl : (backTo pos (starEach es X.env)).any (·.1) = false := by rfl) :
    RE X W true (.Call (.Name x p) (e :: es) [] pos) (mDefL mf ma) := by
  obtain ⟨f, fd, ps, F, hm, hkp, hb⟩ := c.ex
  obtain ⟨t, a1, a2⟩ := ha.ex
  exact ⟨_, pe_callS F (hr.mono hk) hg hm hkp hb (L2N.passAt tk) a1 hdb he hpl, snd_defL a2⟩
theorem rf_def (c : Cl X.prog X.w X.K X.mg X.base k x .own (e :: es).length mf) (hr : Room j X.A) (hk : k ≤ j) (hg : Gl X x) (tk : L2N.Takes X W) (ha : RA X W true (e :: es) ma)
    (hdb : (x == ("__debug__" : Str)) = false := by decide) (he : starEach (e :: es) X.env = (false, eval e X.env) :: starEach es X.env := by rfl) (hpl : (backTo pos (starEach es X.env)).any (·.1) = false := by rfl) :
    RF X W (.Call (.Name x p) (e :: es) [] pos) (mDef mf ma) := by
  obtain ⟨f, fd, ps, F, hm, hkp, hb⟩ := c.ex
  obtain ⟨t, a1, a2⟩ := ha.ex
  exact ⟨_, pe_callS F (hr.mono hk) hg hm hkp hb (L2N.passAt tk) a1 hdb he hpl, snd_defF a2⟩
theorem rf_defD {n : Nat} (c : ClD X.prog X.w X.K X.mg X.base k x .own n dd mf) (hn : (e :: es).length + dd.length = n) (hr : Room j X.A) (hk : k ≤ j) (hg : Gl X x) (tk : L2N.Takes X W) (ha : RA X W true (e :: es) ma)
    (hdb : (x == ("__debug__" : Str)) = false := by decide) (he : starEach (e :: es) X.env = (false, eval e X.env) :: starEach es X.env := by rfl) (hpl : (backTo pos (starEach es X.env)).any (·.1) = false := by rfl) :
    RF X W (.Call (.Name x p) (e :: es) [] pos) (mDefD mf dd ma) := by
  obtain ⟨f, fd, ps, dvs, ds, F, hm, hkp, hb, hd, hv⟩ := c.ex
  obtain ⟨t, a1, a2⟩ := ha.ex
  refine ⟨_, pe_callSD (E := WE W) F (hr.mono hk) hg hm hkp hb hd (L2N.passAt tk) a1 hdb he hpl, fun B G ρ σ H Q I nb k ke => ?_⟩
  unfold mDefD at nb k ke
  refine a2 B G ρ σ H _ I (R.bad_bind nb) (fun ds e vs H' x hn' hl rs => ?_) (fun x e => ke x (by rw [e]; rfl))
  rw [e, R.bind_ok] at nb k ke
  have r2 : Reps (sg X) (hid H' G) (vs ++ dvs) (ds ++ dd) := (reps_of hl rs).append (hv _)
  refine ⟨by rw [List.length_append, hn', ← hn, (hv H').1], G, ds ++ dd, (I.grow x).gm, r2, nb, fun d e => ?_, fun y e cls dd H2 x2 r => ke y e cls dd H2 (x.trans x2) r⟩
  refine fun p s H2 x2 hp es w => k d e p s H2 ?_ (x.trans x2) es w
  cases z : H p with
  | none => rfl
  | some o => rw [x p o z] at hp; cases hp
end
end Fx

-- Fx5
set_option Elab.async false
set_option linter.all false
set_option maxRecDepth 100000
set_option maxHeartbeats 2000000
/-! Fx5: comprehensions. -/
namespace Fx
open PySem PySem.Spec PyProof.Rows L2

/-- the reading that a mirror stands for -/
def canE (S : Sig) (P : PX) (W : WX) (c : Bool) (m : ME) : TE := fun σ H Q => ∃ B G ρ, Sts S P B G ρ σ H ∧ m ρ ≠ .bad ∧ (∀ d, m ρ = .ok d → ∀ v H', Ex H H' → RepC S H' G c v d → Q v H') ∧
  (∀ x, m ρ = .err x → ∀ cls dd H', Ex H H' → RepX S (hid H' G) cls dd x → W cls dd σ H')
def canT (S : Sig) (P : PX) (W : WX) (m : MT) : TT := fun σ H Q => ∃ B G ρ, Sts S P B G ρ σ H ∧ m ρ ≠ .bad ∧ (∀ d, m ρ = .ok d → ∀ H', Ex H H' → Q d H') ∧
  (∀ x, m ρ = .err x → ∀ cls dd H', Ex H H' → RepX S (hid H' G) cls dd x → W cls dd σ H')
theorem RE.can {X : Cx} {W : WX} {c : Bool} {e : Expr} {m : ME} (h : RE X W c e m) : PE X e (canE (sg X) (pp X) W c m) := by
  obtain ⟨t, a, b⟩ := h.ex
  exact ⟨fun pins s σ H Q I ⟨B, G, ρ, J, nb, k, ke⟩ => a.run pins s σ H Q I (b B G ρ σ H Q J nb k ke)⟩
theorem RT.can {X : Cx} {W : WX} {e : Expr} {m : MT} (h : RT X W e m) : PT X e (canT (sg X) (pp X) W m) := by
  obtain ⟨t, a, b⟩ := h.ex
  exact ⟨fun pins s σ H Q I ⟨B, G, ρ, J, nb, k, ke⟩ => a.run pins s σ H Q I (b B G ρ σ H Q J nb k ke)⟩
/-- tests behind `if` in a comprehension: none or one -/
structure RTs (X : Cx) (W : WX) (ifs : List Expr) (m : MT) : Prop where
  ex : PTs X ifs (canT (sg X) (pp X) W m)
def mYes : MT := fun _ => .ok true
theorem rts_nil {X : Cx} {W : WX} : RTs X W [] mYes := ⟨⟨fun pins s σ H Q I ⟨B, G, ρ, J, nb, k, ke⟩ => (pts_nil (X := X)).run pins s σ H Q I (k true rfl H (Ex.refl H))⟩⟩
theorem rts_one {X : Cx} {W : WX} {e : Expr} {m : MT} (h : RT X W e m) : RTs X W [e] m := ⟨pts_one h.can⟩

/-- without the exceptions -/
def noE : Sl → Sl
  | .exc _ => .no
  | s => s
def noExc (ρ : Env) : Env := ρ.map noE
abbrev noX : WX := fun _ _ _ _ => False
def lcL (i : Nat) (t : MT) (e : ME) : List D → Env → R (List D)
  | [], _ => .ok []
  | d :: ds, ρ => match t (ρ.set i (.val d)) with
    | .ok true => (match e (ρ.set i (.val d)) with
      | .ok y => (match lcL i t e ds ρ with
        | .ok ys => .ok (y :: ys)
        | _ => .bad)
      | _ => .bad)
    | .ok false => lcL i t e ds ρ
    | _ => .bad
def mLc (i : Nat) (mi : MI) (t : MT) (e : ME) : ME := fun ρ => (mi ρ).bind fun ds => if szOk ds.length then (lcL i t e ds ((noExc ρ).set i .no)).bind fun ys => .ok (.lst ys) else .bad
theorem lcL_len {i : Nat} {t : MT} {e : ME} : ∀ {ds : List D} {ρ : Env} {ys : List D}, lcL i t e ds ρ = .ok ys → ys.length ≤ ds.length
  | [], ρ, ys, h => by cases h; exact Nat.le_refl _
  | d :: ds, ρ, ys, h => by
    unfold lcL at h
    split at h
    · split at h
      · split at h
        · rename_i q
          cases h
          exact Nat.succ_le_succ (lcL_len q)
        · cases h
      · cases h
    · exact Nat.le_succ_of_le (lcL_len h)
    · cases h
theorem noExc_get {ρ : Env} {i : Nat} {s : Sl} (h : (noExc ρ)[i]? = some s) : ∃ t, ρ[i]? = some t ∧ noE t = s := by
  unfold noExc at h
  rw [List.getElem?_map] at h
  cases q : ρ[i]? with
  | none => rw [q] at h; cases h
  | some t => rw [q] at h; exact ⟨t, rfl, Option.some.inj h⟩
theorem noE_val {t : Sl} {d : D} (h : noE t = .val d) : t = .val d := by cases t <;> first | exact h | cases h
theorem noE_own {t s : Sl} (h : noE t = s) (o : Own s = true) : t = s := by
  cases t with
  | exc x => subst h; cases o
  | _ => exact h
theorem Sts.noX {S : Sig} {P P' : PX} {B : Bs} {G : Addr → Bool} {ρ : Env} {σ : L2.St} {H : Hp} (I : Sts S P B G ρ σ H) : Sts S P' B G (noExc ρ) σ H where
  ex := I.ex
  bg := I.bg
  gb := I.gb
  gm := I.gm
  len := by unfold noExc; rw [List.length_map, I.len]
  val := fun i d h => by
    obtain ⟨t, h1, h2⟩ := noExc_get h
    exact I.val i d (by rw [h1, noE_val h2])
  own := fun i s h o => by
    obtain ⟨t, h1, h2⟩ := noExc_get h
    exact I.own i s (by rw [h1, noE_own h2 o]) o
  sep := fun i j s t p h h' o o' => by
    obtain ⟨t1, h1, h2⟩ := noExc_get h
    obtain ⟨t2, h3, h4⟩ := noExc_get h'
    exact I.sep i j s t p (by rw [h1, noE_own h2 o]) (by rw [h3, noE_own h4 o']) o o'
  exc := fun i x h => by
    obtain ⟨t, h1, h2⟩ := noExc_get h
    cases t <;> cases h2
  bx := I.bx.sub fun i s h o => by
    obtain ⟨t, h1, h2⟩ := noExc_get h
    rw [h1]
    cases t with
    | exc x =>
      subst h2
      rcases o with o | ⟨_, o⟩ <;> cases o
    | _ => exact congrArg Option.some h2
/-- an own object on the side, in no slot -/
theorem Sts.side {S : Sig} {P : PX} {B : Bs} {G : Addr → Bool} {ρ : Env} {σ : L2.St} {H H' : Hp} {p : Addr} {ds : List D} {xs : List V} (I : Sts S P B G ρ σ H) (e : Ex H H') (hp : H p = none) (h : H' p = some (.lst xs)) (r : Reps S (hid H' (addG G p)) xs ds) : Sts S P B (addG G p) ρ σ H' := by
  have J := I.setOwn (i := ρ.length) (s := .lst ds) e hp rfl ⟨xs, h, r⟩
  rw [List.set_eq_of_length_le (Nat.le_refl _), List.set_eq_of_length_le (by rw [I.len]; exact Nat.le_refl _)] at J
  exact J
theorem wipe1 {σ : L2.St} {i : Nat} {v : Option V} : wipe (σ.set i v) [i] = wipe σ [i] := by
  show ((σ.set i v).set i none) = σ.set i none
  rw [List.set_set]
theorem snd_lc {S : Sig} {P : PX} {W : WX} {i : Nat} {wi : TI} {mi : MI} {mt : MT} {me : ME} (hi : SndI S P W wi mi) : SndF S P W (tLc wi (gName i) (canT S (pinP []) noX mt) (canE S (pinP []) noX true me) [i]) (mLc i mi mt me) := fun B G ρ σ H Q I nb k ke => by
  unfold mLc at nb k ke
  refine hi B G ρ σ H _ I (R.bad_bind nb) (fun ds e J H1 x1 wk => ?_) (fun x e => ke x (by rw [e]; rfl))
  rw [e, R.bind_ok] at nb k
  have I1 := I.grow x1
  intro L hL
  by_cases hz : szOk ds.length = true
  rotate_left
  · rw [if_neg hz] at nb; exact absurd rfl nb
  rw [if_pos hz] at nb k
  cases hy : lcL i mt me ds ((noExc ρ).set i .no) with
  | err y => 
    exfalso
    clear nb k ke
    -- never an error
    have : ∀ (ds : List D), ∀ y, lcL i mt me ds ((noExc ρ).set i .no) ≠ .err y := by
      intro ds
      induction ds with
      | nil => intro y h; cases h
      | cons d ds ih =>
        intro y h
        unfold lcL at h
        split at h
        · split at h
          · split at h <;> cases h
          · cases h
        · exact ih y h
        · cases h
    exact this ds y hy
  | bad => rw [hy] at nb; exact absurd rfl nb
  | ok ys =>
  rw [hy] at k
  have k := k _ rfl
  have Iw : Sts S (pinP []) B G ((noExc ρ).set i .no) (wipe σ [i]) H1 := I1.noX.setNo
  have hL0 : H L = none := by
    cases z : H L with
    | none => rfl
    | some o => rw [x1 L o z] at hL; cases hL
  refine ⟨fun j m H2 => m = ds.length - j ∧ j ≤ ds.length ∧ Ex H1 H2 ∧ ∃ (acc : List V) (ad rest : List D), H2 L = some (.lst acc) ∧ Reps S (hid H2 (addG G L)) acc ad ∧ acc.length ≤ j ∧ lcL i mt me (ds.drop j) ((noExc ρ).set i .no) = .ok rest ∧ ad ++ rest = ys,
    ⟨ds.length, by rw [Nat.sub_zero], Nat.zero_le _, Ex.new hL, [], [], ys, upd_same, Reps.nil, Nat.le_refl _, hy, rfl⟩, ?_⟩
  rintro j m H2 ⟨rfl, hj, ex, acc, ad, rest, hacc, hrep, hlen, hrest, hsum⟩
  have I2 : Sts S (pinP []) B (addG G L) ((noExc ρ).set i .no) (wipe σ [i]) H2 := Iw.side ex hL hacc hrep
  have f2 : Fr G H1 (addG G L) H2 := fr_own hL ex
  obtain ⟨w1, w2, w3⟩ := wk (addG G L) H2 I2.gm f2
  by_cases hlt : j < ds.length
  · refine .inr ⟨w1 j hlt, fun H3 => Ex H1 H3 ∧ ∃ (acc : List V) (ad rest : List D), H3 L = some (.lst acc) ∧ Reps S (hid H3 (addG G L)) acc ad ∧ acc.length ≤ j + 1 ∧ lcL i mt me (ds.drop (j + 1)) ((noExc ρ).set i .no) = .ok rest ∧ ad ++ rest = ys,
      fun H3 q => ⟨ds.length - (j + 1), by omega, rfl, hlt, q⟩, fun v H3 y => ?_⟩
    obtain ⟨x3, rv⟩ := w3 j _ v H3 (List.getElem?_eq_getElem hlt) y
    rw [List.drop_eq_getElem_cons hlt] at hrest
    have I3 : Sts S (pinP []) B (addG G L) (((noExc ρ).set i .no).set i (.val ds[j])) ((wipe σ [i]).set i (some v)) H3 := (I2.grow x3).setVal rv
    refine ⟨?_, ?_⟩
    · show ((σ.set i none).set i (some v)).set i none = σ.set i none
      rw [List.set_set, List.set_set]
    unfold lcL at hrest
    have keep : ∀ {H4 : Hp}, Ex H3 H4 → H4 L = some (.lst acc) := fun e4 => e4 _ _ (x3 _ _ hacc)
    have keepR : ∀ {H4 : Hp}, Ex H3 H4 → Reps S (hid H4 (addG G L)) acc ad := fun e4 => hrep.ex (hid_ex (x3.trans e4))
    refine ⟨B, addG G L, _, I3, (fun z => by rw [z] at hrest; cases hrest), fun b eb H4 x4 => ?_, (fun x ex' => by rw [ex'] at hrest; cases hrest)⟩
    rw [eb] at hrest
    cases b with
    | false =>
      rw [if_neg Bool.false_ne_true]
      exact ⟨(ex.trans x3).trans x4, acc, ad, rest, keep x4, keepR x4, Nat.le_succ_of_le hlen, hrest, hsum⟩
    | true =>
      rw [if_pos rfl]
      dsimp only at hrest
      refine ⟨B, addG G L, _, I3.grow x4, (fun z => by rw [z] at hrest; cases hrest), fun d ed u H5 x5 ru => ?_, (fun x ex' => by rw [ex'] at hrest; cases hrest)⟩
      rw [ed] at hrest
      dsimp only at hrest
      split at hrest
      · rename_i ys2 hq
        cases hrest
        refine ⟨acc, keep (x4.trans x5), Nat.lt_of_le_of_lt hlen (Nat.lt_trans hlt (szOk_lt hz)), fun a o h => ?_, acc ++ [u], ad ++ [d], ys2, upd_same, ?_, ?_, hq, ?_⟩
        · by_cases z : a = L
          · rw [z, hL] at h; cases h
          · rw [upd_ne z]
            exact (((ex.trans x3).trans x4).trans x5) a o h
        · have eh : hid (upd H5 L (.lst (acc ++ [u]))) (addG G L) = hid H5 (addG G L) := by
            funext a
            by_cases z : a = L
            · rw [hid_yes (by rw [z, addG_self]), hid_yes (by rw [z, addG_self])]
            · unfold hid
              rw [upd_ne z]
          rw [eh]
          exact (keepR (x4.trans x5)).append (.cons ru .nil)
        · rw [List.length_append]; exact Nat.succ_le_succ hlen
        · rw [List.append_assoc]; exact hsum
      · cases hrest
  · left
    have ej : j = ds.length := by omega
    subst ej
    rw [List.drop_length] at hrest
    cases hrest
    rw [List.append_nil] at hsum
    subst hsum
    exact ⟨w2 _ (Nat.le_refl _), k L (.lst ad) H2 hL0 (x1.trans ex) rfl ⟨acc, hacc, hrep⟩⟩
section
variable {X : Cx} {W : WX} {fr : Fk} {i : Nat} {x : Str} {px pos : Pos} {elt iter : Expr} {ifs : List Expr} {scope : Scope} {mi : MI} {mt : MT} {me : ME}
theorem takes_blk {s : Shared} {H : Hp} {cenv : PySem.Env} {fp : List Addr} : L2N.Takes (X.blk s H scope cenv fp) noX := fun u s' ⟨a, B, sI, pins, σ, H, cls, d, e, I, nb, up, sky, na, os, ag, w⟩ => w.elim
theorem rf_lc (hc : X.calm = true) (hN : X.N.Nodup) (hi : RI X W (.Name x px) iter mi) (ok : BlkOk X.N X.env.scope scope [(x, i)])
    (hg : ∀ (s : Shared) (H : Hp) (C : Addr) (cl : List (Str × Addr)) (fp : List Addr), PG (X.blk s H scope (compEnvC scope cl C X.env) fp) (.Name x px) (gName i))
    (ht : ∀ (s : Shared) (H : Hp) (C : Addr) (cl : List (Str × Addr)) (fp : List Addr), RTs (X.blk s H scope (compEnvC scope cl C X.env) fp) noX ifs mt)
    (he : ∀ (s : Shared) (H : Hp) (C : Addr) (cl : List (Str × Addr)) (fp : List Addr), RE (X.blk s H scope (compEnvC scope cl C X.env) fp) noX true elt me) (hs : ∀ x, foldedSetIterable iter X.env x = pure x := by intro _; rfl) :
    RF X W (.ListComp elt [⟨.Name x px, iter, ifs, 0⟩] scope pos) (mLc i mi mt me) := by
  obtain ⟨t, a1, a2⟩ := hi.ex
  exact ⟨_, pe_lc hc hN a1 ok hg (fun s H C cl fp => (ht s H C cl fp).ex) (fun s H C cl fp => (he s H C cl fp).can) hs, snd_lc a2⟩
/-- name = [..] -/
theorem rs_setLc {j : Nat} {y : Str} {py spos : Pos} (hc : X.calm = true) (hN : X.N.Nodup) (hy : X.N[j]? = some y) (hyl : X.env.scope.names.lookup y = some .local)
    (hsw : swapsWith (.ListComp elt [⟨.Name x px, iter, ifs, 0⟩] scope pos) (some (.Name y py)) spos.line X.env = pure true) (hi : RI X W (.Name x px) iter mi) (ok : BlkOk X.N X.env.scope scope [(x, i)])
    (hg : ∀ (s : Shared) (H : Hp) (C : Addr) (cl : List (Str × Addr)) (fp : List Addr), PG (X.blk s H scope (compEnvC scope cl C X.env) fp) (.Name x px) (gName i))
    (ht : ∀ (s : Shared) (H : Hp) (C : Addr) (cl : List (Str × Addr)) (fp : List Addr), RTs (X.blk s H scope (compEnvC scope cl C X.env) fp) noX ifs mt)
    (he : ∀ (s : Shared) (H : Hp) (C : Addr) (cl : List (Str × Addr)) (fp : List Addr), RE (X.blk s H scope (compEnvC scope cl C X.env) fp) noX true elt me) (hs : ∀ x, foldedSetIterable iter X.env x = pure x := by intro _; rfl) :
    RS X W fr (.Assign [.Name y py] (.ListComp elt [⟨.Name x px, iter, ifs, 0⟩] scope pos) spos) (mSetO j (mLc i mi mt me)) := by
  obtain ⟨t, a1, a2⟩ := hi.ex
  exact ⟨_, ps_setLc hc hN hy hyl hsw a1 ok hg (fun s H C cl fp => (ht s H C cl fp).ex) (fun s H C cl fp => (he s H C cl fp).can) hs, snd_setO (snd_lc a2)⟩
/-- .. shared at once -/
theorem rs_setLcV {j : Nat} {y : Str} {py spos : Pos} (hc : X.calm = true) (hN : X.N.Nodup) (hy : X.N[j]? = some y) (hyl : X.env.scope.names.lookup y = some .local)
    (hsw : swapsWith (.ListComp elt [⟨.Name x px, iter, ifs, 0⟩] scope pos) (some (.Name y py)) spos.line X.env = pure true) (hi : RI X W (.Name x px) iter mi) (ok : BlkOk X.N X.env.scope scope [(x, i)])
    (hg : ∀ (s : Shared) (H : Hp) (C : Addr) (cl : List (Str × Addr)) (fp : List Addr), PG (X.blk s H scope (compEnvC scope cl C X.env) fp) (.Name x px) (gName i))
    (ht : ∀ (s : Shared) (H : Hp) (C : Addr) (cl : List (Str × Addr)) (fp : List Addr), RTs (X.blk s H scope (compEnvC scope cl C X.env) fp) noX ifs mt)
    (he : ∀ (s : Shared) (H : Hp) (C : Addr) (cl : List (Str × Addr)) (fp : List Addr), RE (X.blk s H scope (compEnvC scope cl C X.env) fp) noX true elt me) (hs : ∀ x, foldedSetIterable iter X.env x = pure x := by intro _; rfl) :
    RS X W fr (.Assign [.Name y py] (.ListComp elt [⟨.Name x px, iter, ifs, 0⟩] scope pos) spos) (mSet j (mLc i mi mt me)) := by
  obtain ⟨t, a1, a2⟩ := hi.ex
  exact ⟨_, ps_setLc hc hN hy hyl hsw a1 ok hg (fun s H C cl fp => (ht s H C cl fp).ex) (fun s H C cl fp => (he s H C cl fp).can) hs, snd_set (snd_lc a2).clean⟩
end
end Fx

-- FxX
set_option Elab.async false
set_option linter.all false
set_option maxRecDepth 100000
set_option maxHeartbeats 2000000
/-! FxX: raising own errors. -/
namespace Fx
open PySem PySem.Spec PyProof.Rows L2

theorem lookup_zip : ∀ (fs : List Str) (vs : List V) (us : List Value) (f : Str), Vals vs us → vs.length = fs.length → RelO ((fs.zip vs).lookup f) ((fs.zip us).lookup f)
  | [], _, _, _, _, _ => by simp [List.lookup]; exact True.intro
  | _ :: _, [], _, _, _, h => by cases h
  | g :: fs, v :: vs, us, f, r, h => by
    cases r with
    | cons r1 r2 =>
      rename_i u us
      by_cases e : f = g
      · subst e
        simp [List.lookup]
        exact r1
      · have e2 : (f == g) = false := by simpa using e
        have := lookup_zip fs vs us f r2 (by simpa using h)
        simpa [List.lookup, e2] using this
def tMkE (C : Addr) (fs : List Str) (ta : TA) : L2.St → Hp → XK → Prop := fun σ H Q => ta σ H fun vs H1 => vs.length = fs.length ∧ vs.length ≤ 1000 ∧ ((fs = [] ∧ Q (.ref C) none H1) ∨ (fs ≠ [] ∧ ∀ d, H1 d = none → Q (.ref C) (some d) (upd H1 d (.xd (fs.zip vs)))))
section
variable {X : Cx} {C fI : Addr} {x : Str} {fs : List Str} {k : Nat} {p pos : Pos}
theorem mk_err {Q : XK} {pins : List (Addr × Obj)} {σ : L2.St} {H1 : Hp} {s1 : Shared} {vs : List V} {us : List Value} (T : FxEr.Txt X.prog X.K X.mg x C fI fs) (hr : X.A.depth + 1 < recursionLimit) (I1 : Inv X pins σ H1 s1) (r1 : Vals vs us) (hl : vs.length = fs.length) (hz : vs.length ≤ 1000)
    (q1 : (fs = [] ∧ Q (.ref C) none H1) ∨ (fs ≠ [] ∧ ∀ d, H1 d = none → Q (.ref C) (some d) (upd H1 d (.xd (fs.zip vs))))) : wpAny (model X.prog X.w) X.A (call (.ref C) us) (L2N.MkP X pins σ Q) X.xe s1 := by
  have hlim := I1.nolimit
  obtain ⟨mb, b1, b2⟩ := I1.ok.mod.blt
  have hul : us.length = fs.length := by rw [← r1.length, hl]
  refine wpAny_call (FxEr.made_run T I1.kIn hlim (I1.ok.mod.glob.keeps I1.bk) (b1.keeps I1.bk) b2 hul (by rw [hul, ← hl]; exact hz) hr fun h' tk' e M => ?_)
  obtain ⟨hp, g, dr, tk, os⟩ := s1
  show L2N.MkP X pins σ Q (.ref e) ⟨h', g, dr, tk', os⟩
  obtain ⟨t1, dd, hoe, hd⟩ := M.ex
  rcases hd with ⟨hf, rfl⟩ | ⟨fne, dx, mA, rfl, dbig, dne, hns, hm⟩
  · have q2 : Q (.ref C) none H1 := by
      rcases q1 with ⟨_, q⟩ | ⟨n, _⟩
      · exact q
      · exact absurd hf n
    exact ⟨e, _, _, ⟨hp, g, dr, tk, os⟩, H1, .ref C, none, rfl, I1, M.keep, Heap.get?_none_of_le M.new, hoe, ⟨rfl, rfl, fun vs e => by cases e; rfl⟩, rfl, rfl, I1.hok.fresh M.new, rfl, I1.bare, raises_own T.exC T.tyC, q2⟩
  · have q2 : ∀ d, H1 d = none → Q (.ref C) (some d) (upd H1 d (.xd (fs.zip vs))) := by
      rcases q1 with ⟨n, _⟩ | ⟨_, q⟩
      · exact absurd n fne
      · exact q
    obtain ⟨G', g1, g2⟩ := restrict h' fun b => decide (b ≠ e)
    have gk : ∀ b, b ≠ e → G'.get? b = h'.get? b := fun b hb => g1 b (decide_eq_true hb)
    have ge : G'.get? e = none := g2 e (by simp)
    have old : ∀ b o, hp.get? b = some o → G'.get? b = some o := fun b o q => (gk b (Nat.ne_of_lt (Nat.lt_of_lt_of_le (Heap.lt_size q) M.new))).trans (M.keep b o q)
    have ob : ObjOk X.prog X.w (upd H1 dx (.xd (fs.zip vs))) G' dx (.xd (fs.zip vs)) :=
      ⟨_, hns.at (fun o q => (gk dx dne).trans q), fun f => by rw [hm f]; exact lookup_zip fs vs us f r1 hl⟩
    have J : Inv X pins σ (upd H1 dx (.xd (fs.zip vs))) ⟨G', g, dr, tk', os⟩ := I1.laid (t' := tk') old dbig ob
    refine ⟨e, _, _, ⟨G', g, dr, tk', os⟩, _, .ref C, some dx, rfl, J, fun b o q => ?_, ge, hoe, ⟨rfl, rfl, fun vs e => by cases e; rfl⟩, rfl, rfl, ?_, rfl, I1.bare, raises_own T.exC T.tyC, q2 dx (I1.hok.fresh dbig)⟩
    · by_cases hb : b = e
      · have q' : G'.get? b = some o := q
        rw [hb, ge] at q'; cases q'
      · exact (gk b hb).symm.trans q
    · rw [upd_ne (Ne.symm dne)]
      exact I1.hok.fresh M.new
theorem pmk_err {e : Expr} {es : List Expr} {ta : TA} (T : FxEr.Txt X.prog X.K X.mg x C fI fs) (hr : Room k X.A) (hg : Gl X x) (ha : PA X (e :: es) ta) (hdb : (x == ("__debug__" : Str)) = false := by decide)
    (he : starEach (e :: es) X.env = (false, eval e X.env) :: starEach es X.env := by rfl) (hpl : (backTo pos (starEach es X.env)).any (·.1) = false := by rfl) :
    L2N.PMk X (.Call (.Name x p) (e :: es) [] pos) (tMkE C fs ta) := by
  intro pins s σ H Q I h
  refine wpAny_Call_Name_kw (ld_glob I hg T.gC ?_ hdb)
  refine PySem.W.callWith_K (h₀ := X.base) I.ok.mod.kin T.kC (thn (ha.run pos pins s σ H _ I h) fun us s1 ⟨vs, H1, I1, r1, hl, hz, q1⟩ => ⟨I1.kIn, ?_⟩) he hpl
  exact mk_err T (by have := hr.dp; omega) I1 r1 hl hz q1
theorem pmk_err0 (T : FxEr.Txt X.prog X.K X.mg x C fI []) (hr : Room k X.A) (hg : Gl X x) (hdb : (x == ("__debug__" : Str)) = false := by decide) :
    L2N.PMk X (.Call (.Name x p) [] [] pos) (fun _ H Q => Q (.ref C) none H) := by
  intro pins s σ H Q I h
  refine wpAny_Call_Name_kw (ld_glob I hg T.gC ?_ hdb)
  refine PySem.W.callWith_K0 I.kIn T.kC ?_
  exact mk_err (vs := []) T (by have := hr.dp; omega) I .nil rfl (Nat.zero_le _) (.inl ⟨rfl, h⟩)
/-- an own error, on data -/
def mErr (x : Str) (fs : List Str) (m : MA) : Env → R Exn := fun ρ => (m ρ).bind fun ds => .ok ⟨x, fs.zip ds⟩
theorem repF_zip {S : Sig} {H : Hp} : ∀ {fs : List Str} {vs : List V} {ds : List D}, Reps S H vs ds → vs.length = fs.length → RepF S H (fs.zip vs) (fs.zip ds) := fun {fs vs ds} r hl => by
  refine ⟨by rw [List.length_zip, List.length_zip, r.1], fun i f g y d h1 h2 => ?_, fun i f g y d h1 h2 => ?_⟩
  · rw [List.getElem?_zip_eq_some] at h1 h2
    have := h1.1.symm.trans h2.1
    exact Option.some.inj this
  · rw [List.getElem?_zip_eq_some] at h1 h2
    exact r.2 i y d h1.2 h2.2
variable {W : WX} {ma : MA}
theorem rx_err {e : Expr} {es : List Expr} (T : FxEr.Txt X.prog X.K X.mg x C fI fs) (hr : Room k X.A) (hg : Gl X x) (ha : RA X W true (e :: es) ma) (hn : (e :: es).length = fs.length := by rfl) (hz : (e :: es).length ≤ 1000 := by decide) (hdb : (x == ("__debug__" : Str)) = false := by decide)
    (he : starEach (e :: es) X.env = (false, eval e X.env) :: starEach es X.env := by rfl) (hpl : (backTo pos (starEach es X.env)).any (·.1) = false := by rfl) : RX X W (.Call (.Name x p) (e :: es) [] pos) (mErr x fs ma) := by
  obtain ⟨t, a1, a2⟩ := ha.ex
  refine ⟨_, pmk_err T hr hg a1 hdb he hpl, fun B G ρ σ H Q I nb k ke => ?_⟩
  unfold mErr at nb k ke
  refine a2 B G ρ σ H _ I (R.bad_bind nb) (fun ds e vs H' x1 hl hl2 rs => ?_) (fun x e => ke x (by rw [e]; rfl))
  rw [e, R.bind_ok] at k
  have hvl : vs.length = fs.length := by rw [hl, hn]
  have rp := reps_of hl2 rs
  refine ⟨hvl, by rw [hl]; exact hz, .inr ⟨fun z => (by rw [z] at hn; cases hn), fun d hd => ?_⟩⟩
  have e2 : Ex H' (upd H' d (.xd (fs.zip vs))) := Ex.new hd
  refine k _ rfl _ _ _ (x1.trans e2) ⟨C, rfl, T.gC, .inr ⟨d, fs.zip vs, rfl, hid_of (fresh_vis (I.grow x1).gm hd) upd_same, ?_⟩⟩
  exact repF_zip (rp.ex (hid_ex e2)) hvl
theorem rx_err0 (T : FxEr.Txt X.prog X.K X.mg x C fI []) (hr : Room k X.A) (hg : Gl X x) (hdb : (x == ("__debug__" : Str)) = false := by decide) : RX X W (.Call (.Name x p) [] [] pos) (fun _ => .ok ⟨x, []⟩) :=
  ⟨_, pmk_err0 T hr hg hdb, fun B G ρ σ H Q I nb k ke => k _ rfl _ _ H (Ex.refl H) ⟨C, rfl, T.gC, .inl ⟨rfl, rfl⟩⟩⟩
end
end Fx

-- Fx6
set_option Elab.async false
set_option linter.all false
set_option maxRecDepth 100000
set_option maxHeartbeats 2000000
/-! Fx6: try, except suites, defs called there, the caught exception. -/
namespace Fx
open PySem PySem.Spec PyProof.Rows L2

/-! ### the caught exception: its class, its fields -/
/-- the own errors: their names -/
structure ErrK (K : PySem.W.Frag) (mg : Str → Option Value) (nms : List Str) : Prop where
  one : ∀ c ∈ nms, ∃ D, mg c = some (.ref D) ∧ ExcC K D ∧ XfC K D ∧ (∀ T ∈ nms, ∀ A, mg T = some (.ref A) → PySem.W.kitOne K (.ref D) (.ref A) = some (c == T)) ∧ PySem.W.kitOne K (.ref D) (.type "ValueError") = some true
theorem inst_of {X : Cx} {pins : List (Addr × Obj)} {σ : L2.St} {H : Hp} {s : Shared} {a D : Addr} {dd : Option Addr} (I : Inv X pins σ H s) (hp : pinP (X.pn.take 1) a (.ref D) dd) (hd : dd = none ∨ ∃ d fs, dd = some d ∧ H d = some (.xd fs)) :
    ∃ oe od, PySem.W.InstAt s.heap a oe D od := by
  obtain ⟨oe, hm, hc, hdi, vs, hv⟩ := hp
  obtain ⟨hget, _⟩ := I.pin (a, oe) (List.mem_append.mpr (.inl (List.mem_of_mem_take hm)))
  obtain ⟨oc, oda, odt, osl⟩ := oe
  dsimp only at hc hdi hv
  subst hc hdi hv
  rcases hd with rfl | ⟨d, fs, rfl, ea⟩
  · exact ⟨_, none, hget, rfl, rfl, trivial⟩
  · obtain ⟨mA, hns, hr⟩ := (show ObjOk X.prog X.w H s.heap d (.xd fs) from I.hok d _ ea)
    obtain ⟨od, ho, hl⟩ := lookIn_ns hns
    exact ⟨_, some od, hget, rfl, rfl, ho⟩
/-- isinstance(e, c) of such an exception -/
def rIsX (K : PySem.W.Frag) (pn : List (Addr × Obj)) : List V → Hp → VK → Prop := fun xs H Q => ∃ (a D : Addr) (dd : Option Addr) (c : V) (cv : Value) (b : Bool), xs = [.ref a, c] ∧ pinP pn a (.ref D) dd ∧ ExcC K D ∧ (dd = none ∨ ∃ d fs, dd = some d ∧ H d = some (.xd fs)) ∧
  (∀ u, RelV c u → u = cv) ∧ PySem.W.kitOne K (.ref D) cv = some b ∧ Q (.bl b) H
def rIsXT (K : PySem.W.Frag) (pn : List (Addr × Obj)) : List V → Hp → VK → Prop := fun xs H Q => ∃ (a D : Addr) (dd : Option Addr) (tp : Addr) (cs : List V) (us : List Value) (b : Bool), xs = [.ref a, .ref tp] ∧ pinP pn a (.ref D) dd ∧ ExcC K D ∧ (dd = none ∨ ∃ d fs, dd = some d ∧ H d = some (.xd fs)) ∧
  H tp = some (.tup cs) ∧ Paired ClsV cs us ∧ PySem.W.kitAny K (.ref D) us = some b ∧ Q (.bl b) H
section
variable {X : Cx}
theorem call_isX : CallR X (.builtin "isinstance") (rIsX X.K (X.pn.take 1)) := by
  intro pins s σ H xs us Q I r h
  obtain ⟨a, D, dd, c, cv, b, rfl, hp, C, hd, hcv, e, q⟩ := h
  obtain ⟨u1, u2, rfl, r1, r2⟩ := vals2 r
  cases (show u1 = Value.ref a from r1)
  have ec := hcv _ r2
  subst ec
  obtain ⟨oe, od, J⟩ := inst_of I hp hd
  obtain ⟨cd, hcd, _⟩ := PySem.W.any_some C.hd
  exact PySem.W.kia_one (PySem.W.kitx_exc (od := od) (by rw [hcd]; rfl) C.hg C.hk C.hs C.ha C.hn C.ht C.hm) I.kIn J e (fun z => nomatch z) fun tk => ⟨.bl b, H, I.tok tk, rfl, q⟩
theorem call_isXT : CallR X (.builtin "isinstance") (rIsXT X.K (X.pn.take 1)) := by
  intro pins s σ H xs us Q I r h
  obtain ⟨a, D, dd, tp, cs, ws, b, rfl, hp, C, hd, hT, k, e, q⟩ := h
  obtain ⟨u1, u2, rfl, r1, r2⟩ := vals2 r
  cases (show u1 = Value.ref a from r1)
  cases (show u2 = Value.ref tp from r2)
  obtain ⟨oe, od, J⟩ := inst_of I hp hd
  obtain ⟨cd, hcd, _⟩ := PySem.W.any_some C.hd
  obtain ⟨_, its, rv, o, h1, h2, n, h3⟩ := (show ObjOk X.prog X.w H s.heap tp (.tup cs) from I.hok tp _ hT)
  have e3 := ClsV.all k rv
  subst e3
  obtain ⟨oc, od2, dt, sl⟩ := o
  simp only at h2 h3
  subst h2 h3
  exact PySem.W.kia_tup (PySem.W.kitx_exc (od := od) (by rw [hcd]; rfl) C.hg C.hk C.hs C.ha C.hn C.ht C.hm) I.kIn J h1 e (fun z => nomatch z) fun tk => ⟨.bl b, H, I.tok tk, rfl, q⟩
end
/-- what a mirror knows of the caught exception -/
def mX (nms : List Str) (i : Nat) (f : Exn → R D) : ME := fun ρ => match ρ[i]? with
  | some (.exc x) => if nms.contains x.c then f x else .bad
  | _ => .bad
theorem Sts.at_exc {S : Sig} {P : PX} {B : Bs} {G : Addr → Bool} {ρ : Env} {σ : L2.St} {H : Hp} {i : Nat} {nms : List Str} {f : Exn → R D} (I : Sts S P B G ρ σ H) (nb : mX nms i f ρ ≠ .bad) (F : ErrK S.K S.mg nms) :
    ∃ x a D dd, ρ[i]? = some (.exc x) ∧ mX nms i f ρ = f x ∧ x.c ∈ nms ∧ σ[i]? = some (some (.ref a)) ∧ P a (.ref D) dd ∧ RepX S (hid H G) (.ref D) dd x ∧ S.mg x.c = some (.ref D) ∧ ExcC S.K D ∧ XfC S.K D ∧
      (∀ T ∈ nms, ∀ A, S.mg T = some (.ref A) → PySem.W.kitOne S.K (.ref D) (.ref A) = some (x.c == T)) ∧ PySem.W.kitOne S.K (.ref D) (.type "ValueError") = some true ∧ (dd = none ∨ ∃ d fs, dd = some d ∧ H d = some (.xd fs)) := by
  unfold mX at nb ⊢
  cases e : ρ[i]? with
  | none => rw [e] at nb; exact absurd rfl nb
  | some s =>
    rw [e] at nb
    cases s with
    | exc x =>
      dsimp only at nb
      by_cases z : nms.contains x.c = true
      · obtain ⟨a, cls, dd, h1, h2, h3⟩ := I.exc i x e
        have hm : x.c ∈ nms := by simpa using z
        obtain ⟨D, g1, g2, g3, g4, g5⟩ := F.one x.c hm
        obtain ⟨C, c1, c2, c3⟩ := id h3
        rw [g1] at c2
        have eD : D = C := Value.ref.inj (Option.some.inj c2)
        subst eD
        subst c1
        refine ⟨x, a, D, dd, rfl, by simp only [if_pos z], hm, h1, h2, h3, g1, g2, g3, g4, g5, ?_⟩
        rcases c3 with ⟨_, rfl⟩ | ⟨p, fs, rfl, q, _⟩
        · exact .inl rfl
        · exact .inr ⟨p, fs, rfl, (hid_some q).2⟩
      · simp only [if_neg z] at nb
        exact absurd rfl nb
    | _ => exact absurd rfl nb
section
variable {X : Cx} {W : WX} {nms : List Str} {i : Nat} {e T : Str} {p p1 p2 pos : Pos}
theorem re_isE (F : ErrK X.K X.mg nms) (hT : T ∈ nms) (gT : Gl X T) (gI : Gl X "isinstance") (mI : X.mg "isinstance" = none) (he : PE X (.Name e p1) (tVar i)) (hdT : (T == ("__debug__" : Str)) = false := by decide)
    (hs : starEach [.Name e p1, .Name T p2] X.env = (false, eval (.Name e p1) X.env) :: starEach [.Name T p2] X.env := by rfl) (hs2 : starEach [.Name T p2] X.env = (false, eval (.Name T p2) X.env) :: starEach [] X.env := by rfl) (hpl : (backTo pos (starEach [.Name T p2] X.env)).any (·.1) = false := by rfl) :
    RE X W true (.Call (.Name "isinstance" p) [.Name e p1, .Name T p2] [] pos) (mX nms i fun x => .ok (.bl (x.c == T))) := by
  obtain ⟨A, hA, _⟩ := F.one T hT
  refine ⟨_, pe_callB call_isX gI mI PyProof.Rows.Boot.isinstance (pa_cons he (pa_cons (pe_glob (v := .ref A) gT hA rfl hdT) pa_nil hs2) hs) (by decide) (by decide) hs hpl, fun B G ρ σ H Q I nb k ke => ?_⟩
  obtain ⟨x, a, D, dd, h1, h2, h3, h4, h5, h6, h7, h8, h9, h10, h11, h12⟩ := I.at_exc nb F
  exact ⟨_, h4, a, D, dd, .ref A, .ref A, _, rfl, h5, h8, h12, (fun u r => r), h10 T hT A hA, k _ h2 _ H (Ex.refl H) (.bl _)⟩
theorem re_isV (F : ErrK X.K X.mg nms) (gT : Gl X "ValueError") (mT : X.mg "ValueError" = none) (gI : Gl X "isinstance") (mI : X.mg "isinstance" = none) (he : PE X (.Name e p1) (tVar i))
    (hs : starEach [.Name e p1, .Name "ValueError" p2] X.env = (false, eval (.Name e p1) X.env) :: starEach [.Name "ValueError" p2] X.env := by rfl) (hs2 : starEach [.Name "ValueError" p2] X.env = (false, eval (.Name "ValueError" p2) X.env) :: starEach [] X.env := by rfl) (hpl : (backTo pos (starEach [.Name "ValueError" p2] X.env)).any (·.1) = false := by rfl) :
    RE X W true (.Call (.Name "isinstance" p) [.Name e p1, .Name "ValueError" p2] [] pos) (mX nms i fun x => .ok (.bl true)) := by
  refine ⟨_, pe_callB call_isX gI mI PyProof.Rows.Boot.isinstance (pa_cons he (pa_cons (pe_bltn (v := .ty "ValueError") gT mT PyProof.Rows.Boot.ValueError rfl) pa_nil hs2) hs) (by decide) (by decide) hs hpl, fun B G ρ σ H Q I nb k ke => ?_⟩
  obtain ⟨x, a, D, dd, h1, h2, h3, h4, h5, h6, h7, h8, h9, h10, h11, h12⟩ := I.at_exc nb F
  exact ⟨_, h4, a, D, dd, .ty "ValueError", .type "ValueError", _, rfl, h5, h8, h12, (fun u r => r), h11, k _ h2 _ H (Ex.refl H) (.bl _)⟩
/-- classes' names in a display -/
inductive TyNs (X : Cx) (nms : List Str) : List Expr → List Str → Prop
  | nil : TyNs X nms [] []
  | cons {T : Str} {p : Pos} {es : List Expr} {Ts : List Str} : T ∈ nms → Gl X T → (T == ("__debug__" : Str)) = false → starEach (.Name T p :: es) X.env = (false, eval (.Name T p) X.env) :: starEach es X.env → TyNs X nms es Ts → TyNs X nms (.Name T p :: es) (T :: Ts)
def tRefs : List Addr → TA
  | [] => tNil
  | a :: as => tCons (tC (.ref a)) (tRefs as)
theorem tRefs_run {as : List Addr} : ∀ {σ : L2.St} {H : Hp} {Q : List V → Hp → Prop}, Q (as.map V.ref) H → tRefs as σ H Q := by
  induction as with
  | nil => intro σ H Q h; exact h
  | cons a as ih => intro σ H Q h; exact ih h
theorem tyNs_pa (F : ErrK X.K X.mg nms) {es : List Expr} {Ts : List Str} (h : TyNs X nms es Ts) : ∃ As : List Addr, PA X es (tRefs As) ∧ es.length = As.length ∧ ∀ (c : Str) (D : Addr), (∀ T ∈ nms, ∀ A, X.mg T = some (.ref A) → PySem.W.kitOne X.K (.ref D) (.ref A) = some (c == T)) → PySem.W.kitAny X.K (.ref D) (As.map Value.ref) = some (Ts.contains c) := by
  induction h with
  | nil => exact ⟨[], pa_nil, rfl, fun c D h => rfl⟩
  | @cons T p es Ts hT gT hd hs r ih =>
    obtain ⟨As, h1, h2, h3⟩ := ih
    obtain ⟨A, hA, _⟩ := F.one T hT
    refine ⟨A :: As, pa_cons (pe_glob (v := .ref A) gT hA rfl hd) h1 hs, by rw [List.length_cons, List.length_cons, h2], fun c D h => ?_⟩
    refine kitAny_cons (h T hT A hA) (fun z => ?_) fun z => ?_
    · rw [h3 c D h, List.contains_cons, z, Bool.false_or]
    · rw [List.contains_cons, z, Bool.true_or]
theorem paired_cls : ∀ As : List Addr, Paired ClsV (As.map V.ref) (As.map Value.ref)
  | [] => .nil
  | a :: as => .cons (.own a) (paired_cls as)
theorem re_isEs {es : List Expr} {Ts : List Str} {kt} {p2 : Pos} (F : ErrK X.K X.mg nms) (hT : TyNs X nms es Ts) (gI : Gl X "isinstance") (mI : X.mg "isinstance" = none) (he : PE X (.Name e p1) (tVar i)) (hz : es.length ≤ sizeLine := by first | exact Nat.le_of_ble_eq_true rfl | decide)
    (hs : starEach [.Name e p1, .Tuple es kt p2] X.env = (false, eval (.Name e p1) X.env) :: starEach [.Tuple es kt p2] X.env := by rfl) (hs2 : starEach [.Tuple es kt p2] X.env = (false, eval (.Tuple es kt p2) X.env) :: starEach [] X.env := by rfl) (hpl : (backTo pos (starEach [.Tuple es kt p2] X.env)).any (·.1) = false := by rfl) :
    RE X W true (.Call (.Name "isinstance" p) [.Name e p1, .Tuple es kt p2] [] pos) (mX nms i fun x => .ok (.bl (Ts.contains x.c))) := by
  obtain ⟨As, a1, a2, a3⟩ := tyNs_pa F hT
  refine ⟨_, pe_callB call_isXT gI mI PyProof.Rows.Boot.isinstance (pa_cons he (pa_cons (pe_tup a1) pa_nil hs2) hs) (by decide) (by decide) hs hpl, fun B G ρ σ H Q I nb k ke => ?_⟩
  obtain ⟨x, a, D, dd, h1, h2, h3, h4, h5, h6, h7, h8, h9, h10, h11, h12⟩ := I.at_exc nb F
  refine ⟨_, h4, tRefs_run ⟨by rw [List.length_map, ← a2]; exact hz, fun t ht => ?_⟩⟩
  have e2 : Ex H (upd H t (.tup (As.map V.ref))) := Ex.new ht
  refine ⟨a, D, dd, t, As.map V.ref, As.map Value.ref, _, rfl, h5, h8, ?_, upd_same, paired_cls As, a3 x.c D h10, k _ h2 _ _ e2 (.bl _)⟩
  rcases h12 with h | ⟨d, fs, h, z⟩
  · exact .inl h
  · exact .inr ⟨d, fs, h, e2 _ _ z⟩
/-- e.f -/
theorem repF_get {S : Sig} {H : Hp} : ∀ {fs : List (Str × V)} {ds : List (Str × D)} {f : Str} {d : D}, RepF S H fs ds → ds.lookup f = some d → ∃ v, fs.lookup f = some v ∧ Rep S H v d
  | [], [], _, _, _, h => by cases h
  | [], _ :: _, _, _, r, _ => by have := r.1; cases this
  | _ :: _, [], _, _, _, h => by cases h
  | (g, v) :: fs, (g', d') :: ds, f, d, r, h => by
    have eg : g = g' := r.2.1 0 g g' v d' rfl rfl
    subst eg
    by_cases e : f = g
    · subst e
      simp [List.lookup] at h
      subst h
      exact ⟨v, by simp [List.lookup], r.2.2 0 _ _ v d' rfl rfl⟩
    · have e2 : (f == g) = false := by simpa using e
      simp [List.lookup, e2] at h
      obtain ⟨u, h1, h2⟩ := repF_get (fs := fs) (ds := ds) (f := f) ⟨by have := r.1; simpa using this, fun i a b x y p q => r.2.1 (i + 1) a b x y p q, fun i a b x y p q => r.2.2 (i + 1) a b x y p q⟩ h
      exact ⟨u, by simp [List.lookup, e2]; exact h1, h2⟩
def tXf2 (K : PySem.W.Frag) (pn : List (Addr × Obj)) (n : Str) (te : TE) : TE := fun σ H Q => te σ H fun x H1 => ∃ (a C dd : Addr) (fs : List (Str × V)) (v : V), x = .ref a ∧ pinP pn a (.ref C) (some dd) ∧ XfC K C ∧ PySem.W.findIn K (.ref C) n = some none ∧ H1 dd = some (.xd fs) ∧ fs.lookup n = some v ∧ Q v H1
theorem pe_xf2 {e : Expr} {te : TE} {n : Str} (he : PE X e te) (hb : attributeBase e n X.env (eval e X.env) = eval e X.env) : PE X (.Attribute e n pos) (tXf2 X.K (X.pn.take 1) n te) := by
  refine ⟨fun pins s σ H Q I h => ?_⟩
  refine attr_of hb (thn (he.run pins s σ H _ I h) fun u s1 ⟨x, H1, I1, rx, a, C, dd, fs, v, ex, hp, T, hno, ea, l, q⟩ => ?_)
  subst ex
  obtain rfl : u = Value.ref a := rx
  obtain ⟨oe, hm, hc, hdi, vs, hv⟩ := hp
  obtain ⟨hget, _⟩ := I1.pin (a, oe) (List.mem_append.mpr (.inl (List.mem_of_mem_take hm)))
  obtain ⟨mA, hns, hr⟩ := (show ObjOk X.prog X.w H1 s1.heap dd (.xd fs) from I1.hok dd _ ea)
  obtain ⟨od, ho, hl⟩ := lookIn_ns hns
  obtain ⟨u, hu, ru⟩ := RelO.some_of (v := v) (o := mA n) (by rw [← l]; exact hr n)
  have J : PySem.W.InstAt s1.heap a oe C (some od) := ⟨hget, hc, by unfold PySem.W.notCls; rw [hv] <;> rfl, by rw [hdi]; exact ho⟩
  exact HandSPX.exc_get I1.kIn J T.ga T.gg T.exC (PySem.W.findObj_own T.hdC hno rfl (by rw [hl, hu])) (handed_of ru) ⟨v, H1, I1.tok _, ru, q⟩
theorem re_fld {n : Str} (F : ErrK X.K X.mg nms) (hno : ∀ c ∈ nms, ∀ D, X.mg c = some (.ref D) → PySem.W.findIn X.K (.ref D) n = some none) (he : PE X (.Name e p1) (tVar i)) (hb : attributeBase (.Name e p1) n X.env (eval (.Name e p1) X.env) = eval (.Name e p1) X.env := by rfl) :
    RE X W true (.Attribute (.Name e p1) n pos) (mX nms i fun x => R.of (x.fs.lookup n)) := by
  refine ⟨_, pe_xf2 he hb, fun B G ρ σ H Q I nb k ke => ?_⟩
  obtain ⟨x, a, D, dd, h1, h2, h3, h4, h5, h6, h7, h8, h9, h10, h11, h12⟩ := I.at_exc nb F
  obtain ⟨C, c1, c2, c3⟩ := h6
  cases hl : x.fs.lookup n with
  | none => rw [h2, hl] at nb; exact absurd rfl nb
  | some d =>
    rcases c3 with ⟨z, _⟩ | ⟨q, fs, rfl, hq, rf⟩
    · rw [z] at hl; cases hl
    · obtain ⟨v, hv, rv⟩ := repF_get rf hl
      exact ⟨_, h4, a, D, q, fs, v, rfl, h5, h9, hno x.c h3 D h7, (hid_some hq).2, hv, k d (by rw [h2, hl]; rfl) v H (Ex.refl H) rv⟩
end
end Fx

-- FxH
set_option Elab.async false
set_option linter.all false
set_option maxRecDepth 100000
set_option maxHeartbeats 2000000
/-! FxH: the head's facts, read by a Hook: defs, own errors. -/
namespace FxHd
open PySem PySem.Spec PyProof.Rows L2 He
abbrev Fg := PySem.W.Frag
def asX (g : Addr → Option Obj) : Nat → List Addr
  | 0 => [mainGlobals, cStatics]
  | n + 1 => growD g (asX g n)
abbrev ErrW : Type := Option (Str × Str × Arguments × FuncBody × Scope × Addr × List Str × Value × Addr)
def iAd (K : Fg) (x : Str) : Addr := ma K (ga K x) "__init__"
def errW (K : Fg) (x : Str) : ErrW := match K.lookup (iAd K x) with
  | some ⟨_, _, .func fd, _⟩ => some (fd.name, fd.qualname, fd.params, fd.body, fd.scope, fd.globals, fd.closure.map (·.1), fd.defaults, fd.builtins)
  | _ => none
/-- an own error: its name, its __init__'s qualified name, its text, its fields -/
structure ErrD where
  x : Str
  qual : Str
  st : Stmt
  fs : List Str
def ErrD.val (e : ErrD) : ErrW := some ("__init__", e.qual, defArgs e.st, .stmts (defBody e.st), defScope e.st, mainGlobals, ["__class__"], .none, builtinsNs)
def clsB (K : Fg) (C : Addr) : Bool := match K.lookup C with
  | some ⟨.type t, _, .cls cd, sl⟩ => decide (t = "type") && ((match cd.mro with
    | .ref C' :: bm => decide (C' = C) && PySem.HandSPX.refsVE bm
    | _ => false) && (cd.hasDict && (!cd.hasDel && (match sl.toList with
    | [_, _, _, _, some (.builtin n), _] => decide (n = "ValueError.__new__")
    | _ => false))))
  | _ => false
def codeB (K : Fg) (file : Str) (C : Addr) (fI : Addr) : Bool := match K.lookup fI with
  | some ⟨_, _, .func fd, _⟩ => PySem.W.codeIn K fd.code fd.qualname && ((match fd.code with
    | .ref cda => (match K.lookup cda with
      | some ⟨_, _, .fields vs, _⟩ => (match (vs[2]? : Option Value) with
        | some (Value.str f _) => file == f
        | _ => false)
      | _ => false)
    | _ => false) && (match fd.closure with
    | [(_, cc)] => (match K.lookup cc with
      | some ⟨_, _, .cell (some (.ref D)), _⟩ => decide (D = C)
      | _ => false)
    | _ => false))
  | _ => false
def errB (K : Fg) (file : Str) (x : Str) (fs : List Str) : Bool :=
  clsB K (ga K x) && (eqO (PySem.W.nsIn K mainGlobals x) (some (some (.ref (ga K x)))) && (eqO (PySem.W.findIn K (.ref (ga K x)) "__setattr__") (some (some (.builtin "object.__setattr__"))) && ((fs.all fun f => eqO (PySem.W.findIn K (.ref (ga K x)) f) (some none)) &&
  (eqO (PySem.W.findIn K (.ref (ga K x)) "__init__") (some (some (.ref (iAd K x)))) && (decide (PySem.W.typeIn K (.ref (iAd K x)) = some (.type "function")) && (PySem.W.keepIn K (.ref (ga K x)) && (decide (PySem.W.subIn K (.ref (ga K x)) (.type "BaseException") = some true) &&
  (decide (PySem.W.typeIn K (.ref (ga K x)) = some (.type "type")) && (PySem.W.excInitIn K (ga K x) veBase "ValueError.__new__" && (eqO (PySem.W.ks_superIn K (ga K x) (ga K x) "__init__") (some (some (.builtin "ValueError.__init__"))) &&
  (decide (PySem.W.subIn K (.ref (ga K x)) (.type "ValueError") = some true) && (decide (PySem.W.mroIn K (ga K x) (.ref (ga K x)) = some true) && codeB K file (ga K x) (iAd K x)))))))))))))
/-- what the text of such an __init__ says -/
structure InitT (e : ErrD) : Prop where
  b : FxEr.InitB e.qual (defScope e.st) e.fs (defBody e.st)
  ar : ∃ ar, ((defArgs e.st).posonlyargs ++ (defArgs e.st).args).head? = some ar ∧ ar.arg = ("self" : Str)
  nc : ∀ y ∈ (defScope e.st).names, y.2 ≠ .cell
  co : (defScope e.st).isCoroutine = false
  gen : (defScope e.st).isGenerator = false
  kind : (defScope e.st).kind = .function
  sup : (defScope e.st).names.lookup ("super" : Str) = some .globalImplicit
  cls : (defScope e.st).names.lookup ("__class__" : Str) = some .free
  self : (defScope e.st).names.lookup ("self" : Str) = some .local
  fld : ∀ f ∈ e.fs, (defScope e.st).names.lookup f = some .local ∧ f ≠ ("self" : Str) ∧ (f == ("__debug__" : Str)) = false
  bind : ∀ (kV doc pm ct : Value) (an : Option Addr) (cda cc : Addr) (us : List Value), us.length = e.fs.length + 1 → bindArgs (PySem.W.ksFn "__init__" e.qual (defArgs e.st) (defBody e.st) (defScope e.st) .none kV doc pm an (.ref cda) ct cc) ⟨us, []⟩ = pure ((("self" : Str) :: e.fs).zip us)
section
variable {K : Fg} {mg : Str → Option Value} {prog : Program}
theorem clsB_ok {C : Addr} (h : clsB K C = true) : ∃ nm q N bs bm sn sub ab col dd k0 k1 k2 k3 k5, K.lookup C = some (excClassObj nm q C N bs bm true sn sub ab col dd k0 k1 k2 k3 k5 "ValueError.__new__") ∧ PySem.HandSPX.refsVE bm = true := by
  unfold clsB at h
  split at h
  · rename_i t dd cd sl e
    obtain ⟨h1, h⟩ := ba h
    obtain ⟨h2, h⟩ := ba h
    obtain ⟨h3, h⟩ := ba h
    obtain ⟨h4, h5⟩ := ba h
    have h1 := of_decide_eq_true h1
    subst h1
    obtain ⟨nm, bs, mro, ns, qn, hd, sn, sb, ab, col, del⟩ := cd
    dsimp only at h2 h3 h4
    cases mro with
    | nil => cases h2
    | cons v bm =>
      cases v with
      | ref C' =>
        obtain ⟨e1, e2⟩ := ba h2
        have e1 := of_decide_eq_true e1
        subst e1
        have h4 : del = false := by cases del <;> first | rfl | cases h4
        subst h3 h4
        obtain ⟨l⟩ := sl
        match l, h5 with
        | [a, b, c, d, some (.builtin n), k], h5 =>
          have e3 := of_decide_eq_true h5
          subst e3
          exact ⟨nm, qn, ns, bs, bm, sn, sb, ab, col, dd, a, b, c, d, k, e, e2⟩
      | _ => cases h2
  · cases h
theorem err_ok {h : Heap} {e : ErrD} (X : K.In h) (G : h.Ns mainGlobals mg) (hb : errB K prog.main.file e.x e.fs = true) (hw : errW K e.x = e.val) (T : InitT e) (hsup : PySem.W.nsIn K mainGlobals "super" = some none) (ho : PySem.W.nsIn K cStatics "thirdparty.any" = some none) (htop : (prog.main.scope.names.lookup ("super" : Str)).isSome = false) :
    FxEr.Txt prog K mg e.x (ga K e.x) (iAd K e.x) e.fs := by
  unfold errB at hb
  obtain ⟨c0, hb⟩ := ba hb
  obtain ⟨c1, hb⟩ := ba hb
  obtain ⟨c2, hb⟩ := ba hb
  obtain ⟨c3, hb⟩ := ba hb
  obtain ⟨c4, hb⟩ := ba hb
  obtain ⟨c5, hb⟩ := ba hb
  obtain ⟨c6, hb⟩ := ba hb
  obtain ⟨c7, hb⟩ := ba hb
  obtain ⟨c8, hb⟩ := ba hb
  obtain ⟨c9, hb⟩ := ba hb
  obtain ⟨c10, hb⟩ := ba hb
  obtain ⟨c11, hb⟩ := ba hb
  obtain ⟨c12, c13⟩ := ba hb
  refine ⟨PySem.W.mg_of X G (eqO_ok c1), clsB_ok c0, eqO_ok c2, fun f hf => eqO_ok (List.all_eq_true.mp c3 f hf), eqO_ok c4, of_decide_eq_true c5, c6, of_decide_eq_true c7, of_decide_eq_true c8, c9, eqO_ok c10, of_decide_eq_true c11, of_decide_eq_true c12, hsup, ho, htop, ?_⟩
  unfold codeB at c13
  unfold errW at hw
  cases q : K.lookup (iAd K e.x) with
  | none => rw [q] at c13; cases c13
  | some o =>
    obtain ⟨oc, od, dt, osl⟩ := o
    rw [q] at c13 hw
    cases dt with
    | func fd =>
      obtain ⟨n1, n2, n3, n4, n5, n6, n7, n8, n9, n10, n11, n12, n13, n14, n15⟩ := fd
      have e2 : (some (n1, n2, n3, n4, n5, n6, n7.map (·.1), n8, n15) : ErrW) = (some (("__init__" : Str), e.qual, defArgs e.st, FuncBody.stmts (defBody e.st), defScope e.st, mainGlobals, [("__class__" : Str)], Value.none, builtinsNs) : ErrW) := hw
      simp only [Option.some.injEq, Prod.mk.injEq] at e2
      obtain ⟨h1, h2, h3, h4, h5, h6, h7, h8, h9⟩ := e2
      subst h1 h2 h3 h4 h5 h6 h8 h9
      dsimp only at c13
      obtain ⟨k1, c13⟩ := ba c13
      obtain ⟨k2, k3⟩ := ba c13
      cases n13 with
      | ref cda =>
        dsimp only at k2
        cases q2 : K.lookup cda with
        | none => rw [q2] at k2; cases k2
        | some oc2 =>
          obtain ⟨ccl, cdd, cdt, ccs⟩ := oc2
          rw [q2] at k2
          cases cdt with
          | fields vs =>
            dsimp only at k2
            cases q3 : vs[2]? with
            | none => rw [q3] at k2; cases k2
            | some fv =>
              rw [q3] at k2
              cases fv with
              | str f tf =>
                match n7, h7, k3 with
                | [(nn, cc)], h7, k3 =>
                  have hn : nn = ("__class__" : Str) := by
                    have z : [nn] = [("__class__" : Str)] := h7
                    injection z
                  subst hn
                  dsimp only at k3
                  cases q4 : K.lookup cc with
                  | none => rw [q4] at k3; cases k3
                  | some o4 =>
                    obtain ⟨cl, cld, cdt4, csl⟩ := o4
                    rw [q4] at k3
                    cases cdt4 with
                    | cell v =>
                      cases v with
                      | none => cases k3
                      | some v =>
                        cases v with
                        | ref D =>
                          have eD := of_decide_eq_true k3
                          subst eD
                          obtain ⟨ar, ha1, ha2⟩ := T.ar
                          exact ⟨oc, od, osl, e.qual, defArgs e.st, defBody e.st, defScope e.st, n9, n10, n11, n14, n12, cda, cc, ccl, cdd, vs, ccs, f, tf, cl, cld, csl, ar, rfl, k1, q2, q3, k2, q4, T.b, ha1, ha2, T.nc, T.co, T.gen, T.kind, T.sup, T.cls, T.self, T.fld, T.bind n9 n10 n11 n14 n12 cda cc⟩
                        | _ => cases k3
                    | _ => cases k3
              | _ => cases k2
          | _ => cases k2
      | _ => cases k2
    | _ => cases c13
/-! ### the errors as the suites look at them -/
def excB (K : Fg) (D : Addr) : Bool := eqO (PySem.W.findIn K (.ref D) "__getattribute__") (some (some (.builtin "BaseException.__getattribute__"))) && (eqO (PySem.W.findIn K (.ref D) "__getattr__") (some none) && (decide (PySem.W.subIn K (.ref D) (.type "BaseException") = some true) && (PySem.W.hasDictIn K D &&
  (eqO (PySem.W.findIn K (.ref D) "__class__") (some (some (.builtin "object.__class__"))) && (eqO (PySem.W.specialIn K (.builtin "object.__class__") "__get__") (some (some (.builtin "getset_descriptor.__get__"))) && (decide (PySem.W.takesIn K (.builtin "object.__class__") = some true) && decide (PySem.W.mroIn K D (.type "object") = some true)))))))
theorem excB_ok {D : Addr} (h : excB K D = true) : ExcC K D ∧ XfC K D := by
  obtain ⟨h1, h⟩ := ba h
  obtain ⟨h2, h⟩ := ba h
  obtain ⟨h3, h⟩ := ba h
  obtain ⟨h4, h⟩ := ba h
  obtain ⟨h5, h⟩ := ba h
  obtain ⟨h6, h⟩ := ba h
  obtain ⟨h7, h8⟩ := ba h
  exact ⟨⟨eqO_ok h1, eqO_ok h2, of_decide_eq_true h3, h4, eqO_ok h5, eqO_ok h6, of_decide_eq_true h7, of_decide_eq_true h8⟩, ⟨eqO_ok h1, eqO_ok h2, of_decide_eq_true h3, h4⟩⟩
/-- all of them: fl the fields that are read, top their common class -/
def allB (K : Fg) (nms : List Str) (fl : List Str) (top : Str) : Bool := nms.all fun c => eqO (PySem.W.nsIn K mainGlobals c) (some (some (.ref (ga K c)))) && (excB K (ga K c) && ((nms.all fun T => decide (PySem.W.kitOne K (.ref (ga K c)) (.ref (ga K T)) = some (c == T))) &&
  (decide (PySem.W.kitOne K (.ref (ga K c)) (.type "ValueError") = some true) && ((fl.all fun f => eqO (PySem.W.findIn K (.ref (ga K c)) f) (some none)) && decide (PySem.W.exmOne K (.ref (ga K c)) (.ref (ga K top)) = some true)))))
theorem all_ok {h : Heap} {nms fl : List Str} {top : Str} (X : K.In h) (G : h.Ns mainGlobals mg) (hb : allB K nms fl top = true) : Fx.ErrK K mg nms ∧ (∀ f ∈ fl, ∀ c ∈ nms, ∀ D, mg c = some (.ref D) → PySem.W.findIn K (.ref D) f = some none) ∧ ∀ c ∈ nms, ∀ D, mg c = some (.ref D) → PySem.W.exmOne K (.ref D) (.ref (ga K top)) = some true := by
  have one : ∀ c ∈ nms, mg c = some (.ref (ga K c)) ∧ ExcC K (ga K c) ∧ XfC K (ga K c) ∧ (∀ T ∈ nms, PySem.W.kitOne K (.ref (ga K c)) (.ref (ga K T)) = some (c == T)) ∧ PySem.W.kitOne K (.ref (ga K c)) (.type "ValueError") = some true ∧ (∀ f ∈ fl, PySem.W.findIn K (.ref (ga K c)) f = some none) ∧ PySem.W.exmOne K (.ref (ga K c)) (.ref (ga K top)) = some true := fun c hc => by
    have z := List.all_eq_true.mp hb c hc
    obtain ⟨z1, z⟩ := ba z
    obtain ⟨z2, z⟩ := ba z
    obtain ⟨z3, z⟩ := ba z
    obtain ⟨z4, z⟩ := ba z
    obtain ⟨z5, z6⟩ := ba z
    obtain ⟨w1, w2⟩ := excB_ok z2
    exact ⟨PySem.W.mg_of X G (eqO_ok z1), w1, w2, fun T hT => of_decide_eq_true (List.all_eq_true.mp z3 T hT), of_decide_eq_true z4, fun f hf => eqO_ok (List.all_eq_true.mp z5 f hf), of_decide_eq_true z6⟩
  have adr : ∀ c ∈ nms, ∀ D, mg c = some (.ref D) → D = ga K c := fun c hc D e => by
    rw [(one c hc).1] at e
    exact (Value.ref.inj (Option.some.inj e)).symm
  refine ⟨⟨fun c hc => ?_⟩, fun f hf c hc D e => ?_, fun c hc D e => ?_⟩
  · obtain ⟨o1, o2, o3, o4, o5, o6, o7⟩ := one c hc
    exact ⟨_, o1, o2, o3, fun T hT A e => by rw [adr T hT A e]; exact o4 T hT, o5⟩
  · rw [adr c hc D e]; exact (one c hc).2.2.2.2.2.1 f hf
  · rw [adr c hc D e]; exact (one c hc).2.2.2.2.2.2
end
/-! ### the Hook -/
abbrev AlX : Type := Bool × List FnW × List ErrW
/-- what the head looks at -/
structure Plan where
  fa : List Fa
  fn : List DefD
  er : List ErrD
  nms : List Str
  fl : List Str
  top : Str
  file : Str
  blt : List (Str × String)
def Plan.chk (p : Plan) (K : Fg) : Bool := (p.fa.all fun f => f.ok K) && ((p.fn.all fun d => d.ok K) && ((p.er.all fun e => errB K p.file e.x e.fs) && (allB K p.nms p.fl p.top && ((p.blt.all fun b => eqO (PySem.W.nsIn K mainGlobals b.1) (some (some (.builtin b.2)))) && (eqO (PySem.W.nsIn K mainGlobals "super") (some none) && eqO (PySem.W.nsIn K cStatics "thirdparty.any") (some none))))))
def obsX (p : Plan) (K : Fg) : AlX := (p.chk K, p.fn.map fun d => fnW K d.at_, p.er.map fun e => errW K e.x)
def valX (p : Plan) : AlX := (true, p.fn.map DefD.val, p.er.map ErrD.val)
def SaysX (p : Plan) (K : Fg) : Prop := obsX p K = valX p
/-- a list object: left out of the part of the heap that is told (the script is one) -/
def isL (o : Obj) : Bool := match o.data with
  | .seq _ _ => (match o.cls with
    | .type t => decide (t = "list")
    | _ => false)
  | _ => false
def noL (g : Addr → Option Obj) : Addr → Option Obj := fun a => match g a with
  | some o => if isL o = true then none else some o
  | none => none
theorem noL_at {g : Addr → Option Obj} {a : Addr} {o : Obj} (h : noL g a = some o) : g a = some o ∧ isL o = false := by
  unfold noL at h
  cases e : g a with
  | none => rw [e] at h; cases h
  | some o2 =>
    rw [e] at h
    dsimp only at h
    cases z : isL o2 with
    | true => rw [z, if_pos rfl] at h; cases h
    | false => rw [z, if_neg Bool.false_ne_true] at h; cases h; exact ⟨rfl, z⟩
def NoL (K : Fg) : Prop := ∀ (a : Addr) (o : Obj), K.lookup a = some o → isL o = false
theorem NoL.sq {K : Fg} (n : NoL K) {H : Hp} {a : Addr} {xs : List V} (h : SqL K H a xs) : Rd H a (.lst xs) := by
  rcases h with h | ⟨o, its, k, e1, e2, e3, e4, _⟩
  · exact h
  · have z := n a o e1
    unfold isL at z
    rw [e4, e2] at z
    have z2 : decide (("list" : String) = "list") = false := z
    rw [decide_eq_true rfl] at z2
    cases z2
def obsXG (n : Nat) (p : Plan) (g : Addr → Option Obj) : AlX := obsX p (frG (noL g) (asX (noL g) n))
def hookX (n : Nat) (p : Plan) : PySem.W.Hook where
  α := AlX
  obs := fun s => obsXG n p s.heap.get?
  val := fun _ => valX p
  says := fun _ h => ∃ K : Fg, K.In h ∧ SaysX p K ∧ NoL K
  of := fun _ _ e => ⟨_, fun _ _ z => (noL_at (frG_at _ z)).1, e, fun _ _ z => (noL_at (frG_at _ z)).2⟩
  keeps := fun _ _ _ ⟨K, hK, c, n⟩ k => ⟨K, PySem.W.Frag.In.keeps hK k, c, n⟩
theorem obsXG_eq {n : Nat} {p : Plan} {g : Addr → Option Obj} {s : Shared} (h : ∀ a, g a = s.heap.get? a) : obsXG n p g = (hookX n p).obs s := by
  have e : g = s.heap.get? := funext h
  rw [e] <;> rfl
section
variable {p : Plan} {K : Fg}
theorem SaysX.chk (c : SaysX p K) : p.chk K = true := congrArg (fun z : AlX => z.1) c
theorem SaysX.fact (c : SaysX p K) (i : Nat) {f : Fa} (h : p.fa[i]? = some f := by rfl) : f.ok K = true := List.all_eq_true.mp (ba c.chk).1 f (List.mem_of_getElem? h)
theorem SaysX.def_ (c : SaysX p K) (i : Nat) {d : DefD} (h : p.fn[i]? = some d := by rfl) : ∃ fd, FunD K d.name d.qual d.params d.body d.scope (d.dvs K) (d.kws K) (fAd K d.at_) fd := by
  have c2 := (ba (ba c.chk).2).1
  have e : p.fn.map (fun d => fnW K d.at_) = p.fn.map DefD.val := congrArg (fun z : AlX => z.2.1) c
  have e2 : (p.fn.map fun d => fnW K d.at_)[i]? = (p.fn.map DefD.val)[i]? := by rw [e]
  rw [List.getElem?_map, List.getElem?_map, h] at e2
  exact DefD.funD (Option.some.inj e2) (List.all_eq_true.mp c2 d (List.mem_of_getElem? h))
theorem SaysX.err {prog : Program} {mg : Str → Option Value} {h : Heap} (c : SaysX p K) (X : K.In h) (G : h.Ns mainGlobals mg) (hfile : p.file = prog.main.file) (htop : (prog.main.scope.names.lookup ("super" : Str)).isSome = false) (i : Nat) {e : ErrD} (T : InitT e) (he : p.er[i]? = some e := by rfl) :
    FxEr.Txt prog K mg e.x (ga K e.x) (iAd K e.x) e.fs := by
  obtain ⟨k1, c2⟩ := ba (ba (ba c.chk).2).2
  obtain ⟨k2, c2⟩ := ba c2
  obtain ⟨k3, c2⟩ := ba c2
  obtain ⟨k4, k5⟩ := ba c2
  have ee : p.er.map (fun e => errW K e.x) = p.er.map ErrD.val := congrArg (fun z : AlX => z.2.2) c
  have e2 : (p.er.map fun e => errW K e.x)[i]? = (p.er.map ErrD.val)[i]? := by rw [ee]
  rw [List.getElem?_map, List.getElem?_map, he] at e2
  have b := List.all_eq_true.mp k1 e (List.mem_of_getElem? he)
  rw [hfile] at b
  exact err_ok X G b (Option.some.inj e2) T (eqO_ok k4) (eqO_ok k5) htop
theorem SaysX.all {mg : Str → Option Value} {h : Heap} (c : SaysX p K) (X : K.In h) (G : h.Ns mainGlobals mg) : Fx.ErrK K mg p.nms ∧ (∀ f ∈ p.fl, ∀ c ∈ p.nms, ∀ D, mg c = some (.ref D) → PySem.W.findIn K (.ref D) f = some none) ∧ ∀ c ∈ p.nms, ∀ D, mg c = some (.ref D) → PySem.W.exmOne K (.ref D) (.ref (ga K p.top)) = some true :=
  all_ok X G (ba (ba (ba (ba c.chk).2).2).2).1
theorem SaysX.blt {mg : Str → Option Value} {h : Heap} (c : SaysX p K) (X : K.In h) (G : h.Ns mainGlobals mg) (i : Nat) {b : Str × String} (hb : p.blt[i]? = some b := by rfl) : mg b.1 = some (.builtin b.2) :=
  PySem.W.mg_of X G (eqO_ok (List.all_eq_true.mp (ba (ba (ba (ba (ba c.chk).2).2).2).2).1 b (List.mem_of_getElem? hb)))
end
/-- the classes have no such name -/
theorem na_cons {K : Fg} {mg : Str → Option Value} {c f : Str} {cs : List Str} {C : Addr} (h1 : mg c = some (.ref C)) (h2 : NoAttr K C f) (h3 : ∀ c ∈ cs, ∀ C, mg c = some (.ref C) → NoAttr K C f) : ∀ c' ∈ (c :: cs), ∀ C, mg c' = some (.ref C) → NoAttr K C f := fun c' hc C' e => by
  rcases List.mem_cons.mp hc with rfl | hc
  · rw [h1] at e
    rw [← Value.ref.inj (Option.some.inj e)]
    exact h2
  · exact h3 c' hc C' e
def Plan.c1 (p : Plan) (K : Fg) : Bool := (p.fa.all fun f => f.ok K) && (p.fn.all fun d => d.ok K)
def Plan.c2 (p : Plan) (K : Fg) : Bool := (p.er.all fun e => errB K p.file e.x e.fs) && (allB K p.nms p.fl p.top && ((p.blt.all fun b => eqO (PySem.W.nsIn K mainGlobals b.1) (some (some (.builtin b.2)))) && (eqO (PySem.W.nsIn K mainGlobals "super") (some none) && eqO (PySem.W.nsIn K cStatics "thirdparty.any") (some none))))
theorem chk_of {p : Plan} {K : Fg} (h1 : p.c1 K = true) (h2 : p.c2 K = true) : p.chk K = true := by
  obtain ⟨a, b⟩ := Bool.and_eq_true_iff.mp h1
  unfold Plan.c2 at h2
  unfold Plan.chk
  rw [a, b, h2]
  rfl
/-- what is seen of one run, from several -/
theorem six {p : Plan} {α A B : Type} {o : Option α} {kf : α → Fg} {f : α → A} {g : α → B} {a : A} {b : B} (h1 : o.map f = some a) (h2 : o.map g = some b) (h3 : o.map (fun x => p.c1 (kf x)) = some true) (h4 : o.map (fun x => p.c2 (kf x)) = some true)
    (h5 : o.map (fun x => p.fn.map fun d => fnW (kf x) d.at_) = some (p.fn.map DefD.val)) (h6 : o.map (fun x => p.er.map fun e => errW (kf x) e.x) = some (p.er.map ErrD.val)) : o.map (fun x => (f x, g x, obsX p (kf x))) = some (a, b, valX p) := by
  cases o with
  | none => cases h1
  | some x =>
    have k1 := Option.some.inj h1
    have k2 := Option.some.inj h2
    have k3 := Option.some.inj h3
    have k4 := Option.some.inj h4
    have k5 := Option.some.inj h5
    have k6 := Option.some.inj h6
    exact congrArg some (Prod.ext k1 (Prod.ext k2 (Prod.ext (chk_of k3 k4) (Prod.ext k5 k6))))
end FxHd

-- Kk02
set_option Elab.async false
set_option linter.all false
set_option maxRecDepth 100000
set_option maxHeartbeats 0
namespace G
open PySem PySem.Spec PyProof.Rows L2 Fx
def top (i : Nat) : Stmt := PySem.Challenge.pw_coinholes_k02_rests_are_least.main.body.getD i (.Pass ⟨0, 0, 0, 0⟩)
def cbody : Stmt → List Stmt
  | .ClassDef (body := b) .. => b
  | _ => []
def mth (i j : Nat) : Stmt := (cbody (top i)).getD j (.Pass ⟨0, 0, 0, 0⟩)
def nms : List Str := ["SizeError", "NumberError", "WideError", "TooMany", "FewCoins", "GrainError", "FlatError", "CrossError", "RowError", "NotMade", "NoCoin", "CoprimeError", "PlaceError", "WayError", "TradeError", "OtherLot", "HoleError", "PointError", "TextError", "EditError", "HistoryError"]
def ini (i : Nat) : Stmt := (cbody (top i)).getD 0 (.Pass ⟨0, 0, 0, 0⟩)
def er_NotMade : FxHd.ErrD := ⟨"NotMade", "NotMade.__init__", ini 13, ["number"]⟩
def er_NumberError : FxHd.ErrD := ⟨"NumberError", "NumberError.__init__", ini 5, ["number"]⟩
def er_SizeError : FxHd.ErrD := ⟨"SizeError", "SizeError.__init__", ini 4, ["count"]⟩
def er_WideError : FxHd.ErrD := ⟨"WideError", "WideError.__init__", ini 6, ["number"]⟩
def dd_u_wall_ : He.DefD := ⟨("_wall", none), "_wall", "_wall", defArgs (top 1), defBody (top 1), defScope (top 1), [], []⟩
def dd_in_table_ : He.DefD := ⟨("in_table", none), "in_table", "in_table", defArgs (top 26), defBody (top 26), defScope (top 26), [], []⟩
def dd_put_coin_ : He.DefD := ⟨("put_coin", none), "put_coin", "put_coin", defArgs (top 27), defBody (top 27), defScope (top 27), [], []⟩
def dd_table_of_ : He.DefD := ⟨("table_of", none), "table_of", "table_of", defArgs (top 28), defBody (top 28), defScope (top 28), [], []⟩
def dd_look_number_ : He.DefD := ⟨("look_number", none), "look_number", "look_number", defArgs (top 32), defBody (top 32), defScope (top 32), [], []⟩
def dd_look_far_ : He.DefD := ⟨("look_far", none), "look_far", "look_far", defArgs (top 33), defBody (top 33), defScope (top 33), [], []⟩
def dd_look_list_ : He.DefD := ⟨("look_list", none), "look_list", "look_list", defArgs (top 34), defBody (top 34), defScope (top 34), [], []⟩
def dd_look_numbers_ : He.DefD := ⟨("look_numbers", none), "look_numbers", "look_numbers", defArgs (top 35), defBody (top 35), defScope (top 35), [], []⟩
def dd_Lot_has_ : He.DefD := ⟨("Lot", some "has"), "has", "Lot.has", defArgs (mth 43 2), defBody (mth 43 2), defScope (mth 43 2), [], []⟩
def dd_rest_table_ : He.DefD := ⟨("rest_table", none), "rest_table", "rest_table", defArgs (top 37), defBody (top 37), defScope (top 37), [], []⟩
def dd_gcd_of_ : He.DefD := ⟨("gcd_of", none), "gcd_of", "gcd_of", defArgs (top 41), defBody (top 41), defScope (top 41), [], []⟩
def dd_Lot___init___ : He.DefD := ⟨("Lot", some "__init__"), "__init__", "Lot.__init__", defArgs (mth 43 0), defBody (mth 43 0), defScope (mth 43 0), [], []⟩
def dd_u_law_int_ : He.DefD := ⟨("_law_int", none), "_law_int", "_law_int", defArgs (top 45), defBody (top 45), defScope (top 45), [], []⟩
def dd_u_law_draw_ : He.DefD := ⟨("_law_draw", none), "_law_draw", "_law_draw", defArgs (top 46), defBody (top 46), defScope (top 46), [], []⟩
def dd_u_law_error_ : He.DefD := ⟨("_law_error", none), "_law_error", "_law_error", defArgs (top 47), defBody (top 47), defScope (top 47), [], []⟩
def dd_u_law_told_ : He.DefD := ⟨("_law_told", none), "_law_told", "_law_told", defArgs (top 48), defBody (top 48), defScope (top 48), [], []⟩
def dd_u_law_unlike_ : He.DefD := ⟨("_law_unlike", none), "_law_unlike", "_law_unlike", defArgs (top 49), defBody (top 49), defScope (top 49), [], []⟩
def dd_u_law_table_ : He.DefD := ⟨("_law_table", none), "_law_table", "_law_table", defArgs (top 50), defBody (top 50), defScope (top 50), [], []⟩
def dd_u_law_sieve_ : He.DefD := ⟨("_law_sieve", none), "_law_sieve", "_law_sieve", defArgs (top 51), defBody (top 51), defScope (top 51), [], []⟩
def dd_u_law_list_ : He.DefD := ⟨("_law_list", none), "_law_list", "_law_list", defArgs (top 52), defBody (top 52), defScope (top 52), [], []⟩
def dd_u_law_great_ : He.DefD := ⟨("_law_great", none), "_law_great", "_law_great", defArgs (top 53), defBody (top 53), defScope (top 53), [], []⟩
def dd_u_law_refusal_ : He.DefD := ⟨("_law_refusal", none), "_law_refusal", "_law_refusal", defArgs (top 54), defBody (top 54), defScope (top 54), [], []⟩
def dd_u_law_rests_ : He.DefD := ⟨("_law_rests", none), "_law_rests", "_law_rests", defArgs (top 55), defBody (top 55), defScope (top 55), [], []⟩
def dd_u_law_ask_ : He.DefD := ⟨("_law_ask", none), "_law_ask", "_law_ask", defArgs (top 56), defBody (top 56), defScope (top 56), [], []⟩
def dd_u_law_entry_ : He.DefD := ⟨("_law_entry", none), "_law_entry", "_law_entry", defArgs (top 57), defBody (top 57), defScope (top 57), [], []⟩
def dd_u_law_right_ : He.DefD := ⟨("_law_right", none), "_law_right", "_law_right", defArgs (top 58), defBody (top 58), defScope (top 58), [], []⟩
def dd_u_law_moduli_ : He.DefD := ⟨("_law_moduli", none), "_law_moduli", "_law_moduli", defArgs (top 59), defBody (top 59), defScope (top 59), [], []⟩
def dd_law_ : He.DefD := ⟨("law", none), "law", "law", defArgs (top 60), defBody (top 60), defScope (top 60), [], []⟩
def plan : FxHd.Plan := { fa := [.glo "_wall", .glo "in_table", .glo "put_coin", .glo "table_of", .glo "look_number", .glo "look_far", .glo "look_list", .glo "look_numbers", .glo "Lot", .glo "rest_table", .glo "gcd_of", .glo "Lot", .glo "_law_int", .glo "_law_draw", .glo "_law_error", .glo "_law_told", .glo "_law_unlike", .glo "_law_table", .glo "_law_sieve", .glo "_law_list", .glo "_law_great", .glo "_law_refusal", .glo "_law_rests", .glo "_law_ask", .glo "_law_entry", .glo "_law_right", .glo "_law_moduli", .glo "law", .free "ValueError", .free "bool", .free "divmod", .free "int", .free "isinstance", .free "len", .free "list", .free "max", .free "min", .free "range", .free "set", .free "sorted", .free "tuple", .int "FAR" 10000000000000000000000000000000000000000, .int "COIN" 1000000000000, .glo "CoinError", .glo "Lot", .cls "Lot", .mkr "Lot", .meth "Lot" "has", .noat "Lot" "coins", .noat "Lot" "size", .noat "Lot" "grain", .noat "Lot" "least", .noat "Lot" "greatest", .noat "Lot" "_table"], fn := [dd_u_wall_, dd_in_table_, dd_put_coin_, dd_table_of_, dd_look_number_, dd_look_far_, dd_look_list_, dd_look_numbers_, dd_Lot_has_, dd_rest_table_, dd_gcd_of_, dd_Lot___init___, dd_u_law_int_, dd_u_law_draw_, dd_u_law_error_, dd_u_law_told_, dd_u_law_unlike_, dd_u_law_table_, dd_u_law_sieve_, dd_u_law_list_, dd_u_law_great_, dd_u_law_refusal_, dd_u_law_rests_, dd_u_law_ask_, dd_u_law_entry_, dd_u_law_right_, dd_u_law_moduli_, dd_law_], er := [er_NotMade, er_NumberError, er_SizeError, er_WideError], nms := nms, fl := ["at", "count", "first", "grain", "limit", "line", "number", "second"], top := "CoinError", file := PySem.Challenge.pw_coinholes_k02_rests_are_least.main.file, blt := [("gcd", "math.gcd")] }
abbrev hk : PySem.W.Hook := FxHd.hookX 4 plan
end G

-- Rk02
set_option Elab.async false
set_option linter.all false
set_option maxRecDepth 100000
set_option maxHeartbeats 0
namespace G
open PySem PySem.Spec PyProof.Rows L2 Fx
abbrev RR : PySem.W.OpenRow := PySem.W.OpenLaw.row PySem.Challenge.rw_coinholes_k02_rests_are_least
abbrev qv : Program := PySem.W.view RR.prog [0, 60]
def loose : List PySem.Str := (["_wall", "CoinError", "SizeError", "NumberError", "WideError", "TooMany", "FewCoins", "GrainError", "FlatError", "CrossError", "RowError", "NotMade", "NoCoin", "CoprimeError", "PlaceError", "WayError", "TradeError", "OtherLot", "HoleError", "PointError", "TextError", "EditError", "HistoryError", "in_table", "put_coin", "table_of", "FAR", "COIN", "look_number", "look_far"] : List PySem.Str) ++ (["look_list", "look_numbers", "rest_table", "Makers", "gcd_of", "Lot", "_law_int", "_law_draw", "_law_error", "_law_told", "_law_unlike", "_law_table", "_law_sieve", "_law_list", "_law_great", "_law_refusal", "_law_rests", "_law_ask", "_law_entry", "_law_right", "_law_moduli"] : List PySem.Str)
def ob (s : PySem.W.SharedT) : FxHd.AlX := FxHd.obsXG 4 plan (HandSHeadRun.getT s)
theorem ob_eq (s : PySem.W.SharedT) : ob s = hk.obs s.abs := FxHd.obsXG_eq (HandSHeadRun.getT_eq s)
noncomputable abbrev whole (w : World) : Option (Shared × PySem.W.SharedT) := HandSHeadRun.wholeF (fun p => HandSHeadRun.stepQ (HandSHeadRun.denQ HandSHeadRun.tabQ) p w) HandSHeadRun.fenceQ 20000 RR.prog
abbrev kf (x : Shared × PySem.W.SharedT) : FxHd.Fg := He.frG (FxHd.noL (HandSHeadRun.getT x.2)) (FxHd.asX (FxHd.noL (HandSHeadRun.getT x.2)) 4)
theorem run_a (w : World) : (whole w).map (fun x => HandSHeadRun.looksF RR.prog x.1.heap x.2.abs) = some true := by
  kernel_rfl
theorem run_b (w : World) : (whole w).map (fun x => HandSHeadRun.seenQ qv loose (PySem.importedModules RR.prog.main.body) (fun s => PySem.W.xlAt qv [] s && PySem.W.recOk RR.toRowW.records s) x.2.abs) = some (PySem.W.openGood qv loose) := by
  kernel_rfl
theorem run_c (w : World) : (whole w).map (fun x => plan.c1 (kf x)) = some true := by
  kernel_rfl
theorem run_d (w : World) : (whole w).map (fun x => plan.c2 (kf x)) = some true := by
  kernel_rfl
theorem run_e (w : World) : (whole w).map (fun x => plan.fn.map fun d => He.fnW (kf x) d.at_) = some (plan.fn.map He.DefD.val) := by
  kernel_rfl
theorem run_f (w : World) : (whole w).map (fun x => plan.er.map fun e => FxHd.errW (kf x) e.x) = some (plan.er.map FxHd.ErrD.val) := by
  kernel_rfl
theorem run (w : World) : HandSHeadRun.RunEqI RR qv hk ob 20000 loose w := FxHd.six (kf := kf) (run_a w) (run_b w) (run_c w) (run_d w) (run_e w) (run_f w)
end G

-- Fx7
set_option Elab.async false
set_option linter.all false
set_option maxRecDepth 100000
set_option maxHeartbeats 2000000
/-! Fx7: try, except suites; defs called there. -/
namespace Fx
open PySem PySem.Spec PyProof.Rows L2

/-! ### statements, canonical readings -/
def canS (S : Sig) (W : WX) (fr : Fk) (m : MS) : TS := fun E σ H => ∃ B G ρ, (∀ P, Sts S P B G ρ σ H) ∧ (∀ P, PostS S P W fr B G H E (m ρ))
theorem RSs.can {X : Cx} {W : WX} {fr : Fk} {st : List Stmt} {m : MS} (h : RSs X W fr st m) : PSs X st (canS (sg X) W fr m) := by
  obtain ⟨t, a, b⟩ := h.ex
  exact ⟨fun pins s σ H E I ⟨B, G, ρ, J, k⟩ => a.run pins s σ H E I (b B G ρ σ H E (J _) (k _))⟩
/-- .. within a suite: at a the caught exception -/
def canX (S : Sig) (fr : Fk) (m : MS) (a : Addr) (cls : Value) (d : Option Addr) : TS := fun E σ H => ∃ B G ρ, (∀ P : PX, P a cls d → Sts S P B G ρ σ H) ∧ (∀ P, PostS S P noX fr B G H E (m ρ))
theorem RSs.canX {X : Cx} {fr : Fk} {st : List Stmt} {m : MS} {a : Addr} {cls : Value} {d : Option Addr} (h : RSs X noX fr st m) (hp : pp X a cls d) : PSs X st (Fx.canX (sg X) fr m a cls d) := by
  obtain ⟨t, x, b⟩ := h.ex
  exact ⟨fun pins s σ H E I ⟨B, G, ρ, J, k⟩ => x.run pins s σ H E I (b B G ρ σ H E (J _ hp) (k _))⟩
theorem Sts.setExc {S : Sig} {P : PX} {B : Bs} {G : Addr → Bool} {ρ : Env} {σ : L2.St} {H : Hp} {i : Nat} {x : Exn} {a : Addr} {cls : Value} {dd : Option Addr} (I : Sts S P B G ρ σ H) (hp : P a cls dd) (r : RepX S (hid H G) cls dd x) : Sts S P B G (ρ.set i (.exc x)) (σ.set i (some (.ref a))) H := by
  have I0 : Sts S P B G (ρ.set i .no) (σ.set i (some (.ref a))) H := I.setNo
  have back : ∀ {j : Nat} {s : Sl}, (ρ.set i (.exc x))[j]? = some s → (∀ y, s ≠ .exc y) → (ρ.set i .no)[j]? = some s := fun {j s} h n => by
    by_cases q : j = i
    · subst q
      have hl : j < ρ.length := by
        have := (List.getElem?_eq_some_iff.mp h).1
        rwa [List.length_set] at this
      rw [List.getElem?_set_self hl] at h
      exact absurd (Option.some.inj h).symm (n x)
    · rw [List.getElem?_set_ne (Ne.symm q)] at h ⊢
      exact h
  refine ⟨I0.ex, I0.bg, I0.gb, I0.gm, by rw [List.length_set, List.length_set, I.len], fun j d h => I0.val j d (back h (fun y z => by cases z)), fun j s h o => I0.own j s (back h (ne_exc_own o)) o, fun j k s t p h1 h2 o1 o2 => I0.sep j k s t p (back h1 (ne_exc_own o1)) (back h2 (ne_exc_own o2)) o1 o2, fun j y h => ?_, I.bx.put (fun _ h => by cases h) (fun _ _ h => by cases h) rfl set_off⟩
  by_cases q : j = i
  · subst q
    have hl : j < ρ.length := by
      have := (List.getElem?_eq_some_iff.mp h).1
      rwa [List.length_set] at this
    rw [List.getElem?_set_self hl] at h
    cases h
    exact ⟨a, cls, dd, by rw [List.getElem?_set_self (I.len ▸ hl)], hp, r⟩
  · rw [List.getElem?_set_ne (Ne.symm q)] at h
    obtain ⟨a', c', d', h1, h2, h3⟩ := I.exc j y h
    exact ⟨a', c', d', by rw [List.getElem?_set_ne (Ne.symm q)]; exact h1, h2, h3⟩

/-! ### try -/
def mTry (nms : List Str) (i : Nat) (mb ms : MS) : MS := fun ρ => match mb (noExc ρ) with
  | .nx ρ' => .nx (noExc ρ')
  | .rt d => .rt d
  | .bk ρ' => .bk (noExc ρ')
  | .ct ρ' => .ct (noExc ρ')
  | .err x ρ' => if nms.contains x.c then (match ms ((noExc ρ').set i (.exc x)) with
      | .nx ρ' => .nx (noExc (ρ'.set i .no))
      | .rt d => .rt d
      | .bk ρ' => .bk (noExc (ρ'.set i .no))
      | .ct ρ' => .ct (noExc (ρ'.set i .no))
      | _ => .bad) else .bad
  | .bad => .bad
section
variable {X : Cx} {W : WX} {fr : Fk} {nms : List Str} {i : Nat} {x n : Str} {body suite : List Stmt} {b₀ : Stmt} {np pos pos' : Pos} {mb ms : MS} {c : Value}
/-- try: body / except x as n: suite -/
theorem rs_try (hs : X.stack = X.env :: X.outer) (hf : X.env.frame = some X.env.locals) (hN : X.N.Nodup) (hi : X.N[i]? = some n) (hln : X.env.kindOf n = some .local) (hc : Names X x c) (tk : L2N.Takes X W)
    (hex : ∀ cn ∈ nms, ∀ D, X.mg cn = some (.ref D) → PySem.W.exmOne X.K (.ref D) c = some true)
    (hb : ∀ (W : WX) (pn : List (Addr × Obj)) (xe : Value → Shared → Prop), L2N.Takes (X.tr pn xe) W → PassesOwn (model X.prog X.w) X.A X.env xe → RSs (X.tr pn xe) W fr body mb)
    (hsu : ∀ (a : Addr) (oe : Obj) (cls : Value) (d : Option Addr) (pn : List (Addr × Obj)), L2N.Zn cls d oe → (∃ vs, oe.data = .fields vs) → RSs (X.suite a ((a, oe) :: pn)) noX fr (b₀ :: suite) ms) :
    RS X W fr (.Try body [.ExceptHandler (some (.Name x np)) (some n) (b₀ :: suite) pos'] [] [] pos) (mTry nms i mb ms) := by
  refine ⟨_, L2N.ps_try_as (tb := fun W => canS (sg X) W fr mb) (ts := canX (sg X) fr ms) hs hf hN hi hln hc tk (fun W pn xe t p => (hb W pn xe t p).can) (fun a oe cls d pn hz hv => (hsu a oe cls d pn hz hv).canX ⟨oe, by simp, hz.1, hz.2.1, hv⟩), fun B G ρ σ H E I h => ?_⟩
  unfold mTry at h
  refine ⟨B, G, noExc ρ, fun P => I.noX, fun P => ?_⟩
  cases q : mb (noExc ρ) with
  | nx ρ' => rw [q] at h; exact fun G' σ' H' I' f => h G' σ' H' I'.noX f
  | rt d => rw [q] at h; exact h
  | bk ρ' => rw [q] at h; exact fun G' σ' H' I' f => h G' σ' H' I'.noX f
  | ct ρ' => rw [q] at h; exact fun G' σ' H' I' f => h G' σ' H' I'.noX f
  | bad => rw [q] at h; exact h
  | err y ρ' =>
    rw [q] at h
    dsimp only at h
    by_cases z : nms.contains y.c = true
    · rw [if_pos z] at h
      intro cls dd G' σ' H' I' f rx
      obtain ⟨C, c1, c2, c3⟩ := id rx
      subst c1
      refine ⟨true, hex y.c (by simpa using z) C c2, fun _ a na => ?_, fun e => by cases e⟩
      refine ⟨B, G', (noExc ρ').set i (.exc y), fun P hp => I'.noX.setExc hp rx, fun P => ?_⟩
      cases q2 : ms ((noExc ρ').set i (.exc y)) with
      | nx ρ2 => rw [q2] at h; exact fun G2 σ2 H2 I2 f2 => h G2 _ H2 (I2.setNo.noX) (f.trans f2)
      | rt d => rw [q2] at h; exact h
      | bk ρ2 => rw [q2] at h; exact fun G2 σ2 H2 I2 f2 => h G2 _ H2 (I2.setNo.noX) (f.trans f2)
      | ct ρ2 => rw [q2] at h; exact fun G2 σ2 H2 I2 f2 => h G2 _ H2 (I2.setNo.noX) (f.trans f2)
      | err y ρ2 => rw [q2] at h; exact h.elim
      | bad => rw [q2] at h; exact h
    · rw [if_neg z] at h
      exact h.elim
end

/-! ### defs that are called within a suite -/
structure FnP (P : Program) (w : World) (K : PySem.W.Frag) (mg : Str → Option Value) (base : Heap) (CX : CXT) (k : Nat) (f : Addr) (fd : FuncData) (ps : List Str) (sp : Addr × Obj → Sp) : Prop where
  len : ∀ p vs H Q E, sp p vs H Q E → vs.length = ps.length
  run : ∀ (A : Around) (outer : List PySem.Env) (s : Shared) (H : Hp) (args : Args) (us : List Value) (vs : List V) (Q : VK) (E : XK) (p : Addr × Obj), L2H.RoomH k A → L2H.Hot1 A p → L2H.PinOk outer H s p → Env0 P w K mg base A outer s H → BindsTo s fd args (ps.zip us) → Vals vs us → sp p vs H Q E →
    codeAny (model P w) A (.call (.ref f) args) (CR CX outer P w H s Q E) s
theorem fn_ofP {CX : CXT} {P : Program} {w : World} {K : PySem.W.Frag} {mg : Str → Option Value} {base : Heap} {k : Nat} {f : Addr} {name qual : Str} {params : Arguments} {body : List Stmt} {scope : Scope} {dV kV doc pm cdv ct oc : Value} {an od : Option Addr}
    {osl : Array (Option Value)} {N ps : List Str} {sp : Addr × Obj → Sp} (lk : K.lookup f = some ⟨oc, od, .func (PySem.W.fnOf name qual params body scope dV kV doc pm an cdv ct), osl⟩) (hcd : PySem.W.codeIn K cdv qual = true) (S : FnScope N ps scope)
    (len : ∀ p vs H Q E, sp p vs H Q E → vs.length = ps.length)
    (hbody : ∀ (A : Around) (outer : List PySem.Env) (s : Shared) (H : Hp) (vs : List V) (Q : VK) (E : XK) (p : Addr × Obj), L2H.Hot1 A p → L2H.RoomH k (A.deeper (envOfC qual scope s.heap.objs.size f cdv)) → sp p vs H Q E →
      ∃ t, PSs (L2H.cxH CX P w K mg base N qual scope f cdv A outer s H E p) body t ∧ t { nx := fun _ H' => Q .non H', rt := Q } (L2.start N vs) H) :
    FnP P w K mg base CX (k + 1) f (PySem.W.fnOf name qual params body scope dV kV doc pm an cdv ct) ps sp := by
  refine ⟨len, fun A outer s H args us vs Q E p hr hot hpin e0 hb r hsp => ?_⟩
  have KX : K.In s.heap := e0.mod.kin.keeps fun b o e => (e0.bs b o e).1
  have lim : s.heap.NoLimit := e0.mod.nolimit.keeps fun b o e => (e0.bs b o e).1
  refine codeAny_call_function hr.depth (KX _ _ lk) rfl S.co S.gen rfl (PySem.W.codeRec_of KX hcd) (hb _ _ _ _ ?_)
  refine wpAny_newFunctionEnv_cells S.kind (fun ⟨n, v⟩ hy => (S.par n (List.of_mem_zip hy).1).imp id fun q => ⟨q, PySem.W.cellsFrom_some _ _ _ (.inl q)⟩) fun env he s1 x => ?_
  subst he
  obtain ⟨t, ht, hq⟩ := hbody A outer s H vs Q E p hot (hr.deeper _) hsp
  refine ⟨lim.keeps x.toInCall.keep, codeAny_func (wpAny_mono (ht.run [] s1 (L2.start N vs) H _ (L2H.inv_startH S hpin e0 (len _ _ _ _ _ hsp) r x) hq) (fun fl s' hs => ?_) fun e s' hs => hs)⟩
  cases fl with
  | ret u =>
    obtain ⟨v, σ', H', J, rv, q⟩ := hs
    exact ⟨v, H', J.os, J.bare, J.base, J.hok, rv, q⟩
  | next =>
    obtain ⟨σ', H', J, q⟩ := hs
    exact ⟨V.non, H', J.os, J.bare, J.base, J.hok, rfl, q⟩
  | brk =>
    obtain ⟨_, _, _, q⟩ := hs
    exact False.elim q
  | cont =>
    obtain ⟨_, _, _, q⟩ := hs
    exact False.elim q
section
variable {X : Cx} {CX : CXT} {k : Nat} {f : Addr} {fd : FuncData} {ps : List Str} {sp : Addr × Obj → Sp} {E : L2.St → XK} {x : Str} {q pos : Pos} {e : Expr} {es : List Expr} {ta : TA} {pr : Addr × Obj}
theorem pe_callP (F : FnP X.prog X.w X.K X.mg X.base CX k f fd ps sp) (hr : L2H.RoomH k X.A) (hot : L2H.Hot1 X.A pr) (hp : pr ∈ X.pn) (hg : Gl X x) (hm : X.mg x = some (.ref f)) (hk : PySem.W.keepIn X.K (.ref f) = true) (hb : Binds X.K fd ps []) (hx : ∀ σ, PassesAt CX X σ (E σ))
    (ha : PA X (e :: es) ta) (hdb : (x == ("__debug__" : Str)) = false := by decide) (he : starEach (e :: es) X.env = (false, eval e X.env) :: starEach es X.env := by rfl) (hpl : (backTo pos (starEach es X.env)).any (·.1) = false := by rfl) :
    PE X (.Call (.Name x q) (e :: es) [] pos) (tCallS (sp pr) E ta) := by
  refine ⟨fun pins s σ H Q I h => ?_⟩
  refine wpAny_Call_Name_kw (ld_glob I hg hm ?_ hdb)
  refine PySem.W.callWith_K (h₀ := X.base) I.ok.mod.kin hk (thn (ha.run pos pins s σ H _ I h) fun us s1 ⟨vs, H1, I1, r, q⟩ => ⟨I1.kIn, ?_⟩) he hpl
  have b := hb s1 us I1.kIn (by rw [List.append_nil, ← r.length]; exact F.len _ _ _ _ _ q)
  rw [List.append_nil] at b
  have P1 := I1.pin pr (List.mem_append_left _ hp)
  refine wpAny_call (codeAny_mono (F.run X.A X.stack s1 H1 ⟨us, []⟩ us vs Q (E σ) pr hr hot ⟨P1.1, P1.2.1, fun hm => (List.mem_cons.mp (I1.stkSub pr.1 hm)).elim P1.2.2.1 P1.2.2.2.1, P1.2.2.2.2⟩ I1.env0 b r q) fun r s' hq => ?_)
  cases r with
  | error e => exact hx σ pins H1 s1 e s' I1 hq
  | ok fl =>
    cases fl with
    | ret u => exact I1.after hq
    | next => exact False.elim hq
    | brk => exact False.elim hq
    | cont => exact False.elim hq
end
/-- the promise of a def that takes the caught exception -/
def spX (S : Sig) (mf : Exn → R D) (p : Addr × Obj) : Sp := fun vs H Q E => vs = [.ref p.1] ∧ ∃ (G : Addr → Bool) (x : Exn), (∀ a, G a = true → MutO (H a)) ∧ RepX S (hid H G) p.2.cls p.2.dict x ∧ (∃ vs, p.2.data = .fields vs) ∧ ∃ d, mf x = .ok d ∧ ∀ v H', Ex H H' → Rep S (hid H' G) v d → Q v H'
/-- the slots at its entry -/
def entX (N : Nat) (x : Exn) : Env := .exc x :: List.replicate (N - 1) .no
def mfnX (N : Nat) (m : MS) : Exn → R D := fun x => (m (entX N x)).res .val
section
variable {P : Program} {w : World} {K : PySem.W.Frag} {mg : Str → Option Value} {base : Heap} {x qual : Str} {params : Arguments} {body : List Stmt} {scope : Scope} {dvs : List V} {kws : List (Str × V)} {f : Addr} {fd : FuncData}
theorem fx_fnX {N : List Str} {a : Str} {k : Nat} {m : MS} (F : FunD K x qual params body scope dvs kws f fd) (S : FnScope N [a] scope)
    (h : ∀ (cdv : Value) (A : Around) (outer : List PySem.Env) (s : Shared) (H : Hp) (E : XK) (p : Addr × Obj), L2H.Hot1 A p → L2H.RoomH k (A.deeper (envOfC qual scope s.heap.objs.size f cdv)) →
      RSs (L2H.cxH (L2N.CX P w) P w K mg base N qual scope f cdv A outer s H E p) noX .val body m) :
    FnP P w K mg base (L2N.CX P w) (k + 1) f fd [a] (spX ⟨K, mg⟩ (mfnX N.length m)) := by
  obtain ⟨oc, od, dV, kV, doc, pm, an, cdv, ct, osl, rfl, lk, hcd, _, _⟩ := F.ex
  refine fn_ofP lk hcd S (fun p vs H Q E q => by rw [q.1]; rfl) fun A outer s H vs Q E p hot hr hsp => ?_
  obtain ⟨t, h1, h2⟩ := (h cdv A outer s H E p hot hr).ex
  refine ⟨t, h1, ?_⟩
  obtain ⟨hl, G, y, gm, r, hv, d, e1, k1⟩ := hsp
  subst hl
  have I : Sts ⟨K, mg⟩ (pinP [p]) ⟨H, G, 0⟩ G (entX N.length y) (L2.start N [.ref p.1]) H := by
    have I0 : Sts ⟨K, mg⟩ (pinP [p]) ⟨H, G, 0⟩ G ((ent N.length [.non]).set 0 .no) ((L2.start N [.ref p.1]).set 0 (some (.ref p.1))) H := by
      have z := sts_start (S := ⟨K, mg⟩) (P := pinP [p]) (N := N) (H := H) (G := G) (vs := [V.non]) (ds := [D.non]) gm (.cons .non .nil)
      exact z.setNo
    have z := I0.setExc (i := 0) (x := y) (a := p.1) (cls := p.2.cls) (dd := p.2.dict) ⟨p.2, List.mem_cons_self, rfl, rfl, hv⟩ r
    exact z
  unfold mfnX at e1
  refine h2 ⟨H, G, 0⟩ G (entX N.length y) (L2.start N [.ref p.1]) H _ I ?_
  cases q : m (entX N.length y) with
  | nx ρ' =>
    rw [q] at e1
    cases e1
    exact fun G' σ' H' J f => k1 .non H' J.ex .non
  | rt d' => rw [q] at e1; cases e1; exact fun v H' e r => k1 v H' e r
  | _ => rw [q] at e1; cases e1
end
/-- a def that takes the caught exception, by its name -/
structure ClX (P : Program) (w : World) (K : PySem.W.Frag) (mg : Str → Option Value) (base : Heap) (k : Nat) (x : Str) (mf : Exn → R D) : Prop where
  ex : ∃ (f : Addr) (fd : FuncData) (a : Str), FnP P w K mg base (L2N.CX P w) k f fd [a] (spX ⟨K, mg⟩ mf) ∧ mg x = some (.ref f) ∧ PySem.W.keepIn K (.ref f) = true ∧ Binds K fd [a] []
def mDefX (i : Nat) (mf : Exn → R D) : ME := fun ρ => match ρ[i]? with
  | some (.exc x) => (match mf x with
    | .ok d => .ok d
    | _ => .bad)
  | _ => .bad
section
variable {X : Cx} {k j i : Nat} {x e : Str} {mf : Exn → R D} {p p1 pos : Pos} {pr : Addr × Obj}
/-- f(e), within the suite: pr the exception's place -/
theorem re_defX {rest : List (Addr × Obj)} (c : ClX X.prog X.w X.K X.mg X.base k x mf) (hr : L2H.RoomH j X.A) (hk : k ≤ j) (hot : L2H.Hot1 X.A pr) (hp : X.pn = pr :: rest) (hg : Gl X x) (tk : L2N.Takes X noX) (he : PE X (.Name e p1) (tVar i))
    (hdb : (x == ("__debug__" : Str)) = false := by decide) (hs : starEach [.Name e p1] X.env = (false, eval (.Name e p1) X.env) :: starEach [] X.env := by rfl) (hpl : (backTo pos (starEach [] X.env)).any (·.1) = false := by rfl) :
    RE X noX true (.Call (.Name x p) [.Name e p1] [] pos) (mDefX i mf) := by
  obtain ⟨f, fd, a, F, hm, hkp, hb⟩ := c.ex
  refine ⟨_, pe_callP (E := WE noX) F (hr.mono hk) hot (by rw [hp]; exact List.mem_cons_self) hg hm hkp hb (L2N.passAt tk) (pa_cons he pa_nil hs) hdb hs hpl, fun B G ρ σ H Q I nb k ke => ?_⟩
  unfold mDefX at nb k ke
  cases q : ρ[i]? with
  | none => rw [q] at nb; exact absurd rfl nb
  | some s =>
    rw [q] at nb k
    cases s with
    | exc y =>
      dsimp only at nb k
      obtain ⟨a, cls, dd, h1, h2, h3⟩ := I.exc i y q
      obtain ⟨oe, hmem, hc, hd, hv⟩ := h2
      rw [hp] at hmem
      have e : (a, oe) = pr := by simpa using hmem
      subst e
      cases z : mf y with
      | ok d =>
        rw [z] at k
        exact ⟨_, h1, rfl, G, y, I.gm, by rw [hc, hd]; exact h3, hv, d, z, fun v H' x r => k d rfl v H' x r⟩
      | err _ => rw [z] at nb; exact absurd rfl nb
      | bad => rw [z] at nb; exact absurd rfl nb
    | _ => exact absurd rfl nb
theorem hot_suite {A : Around} {a : Addr} {oe : Obj} {cls : Value} {d : Option Addr} (hz : L2N.Zn cls d oe) (hv : ∃ vs, oe.data = .fields vs) : L2H.Hot1 (A.mark (some (.ref a))) (a, oe) := by
  obtain ⟨vs, hv⟩ := hv
  exact ⟨rfl, vs, hv, hz.2.2 vs hv⟩
theorem room_suite {A : Around} {k : Nat} {v : Option Value} (hr : Room k A) : L2H.RoomH k (A.mark v) := ⟨hr.dp, hr.un⟩
theorem takes_suite {X : Cx} {a : Addr} {pn : List (Addr × Obj)} : L2N.Takes (X.suite a pn) noX := fun u s' ⟨a, B, sI, pins, σ, H, cls, d, e, I, nb, up, sky, na, os, ag, w⟩ => w.elim
end
end Fx

-- Fx8
set_option Elab.async false
set_option linter.all false
set_option maxRecDepth 100000
set_option maxHeartbeats 2000000
/-! Fx8: isinstance of data, own dicts, list.count, calls by keywords. -/
namespace Fx
open PySem PySem.Spec PyProof.Rows L2

/-! ### isinstance -/
def tyD : D → Option String
  | .non => some "NoneType" | .bl _ => some "bool" | .int _ => some "int" | .str _ => some "str" | .tup _ => some "tuple" | .lst _ => some "list" | .dic _ _ => some "dict" | .ins _ _ => none | .pool => none
def isiB (a b : String) : Bool := a == b || (a == "bool" && b == "int")
theorem kit_tab : ∀ a ∈ ["NoneType", "bool", "int", "str", "tuple", "list", "dict"], ∀ b ∈ ["int", "bool", "tuple", "list", "str", "dict"], kitB a b = some (isiB a b) := by decide +kernel
theorem tyX_of {S : Sig} {H : Hp} {v : V} {d : D} {t : String} (r : Rep S H v d) (h : tyD d = some t) : TyX S.K H v (.type t) ∧ t ∈ ["NoneType", "bool", "int", "str", "tuple", "list", "dict"] := by
  cases r with
  | non => cases h; exact ⟨.base .non, by decide⟩
  | bl b => cases h; exact ⟨.base (.bl b), by decide⟩
  | int b => cases h; exact ⟨.base (.int b), by decide⟩
  | str b => cases h; exact ⟨.base (.str b), by decide⟩
  | tup e _ _ => cases h; exact ⟨.base (.tup e), by decide⟩
  | lst e _ _ =>
    cases h
    rcases e with e | ⟨o, e⟩
    · exact ⟨.base (.lst e), by decide⟩
    · exact ⟨.base (.frz e), by decide⟩
  | dK e _ _ _ => cases h; exact ⟨.base (.dK e), by decide⟩
  | dT e _ _ _ => cases h; exact ⟨.base (.dT e), by decide⟩
  | ins _ _ _ _ _ _ => cases h
  | pool _ _ _ => cases h
def mIsi (T : String) (m : ME) : ME := fun ρ => (m ρ).bind fun d => match tyD d with
  | some t => .ok (.bl (isiB t T))
  | none => .bad
section
variable {X : Cx} {W : WX} {c c1 c2 : Bool} {a b : Expr} {ma mb mk me : ME} {x : Str} {T : String} {p p2 pos pos' : Pos} {fr : Fk}
theorem re_isi (gI : Gl X "isinstance") (mI : X.mg "isinstance" = none) (gT : Gl X x) (mT : X.mg x = none) (hv : bootBuiltins x = some (.type T)) (hT : T ∈ ["int", "bool", "tuple", "list", "str", "dict"]) (ha : RE X W c a ma) (hn : x ≠ "__name__" := by decide) (hd : (x == ("__debug__" : Str)) = false := by decide)
    (hs : starEach [a, .Name x p2] X.env = (false, eval a X.env) :: starEach [.Name x p2] X.env := by rfl) (hs2 : starEach [.Name x p2] X.env = (false, eval (.Name x p2) X.env) :: starEach [] X.env := by rfl) (hpl : (backTo pos (starEach [.Name x p2] X.env)).any (·.1) = false := by rfl) :
    RE X W true (.Call (.Name "isinstance" p) [a, .Name x p2] [] pos) (mIsi T ma) := by
  obtain ⟨ta, a1, a2⟩ := ha.ex
  refine ⟨_, pe_callB call_isi gI mI PyProof.Rows.Boot.isinstance (pa_cons a1 (pa_cons (pe_bltn (v := .ty T) gT mT hv rfl hn hd) pa_nil hs2) hs) (by decide) (by decide) hs hpl, fun B G ρ σ H Q I nb k ke => ?_⟩
  unfold mIsi at nb k ke
  refine a2 B G ρ σ H _ I (R.bad_bind nb) (fun d e v H' x1 r => ?_) (fun x e => ke x (by rw [e]; rfl))
  rw [e, R.bind_ok] at nb k
  cases q : tyD d with
  | none => rw [q] at nb; exact absurd rfl nb
  | some t =>
    rw [q] at k
    obtain ⟨h1, h2⟩ := tyX_of r.full q
    exact ⟨v, .ty T, .type t, .type T, isiB t T, rfl, .ty T, h1, kit_ty (kit_tab t h2 T hT), k _ rfl _ H' x1 (.bl _)⟩

/-! ### dicts -/
def keyOf : D → Option Key
  | .int i => some (.inl i)
  | .str s => some (.inr s)
  | _ => none
def keysOf : List D → Option (List Key)
  | [] => some []
  | d :: ds => match keyOf d, keysOf ds with
    | some k, some ks => some (k :: ks)
    | _, _ => none
def kOf : D → Option (Key ⊕ List Key)
  | .tup ds => (keysOf ds).map .inr
  | d => (keyOf d).map .inl
def keq (a b : D) : Bool := match kOf a, kOf b with
  | some x, some y => decide (x = y)
  | _, _ => false
theorem keyOf_D (k : Key) : keyOf (keyD k) = some k := by cases k <;> rfl
theorem kOf_K (k : Key) : kOf (keyD k) = some (.inl k) := by cases k <;> rfl
theorem keysOf_D : ∀ ks : List Key, keysOf (ks.map keyD) = some ks
  | [] => rfl
  | k :: ks => by rw [List.map_cons]; unfold keysOf; rw [keyOf_D, keysOf_D ks]
theorem kOf_T (ks : List Key) : kOf (.tup (ks.map keyD)) = some (.inr ks) := by
  show (keysOf (ks.map keyD)).map Sum.inr = _
  rw [keysOf_D]
  rfl
theorem keyOf_is {d : D} {k : Key} (h : keyOf d = some k) : d = keyD k := by
  cases d <;> cases h <;> rfl
theorem keysOf_is : ∀ {ds : List D} {ks : List Key}, keysOf ds = some ks → ds = ks.map keyD
  | [], ks, h => by cases h; rfl
  | d :: ds, ks, h => by
    unfold keysOf at h
    cases e : keyOf d with
    | none => rw [e] at h; cases h
    | some k =>
      cases e2 : keysOf ds with
      | none => rw [e, e2] at h; cases h
      | some ks' =>
        rw [e, e2] at h
        cases h
        rw [List.map_cons, ← keyOf_is e, ← keysOf_is e2]
theorem keq_K (a b : Key) : keq (keyD a) (keyD b) = decide (a = b) := by unfold keq; rw [kOf_K, kOf_K]; simp
theorem keq_T (a b : List Key) : keq (.tup (a.map keyD)) (.tup (b.map keyD)) = decide (a = b) := by unfold keq; rw [kOf_T, kOf_T]; simp
def valD (kvs : List (D × D)) (k : D) : Option D := (kvs.find? fun kv => keq kv.1 k).map (·.2)
def putD (kvs : List (D × D)) (k v : D) : List (D × D) := if (kvs.any fun kv => keq kv.1 k) = true then kvs.map (fun kv => if keq kv.1 k = true then (kv.1, v) else kv) else kvs ++ [(k, v)]
/-- the key's form -/
def keyOk : Bool → D → Bool
  | false, d => (keyOf d).isSome
  | true, .tup ds => (keysOf ds).isSome
  | true, _ => false
section
variable {κ : Type} [DecidableEq κ] {f : κ → D} {R' : V → D → Prop}
/-- pair by pair -/
def PairR (f : κ → D) (R' : V → D → Prop) (kvs : List (κ × V)) (ds : List (D × D)) : Prop := kvs.length = ds.length ∧ ∀ (i : Nat) (k : κ) (x : V) (d e : D), kvs[i]? = some (k, x) → ds[i]? = some (d, e) → f k = d ∧ R' x e
theorem PairR.cons_iff {k : κ} {x : V} {d e : D} {kvs : List (κ × V)} {ds : List (D × D)} : PairR f R' ((k, x) :: kvs) ((d, e) :: ds) ↔ (f k = d ∧ R' x e) ∧ PairR f R' kvs ds := by
  constructor
  · intro h
    exact ⟨h.2 0 k x d e rfl rfl, by have := h.1; simpa using this, fun i a b c d h1 h2 => h.2 (i + 1) a b c d h1 h2⟩
  · intro h
    refine ⟨by rw [List.length_cons, List.length_cons, h.2.1], fun i a b c d h1 h2 => ?_⟩
    cases i with
    | zero => cases h1; cases h2; exact h.1
    | succ i => exact h.2.2 i a b c d h1 h2
theorem PairR.any (heq : ∀ a b, keq (f a) (f b) = decide (a = b)) (k : κ) : ∀ {kvs : List (κ × V)} {ds : List (D × D)}, PairR f R' kvs ds → (kvs.any fun kv => decide (kv.1 = k)) = ds.any fun de => keq de.1 (f k)
  | [], [], _ => rfl
  | [], _ :: _, h => by have := h.1; cases this
  | _ :: _, [], h => by have := h.1; cases this
  | (a, x) :: kvs, (d, e) :: ds, h => by
    obtain ⟨⟨h1, h2⟩, h3⟩ := PairR.cons_iff.mp h
    rw [List.any_cons, List.any_cons, PairR.any heq k h3, ← h1, heq]
theorem PairR.val (heq : ∀ a b, keq (f a) (f b) = decide (a = b)) (k : κ) : ∀ {kvs : List (κ × V)} {ds : List (D × D)}, PairR f R' kvs ds → (valV kvs k).isSome = (valD ds (f k)).isSome ∧ ∀ d, valD ds (f k) = some d → ∃ v, valV kvs k = some v ∧ R' v d
  | [], [], _ => ⟨rfl, fun d h => by cases h⟩
  | [], _ :: _, h => by have := h.1; cases this
  | _ :: _, [], h => by have := h.1; cases this
  | (a, x) :: kvs, (d, e) :: ds, h => by
    obtain ⟨⟨h1, h2⟩, h3⟩ := PairR.cons_iff.mp h
    obtain ⟨i1, i2⟩ := PairR.val heq k h3
    by_cases q : a = k
    · have q2 : keq d (f k) = true := by rw [← h1, heq]; exact decide_eq_true q
      rw [valV_pos (p := (a, x)) q]
      have ev : valD ((d, e) :: ds) (f k) = some e := by unfold valD; rw [List.find?_cons, q2]; rfl
      rw [ev]
      exact ⟨rfl, fun d' h => by cases h; exact ⟨x, rfl, h2⟩⟩
    · have q2 : keq d (f k) = false := by rw [← h1, heq]; exact decide_eq_false q
      rw [valV_neg (p := (a, x)) q]
      have ev : valD ((d, e) :: ds) (f k) = valD ds (f k) := by unfold valD; rw [List.find?_cons, q2]
      rw [ev]
      exact ⟨i1, i2⟩
theorem PairR.map (heq : ∀ a b, keq (f a) (f b) = decide (a = b)) {k : κ} {v : V} {vd : D} (rv : R' v vd) : ∀ {kvs : List (κ × V)} {ds : List (D × D)}, PairR f R' kvs ds → PairR f R' (kvs.map fun kv => if kv.1 = k then (kv.1, v) else kv) (ds.map fun de => if keq de.1 (f k) = true then (de.1, vd) else de)
  | [], [], h => h
  | [], _ :: _, h => by have := h.1; cases this
  | _ :: _, [], h => by have := h.1; cases this
  | (a, x) :: kvs, (d, e) :: ds, h => by
    obtain ⟨⟨h1, h2⟩, h3⟩ := PairR.cons_iff.mp h
    rw [List.map_cons, List.map_cons]
    by_cases q : a = k
    · have q2 : keq d (f k) = true := by rw [← h1, heq]; exact decide_eq_true q
      simp only [if_pos q, if_pos q2]
      exact PairR.cons_iff.mpr ⟨⟨h1, rv⟩, PairR.map heq rv h3⟩
    · have q2 : ¬ keq d (f k) = true := by rw [← h1, heq]; simpa using q
      simp only [if_neg q, if_neg q2]
      exact PairR.cons_iff.mpr ⟨⟨h1, h2⟩, PairR.map heq rv h3⟩
theorem PairR.snoc {k : κ} {v : V} {vd : D} (rv : R' v vd) : ∀ {kvs : List (κ × V)} {ds : List (D × D)}, PairR f R' kvs ds → PairR f R' (kvs ++ [(k, v)]) (ds ++ [(f k, vd)])
  | [], [], h => PairR.cons_iff.mpr ⟨⟨rfl, rv⟩, rfl, fun i a b c d h1 => by cases h1⟩
  | [], _ :: _, h => by have := h.1; cases this
  | _ :: _, [], h => by have := h.1; cases this
  | (a, x) :: kvs, (d, e) :: ds, h => by
    obtain ⟨h1, h3⟩ := PairR.cons_iff.mp h
    exact PairR.cons_iff.mpr ⟨h1, PairR.snoc rv h3⟩
theorem PairR.put (heq : ∀ a b, keq (f a) (f b) = decide (a = b)) {k : κ} {v : V} {vd : D} (rv : R' v vd) {kvs : List (κ × V)} {ds : List (D × D)} (h : PairR f R' kvs ds) : PairR f R' (putK kvs k v) (putD ds (f k) vd) := by
  unfold putK putD
  rw [PairR.any heq k h]
  split
  · exact PairR.map heq rv h
  · exact PairR.snoc rv h
end
theorem reps_keys {S : Sig} {H : Hp} : ∀ {xs : List V} {ks : List Key}, Reps S H xs (ks.map keyD) → xs = ks.map kV
  | [], [], _ => rfl
  | [], _ :: _, h => by have := h.1; cases this
  | _ :: _, [], h => by have := h.1; cases this
  | x :: xs, k :: ks, h => by
    have e : x = kV k := by
      have r := h.head
      cases k with
      | inl i => exact r.is_int
      | inr s => exact r.is_str
    rw [List.map_cons, ← e, reps_keys h.tail]
/-- looking into a dict, by data -/
theorem dget_of {S : Sig} {H : Hp} {G : Addr → Bool} {p : Addr} {o : HO} {t : Bool} {kvs : List (D × D)} {y : V} {k : D} (hp : H p = some o) (h : DicAt S (hid H G) o t kvs) (ry : Rep S H y k) (hk : keyOk t k = true) :
    ∃ ov, DGet H p y ov ∧ ov.isSome = (valD kvs k).isSome ∧ ∀ d, valD kvs k = some d → ∃ v, ov = some v ∧ Rep S (hid H G) v d := by
  cases t with
  | false =>
    obtain ⟨us, rfl, h1, h2⟩ := h
    unfold keyOk at hk
    obtain ⟨q, e⟩ := Option.isSome_iff_exists.mp hk
    have ek := keyOf_is e
    subst ek
    have ey : y = kV q := by cases q with
      | inl i => exact ry.is_int
      | inr s => exact ry.is_str
    subst ey
    obtain ⟨a1, a2⟩ := PairR.val (f := keyD) (R' := Rep S (hid H G)) keq_K q ⟨h1, h2⟩
    exact ⟨_, .k hp, a1, a2⟩
  | true =>
    obtain ⟨us, rfl, h1, h2⟩ := h
    cases k with
    | tup ds =>
      unfold keyOk at hk
      obtain ⟨q, e⟩ := Option.isSome_iff_exists.mp hk
      have ek := keysOf_is e
      subst ek
      obtain ⟨b, xs, rfl, hb, rx⟩ := ry.is_tup
      have ex := reps_keys rx
      subst ex
      obtain ⟨a1, a2⟩ := PairR.val (f := fun k : List Key => D.tup (k.map keyD)) (R' := Rep S (hid H G)) keq_T q ⟨h1, h2⟩
      exact ⟨_, .t hp hb, a1, a2⟩
    | _ => cases hk
theorem dput_of {S : Sig} {H : Hp} {G : Addr → Bool} {p : Addr} {o : HO} {t : Bool} {kvs : List (D × D)} {y v : V} {k d : D} (hp : H p = some o) (h : DicAt S (hid H G) o t kvs) (ry : Rep S H y k) (hk : keyOk t k = true) (hz : kvs.length < sizeLine) (rv : Rep S (hid H G) v d) :
    ∃ o', DPut H p y v (upd H p o') ∧ DicAt S (hid H G) o' t (putD kvs k d) := by
  cases t with
  | false =>
    obtain ⟨us, rfl, h1, h2⟩ := h
    unfold keyOk at hk
    obtain ⟨q, e⟩ := Option.isSome_iff_exists.mp hk
    have ek := keyOf_is e
    subst ek
    have ey : y = kV q := by cases q with
      | inl i => exact ry.is_int
      | inr s => exact ry.is_str
    subst ey
    have := PairR.put (f := keyD) (R' := Rep S (hid H G)) keq_K (k := q) rv ⟨h1, h2⟩
    exact ⟨_, .k hp (by rw [h1]; exact hz), _, rfl, this.1, this.2⟩
  | true =>
    obtain ⟨us, rfl, h1, h2⟩ := h
    cases k with
    | tup ds =>
      unfold keyOk at hk
      obtain ⟨q, e⟩ := Option.isSome_iff_exists.mp hk
      have ek := keysOf_is e
      subst ek
      obtain ⟨b, xs, rfl, hb, rx⟩ := ry.is_tup
      have ex := reps_keys rx
      subst ex
      have := PairR.put (f := fun k : List Key => D.tup (k.map keyD)) (R' := Rep S (hid H G)) keq_T (k := q) rv ⟨h1, h2⟩
      exact ⟨_, .t hp hb (by rw [h1]; exact hz), _, rfl, this.1, this.2⟩
    | _ => cases hk
/-- name = {} -/
def mNewD (t : Bool) : ME := fun _ => .ok (.dic t [])
theorem rf_newT : RF X W (.Dict [] [] pos) (mNewD true) := ⟨_, pe_dnewT, fun B G ρ σ H Q I nb k ke p hp => k _ rfl p (.dic true []) _ hp (Ex.new hp) rfl ⟨_, upd_same, [], rfl, rfl, fun i k x d e h => by cases h⟩⟩
theorem rf_newK : RF X W (.Dict [] [] pos) (mNewD false) := ⟨_, pe_dnewK, fun B G ρ σ H Q I nb k ke p hp => k _ rfl p (.dic false []) _ hp (Ex.new hp) rfl ⟨_, upd_same, [], rfl, rfl, fun i k x d e h => by cases h⟩⟩
/-- d[k] = e, d an own dict -/
def mPutD (i : Nat) (mk me : ME) : MS := fun ρ => (me ρ).out ρ fun d => match ρ[i]? with
  | some (.dic t kvs) => (mk ρ).out ρ fun k => if keyOk t k && szOk kvs.length then .nx (ρ.set i (.dic t (putD kvs k d))) else .bad
  | _ => .bad
theorem rs_putD {i : Nat} {o k e : Expr} (hu : X.A.units + 1 < cLine) (ho : PE X o (tVar i)) (hk : RE X W c2 k mk) (he : RE X W true e me) (hs : swapsWith e (some (.Subscript o k pos')) pos.line X.env = pure false := by rfl) :
    RS X W fr (.Assign [.Subscript o k pos'] e pos) (mPutD i mk me) := by
  obtain ⟨t, a1, a2⟩ := he.ex
  obtain ⟨u, b1, b2⟩ := hk.ex
  refine ⟨_, ps_dput hu ho b1 a1 hs, fun B G ρ σ H E I h' => ?_⟩
  unfold mPutD at h'
  refine a2 B G ρ σ H _ I (post_nb h') (fun d e v H' x r => ?_) (post_err I h')
  have h' := PostS.move (.of_ex x) (post_ok e h')
  have I := I.grow x
  cases q : ρ[i]? with
  | none => rw [q] at h'; exact h'.elim
  | some s =>
    rw [q] at h'
    cases s with
    | dic t kvs =>
      dsimp only at h'
      obtain ⟨p, h1, h2, h3, o, h4, h5⟩ := I.own i _ q rfl
      refine ⟨_, h1, ?_⟩
      refine b2 B G ρ σ H' _ I (post_nb h') (fun kd e2 y H2 x2 r2 => ?_) (post_err I h')
      have hz := post_ok e2 h'
      split at hz
      · rename_i z
        obtain ⟨z1, z2⟩ := Bool.and_eq_true_iff.mp z
        obtain ⟨o', g1, g2⟩ := dput_of (x2 p _ h4) (h5.ex (hid_ex x2)) r2.full z1 (szOk_lt z2) (Rep.ex (hid_ex x2) r)
        exact ⟨p, _, rfl, g1, hz G σ _ ((I.grow x2).write q rfl h1 rfl fun H3 ne e3 ex => ⟨_, e3, g2.ex ex⟩) ((Fr.of_ex x2).trans (fr_write h2))⟩
      · exact hz.elim
    | _ => exact h'.elim
/-- k in d, k not in d -/
def mIn (f : Bool → Bool) (mk md : ME) : ME := fun ρ => (mk ρ).bind fun k => (md ρ).bind fun d => match d with
  | .dic t kvs => if keyOk t k then .ok (.bl (f (valD kvs k).isSome)) else .bad
  | _ => .bad
theorem snd_in {S : Sig} {P : PX} {f : Bool → Bool} {tk td : TE} {md : ME} (hk : SndE S P W c1 tk mk) (hd : SndE S P W c2 td md) :
    SndE S P W true (fun σ H Q => tk σ H fun y H1 => td σ H1 fun x H2 => ∃ a o, x = .ref a ∧ DGet H2 a y o ∧ Q (.bl (f o.isSome)) H2) (mIn f mk md) := fun B G ρ σ H Q I nb k ke => by
  unfold mIn at nb k ke
  refine hk B G ρ σ H _ I (R.bad_bind nb) (fun kd e y H1 x1 r1 => ?_) (fun x e => ke x (by rw [e]; rfl))
  rw [e, R.bind_ok] at nb k ke
  refine hd B G ρ σ H1 _ (I.grow x1) (R.bad_bind nb) (fun dd e2 v H2 x2 r2 => ?_) (fun x e2 cls ddd H' x2 => ke x (by rw [e2]; rfl) cls ddd H' (x1.trans x2))
  rw [e2, R.bind_ok] at nb k
  cases dd with
  | dic t kvs =>
    dsimp only at nb k
    by_cases z : keyOk t kd = true
    · rw [if_pos z] at k
      obtain ⟨a, o, rfl, h1, h2⟩ := r2.dict
      obtain ⟨ov, g1, g2, g3⟩ := dget_of h1 h2 (r1.grow x2).full z
      refine ⟨a, ov, rfl, g1, ?_⟩
      rw [g2]
      exact k _ rfl _ H2 (x1.trans x2) (.bl _)
    · rw [if_neg z] at nb; exact absurd rfl nb
  | _ => exact absurd rfl nb
theorem re_in {md : ME} (hu : X.A.units + 1 < cLine) (hk : RE X W c1 a mk) (hd : RE X W c2 b md) (hm : behindInMarks .In b = false := by rfl) : RE X W true (.Compare a [.In] [b] pos) (mIn id mk md) := by
  obtain ⟨t, a1, a2⟩ := hk.ex
  obtain ⟨u, b1, b2⟩ := hd.ex
  exact ⟨_, pe_cmp (pc_din hu a1 b1) hm, snd_in a2 b2⟩
theorem re_notIn {md : ME} (hu : X.A.units + 1 < cLine) (hk : RE X W c1 a mk) (hd : RE X W c2 b md) (hm : behindInMarks .NotIn b = false := by rfl) : RE X W true (.Compare a [.NotIn] [b] pos) (mIn not mk md) := by
  obtain ⟨t, a1, a2⟩ := hk.ex
  obtain ⟨u, b1, b2⟩ := hd.ex
  exact ⟨_, pe_cmp (pc_dnotin hu a1 b1) hm, snd_in a2 b2⟩
theorem rt_in {md : ME} (hu : X.A.units + 1 < cLine) (hk : RE X W c1 a mk) (hd : RE X W c2 b md) (hm : behindInMarks .In b = false := by rfl) : RT X W (.Compare a [.In] [b] pos) (mBool (mIn id mk md)) := by
  obtain ⟨t, a1, a2⟩ := hk.ex
  obtain ⟨u, b1, b2⟩ := hd.ex
  exact ⟨_, pt_cmp (pc_din hu a1 b1) hm, snd_test (snd_in a2 b2)⟩
theorem rt_notIn {md : ME} (hu : X.A.units + 1 < cLine) (hk : RE X W c1 a mk) (hd : RE X W c2 b md) (hm : behindInMarks .NotIn b = false := by rfl) : RT X W (.Compare a [.NotIn] [b] pos) (mBool (mIn not mk md)) := by
  obtain ⟨t, a1, a2⟩ := hk.ex
  obtain ⟨u, b1, b2⟩ := hd.ex
  exact ⟨_, pt_cmp (pc_dnotin hu a1 b1) hm, snd_test (snd_in a2 b2)⟩
/-- d[k], there -/
def mGetD (md mk : ME) : ME := fun ρ => (md ρ).bind fun d => (mk ρ).bind fun k => match d with
  | .dic t kvs => if keyOk t k then R.of (valD kvs k) else .bad
  | _ => .bad
theorem re_getD {md : ME} (hu : X.A.units + 1 < cLine) (hd : RE X W c1 a md) (hk : RE X W c2 b mk) (hs : NoSl b := by exact fun _ _ => rfl) : RE X W true (.Subscript a b pos) (mGetD md mk) := by
  obtain ⟨t, a1, a2⟩ := hd.ex
  obtain ⟨u, b1, b2⟩ := hk.ex
  refine ⟨_, pe_dget hu a1 b1 hs, fun B G ρ σ H Q I nb k ke => ?_⟩
  unfold mGetD at nb k ke
  refine a2 B G ρ σ H _ I (R.bad_bind nb) (fun dd e v H1 x1 r1 => ?_) (fun x e => ke x (by rw [e]; rfl))
  rw [e, R.bind_ok] at nb k ke
  refine b2 B G ρ σ H1 _ (I.grow x1) (R.bad_bind nb) (fun kd e2 y H2 x2 r2 => ?_) (fun x e2 cls ddd H' x2 => ke x (by rw [e2]; rfl) cls ddd H' (x1.trans x2))
  rw [e2, R.bind_ok] at nb k
  cases dd with
  | dic t kvs =>
    dsimp only at nb k
    by_cases z : keyOk t kd = true
    · rw [if_pos z] at nb k
      obtain ⟨a, o, rfl, h1, h2⟩ := (r1.grow x2).dict
      obtain ⟨ov, g1, g2, g3⟩ := dget_of h1 h2 r2.full z
      cases q : valD kvs kd with
      | none => rw [q] at nb; exact absurd rfl nb
      | some d =>
        obtain ⟨v, e3, rv⟩ := g3 d q
        subst e3
        exact ⟨a, v, rfl, g1, k d (by rw [q]; rfl) v H2 (x1.trans x2) rv⟩
    · rw [if_neg z] at nb; exact absurd rfl nb
  | _ => exact absurd rfl nb
end
end Fx

-- Fx9
set_option Elab.async false
set_option linter.all false
set_option maxRecDepth 100000
set_option maxHeartbeats 2000000
/-! Fx9: list.count of bools, calls by keywords, plain defs called within suites. -/
namespace Fx
open PySem PySem.Spec PyProof.Rows L2

def rCntB (K : PySem.W.Frag) : V → List V → Hp → VK → Prop := fun x xs H Q => ∃ (p : Addr) (bs : List Bool) (k : Bool), x = .ref p ∧ xs = [.bl k] ∧ SqL K H p (bs.map V.bl) ∧ Q (.int (bs.count k : Nat)) H
theorem vals_bools : ∀ {bs : List Bool} {us : List Value}, Vals (bs.map V.bl) us → us = bs.map Value.bool
  | [], _, .nil => rfl
  | b :: bs, _, .cons r t => by rw [List.map_cons, ← vals_bools t]; cases r; rfl
theorem countP_bools (k : Bool) : ∀ bs : List Bool, (bs.map Value.bool).countP (isBoolOf k) = bs.count k
  | [] => rfl
  | b :: bs => by rw [List.map_cons, List.countP_cons, List.count_cons, countP_bools k bs]; rfl
theorem mt_countB {X : Cx} : MtR X "list.count" (rCntB X.K) := by
  intro pins s σ H x xs v us Q I rx rxs h
  obtain ⟨p, bs, k, rfl, rfl, hs, q⟩ := h
  cases rx
  obtain ⟨u, rfl, ru⟩ := rxs.one
  cases ru
  obtain ⟨its, rv, ⟨⟨cls, dd, data, sl⟩, n, ho, hc, hdn, hd⟩, hlen⟩ := I.list hs
  simp only at hc hd
  subst hc hd
  have ei := vals_bools rv
  subst ei
  refine call_meets PySem.F.slot_list_count ⟨_, ho, rfl⟩ PySem.F.entry_list_count (PySem.F.args_list_count_2 _ _)
    (SeqAt.list_countAt p _ n dd sl (.bool k) (isBoolOf k)) ⟨ho, fun y hy => ?_, ?_⟩
  · have hy' : y ∈ bs.map Value.bool := by simpa using hy
    obtain ⟨b, _, rfl⟩ := List.mem_map.mp hy'
    exact SeqAt.EqAt.bool_bool b k
  · refine ⟨.int (bs.count k : Nat), H, I.tok _, ⟨s.toks, ?_⟩, q⟩
    rw [← countP_bools k bs]
def boolsOf : List D → Option (List Bool)
  | [] => some []
  | .bl b :: ds => (boolsOf ds).map (b :: ·)
  | _ => none
theorem boolsOf_is : ∀ {ds : List D} {bs : List Bool}, boolsOf ds = some bs → ds = bs.map D.bl
  | [], bs, h => by cases h; rfl
  | .bl b :: ds, bs, h => by
    unfold boolsOf at h
    cases e : boolsOf ds with
    | none => rw [e] at h; cases h
    | some cs => rw [e] at h; cases h; rw [boolsOf_is e]; rfl
  | .non :: _, _, h => by cases h
  | .int _ :: _, _, h => by cases h
  | .str _ :: _, _, h => by cases h
  | .tup _ :: _, _, h => by cases h
  | .lst _ :: _, _, h => by cases h
  | .dic _ _ :: _, _, h => by cases h
  | .ins _ _ :: _, _, h => by cases h
theorem reps_bools {S : Sig} {H : Hp} : ∀ {bs : List Bool} {xs : List V}, Reps S H xs (bs.map D.bl) → xs = bs.map V.bl
  | [], [], _ => rfl
  | [], _ :: _, h => by have := h.1; cases this
  | _ :: _, [], h => by have := h.1; cases this
  | b :: bs, x :: xs, h => by rw [List.map_cons, reps_bools h.tail, h.head.is_bl]
/-- x.count(True) of a list of bools -/
def mCountB (m mk : ME) : ME := fun ρ => (m ρ).bind fun d => match d with
  | .lst ds => (mk ρ).bind fun k => match k with
    | .bl k => (match boolsOf ds with
      | some bs => .ok (.int (bs.count k : Nat))
      | none => .bad)
    | _ => .bad
  | _ => .bad
section
variable {X : Cx} {W : WX} {c c1 c2 : Bool} {o e : Expr} {mo me : ME} {apos cpos : Pos}
theorem re_countB (ho : RE X W c1 o mo) (he : RE X W c2 e me)
    (hbase : attributeBase o "count" X.env (eval o X.env) = eval o X.env := by rfl)
    (hfew : ((backTo cpos (starEach [e] X.env)).all (fun x => !x.1) && (backToKw cpos (keywordEach [] X.env)).all (fun x => x.1.isSome)
      && decide (([e] : List Expr).length + ([] : List Keyword).length + (if ([] : List Keyword).isEmpty then 0 else 1) < 30)) = true := by rfl)
    (hline : (apos.endLine == cpos.line) = true := by rfl) (hs : starEach [e] X.env = (false, eval e X.env) :: starEach [] X.env := by rfl) (hplain : (backTo cpos (starEach [] X.env)).any (·.1) = false := by rfl) :
    RE X W true (.Call (.Attribute o "count" apos) [e] [] cpos) (mCountB mo me) := by
  obtain ⟨t, a1, a2⟩ := ho.ex
  obtain ⟨u, b1, b2⟩ := he.ex
  refine ⟨_, pe_bm PySem.F.plainAttrs_list PySem.F.slot_list_count PySem.F.type_list_count mt_countB a1 (pa_cons b1 pa_nil hs) hbase hfew hline hs hplain, fun B G ρ σ H Q I nb k ke => ?_⟩
  unfold mCountB at nb k ke
  refine a2 B G ρ σ H _ I (R.bad_bind nb) (fun d e v H1 x1 r1 => ?_) (fun x e => ke x (by rw [e]; rfl))
  rw [e, R.bind_ok] at nb k ke
  cases d with
  | lst ds =>
    dsimp only at nb k ke
    obtain ⟨p, xs, rfl, h1, h2⟩ := r1.list
    refine ⟨?_, b2 B G ρ σ H1 _ (I.grow x1) (R.bad_bind nb) (fun kd e2 y H2 x2 r2 => ?_) (fun x e2 cls dd H' x2 => ke x (by rw [e2]; rfl) cls dd H' (x1.trans x2))⟩
    · exact .inl ⟨rfl, xs, .inl h1⟩
    · rw [e2, R.bind_ok] at nb k
      cases kd with
      | bl kb =>
        dsimp only at nb k
        cases q : boolsOf ds with
        | none => rw [q] at nb; exact absurd rfl nb
        | some bs =>
          rw [q] at k
          have ed := boolsOf_is q
          subst ed
          have ex := reps_bools h2
          subst ex
          exact ⟨p, bs, kb, rfl, by rw [r2.full.is_bl], .inl (rd_ex x2 h1), k _ rfl _ H2 (x1.trans x2) (.int _)⟩
      | _ => exact absurd rfl nb
  | _ => exact absurd rfl nb
end

/-! ### f(e, .., k = v, ..) -/
/-- a def with keyword-only defaults, called so: n values, keywords ks; g puts them in the parameters' order -/
structure ClK (P : Program) (w : World) (K : PySem.W.Frag) (mg : Str → Option Value) (base : Heap) (k : Nat) (x : Str) (fr : Fk) (n m : Nat) (ks : List Str) (gd : List D → List D → List D) (mf : MF) : Prop where
  ex : ∃ (f : Addr) (fd : FuncData) (ps : List Str) (g : List Value → List Value → List Value) (gV : List V → List V → List V), FnOk P w K mg base (L2N.CX P w) k f fd ps (spF ⟨K, mg⟩ fr n mf) ∧ mg x = some (.ref f) ∧ PySem.W.keepIn K (.ref f) = true ∧ KBn K fd ps m ks g gV ∧
    ∀ H vs zs ds es, vs.length = m → zs.length = ks.length → Reps ⟨K, mg⟩ H vs ds → Reps ⟨K, mg⟩ H zs es → Reps ⟨K, mg⟩ H (gV vs zs) (gd ds es) ∧ (gV vs zs).length = n
/-- keywords' values, on data -/
structure RK (X : Cx) (W : WX) (kws : List Keyword) (m : MA) : Prop where
  ex : ∃ t, PK X kws t ∧ SndA (sg X) (pp X) W true kws.length t m
section
variable {X : Cx} {W : WX} {k j n : Nat} {x : Str} {mf : MF} {ma mk : MA} {me : ME} {e : Expr} {es : List Expr} {p pos kpos : Pos} {ks : List Str} {kws : List Keyword} {gd : List D → List D → List D} {nm : Option Str} {fr : Fk}
theorem rk_nil : RK X W [] mNil := ⟨_, pk_nil, fun B G ρ σ H Q I nb k ke => k [] rfl [] H (Ex.refl H) rfl rfl fun i v d h => by cases h⟩
theorem rk_cons {mr : MA} (ha : RE X W true e me) (hr : RK X W kws mr) : RK X W (⟨nm, e, kpos⟩ :: kws) (mCons me mr) := by
  obtain ⟨ta, a1, a2⟩ := ha.ex
  obtain ⟨tr, r1, r2⟩ := hr.ex
  refine ⟨_, pk_cons a1 r1, fun B G ρ σ H Q I nb k ke => ?_⟩
  unfold mCons at nb k ke
  refine a2 B G ρ σ H _ I (R.bad_bind nb) (fun d e v H' x r => ?_) (fun x e => ke x (by rw [e]; rfl))
  rw [e, R.bind_ok] at nb k ke
  refine r2 B G ρ σ H' _ (I.grow x) (R.bad_bind nb) (fun ds e2 vs H2 x2 hn hl rs => ?_) (fun y e2 cls dd H2 x2 => ke y (by rw [e2]; rfl) cls dd H2 (x.trans x2))
  refine k (d :: ds) (by rw [e2]; rfl) _ H2 (x.trans x2) (by rw [List.length_cons, List.length_cons, hn]) (by rw [List.length_cons, List.length_cons, hl]) fun i w z h1 h2 => ?_
  cases i with
  | zero => cases h1; cases h2; exact r.grow x2
  | succ i => exact rs i w z h1 h2
def tCallKS (n m : Nat) (sp : Sp) (gV : List V → List V → List V) (E : L2.St → XK) (t tk : TA) : TE := fun σ H Q => t σ H fun vs H1 => tk σ H1 fun zs H2 => vs.length = n ∧ zs.length = m ∧ sp (gV vs zs) H2 Q (E σ)
theorem pe_callKS {CX : CXT} {f : Addr} {fd : FuncData} {ps : List Str} {sp : Sp} {E : L2.St → XK} {t tk : TA} {g : List Value → List Value → List Value} {gV : List V → List V → List V} (F : FnOk X.prog X.w X.K X.mg X.base CX k f fd ps sp) (hr : Room k X.A) (hg : Gl X x) (hm : X.mg x = some (.ref f)) (hk : PySem.W.keepIn X.K (.ref f) = true)
    (hb : KBn X.K fd ps n ks g gV) (hx : ∀ σ, PassesAt CX X σ (E σ)) (ha : PA X (e :: es) t) (hkw : PK X kws tk) (hall : (backToKw pos (keywordEach kws X.env)).all (·.1.isSome) = true) (hks : (backToKw pos (keywordEach kws X.env)).filterMap (·.1) = ks)
    (hdb : (x == ("__debug__" : Str)) = false) (he : starEach (e :: es) X.env = (false, eval e X.env) :: starEach es X.env) (hpl : ((backTo pos (starEach (e :: es) X.env)).any (·.1) || (backToKw pos (keywordEach kws X.env)).any (·.1.isNone)) = false) :
    PE X (.Call (.Name x p) (e :: es) kws pos) (tCallKS n ks.length sp gV E t tk) := by
  refine ⟨fun pins s σ H Q I h => wpAny_Call_Name_kw (ld_glob I hg hm (PySem.W.callWith_KW (h₀ := X.base) I.ok.mod.kin hk hall (thn (ha.run pos pins s σ H _ I h) fun us s1 ⟨vs, H1, I1, r, q⟩ => ?_) hpl he) hdb)⟩
  refine thn (hkw.run pos pins s1 σ H1 _ I1 q) fun ws s2 ⟨zs, H2, I2, rz, l1, l2, q2⟩ => ⟨I2.kIn, ?_⟩
  rw [hks]
  refine wpAny_call (codeAny_mono (F.run X.A X.stack s2 H2 ⟨us, ks.zip ws⟩ (g us ws) (gV vs zs) Q (E σ) hr I2.env0 (hb.to s2 us ws I2.kIn (r.length.symm.trans l1) (rz.length.symm.trans l2)) (hb.rel r rz) q2) fun r s' hq => ?_)
  cases r with
  | error e => exact hx σ pins H2 s2 e s' I2 hq
  | ok fl =>
    cases fl with
    | ret u => exact I2.after hq
    | next => exact False.elim hq
    | brk => exact False.elim hq
    | cont => exact False.elim hq
def mDefK (mf : MF) (gd : List D → List D → List D) (ma mk : MA) : ME := fun ρ => (ma ρ).bind fun ds => (mk ρ).bind fun es => mf (gd ds es)
theorem rf_defK (c : ClK X.prog X.w X.K X.mg X.base k x .own n (e :: es).length ks gd mf) (hr : Room j X.A) (hk : k ≤ j) (hg : Gl X x) (tk : L2N.Takes X W) (ha : RA X W true (e :: es) ma) (hkw : RK X W kws mk) (hkl : kws.length = ks.length := by rfl)
    (hall : (backToKw pos (keywordEach kws X.env)).all (·.1.isSome) = true := by rfl) (hks : (backToKw pos (keywordEach kws X.env)).filterMap (·.1) = ks := by rfl)
    (hdb : (x == ("__debug__" : Str)) = false := by decide) (he : starEach (e :: es) X.env = (false, eval e X.env) :: starEach es X.env := by rfl)
    (hpl : ((backTo pos (starEach (e :: es) X.env)).any (·.1) || (backToKw pos (keywordEach kws X.env)).any (·.1.isNone)) = false := by rfl) :
    RF X W (.Call (.Name x p) (e :: es) kws pos) (mDefK mf gd ma mk) := by
  obtain ⟨f, fd, ps, g, gV, F, hm, hkp, hb, hrep⟩ := c.ex
  obtain ⟨t, a1, a2⟩ := ha.ex
  obtain ⟨u, b1, b2⟩ := hkw.ex
  refine ⟨_, pe_callKS (E := WE W) F (hr.mono hk) hg hm hkp hb (L2N.passAt tk) a1 b1 hall hks hdb he hpl, fun B G ρ σ H Q I nb k ke => ?_⟩
  unfold mDefK at nb k ke
  refine a2 B G ρ σ H _ I (R.bad_bind nb) (fun ds e vs H1 x1 hn hl rs => ?_) (fun x e => ke x (by rw [e]; rfl))
  rw [e, R.bind_ok] at nb k ke
  refine b2 B G ρ σ H1 _ (I.grow x1) (R.bad_bind nb) (fun es e2 zs H2 x2 hn2 hl2 rs2 => ?_) (fun y e2 cls dd H2 x2 => ke y (by rw [e2]; rfl) cls dd H2 (x1.trans x2))
  rw [e2, R.bind_ok] at nb k ke
  obtain ⟨q1, q2⟩ := hrep (hid H2 G) vs zs ds es hn (hn2.trans hkl) (Reps.ex (hid_ex x2) (reps_of hl rs)) (reps_of hl2 rs2)
  refine ⟨hn, hn2.trans hkl, q2, G, gd ds es, (I.grow (x1.trans x2)).gm, q1, nb, fun d e => ?_, fun y e cls dd H3 x3 r => ke y e cls dd H3 ((x1.trans x2).trans x3) r⟩
  skip
  refine fun p s H3 x3 hp es w => k d e p s H3 ?_ ((x1.trans x2).trans x3) es w
  cases z : H p with
  | none => rfl
  | some o => rw [(x1.trans x2) p o z] at hp; cases hp
end
end Fx

-- Fx10
set_option Elab.async false
set_option linter.all false
set_option maxRecDepth 100000
set_option maxHeartbeats 2000000
/-! Fx10: built-ins by name, chains, shorthands. -/
namespace Fx
open PySem PySem.Spec PyProof.Rows L2
section
variable {X : Cx} {W : WX} {c c1 c2 c3 : Bool} {e a b d : Expr} {es : List Expr} {m : MA} {ma mb md : ME} {p pos : Pos}
theorem re_len (hg : Gl X "len") (hm : X.mg "len" = none) (ha : RA X W c (e :: es) m) (he : starEach (e :: es) X.env = (false, eval e X.env) :: starEach es X.env := by rfl) (hpl : (backTo pos (starEach es X.env)).any (·.1) = false := by rfl) : RE X W true (.Call (.Name "len" p) (e :: es) [] pos) (mCall gLen m) :=
  re_callB call_len_seq (calls_len (S := sg X)) hg hm PyProof.Rows.Boot.len ha (by decide) (by decide) he hpl
theorem rf_list (hg : Gl X "list") (hm : X.mg "list" = none) (ha : RA X W c (e :: es) m) (he : starEach (e :: es) X.env = (false, eval e X.env) :: starEach es X.env := by rfl) (hpl : (backTo pos (starEach es X.env)).any (·.1) = false := by rfl) : RF X W (.Call (.Name "list" p) (e :: es) [] pos) (mCall gList m) :=
  rf_callTy call_list_of (calls_list (S := sg X)) hg hm PyProof.Rows.Boot.list ha (by decide) (by decide) he hpl
theorem re_tuple (hg : Gl X "tuple") (hm : X.mg "tuple" = none) (ha : RA X W c (e :: es) m) (he : starEach (e :: es) X.env = (false, eval e X.env) :: starEach es X.env := by rfl) (hpl : (backTo pos (starEach es X.env)).any (·.1) = false := by rfl) : RE X W true (.Call (.Name "tuple" p) (e :: es) [] pos) (mCall gTuple m) :=
  re_callTy call_tuple_of (calls_tuple (S := sg X)) hg hm PyProof.Rows.Boot.tuple ha (by decide) (by decide) he hpl
theorem re_toInt (hg : Gl X "int") (hm : X.mg "int" = none) (ha : RA X W c (e :: es) m) (he : starEach (e :: es) X.env = (false, eval e X.env) :: starEach es X.env := by rfl) (hpl : (backTo pos (starEach es X.env)).any (·.1) = false := by rfl) : RE X W true (.Call (.Name "int" p) (e :: es) [] pos) (mCall gInt m) :=
  re_callTy call_int1 (calls_int (S := sg X)) hg hm PyProof.Rows.Boot.int ha (by decide) (by decide) he hpl
theorem re_max2 (hc : X.calm = true) (hg : Gl X "max") (hm : X.mg "max" = none) (ha : RA X W c (e :: es) m) (he : starEach (e :: es) X.env = (false, eval e X.env) :: starEach es X.env := by rfl) (hpl : (backTo pos (starEach es X.env)).any (·.1) = false := by rfl) : RE X W true (.Call (.Name "max" p) (e :: es) [] pos) (mCall (gII fMax) m) :=
  re_callB (call_max2 hc) (calls_ii (S := sg X) (f := fMax)) hg hm PyProof.Rows.Boot.max ha (by decide) (by decide) he hpl
theorem re_min2 (hc : X.calm = true) (hg : Gl X "min") (hm : X.mg "min" = none) (ha : RA X W c (e :: es) m) (he : starEach (e :: es) X.env = (false, eval e X.env) :: starEach es X.env := by rfl) (hpl : (backTo pos (starEach es X.env)).any (·.1) = false := by rfl) : RE X W true (.Call (.Name "min" p) (e :: es) [] pos) (mCall (gII fMin) m) :=
  re_callB (call_min2 hc) (calls_ii (S := sg X) (f := fMin)) hg hm PyProof.Rows.Boot.min ha (by decide) (by decide) he hpl
theorem re_gcd (hg : Gl X "gcd") (hm : X.mg "gcd" = some (.builtin "math.gcd")) (ha : RA X W c (e :: es) m) (he : starEach (e :: es) X.env = (false, eval e X.env) :: starEach es X.env := by rfl) (hpl : (backTo pos (starEach es X.env)).any (·.1) = false := by rfl) : RE X W true (.Call (.Name "gcd" p) (e :: es) [] pos) (mCall (gII fGcd) m) :=
  re_callM (r := fun xs H Q => ∃ i j, xs = [.int i, .int j] ∧ Q (.int (fGcd i j)) H) cr_gcd (calls_ii (S := sg X) (f := fGcd)) hg hm ha (by decide) he hpl
/-- a op b op' c -/
def mChain (g g' : D → D → Option D) (ma mb md : ME) : ME := fun ρ => (ma ρ).bind fun x => (mb ρ).bind fun y => match g x y with
  | some (.bl true) => (md ρ).bind fun z => R.of (g' y z)
  | some (.bl false) => .ok (.bl false)
  | _ => .bad
theorem snd_chain {S : Sig} {P : PX} {r r' : R2} {g g' : D → D → Option D} {ta tb tc : TE} (hr : OpS S r g) (hr' : OpS S r' g') (ha : SndE S P W c1 ta ma) (hb : SndE S P W c2 tb mb) (hd : SndE S P W c3 tc md) : SndE S P W true (tChain r r' ta tb tc) (mChain g g' ma mb md) := fun B G ρ σ H Q I nb k ke => by
  unfold mChain at nb k ke
  refine ha B G ρ σ H _ I (R.bad_bind nb) (fun x e v H1 x1 r1 => ?_) (fun x e => ke x (by rw [e]; rfl))
  rw [e, R.bind_ok] at nb k ke
  refine hb B G ρ σ H1 _ (I.grow x1) (R.bad_bind nb) (fun y e2 u H2 x2 r2 => ?_) (fun x e2 cls dd H' x2 => ke x (by rw [e2]; rfl) cls dd H' (x1.trans x2))
  rw [e2, R.bind_ok] at nb k ke
  have I2 := I.grow (x1.trans x2)
  cases q : g x y with
  | none => rw [q] at nb; exact absurd rfl nb
  | some z =>
    rw [q] at nb k ke
    refine hr H2 G v u x y z _ I2.gm (r1.grow x2).weak r2.weak q fun w H3 x3 rw' => ?_
    cases z with
    | bl t =>
      have ew := rw'.is_bl
      subst ew
      refine ⟨t, rfl, ?_⟩
      cases t with
      | true =>
        rw [if_pos rfl]
        dsimp only at nb k ke
        refine hd B G ρ σ H3 _ (I2.grow x3) (R.bad_bind nb) (fun z e4 w' H4 x4 r4 => ?_) (fun x e4 cls dd H' x4 => ke x (by rw [e4]; rfl) cls dd H' (((x1.trans x2).trans x3).trans x4))
        rw [e4, R.bind_ok] at nb k
        cases q2 : g' y z with
        | none => rw [q2] at nb; exact absurd rfl nb
        | some o => exact hr' H4 G u w' y z o Q (I2.grow (x3.trans x4)).gm (r2.grow (x3.trans x4)).weak r4.weak q2 fun w2 H5 x5 rw2 => k o (by rw [q2]; rfl) w2 H5 ((((x1.trans x2).trans x3).trans x4).trans x5) rw2
      | false =>
        rw [if_neg Bool.false_ne_true]
        exact k _ rfl _ H3 ((x1.trans x2).trans x3) (.bl _)
    | _ => exact absurd rfl nb
theorem rt_chain {op op' : CmpOp} {g g' : D → D → Option D} (h : OpD X (compareOp op) g) (h' : OpD X (compareOp op') g') (ha : RE X W c1 a ma) (hb : RE X W c2 b mb) (hd : RE X W c3 d md) (hm : lastMarks [op, op'] [b, d] = false := by with_unfolding_all rfl) :
    RT X W (.Compare a [op, op'] [b, d] pos) (mBool (mChain g g' ma mb md)) := by
  obtain ⟨r, h1, h2⟩ := h.ex
  obtain ⟨r', h3, h4⟩ := h'.ex
  obtain ⟨ta, a1, a2⟩ := ha.ex
  obtain ⟨tb, b1, b2⟩ := hb.ex
  obtain ⟨tc, c1, c2⟩ := hd.ex
  exact ⟨_, pt_chain h1 h3 a1 b1 c1 hm, snd_test (snd_chain h2 h4 a2 b2 c2)⟩
theorem re_chain {op op' : CmpOp} {g g' : D → D → Option D} (h : OpD X (compareOp op) g) (h' : OpD X (compareOp op') g') (ha : RE X W c1 a ma) (hb : RE X W c2 b mb) (hd : RE X W c3 d md) (hm : lastMarks [op, op'] [b, d] = false := by with_unfolding_all rfl) :
    RE X W true (.Compare a [op, op'] [b, d] pos) (mChain g g' ma mb md) := by
  obtain ⟨r, h1, h2⟩ := h.ex
  obtain ⟨r', h3, h4⟩ := h'.ex
  obtain ⟨ta, a1, a2⟩ := ha.ex
  obtain ⟨tb, b1, b2⟩ := hb.ex
  obtain ⟨tc, c1, c2⟩ := hd.ex
  exact ⟨_, pe_chain h1 h3 a1 b1 c1 hm, snd_chain h2 h4 a2 b2 c2⟩
end
/-! ### shorthands for whole defs -/
/-- the body of a def, in its context -/
abbrev cxF (P : Program) (w : World) (K : PySem.W.Frag) (mg : Str → Option Value) (base : Heap) (N : List Str) (qual : Str) (scope : Scope) (f : Addr) (cd : Value) (A : Around) (outer : List PySem.Env) (s : Shared) (H : Hp) (E : XK) : Cx := cxOf (L2N.CX P w) P w K mg base N qual scope f cd A outer s H E
theorem takesF {P : Program} {w : World} {K : PySem.W.Frag} {mg : Str → Option Value} {base : Heap} {N : List Str} {qual : Str} {scope : Scope} {f : Addr} {cd : Value} {A : Around} {outer : List PySem.Env} {s : Shared} {H : Hp} {E : XK} :
    L2N.Takes (cxF P w K mg base N qual scope f cd A outer s H E) (fun cls d _ H => E cls d H) := L2N.takes_of rfl rfl rfl rfl
theorem passesF {P : Program} {w : World} {K : PySem.W.Frag} {mg : Str → Option Value} {base : Heap} {N : List Str} {qual : Str} {scope : Scope} {f : Addr} {cd : Value} {A : Around} {outer : List PySem.Env} {s : Shared} {H : Hp} {E : XK} :
    PassesOwn (model P w) (cxF P w K mg base N qual scope f cd A outer s H E).A (cxF P w K mg base N qual scope f cd A outer s H E).env (cxF P w K mg base N qual scope f cd A outer s H E).xe := PassesOwn.leaving
end Fx

-- Fx11
set_option Elab.async false
set_option linter.all false
set_option maxRecDepth 100000
set_option maxHeartbeats 2000000
/-! Fx11: an own object is let go between statements. -/
namespace Fx
open PySem PySem.Spec PyProof.Rows L2
def mFrz (i : Nat) : MS := fun ρ => match ρ[i]? with
  | some (.lst ds) => .nx (ρ.set i (.val (.lst ds)))
  | some (.dic t ds) => .nx (ρ.set i (.val (.dic t ds)))
  | _ => .bad
section
variable {X : Cx} {W : WX} {fr : Fk} {st : List Stmt} {m : MS}
theorem rss_frz (i : Nat) (h : RSs X W fr st m) : RSs X W fr st (mSeq (mFrz i) m) := by
  obtain ⟨t, a, b⟩ := h.ex
  refine ⟨t, a, fun B G ρ σ H E I h' => ?_⟩
  unfold mSeq mFrz at h'
  cases q : ρ[i]? with
  | none => rw [q] at h'; exact h'.elim
  | some s =>
    rw [q] at h'
    have go : ∀ (ho : Own s = true), PostS (sg X) (pp X) W fr B G H E (m (ρ.set i (.val s.d))) → t E σ H := fun ho h => by
      obtain ⟨p, h1, h2, h3, h4⟩ := I.own i s q ho
      refine b B (delG G p) (ρ.set i (.val s.d)) σ H E (I.freeze q ho h1 h4.rep) (PostS.move (fun x o g q => ⟨q, ?_⟩) h)
      unfold delG
      split
      · rfl
      · exact g
    cases s with
    | lst ds => exact go rfl h'
    | dic t ds => exact go rfl h'
    | _ => exact h'.elim
end
end Fx

-- FxI
set_option Elab.async false
set_option linter.all false
set_option maxRecDepth 100000
set_option maxHeartbeats 2000000
/-! FxI: instances: an attribute, a method, the making, __init__. -/
namespace Fx
open PySem PySem.Spec PyProof.Rows L2
/-! ### rules of the walk with the state's exceptions -/
section
variable {X : Cx} {CX : CXT} {k : Nat} {f C : Addr} {fd : FuncData} {ps : List Str} {sp : Sp} {E : L2.St → XK} {x m : Str} {p pos apos : Pos} {e o : Expr} {es : List Expr} {ta : TE} {t : TA}
def tMthS (C : Addr) (m : Str) (sp : Sp) (E : L2.St → XK) (ta : TE) (t : TA) : TE := fun σ H Q => ta σ H fun y H1 => ∃ a dx vs, y = .ref a ∧ H1 a = some (.ins C dx vs) ∧ vs.lookup m = none ∧ t σ H1 fun zs H2 => sp (y :: zs) H2 Q (E σ)
def tMkS (C : Addr) (sp : Sp) (E : L2.St → XK) (t : TA) : TE := fun σ H Q => t σ H fun zs H1 => ∀ y dx, H1 y = none → H1 dx = none → dx ≠ y →
  sp (.ref y :: zs) (upd (upd H1 dx (.own y)) y (.ins C dx [])) (fun v H2 => v = .non ∧ Q (.ref y) H2) (E σ)
theorem pe_mthS {pl : Sem Bool} (he : PE X o ta) (c : Cls X.K C) (hm : Meth X.K C m f) (F : FnOk X.prog X.w X.K X.mg X.base CX k f fd ps sp) (hr : Room k X.A) (hb : Binds X.K fd ps []) (hx : ∀ σ, L2.PassesAt CX X σ (E σ))
    (ha : PA X (e :: es) t) (hst : starEach (e :: es) X.env = (false, eval e X.env) :: starEach es X.env := by rfl) (hpl : (backTo pos (starEach es X.env)).any (·.1) = false := by rfl)
    (ht : eval (.Call (.Attribute o m apos) (e :: es) [] pos) X.env = (do
      let ob ← eval o X.env
      standAt apos.atName
      let (g, fst) ← holding [ob] (getMethod ob m pl)
      callWith pos g fst (backTo pos (starEach (e :: es) X.env)) (backToKw pos (keywordEach [] X.env))) := by rfl) :
    PE X (.Call (.Attribute o m apos) (e :: es) [] pos) (tMthS C m sp E ta t) := by
  refine ⟨fun pins s σ H Q I h => PySem.W.methodCall_KW (pl := pl) (thn (he.run pins s σ H _ I h) ?_) ht⟩
  rintro u s1 ⟨y, H1, I1, rx, a, dx, vs, ey, ea, l, q⟩
  subst ey
  obtain rfl : u = Value.ref a := rx
  refine getmeth_ok I1 ea c hm l (PySem.W.callWith_K (first := [.ref a]) (h₀ := X.base) I.ok.mod.kin hm.kp (thn (ha.run pos pins s1 σ H1 _ I1 q) ?_) hst hpl)
  rintro us s2 ⟨zs, H2, I2, r, q2⟩
  exact ⟨I2.kIn, run_fnS (us := .ref a :: us) (vs := .ref a :: zs) F hr hb (hx σ) I2 (.cons rfl r) q2⟩
theorem pe_mthS0 {pl : Sem Bool} (he : PE X o ta) (c : Cls X.K C) (hm : Meth X.K C m f) (F : FnOk X.prog X.w X.K X.mg X.base CX k f fd ps sp) (hr : Room k X.A) (hb : Binds X.K fd ps []) (hx : ∀ σ, L2.PassesAt CX X σ (E σ))
    (ht : eval (.Call (.Attribute o m apos) [] [] pos) X.env = (do
      let ob ← eval o X.env
      standAt apos.atName
      let (g, fst) ← holding [ob] (getMethod ob m pl)
      callWith pos g fst (backTo pos (starEach [] X.env)) (backToKw pos (keywordEach [] X.env))) := by rfl) :
    PE X (.Call (.Attribute o m apos) [] [] pos) (tMthS C m sp E ta tNil) := by
  refine ⟨fun pins s σ H Q I h => PySem.W.methodCall_KW (pl := pl) (thn (he.run pins s σ H _ I h) ?_) ht⟩
  rintro u s1 ⟨y, H1, I1, rx, a, dx, vs, ey, ea, l, q⟩
  subst ey
  obtain rfl : u = Value.ref a := rx
  exact getmeth_ok I1 ea c hm l (PySem.W.callWith_K0 (first := [.ref a]) I1.kIn hm.kp (run_fnS (us := [.ref a]) (vs := [.ref a]) F hr hb (hx σ) I1 (.cons rfl .nil) q))
theorem run_mkS {pins : List (Addr × Obj)} {σ : L2.St} {H : Hp} {s : Shared} {Q : VK} {us : List Value} {zs : List V} (M : Mk X.K C f) (F : FnOk X.prog X.w X.K X.mg X.base CX k f fd ps sp) (hr : Room (k + 1) X.A) (hb : Binds X.K fd ps []) (hx : L2.PassesAt CX X σ (E σ)) (I : Inv X pins σ H s) (r : Vals zs us)
    (h : ∀ y dx, H y = none → H dx = none → dx ≠ y → sp (.ref y :: zs) (upd (upd H dx (.own y)) y (.ins C dx [])) (fun v H2 => v = .non ∧ Q (.ref y) H2) (E σ)) :
    wpAny (model X.prog X.w) X.A (call (.ref C) us) (EP X pins σ Q) X.xe s := by
  have I2 := Inv.made (C := C) I
  have hq := h (s.heap.objs.size + 1) s.heap.objs.size (I.hok.fresh (Nat.le_succ _)) (I.hok.fresh (Nat.le_refl _)) (fun z => Nat.lt_irrefl _ (Nat.lt_of_lt_of_eq (Nat.lt_succ_self _) z.symm))
  have r2 : Vals (V.ref (s.heap.objs.size + 1) :: zs) (Value.ref (s.heap.objs.size + 1) :: us) := .cons rfl r
  have hl := r2.length.symm.trans (F.len _ _ _ _ hq)
  have b := hb { s with heap := (s.heap.push PySem.W.emptyDict).push (PySem.W.instObj C s.heap.objs.size) } (Value.ref (s.heap.objs.size + 1) :: us) I2.kIn (by rw [List.append_nil]; exact hl)
  rw [List.append_nil] at b
  refine wpAny_call (make_map (f := f) I.kIn M.makes M.init (beq_iff_eq.mp M.fn) (codeAny_mono (F.run _ X.stack _ _ ⟨Value.ref (s.heap.objs.size + 1) :: us, []⟩ _ _ _ (E σ) (hr.make C us []) (I2.env0.make C us []) b r2 hq) ?_))
  rintro (e | fl) s' hq'
  · exact hx pins _ _ e s' I2 hq'
  · cases fl with
    | ret u =>
      obtain ⟨v, H', I3, rv, ev, q3⟩ := I2.after hq'
      subst ev
      exact ⟨rv, ⟨V.ref (s.heap.objs.size + 1), H', I3, rfl, q3⟩⟩
    | next => exact hq'.elim
    | brk => exact hq'.elim
    | cont => exact hq'.elim
theorem pe_mkS (M : Mk X.K C f) (F : FnOk X.prog X.w X.K X.mg X.base CX k f fd ps sp) (hr : Room (k + 1) X.A) (hg : Gl X x) (hm : X.mg x = some (.ref C)) (hb : Binds X.K fd ps []) (hx : ∀ σ, L2.PassesAt CX X σ (E σ)) (ha : PA X (e :: es) t)
    (hdb : (x == ("__debug__" : Str)) = false := by decide) (he : starEach (e :: es) X.env = (false, eval e X.env) :: starEach es X.env := by rfl) (hpl : (backTo pos (starEach es X.env)).any (·.1) = false := by rfl) :
    PE X (.Call (.Name x p) (e :: es) [] pos) (tMkS C sp E t) := by
  refine ⟨fun pins s σ H Q I h => wpAny_Call_Name_kw (ld_glob I hg hm (PySem.W.callWith_K (h₀ := X.base) I.ok.mod.kin M.kp (thn (ha.run pos pins s σ H _ I h) ?_) he hpl) hdb)⟩
  rintro us s1 ⟨zs, H1, I1, r, q⟩
  exact ⟨I1.kIn, run_mkS M F hr hb (hx σ) I1 r q⟩
end
/-! ### an attribute -/
def mFd (cs : List Str) (f : Str) (m : ME) : ME := fun ρ => (m ρ).bind fun d => match d with
  | .ins c fs => if cs.contains c = true then R.of (fs.lookup f) else .bad
  | _ => .bad
/-- the classes have no such name -/
def NoAt (K : PySem.W.Frag) (mg : Str → Option Value) (cs : List Str) (f : Str) : Prop := ∀ c ∈ cs, ∀ C, mg c = some (.ref C) → NoAttr K C f
section
variable {X : Cx} {W : WX} {c : Bool} {cs : List Str} {f : Str} {e : Expr} {me : ME} {pos : Pos}
theorem snd_fd {S : Sig} {P : PX} {t : TE} (h : SndE S P W c t me) (hn : NoAt S.K S.mg cs f) : SndE S P W true (tFld S.K t f) (mFd cs f me) := fun B G ρ σ H Q I nb k ke => by
  unfold mFd at nb k ke
  refine h B G ρ σ H _ I (R.bad_bind nb) (fun d e v H1 x1 r => ?_) (fun x e => ke x (by rw [e]; rfl))
  rw [e, R.bind_ok] at nb k
  cases d with
  | ins x fs =>
    dsimp only at nb k
    by_cases z : cs.contains x = true
    · rw [if_pos z] at nb k
      obtain ⟨a, C, dx, vs, rfl, ha, hm, hc, rf⟩ := r.inst
      cases q : fs.lookup f with
      | none => rw [q] at nb; exact absurd rfl nb
      | some d =>
        obtain ⟨v, hv, rv⟩ := repF_get rf q
        exact ⟨a, C, dx, vs, v, rfl, ha, hc, hn x (by simpa using z) C hm, hv, k d (by rw [q]; rfl) v H1 x1 rv⟩
    · rw [if_neg z] at nb; exact absurd rfl nb
  | _ => exact absurd rfl nb
theorem re_fd (hn : NoAt X.K X.mg cs f) (h : RE X W c e me) (hb : attributeBase e f X.env (eval e X.env) = eval e X.env := by rfl) : RE X W true (.Attribute e f pos) (mFd cs f me) := by
  obtain ⟨t, a1, a2⟩ := h.ex
  exact ⟨_, pe_fld a1 hb, snd_fd a2 hn⟩
end
/-! ### self.f = e -/
theorem lookup_none {S : Sig} {H : Hp} : ∀ {vs : List (Str × V)} {fs : List (Str × D)} {f : Str}, RepF S H vs fs → fs.lookup f = none → vs.lookup f = none
  | [], [], _, _, _ => rfl
  | [], _ :: _, _, r, _ => by have := r.1; cases this
  | _ :: _, [], _, r, _ => by have := r.1; cases this
  | (g, v) :: vs, (g', d) :: fs, f, r, h => by
    have e : g = g' := r.2.1 0 g g' v d rfl rfl
    subst e
    have r' : RepF S H vs fs := ⟨by have := r.1; simpa using this, fun i a b x y p q => r.2.1 (i + 1) a b x y p q, fun i a b x y p q => r.2.2 (i + 1) a b x y p q⟩
    rw [List.lookup_cons] at h ⊢
    cases q : f == g with
    | true => rw [q] at h; cases h
    | false => rw [q] at h; exact lookup_none r' h
theorem putF_new {f : Str} {y : V} : ∀ {vs : List (Str × V)}, vs.lookup f = none → putF f y vs = vs ++ [(f, y)]
  | [], _ => rfl
  | (g, v) :: vs, h => by
    rw [List.lookup_cons] at h
    cases q : f == g with
    | true => rw [q] at h; cases h
    | false =>
      rw [q] at h
      have ne : g ≠ f := fun e => by rw [e] at q; simp at q
      unfold putF
      rw [if_neg ne, putF_new h]
      rfl
theorem RepF.snoc {S : Sig} {H : Hp} {vs : List (Str × V)} {fs : List (Str × D)} {f : Str} {y : V} {d : D} (r : RepF S H vs fs) (ry : Rep S H y d) : RepF S H (vs ++ [(f, y)]) (fs ++ [(f, d)]) := by
  have l := r.1
  have at_ : ∀ {i : Nat} {a b : Str} {x : V} {d' : D}, (vs ++ [(f, y)])[i]? = some (a, x) → (fs ++ [(f, d)])[i]? = some (b, d') → (vs[i]? = some (a, x) ∧ fs[i]? = some (b, d')) ∨ (a = f ∧ b = f ∧ x = y ∧ d' = d) := fun {i a b x d'} h1 h2 => by
    by_cases q : i < vs.length
    · rw [List.getElem?_append_left q] at h1
      rw [List.getElem?_append_left (l ▸ q)] at h2
      exact .inl ⟨h1, h2⟩
    · rw [List.getElem?_append_right (Nat.le_of_not_lt q)] at h1
      rw [List.getElem?_append_right (by omega), ← l] at h2
      cases z : i - vs.length with
      | zero => rw [z] at h1 h2; cases h1; cases h2; exact .inr ⟨rfl, rfl, rfl, rfl⟩
      | succ n => rw [z] at h1; cases h1
  refine ⟨by rw [List.length_append, List.length_append, l]; rfl, fun i a b x d' h1 h2 => ?_, fun i a b x d' h1 h2 => ?_⟩
  · rcases at_ h1 h2 with ⟨h3, h4⟩ | ⟨rfl, rfl, _, _⟩
    · exact r.2.1 i a b x d' h3 h4
    · rfl
  · rcases at_ h1 h2 with ⟨h3, h4⟩ | ⟨_, _, rfl, rfl⟩
    · exact r.2.2 i a b x d' h3 h4
    · exact ry
def mFdS (cs : List Str) (i : Nat) (f : Str) (m : ME) : MS := fun ρ => (m ρ).out ρ fun d => match ρ[i]? with
  | some (.ins c fs) => if cs.contains c && ((fs.lookup f).isNone && decide (fs.length < 900)) then .nx (ρ.set i (.ins c (fs ++ [(f, d)]))) else .bad
  | _ => .bad
section
variable {X : Cx} {W : WX} {fr : Fk} {c : Bool} {cs : List Str} {f x : Str} {e : Expr} {me : ME} {pos pos' pos2 : Pos} {i : Nat}
theorem snd_fdS {S : Sig} {P : PX} {t : TE} (h : SndE S P W true t me) (hn : NoAt S.K S.mg cs f) : SndS S P W fr (sFld S.K (tVar i) t f) (mFdS cs i f me) := fun B G ρ σ H E I h' => by
  unfold mFdS at h'
  refine h B G ρ σ H _ I (post_nb h') (fun d e y H1 x1 ry => ?_) (post_err I h')
  have h2 := post_ok e h'
  have J := I.grow x1
  cases q : ρ[i]? with
  | none => rw [q] at h2; exact h2.elim
  | some s =>
    rw [q] at h2
    cases s with
    | ins c fs =>
      dsimp only at h2
      split at h2
      · rename_i z
        obtain ⟨z1, z⟩ := Bool.and_eq_true_iff.mp z
        obtain ⟨z2, z3⟩ := Bool.and_eq_true_iff.mp z
        have z3 := of_decide_eq_true z3
        have z2 : fs.lookup f = none := by
          cases w : fs.lookup f with
          | none => rfl
          | some d => rw [w] at z2; cases z2
        obtain ⟨p, hp, g, b, C, dx, vs, ha, hm, hc, rf⟩ := J.own i _ q rfl
        have me_ := J.bx.me i c fs q
        have lv := lookup_none rf z2
        refine ⟨.ref p, hp, p, C, dx, vs, rfl, ha, hc, hn c (by simpa using z1) C hm, by rw [rf.1]; omega, ?_⟩
        rw [putF_new lv]
        exact h2 G σ _ (J.write q rfl hp rfl (fun H' off at_ ex => ⟨C, dx, _, at_, hm, hc, (rf.ex ex).snoc (ry.ex ex)⟩) (fun c' fs' _ => me_)) (fun a o g0 h0 => by
          have ne : a ≠ p := fun z => by rw [z, g] at g0; cases g0
          exact ⟨by rw [upd_ne ne]; exact x1 a o h0, g0⟩)
      · exact h2.elim
    | _ => exact h2.elim
theorem rs_fdS (hn : NoAt X.K X.mg cs f) (hx : PE X (.Name x pos2) (tVar i)) (he : RE X W true e me) (hs : swapsWith e (some (.Attribute (.Name x pos2) f pos')) pos.line X.env = pure false := by rfl) : RS X W fr (.Assign [.Attribute (.Name x pos2) f pos'] e pos) (mFdS cs i f me) := by
  obtain ⟨t, a1, a2⟩ := he.ex
  exact ⟨_, ps_fld hx a1 hs, snd_fdS a2 hn⟩
end
end Fx

-- FxI2
set_option Elab.async false
set_option linter.all false
set_option maxRecDepth 100000
set_option maxHeartbeats 2000000
/-! FxI2: a method's call, a new instance, the def __init__. -/
namespace Fx
open PySem PySem.Spec PyProof.Rows L2
theorem RepF.nil {S : Sig} {H : Hp} : RepF S H [] [] := ⟨rfl, (fun i f g x d h _ => by cases h), (fun i f g x d h _ => by cases h)⟩
/-! ### methods -/
structure ClM (P : Program) (w : World) (K : PySem.W.Frag) (mg : Str → Option Value) (base : Heap) (k : Nat) (c m : Str) (fr : Fk) (n : Nat) (mf : MF) : Prop where
  ex : ∃ (C f : Addr) (fd : FuncData) (ps : List Str), mg c = some (.ref C) ∧ Cls K C ∧ Meth K C m f ∧ FnOk P w K mg base (L2N.CX P w) k f fd ps (spF ⟨K, mg⟩ fr n mf) ∧ Binds K fd ps []
def mMth (c m : Str) (mf : MF) (mo : ME) (ma : MA) : ME := fun ρ => (mo ρ).bind fun d => match d with
  | .ins x fs => if (x == c && (fs.lookup m).isNone) = true then (ma ρ).bind fun ds => mf (.ins x fs :: ds) else .bad
  | _ => .bad
section
variable {X : Cx} {W : WX} {k j n : Nat} {c m : Str} {mf : MF} {mo : ME} {ma : MA} {o e : Expr} {es : List Expr} {p pos apos : Pos} {C : Addr} {fr : Fk}
theorem snd_mth0 {S : Sig} {P : PX} {to : TE} {t : TA} {E : L2.St → XK} {Q' : Bs → (Addr → Bool) → Env → L2.St → Hp → VK → Prop} (ho : SndE S P W true to mo) (ha : SndA S P W true n t ma) (hm : S.mg c = some (.ref C))
    {B : Bs} {G : Addr → Bool} {ρ : Env} {σ : L2.St} {H : Hp} {Q : VK} (I : Sts S P B G ρ σ H) (nb : mMth c m mf mo ma ρ ≠ .bad)
    (ke : ∀ x, mMth c m mf mo ma ρ = .err x → ∀ cls dd H', Ex H H' → RepX S (hid H' G) cls dd x → W cls dd σ H')
    (k : ∀ (d : D) (ds : List D) (y : V) (zs : List V) (H2 : Hp), Ex H H2 → zs.length = n → Reps S (hid H2 G) (y :: zs) (d :: ds) → (∀ a, G a = true → MutO (H2 a)) → mMth c m mf mo ma ρ = mf (d :: ds) → spF S fr (n + 1) mf (y :: zs) H2 Q (E σ)) :
    tMthS C m (spF S fr (n + 1) mf) E to t σ H Q := by
  unfold mMth at nb ke k
  refine ho B G ρ σ H _ I (R.bad_bind nb) (fun d e v H1 x1 r => ?_) (fun x e => ke x (by rw [e]; rfl))
  rw [e, R.bind_ok] at nb ke k
  cases d with
  | ins x fs =>
    dsimp only at nb ke k
    by_cases z : (x == c && (fs.lookup m).isNone) = true
    · rw [if_pos z] at nb ke k
      obtain ⟨z1, z2⟩ := Bool.and_eq_true_iff.mp z
      have ex : x = c := by simpa using z1
      subst ex
      obtain ⟨a, C', dx, vs, rfl, hp, hm', hc, rf⟩ := RepC.inst (c := true) r
      rw [hm] at hm'
      cases hm'
      have hl : fs.lookup m = none := by
        cases w : fs.lookup m with
        | none => rfl
        | some d => rw [w] at z2; cases z2
      refine ⟨a, dx, vs, rfl, hp, lookup_none rf hl, ?_⟩
      refine ha B G ρ σ H1 _ (I.grow x1) (R.bad_bind nb) (fun ds e2 zs H2 x2 hn hl rs => ?_) (fun x e2 cls dd H' x2 => ke x (by rw [e2]; rfl) cls dd H' (x1.trans x2))
      have r2 : Rep S (hid H2 G) (.ref a) (.ins x fs) := Rep.ex (hid_ex x2) r
      exact k _ ds _ zs H2 (x1.trans x2) hn (.cons r2 (reps_of hl rs)) (I.grow (x1.trans x2)).gm (by rw [e2]; rfl)
    · rw [if_neg z] at nb; exact absurd rfl nb
  | _ => exact absurd rfl nb
theorem snd_mth {to : TE} {t : TA} (ho : SndE (sg X) (pp X) W true to mo) (ha : SndA (sg X) (pp X) W true n t ma) (hm : X.mg c = some (.ref C)) : SndE (sg X) (pp X) W true (tMthS C m (spF (sg X) .val (n + 1) mf) (WE W) to t) (mMth c m mf mo ma) := fun B G ρ σ H Q I nb k ke => by
  refine snd_mth0 (Q' := fun _ _ _ _ _ _ => True) ho ha hm I nb ke fun d ds y zs H2 x2 hn rs gm e => ?_
  rw [e] at nb k ke
  exact ⟨by rw [List.length_cons, hn], G, d :: ds, gm, rs, nb, fun d' e' => fun v H3 x3 r => k d' e' v H3 (x2.trans x3) r, fun y e' cls dd H3 x3 r => ke y e' cls dd H3 (x2.trans x3) r⟩
theorem snd_mthF {to : TE} {t : TA} (ho : SndE (sg X) (pp X) W true to mo) (ha : SndA (sg X) (pp X) W true n t ma) (hm : X.mg c = some (.ref C)) : SndF (sg X) (pp X) W (tMthS C m (spF (sg X) .own (n + 1) mf) (WE W) to t) (mMth c m mf mo ma) := fun B G ρ σ H Q I nb k ke => by
  refine snd_mth0 (Q' := fun _ _ _ _ _ _ => True) ho ha hm I nb ke fun d ds y zs H2 x2 hn rs gm e => ?_
  rw [e] at nb k ke
  refine ⟨by rw [List.length_cons, hn], G, d :: ds, gm, rs, nb, fun d' e' => ?_, fun y e' cls dd H3 x3 r => ke y e' cls dd H3 (x2.trans x3) r⟩
  refine fun p s H3 x3 hp es w => k d' e' p s H3 ?_ (x2.trans x3) es w
  cases z : H p with
  | none => rfl
  | some o => rw [x2 p o z] at hp; cases hp
theorem re_mth {pl : Sem Bool} (cl : ClM X.prog X.w X.K X.mg X.base k c m .val ((e :: es).length + 1) mf) (hr : Room j X.A) (hk : k ≤ j) (tk : L2N.Takes X W) (ho : RE X W true o mo) (ha : RA X W true (e :: es) ma)
    (hst : starEach (e :: es) X.env = (false, eval e X.env) :: starEach es X.env := by rfl) (hpl : (backTo pos (starEach es X.env)).any (·.1) = false := by rfl)
    (ht : eval (.Call (.Attribute o m apos) (e :: es) [] pos) X.env = (do
      let ob ← eval o X.env
      standAt apos.atName
      let (g, fst) ← holding [ob] (getMethod ob m pl)
      callWith pos g fst (backTo pos (starEach (e :: es) X.env)) (backToKw pos (keywordEach [] X.env))) := by rfl) :
    RE X W true (.Call (.Attribute o m apos) (e :: es) [] pos) (mMth c m mf mo ma) := by
  obtain ⟨C, f, fd, ps, hm, hc, me, F, hb⟩ := cl.ex
  obtain ⟨to, o1, o2⟩ := ho.ex
  obtain ⟨t, a1, a2⟩ := ha.ex
  exact ⟨_, pe_mthS (pl := pl) o1 hc me F (hr.mono hk) hb (L2N.passAt tk) a1 hst hpl ht, snd_mth o2 a2 hm⟩
theorem re_mth0 {pl : Sem Bool} (cl : ClM X.prog X.w X.K X.mg X.base k c m .val 1 mf) (hr : Room j X.A) (hk : k ≤ j) (tk : L2N.Takes X W) (ho : RE X W true o mo)
    (ht : eval (.Call (.Attribute o m apos) [] [] pos) X.env = (do
      let ob ← eval o X.env
      standAt apos.atName
      let (g, fst) ← holding [ob] (getMethod ob m pl)
      callWith pos g fst (backTo pos (starEach [] X.env)) (backToKw pos (keywordEach [] X.env))) := by rfl) :
    RE X W true (.Call (.Attribute o m apos) [] [] pos) (mMth c m mf mo mNil) := by
  obtain ⟨C, f, fd, ps, hm, hc, me, F, hb⟩ := cl.ex
  obtain ⟨to, o1, o2⟩ := ho.ex
  exact ⟨_, pe_mthS0 (pl := pl) o1 hc me F (hr.mono hk) hb (L2N.passAt tk) ht, snd_mth (n := 0) o2 (fun B G ρ σ H Q I nb k ke => k [] rfl [] H (Ex.refl H) rfl rfl fun i v d h _ => by cases h) hm⟩
end
/-! ### a new instance -/
abbrev MIn := List D → R (List (Str × D))
def spI (S : Sig) (c : Str) (n : Nat) (mi : MIn) : Sp := fun vs H Q E => vs.length = n + 1 ∧ ∃ (y : Addr) (zs : List V) (G : Addr → Bool) (ds : List D) (H0 : Hp) (C dx : Addr), vs = .ref y :: zs ∧ (∀ a, G a = true → MutO (H0 a)) ∧ H0 y = none ∧ Ex H0 H ∧ H y = some (.ins C dx []) ∧
  S.mg c = some (.ref C) ∧ Cls S.K C ∧ Reps S (hid H0 G) zs ds ∧ mi ds ≠ .bad ∧ (∀ fs, mi ds = .ok fs → ∀ H', Ex H0 H' → Rep S (hid H' G) (.ref y) (.ins c fs) → Q .non H') ∧
  (∀ x, mi ds = .err x → ∀ cls dd H', Ex H0 H' → RepX S (hid H' G) cls dd x → E cls dd H')
def entI (N : Nat) (c : Str) (ds : List D) : Env := (ent N (.non :: ds)).set 0 (.ins c [])
def mini (N : Nat) (c : Str) (m : MS) : MIn := fun ds => match m (entI N c ds) with
  | .nx ρ => (match ρ[0]? with
    | some (Sl.ins x fs) => if x = c then .ok fs else .bad
    | _ => .bad)
  | .err x _ => .err x
  | _ => .bad
structure ClI (P : Program) (w : World) (K : PySem.W.Frag) (mg : Str → Option Value) (base : Heap) (k : Nat) (c : Str) (n : Nat) (mi : MIn) : Prop where
  ex : ∃ (C f : Addr) (fd : FuncData) (ps : List Str), mg c = some (.ref C) ∧ Cls K C ∧ Mk K C f ∧ FnOk P w K mg base (L2N.CX P w) k f fd ps (spI ⟨K, mg⟩ c n mi) ∧ Binds K fd ps []
def mMk (c : Str) (mi : MIn) (ma : MA) : ME := fun ρ => (ma ρ).bind fun ds => (mi ds).bind fun fs => .ok (.ins c fs)
/-- from own objects: the fields have no lists -/
def mMkL (c : Str) (mi : MIn) (ma : MA) : ME := fun ρ => (ma ρ).bind fun ds => match mi ds with
  | .ok fs => if lff fs = true then .ok (.ins c fs) else .bad
  | .err x => if lff x.fs = true then .err x else .bad
  | .bad => .bad
section
variable {P : Program} {w : World} {K : PySem.W.Frag} {mg : Str → Option Value} {base : Heap} {qual : Str} {params : Arguments} {body : List Stmt} {scope : Scope} {f : Addr} {fd : FuncData}
theorem sts_init {S : Sig} {P : PX} {N : List Str} {H H0 : Hp} {G : Addr → Bool} {zs : List V} {ds : List D} {c : Str} {y C dx : Addr} (hN : 0 < N.length) (gm : ∀ a, G a = true → MutO (H0 a)) (r : Reps S (hid H0 G) zs ds) (h0 : H0 y = none) (e : Ex H0 H) (hy : H y = some (.ins C dx [])) (hm : S.mg c = some (.ref C)) (hc : Cls S.K C) :
    Sts S P ⟨H0, G, y⟩ (addG G y) (entI N.length c ds) (L2.start N (.ref y :: zs)) H := by
  have I0 := sts_start (S := S) (P := P) (N := N) (H := H0) (G := G) (vs := V.non :: zs) (ds := D.non :: ds) gm (.cons .non r)
  have I1 : Sts S P ⟨H0, G, y⟩ G (ent N.length (D.non :: ds)) (L2.start N (V.non :: zs)) H0 := ⟨I0.ex, I0.bg, I0.gb, I0.gm, I0.len, I0.val, I0.own, I0.sep, I0.exc, .none (fun i c fs h => by rcases ent_get h with ⟨d', h1, h2⟩ | ⟨_, h2⟩ <;> cases h2) (fun i e h => by rcases ent_get h with ⟨d', h1, h2⟩ | ⟨_, h2⟩ <;> cases h2)⟩
  exact I1.setOwn (i := 0) (s := .ins c []) e h0 rfl ⟨C, dx, [], hy, hm, hc, .nil⟩ fun _ _ _ => rfl
theorem fx_init {N ps : List Str} {k n : Nat} {m : MS} {c x : Str} {dvs : List V} {kws : List (Str × V)} (F : FunD K x qual params body scope dvs kws f fd) (S : FnScope N ps scope) (hN : 0 < N.length) (hp : ps.length = n + 1)
    (h : ∀ (cdv : Value) (A : Around) (outer : List PySem.Env) (s : Shared) (H : Hp) (E : XK), Room k (A.deeper (envOfC qual scope s.heap.objs.size f cdv)) →
      RSs (cxOf (L2N.CX P w) P w K mg base N qual scope f cdv A outer s H E) (fun cls d _ H => E cls d H) .val body m) :
    FnOk P w K mg base (L2N.CX P w) (k + 1) f fd ps (spI ⟨K, mg⟩ c n (mini N.length c m)) := by
  refine F.ok S (fun vs H Q E q => q.1.trans hp.symm) fun cdv A outer s H vs Q E hr hsp => ?_
  obtain ⟨t, h1, h2⟩ := (h cdv A outer s H E hr).ex
  refine ⟨t, h1, ?_⟩
  obtain ⟨_, y, zs, G, ds, H0, C, dx, rfl, gm, h0, e0, hy, hm, hc, r, nb, k1, k2⟩ := hsp
  have I := sts_init (P := pinP []) (N := N) hN gm r h0 e0 hy hm hc
  refine h2 ⟨H0, G, y⟩ (addG G y) (entI N.length c ds) (L2.start N (.ref y :: zs)) H _ I ?_
  unfold mini at nb k1 k2
  have gy : G y = false := fresh_vis gm h0
  cases q : m (entI N.length c ds) with
  | nx ρ' =>
    rw [q] at nb k1
    intro G' σ' H' J fr'
    dsimp only at nb k1
    cases q2 : ρ'[0]? with
    | none => rw [q2] at nb; exact absurd rfl nb
    | some sl =>
      rw [q2] at nb k1
      cases sl with
      | ins c' fs =>
        dsimp only at nb k1
        by_cases z : c' = c
        · rw [if_pos z] at k1
          subst z
          obtain ⟨p, hp, g, _, C', dx', vs, a1, a2, a3, a4⟩ := J.own 0 _ q2 rfl
          have me_ := J.bx.me 0 c' fs q2
          rw [hp] at me_
          have ep : p = y := V.ref.inj (Option.some.inj (Option.some.inj me_))
          subst ep
          have a4 := a4.ex (hid_anti J.gb)
          exact k1 fs rfl H' J.ex (.ins (hid_of gy a1) a2 a3 a4.1 a4.2.1 a4.2.2)
        · rw [if_neg z] at nb; exact absurd rfl nb
      | _ => exact absurd rfl nb
  | bk ρ' => rw [q] at nb; exact absurd rfl nb
  | ct ρ' => rw [q] at nb; exact absurd rfl nb
  | bad => rw [q] at nb; exact absurd rfl nb
  | rt d => rw [q] at nb; exact absurd rfl nb
  | err y ρ' =>
    rw [q] at k2
    exact fun cls dd G' σ' H' J fr' rx => k2 y rfl cls dd H' J.ex (rx.ex (hid_anti J.gb))
end
section
variable {X : Cx} {W : WX} {k j n : Nat} {c : Str} {mi : MIn} {ma : MA} {e : Expr} {es : List Expr} {p pos : Pos} {C : Addr}
theorem ex_mk {H : Hp} {y dx : Addr} {o o2 : HO} (h1 : H y = none) (h2 : H dx = none) (ne : dx ≠ y) : Ex H (upd (upd H dx o) y o2) := (Ex.new h2).trans (Ex.new (by rw [upd_ne (Ne.symm ne)]; exact h1))
theorem snd_mk {t : TA} (ha : SndA (sg X) (pp X) W true n t ma) (hm : X.mg c = some (.ref C)) (hc : Cls X.K C) : SndE (sg X) (pp X) W true (tMkS C (spI (sg X) c n mi) (WE W) t) (mMk c mi ma) := fun B G ρ σ H Q I nb k ke => by
  unfold mMk at nb k ke
  refine ha B G ρ σ H _ I (R.bad_bind nb) (fun ds e zs H1 x1 hn hl rs => ?_) (fun x e => ke x (by rw [e]; rfl))
  rw [e, R.bind_ok] at nb k ke
  intro y dx hy hdx ne
  refine ⟨by rw [List.length_cons, hn], y, zs, G, ds, H1, C, dx, rfl, (I.grow x1).gm, hy, ex_mk hy hdx ne, upd_same, hm, hc, reps_of hl rs, R.bad_bind nb, fun fs e2 H2 x2 r => ⟨rfl, ?_⟩, fun x e2 cls dd H2 x2 => ke x (by rw [e2]; rfl) cls dd H2 (x1.trans x2)⟩
  exact k _ (by rw [e2]; rfl) _ H2 (x1.trans x2) r
theorem snd_mkL {t : TA} (ha : SndA (sg X) (pp X) W false n t ma) (hm : X.mg c = some (.ref C)) (hc : Cls X.K C) : SndE (sg X) (pp X) W true (tMkS C (spI (sg X) c n mi) (WE W) t) (mMkL c mi ma) := fun B G ρ σ H Q I nb k ke => by
  unfold mMkL at nb k ke
  refine ha B G ρ σ H _ I (R.bad_bind nb) (fun ds e zs H1 x1 hn hl rs => ?_) (fun x e => ke x (by rw [e]; rfl))
  rw [e, R.bind_ok] at nb k ke
  intro y dx hy hdx ne
  have e0 : ∀ {H : Hp}, hid H noG = H := hid_noG
  have gm := (I.grow x1).gm
  refine ⟨by rw [List.length_cons, hn], y, zs, noG, ds, H1, C, dx, rfl, (fun a g => by cases g), hy, ex_mk hy hdx ne, upd_same, hm, hc, ⟨hl, fun i v d h1 h2 => by rw [e0]; exact (rs i v d h1 h2).full⟩, fun z => nb (by rw [z]), fun fs e2 H2 x2 r => ⟨rfl, ?_⟩, fun x e2 cls dd H2 x2 r => ?_⟩
  · rw [e2] at nb k
    dsimp only at nb k
    by_cases l : lff fs = true
    · rw [if_pos l] at k
      rw [e0] at r
      refine k _ rfl _ H2 (x1.trans x2) ?_
      cases r with
      | ins ho hm' hc' h1 h2 h3 =>
        refine .ins (hid_of (fresh_vis gm hy) ho) hm' hc' h1 h2 fun i f g x d a b => (h3 i f g x d a b).lf (I.grow (x1.trans x2)).gm (lff_get l b)
    · rw [if_neg l] at nb; exact absurd rfl nb
  · rw [e2] at nb ke
    dsimp only at nb ke
    by_cases l : lff x.fs = true
    · rw [if_pos l] at ke
      rw [e0] at r
      exact ke x rfl cls dd H2 (x1.trans x2) (r.lf (I.grow (x1.trans x2)).gm l)
    · rw [if_neg l] at nb; exact absurd rfl nb
theorem re_mk (cl : ClI X.prog X.w X.K X.mg X.base k c (e :: es).length mi) (hr : Room j X.A) (hk : k + 1 ≤ j) (hg : Gl X c) (tk : L2N.Takes X W) (ha : RA X W true (e :: es) ma)
    (hdb : (c == ("__debug__" : Str)) = false := by decide) (he : starEach (e :: es) X.env = (false, eval e X.env) :: starEach es X.env := by rfl) (hpl : (backTo pos (starEach es X.env)).any (·.1) = false := by rfl) :
    RE X W true (.Call (.Name c p) (e :: es) [] pos) (mMk c mi ma) := by
  obtain ⟨C, f, fd, ps, hm, hc, M, F, hb⟩ := cl.ex
  obtain ⟨t, a1, a2⟩ := ha.ex
  exact ⟨_, pe_mkS M F (hr.mono hk) hg hm hb (L2N.passAt tk) a1 hdb he hpl, snd_mk a2 hm hc⟩
theorem re_mkL (cl : ClI X.prog X.w X.K X.mg X.base k c (e :: es).length mi) (hr : Room j X.A) (hk : k + 1 ≤ j) (hg : Gl X c) (tk : L2N.Takes X W) (ha : RA X W false (e :: es) ma)
    (hdb : (c == ("__debug__" : Str)) = false := by decide) (he : starEach (e :: es) X.env = (false, eval e X.env) :: starEach es X.env := by rfl) (hpl : (backTo pos (starEach es X.env)).any (·.1) = false := by rfl) :
    RE X W true (.Call (.Name c p) (e :: es) [] pos) (mMkL c mi ma) := by
  obtain ⟨C, f, fd, ps, hm, hc, M, F, hb⟩ := cl.ex
  obtain ⟨t, a1, a2⟩ := ha.ex
  exact ⟨_, pe_mkS M F (hr.mono hk) hg hm hb (L2N.passAt tk) a1 hdb he hpl, snd_mkL a2 hm hc⟩
end
end Fx

-- FxD
set_option Elab.async false
set_option linter.all false
set_option maxRecDepth 100000
set_option maxHeartbeats 2000000
/-! FxD: data whose lists are all new; slots that own such a datum; changes deep in it. -/
namespace Fx
open PySem PySem.Spec PyProof.Rows L2
section
variable {S : Sig} {P : PX} {W : WX} {B : Bs} {G : Addr → Bool} {ρ : Env} {σ : L2.St} {H H1 H' : Hp} {v : V} {d : D}
theorem frz_mut {o : Option HO} (h : frzB o = true) : ¬ MutO o := by
  unfold frzB at h
  split at h
  · exact fun z => z
  · cases h
/-- hidden: never a tuple -/
def NoTup (H : Hp) (G : Addr → Bool) : Prop := ∀ a xs, G a = true → H a ≠ some (.tup xs)
theorem Rep.lfN (g : NoTup H G) (h : Rep S H v d) : Fx.lf d = true → Rep S (hid H G) v d := by
  induction h with
  | non => exact fun _ => .non
  | bl b => exact fun _ => .bl b
  | int i => exact fun _ => .int i
  | str x => exact fun _ => .str x
  | pool h1 h2 ne => intro q; unfold Fx.lf at q; cases q
  | @tup a xs ds hs hl _ ih =>
    intro q
    unfold Fx.lf at q
    refine .tup ?_ hl fun i x d h1 h2 => ih i x d h1 h2 (lfs_get q h2)
    cases z : G a with
    | false => exact hid_of z hs
    | true => exact absurd hs (g a xs z)
  | lst hs hl _ ih => intro q; unfold Fx.lf at q; cases q
  | dK hs hl hk _ ih => intro q; unfold Fx.lf at q; cases q
  | dT hs hl hk _ ih => intro q; unfold Fx.lf at q; cases q
  | ins hs hc cl hl hk _ ih => intro q; unfold Fx.lf at q; cases q
theorem newG_noTup (gm : ∀ a, G a = true → MutO (H a)) (e : Ex H H') : NoTup H' (newG H H' G) := fun a xs z q => by
  rcases Bool.or_eq_true_iff.mp z with z | z
  · have y := mut_grow gm e a z
    rw [q] at y
    exact y
  · rcases Bool.or_eq_true_iff.mp z with z | z
    · have y := mutB_to z
      cases w : H a with
      | none => rw [w] at y; exact y
      | some o => rw [w] at y; rw [e a o w] at q; cases q; exact y
    · rw [q] at z; cases z
theorem onlyG_noTup {L : Addr → Bool} : NoTup H (onlyG H L) := fun a xs z q => by
  unfold onlyG at z
  rw [q] at z
  cases z
theorem newG_sub (h : ∀ a, G a = true → MutO (H a)) (e : Ex H H1) : ∀ a, newG H H' G a = true → newG H1 H' G a = true := fun a z => by
  unfold newG at z ⊢
  rcases Bool.or_eq_true_iff.mp z with z | z
  · rw [z]; rfl
  · rcases Bool.or_eq_true_iff.mp z with z | z
    · have y := mutB_of (mut_grow (H := H) (H' := H1) (G := fun b => mutB (H b)) (fun b hb => mutB_to hb) e a z)
      rw [y]; simp
    · rw [z]; simp
theorem newG_noG (h : ∀ a, G a = true → MutO (H1 a)) : ∀ a, newG H1 H' G a = true → newG H1 H' noG a = true := fun a z => by
  unfold newG at z ⊢
  rcases Bool.or_eq_true_iff.mp z with z | z
  · rw [mutB_of (h a z)]; simp
  · rw [z]; simp
theorem newG_up {H2 : Hp} (e : Ex H' H2) : Ex (hid H' (newG H H' G)) (hid H2 (newG H H2 G)) := fun a o h => by
  obtain ⟨g, h⟩ := hid_some h
  refine hid_of ?_ (e a o h)
  unfold newG at g ⊢
  rw [h] at g
  rw [e a o h]
  exact g
theorem newG_G : ∀ a, G a = true → newG H H' G a = true := fun a h => by unfold newG; rw [h]; rfl
end
/-! ### expressions that give new data -/
def SndN (S : Sig) (P : PX) (W : WX) (t : TE) (m : ME) : Prop :=
  ∀ (B : Bs) (G : Addr → Bool) (ρ : Env) (σ : L2.St) (H : Hp) (Q : VK), Sts S P B G ρ σ H → m ρ ≠ .bad → (∀ d, m ρ = .ok d → ∀ v H', Ex H H' → Rep S (hid H' (newG H H' G)) v d → Q v H') →
    (∀ x, m ρ = .err x → ∀ cls dd H', Ex H H' → RepX S (hid H' G) cls dd x → W cls dd σ H') → t σ H Q
structure RN (X : Cx) (W : WX) (e : Expr) (m : ME) : Prop where
  ex : ∃ t, PE X e t ∧ SndN (sg X) (pp X) W t m
def SndNs (S : Sig) (P : PX) (W : WX) (n : Nat) (t : TA) (m : MA) : Prop :=
  ∀ (B : Bs) (G : Addr → Bool) (ρ : Env) (σ : L2.St) (H : Hp) (Q : List V → Hp → Prop), Sts S P B G ρ σ H → m ρ ≠ .bad →
    (∀ ds, m ρ = .ok ds → ∀ vs H', Ex H H' → vs.length = n → Reps S (hid H' (newG H H' G)) vs ds → Q vs H') →
    (∀ x, m ρ = .err x → ∀ cls dd H', Ex H H' → RepX S (hid H' G) cls dd x → W cls dd σ H') → t σ H Q
structure RNs (X : Cx) (W : WX) (es : List Expr) (m : MA) : Prop where
  ex : ∃ t, PA X es t ∧ SndNs (sg X) (pp X) W es.length t m
/-- a list whose entries have no lists -/
def mFlat (m : ME) : ME := fun ρ => (m ρ).bind fun d => if flat d = true then .ok d else .bad
/-- a call that gives new data; an error without lists -/
def mDefN (mf : MF) (ma : MA) : ME := fun ρ => (ma ρ).bind fun ds => match mf ds with
  | .err x => if lff x.fs = true then .err x else .bad
  | r => r
section
variable {X : Cx} {W : WX} {k j n : Nat} {c : Bool} {x : Str} {mf : MF} {ma : MA} {me : ME} {e : Expr} {es : List Expr} {p pos : Pos} {fr : Fk}
theorem RN.re (h : RN X W e me) : RE X W true e me := by
  obtain ⟨t, a1, a2⟩ := h.ex
  exact ⟨t, a1, fun B G ρ σ H Q I nb k ke => a2 B G ρ σ H Q I nb (fun d e v H' x r => k d e v H' x (Rep.ex (hid_anti newG_G) r)) ke⟩
theorem rn_lf (h : RE X W c e me) : RN X W e (mLf me) := by
  obtain ⟨t, a1, a2⟩ := h.ex
  refine ⟨t, a1, fun B G ρ σ H Q I nb k ke => ?_⟩
  unfold mLf at nb k ke
  refine a2 B G ρ σ H Q I (R.bad_bind nb) (fun d e v H' x r => ?_) (fun x e => ke x (by rw [e]; rfl))
  rw [e, R.bind_ok] at nb k
  by_cases l : lf d = true
  · rw [if_pos l] at k
    exact k d rfl v H' x (r.full.lfN (newG_noTup I.gm x) l)
  · rw [if_neg l] at nb; exact absurd rfl nb
theorem rn_flat (h : RF X W e me) : RN X W e (mFlat me) := by
  obtain ⟨t, a1, a2⟩ := h.ex
  refine ⟨t, a1, fun B G ρ σ H Q I nb k ke => ?_⟩
  unfold mFlat at nb k ke
  refine a2 B G ρ σ H Q I (R.bad_bind nb) (fun d e p s H' hp x es w => ?_) (fun x e => ke x (by rw [e]; rfl))
  rw [e, R.bind_ok] at nb k
  by_cases l : flat d = true
  · rw [if_pos l] at k
    refine k d rfl _ H' x ?_
    subst es
    cases s with
    | lst ds =>
      obtain ⟨xs, h1, h2⟩ := w
      have g : newG H H' G p = false := by
        unfold newG
        rw [fresh_vis I.gm hp, hp, h1]
        rfl
      exact .mkL (Rd.of (hid_of g h1)) ⟨h2.1, fun i y d h3 h4 => ((h2.2 i y d h3 h4).ex hid_sub).lfN (newG_noTup I.gm x) (lfs_get l h4)⟩
    | no => exact w.elim
    | val d => exact w.elim
    | exc x => exact w.elim
    | deep d => exact w.elim
    | dic t kvs => cases l
    | ins c fs => cases l
  · rw [if_neg l] at nb; exact absurd rfl nb
theorem rn_def (cl : Cl X.prog X.w X.K X.mg X.base k x .new (e :: es).length mf) (hr : Room j X.A) (hk : k ≤ j) (hg : Gl X x) (tk : L2N.Takes X W) (ha : RA X W false (e :: es) ma)
    (hdb : (x == ("__debug__" : Str)) = false := by decide) (he : starEach (e :: es) X.env = (false, eval e X.env) :: starEach es X.env := by rfl) (hpl : (backTo pos (starEach es X.env)).any (·.1) = false := by rfl) :
    RN X W (.Call (.Name x p) (e :: es) [] pos) (mDefN mf ma) := by
  obtain ⟨f, fd, ps, F, hm, hkp, hb⟩ := cl.ex
  obtain ⟨t, a1, a2⟩ := ha.ex
  refine ⟨_, pe_callS F (hr.mono hk) hg hm hkp hb (L2N.passAt tk) a1 hdb he hpl, fun B G ρ σ H Q I nb k ke => ?_⟩
  unfold mDefN at nb k ke
  refine a2 B G ρ σ H _ I (R.bad_bind nb) (fun ds e vs H1 x1 hn hl rs => ?_) (fun x e => ke x (by rw [e]; rfl))
  rw [e, R.bind_ok] at nb k ke
  have e0 : hid H1 noG = H1 := hid_noG
  have gm := (I.grow x1).gm
  refine ⟨hn, noG, ds, (fun a g => by cases g), ⟨hl, fun i v d h1 h2 => by rw [e0]; exact (rs i v d h1 h2).full⟩, fun z => nb (by rw [z]), fun d e2 => fun v H2 x2 r => ?_, fun y e2 cls dd H2 x2 r => ?_⟩
  · exact k d (by rw [e2]) v H2 (x1.trans x2) (Rep.ex (hid_anti fun a z => newG_noG gm a (newG_sub I.gm x1 a z)) r)
  · rw [e2] at nb ke
    dsimp only at nb ke
    by_cases l : lff y.fs = true
    · rw [if_pos l] at ke
      have e1 : hid H2 noG = H2 := hid_noG
      rw [e1] at r
      exact ke y rfl cls dd H2 (x1.trans x2) (r.lf (I.grow (x1.trans x2)).gm l)
    · rw [if_neg l] at nb; exact absurd rfl nb
theorem rns_nil : RNs X W [] mNil := ⟨_, pa_nil, fun B G ρ σ H Q I nb k ke => k [] rfl [] H (Ex.refl H) rfl .nil⟩
theorem rns_cons {a : Expr} {ma : ME} {mr : MA} (ha : RN X W a ma) (hr : RNs X W es mr) (hs : starEach (a :: es) X.env = (false, eval a X.env) :: starEach es X.env := by rfl) : RNs X W (a :: es) (mCons ma mr) := by
  obtain ⟨ta, a1, a2⟩ := ha.ex
  obtain ⟨tr, r1, r2⟩ := hr.ex
  refine ⟨_, pa_cons a1 r1 hs, fun B G ρ σ H Q I nb k ke => ?_⟩
  unfold mCons at nb k ke
  refine a2 B G ρ σ H _ I (R.bad_bind nb) (fun d e v H' x r => ?_) (fun x e => ke x (by rw [e]; rfl))
  rw [e, R.bind_ok] at nb k ke
  refine r2 B G ρ σ H' _ (I.grow x) (R.bad_bind nb) (fun ds e2 vs H2 x2 hn rs => ?_) (fun y e2 cls dd H2 x2 => ke y (by rw [e2]; rfl) cls dd H2 (x.trans x2))
  exact k (d :: ds) (by rw [e2]; rfl) _ H2 (x.trans x2) (by rw [List.length_cons, List.length_cons, hn]) (.cons (Rep.ex (newG_up x2) r) (rs.ex (hid_anti (newG_sub I.gm x))))
theorem new_vis {S : Sig} {P : PX} {B : Bs} {G : Addr → Bool} {ρ : Env} {σ : L2.St} {H H' : Hp} {q : Addr} {o : HO} (I : Sts S P B G ρ σ H) (x : Ex H H') (hq : H' q = none) (ho : frzB (some o) = false) : newG H (upd H' q o) G q = false := by
  have h0 : H q = none := by
    cases z : H q with
    | none => rfl
    | some o => rw [x q o z] at hq; cases hq
  unfold newG
  rw [fresh_vis I.gm h0, h0, upd_same, ho]
  rfl
theorem rn_tup {mr : MA} {x1} (h : RNs X W es mr) (hz : es.length ≤ sizeLine := by first | exact Nat.le_of_ble_eq_true rfl | decide) : RN X W (.Tuple es x1 pos) (mTup mr) := by
  obtain ⟨t, r1, r2⟩ := h.ex
  refine ⟨_, pe_tup r1, fun B G ρ σ H Q I nb k ke => ?_⟩
  unfold mTup at nb k ke
  refine r2 B G ρ σ H _ I (R.bad_bind nb) (fun ds e vs H' x hn rs => ⟨by rw [hn]; exact hz, fun q hq => ?_⟩) (fun x e => ke x (by rw [e]; rfl))
  rw [e, R.bind_ok] at k
  exact k _ rfl _ _ (x.trans (Ex.new hq)) (.mkT (hid_of (new_vis I x hq rfl) upd_same) (rs.ex (newG_up (Ex.new hq))))
theorem rn_lst {mr : MA} (h : RNs X W es mr) (hz : es.length ≤ sizeLine := by first | exact Nat.le_of_ble_eq_true rfl | decide) : RN X W (.List es pos) (mLst mr) := by
  obtain ⟨t, r1, r2⟩ := h.ex
  refine ⟨_, pe_lst r1, fun B G ρ σ H Q I nb k ke => ?_⟩
  unfold mLst at nb k ke
  refine r2 B G ρ σ H _ I (R.bad_bind nb) (fun ds e vs H' x hn rs => ⟨by rw [hn]; exact hz, fun q hq => ?_⟩) (fun x e => ke x (by rw [e]; rfl))
  rw [e, R.bind_ok] at k
  exact k _ rfl _ _ (x.trans (Ex.new hq)) (.mkL (Rd.of (hid_of (new_vis I x hq rfl) upd_same)) (rs.ex (newG_up (Ex.new hq))))
/-- return e, new -/
theorem rs_retW (he : RN X W e me) : RS X W .new (.Return (some e) pos) (mRet me) := by
  obtain ⟨t, a1, a2⟩ := he.ex
  refine ⟨_, ps_ret a1, fun B G ρ σ H E I h => ?_⟩
  unfold mRet at h
  refine a2 B G ρ σ H _ I (post_nb h) (fun d e v H' x r => post_ok e h v H' (I.ex.trans x) (Rep.ex (hid_anti fun a z => ?_) r)) (post_err I h)
  unfold newG at z ⊢
  rcases Bool.or_eq_true_iff.mp z with z | z
  · rw [I.gb a z]; rfl
  · rcases Bool.or_eq_true_iff.mp z with z | z
    · have y := mutB_of (mut_grow (H := B.H) (H' := H) (G := fun b => mutB (B.H b)) (fun b hb => mutB_to hb) I.ex a z)
      rw [y]; simp
    · rw [z]; simp
end
end Fx

-- FxD2
set_option Elab.async false
set_option linter.all false
set_option maxRecDepth 100000
set_option maxHeartbeats 2000000
/-! FxD2: deep slots. -/
namespace Fx
open PySem PySem.Spec PyProof.Rows L2
/-- the new objects that may be changed -/
def newL (H H' : Hp) : Addr → Bool := fun a => mutB (H' a) && !mutB (H a)
def bigG (G : Addr → Bool) (H H' : Hp) : Addr → Bool := fun a => G a || newL H H' a
section
variable {S : Sig} {P : PX} {B : Bs} {G : Addr → Bool} {ρ : Env} {σ : L2.St} {H H' : Hp} {v : V} {d : D} {i : Nat}
theorem bigG_sub : ∀ a, G a = true → bigG G H H' a = true := fun a h => by unfold bigG; rw [h]; rfl
theorem ex_bigG (e : Ex H H') : Ex (hid H G) (hid H' (bigG G H H')) := fun a o h => by
  obtain ⟨g, h⟩ := hid_some h
  refine hid_of ?_ (e a o h)
  unfold bigG newL
  rw [g, e a o h, h]
  cases mutB (some o) <;> rfl
theorem newL_old {a : Addr} (e : Ex H H') (h : newL H H' a = true) : H a = none := by
  unfold newL at h
  obtain ⟨h1, h2⟩ := Bool.and_eq_true_iff.mp h
  cases z : H a with
  | none => rfl
  | some o =>
    rw [e a o z] at h1
    rw [z, h1] at h2
    cases h2
theorem Sts.setDeep (I : Sts S P B G ρ σ H) (e : Ex H H') (r : Rep S (hid H' (newG H H' G)) v d) : Sts S P B (bigG G H H') (ρ.set i (.deep d)) (σ.set i (some v)) H' := by
  have ex := ex_bigG (G := G) e
  have hl : ∀ {j : Nat} {s t : Sl}, (ρ.set i t)[j]? = some s → j = i → i < ρ.length := fun {j s t} h q => by
    subst q
    have := (List.getElem?_eq_some_iff.mp h).1
    rwa [List.length_set] at this
  have at_ : ∀ {j : Nat} {s : Sl}, (ρ.set i (.deep d))[j]? = some s → (j = i ∧ s = .deep d ∧ (σ.set i (some v))[j]? = some (some v)) ∨ (j ≠ i ∧ ρ[j]? = some s ∧ (σ.set i (some v))[j]? = σ[j]?) := fun {j s} h => by
    by_cases q : j = i
    · have l := hl h q
      subst q
      rw [List.getElem?_set_self l] at h
      exact .inl ⟨rfl, (Option.some.inj h).symm, by rw [List.getElem?_set_self (I.len ▸ l)]⟩
    · rw [List.getElem?_set_ne (Ne.symm q)] at h
      exact .inr ⟨q, h, List.getElem?_set_ne (Ne.symm q)⟩
  obtain ⟨L, a1, a2, a3, a4⟩ := I.bx.dp
  have gs : ∀ {a : Addr}, G a = true → ∃ o, H a = some o ∧ H' a = some o ∧ newL H H' a = false := fun {a} g => by
    have z := I.gm a g
    cases q : H a with
    | none => rw [q] at z; exact z.elim
    | some o =>
      refine ⟨o, rfl, e a o q, ?_⟩
      unfold newL
      rw [e a o q, q]
      cases mutB (some o) <;> rfl
  have deepR : DeepAt S H' (newL H H') v d := Rep.ex (fun a o h => by
    obtain ⟨g, h⟩ := hid_some h
    refine hid_of ?_ h
    unfold newG at g
    obtain ⟨_, g⟩ := Bool.or_eq_false_iff.mp g
    obtain ⟨g1, g2⟩ := Bool.or_eq_false_iff.mp g
    unfold onlyG newL
    rw [g1, g2]
    cases mutB (H' a) <;> rfl) r
  obtain ⟨M, m1, m2⟩ : ∃ M : Nat → Addr → Bool, M i = newL H H' ∧ ∀ j, j ≠ i → M j = L j := ⟨fun j => if j = i then newL H H' else L j, if_pos rfl, fun j n => if_neg n⟩
  refine ⟨I.ex.trans e, I.bg, fun a g => bigG_sub a (I.gb a g), fun a g => ?_, by rw [List.length_set, List.length_set, I.len], fun j f h => ?_, fun j s h o => ?_, fun j k s t p h1 h2 o1 o2 b1 b2 => ?_, I.excs (fun x h => by cases h) set_off ex, ⟨fun j c fs h => ?_, M, fun j f h => ?_, fun j f a h l => ?_, fun j k f f' a n h1 h2 l => ?_, fun j k s f p h1 o b1 h2 => ?_⟩⟩
  · rcases Bool.or_eq_true_iff.mp g with g | g
    · exact mut_grow I.gm e a g
    · exact mutB_to (Bool.and_eq_true_iff.mp g).1
  · rcases at_ h with ⟨_, h2, _⟩ | ⟨_, h2, h3⟩
    · cases h2
    · obtain ⟨w, b1, b2⟩ := I.val j f h2
      exact ⟨w, by rw [h3]; exact b1, b2.ex ex⟩
  · rcases at_ h with ⟨_, rfl, _⟩ | ⟨_, h2, h3⟩
    · cases o
    · obtain ⟨p, b1, b2, b3, b4⟩ := I.own j s h2 o
      obtain ⟨u, hu, _⟩ := b4.some
      exact ⟨p, by rw [h3]; exact b1, bigG_sub _ b2, b3, b4.mono ((e p u hu).trans hu.symm) ex⟩
  · rcases at_ h1 with ⟨_, rfl, _⟩ | ⟨_, h3, h4⟩
    · cases o1
    · rcases at_ h2 with ⟨_, rfl, _⟩ | ⟨_, h5, h6⟩
      · cases o2
      · rw [h4] at b1
        rw [h6] at b2
        exact I.sep j k s t p h3 h5 o1 o2 b1 b2
  · rcases at_ h with ⟨_, h2, _⟩ | ⟨_, h2, h3⟩
    · cases h2
    · rw [h3]; exact I.bx.me j c fs h2
  · rcases at_ h with ⟨rfl, h2, h3⟩ | ⟨n, h2, h3⟩
    · cases h2
      exact ⟨v, h3, by rw [m1]; exact deepR⟩
    · obtain ⟨w, b1, b2⟩ := a1 j f h2
      refine ⟨w, by rw [h3]; exact b1, ?_⟩
      rw [m2 j n]
      refine Rep.ex (onlyG_ex (fun a o h _ => e a o h) fun a l => ?_) b2
      obtain ⟨o, z1, z2, _⟩ := gs (a2 j f a h2 l).1
      rw [z1, z2]
  · rcases at_ h with ⟨rfl, h2, h3⟩ | ⟨n, h2, h3⟩
    · rw [m1] at l
      refine ⟨by unfold bigG; rw [l]; cases G a <;> rfl, ?_⟩
      cases z : B.H a with
      | none => rfl
      | some o =>
        have y := newL_old e l
        rw [I.ex a o z] at y
        cases y
    · rw [m2 j n] at l
      exact ⟨bigG_sub a (a2 j f a h2 l).1, (a2 j f a h2 l).2⟩
  · rcases at_ h1 with ⟨rfl, _, _⟩ | ⟨n1, h3, _⟩
    · rw [m1] at l
      rcases at_ h2 with ⟨rfl, _, _⟩ | ⟨n2, h4, _⟩
      · exact absurd rfl n
      · rw [m2 k n2]
        cases z : L k a with
        | false => rfl
        | true =>
          obtain ⟨_, _, _, z3⟩ := gs (a2 k f' a h4 z).1
          rw [z3] at l
          cases l
    · rw [m2 j n1] at l
      rcases at_ h2 with ⟨rfl, _, _⟩ | ⟨n2, h4, _⟩
      · rw [m1]
        exact (gs (a2 j f a h3 l).1).choose_spec.2.2
      · rw [m2 k n2]
        exact a3 j k f f' a n h3 h4 l
  · rcases at_ h1 with ⟨_, rfl, _⟩ | ⟨n1, h3, h4⟩
    · cases o
    · rw [h4] at b1
      rcases at_ h2 with ⟨rfl, _, _⟩ | ⟨n2, h5, _⟩
      · rw [m1]
        obtain ⟨p', c1, c2, _⟩ := I.own j s h3 o
        rw [b1] at c1
        cases c1
        exact (gs c2).choose_spec.2.2
      · rw [m2 k n2]
        exact a4 j k s f p h3 o b1 h5
theorem Fr.big (e : Ex H H') (I : ∀ a, G a = true → MutO (H a)) : Fr G H (bigG G H H') H' := fun a o g h => ⟨e a o h, by
  unfold bigG newL
  rw [g, e a o h, h]
  cases mutB (some o) <;> rfl⟩
end
/-! ### name = new data -/
def mSetN (i : Nat) (m : ME) : MS := fun ρ => (m ρ).out ρ fun d => .nx (ρ.set i (.deep d))
section
variable {X : Cx} {W : WX} {fr : Fk} {me mb : ME} {e b : Expr} {pos p2 p3 : Pos} {c c2 : Bool} {i : Nat} {x : Str}
theorem rs_setN {pos' : Pos} (hN : X.N.Nodup) (hi : X.N[i]? = some x) (hx : Loc X.env.scope x) (he : RN X W e me) (hs : swapsWith e (some (.Name x pos')) pos.line X.env = pure false := by rfl)
    (hf : X.fn x = true ∨ X.env.scope.names.lookup x = some .local := by first | exact .inl rfl | exact .inr rfl | assumption) : RS X W fr (.Assign [.Name x pos'] e pos) (mSetN i me) := by
  obtain ⟨t, a1, a2⟩ := he.ex
  refine ⟨_, ps_set hN hi hx a1 hs hf, fun B G ρ σ H E I h' => ?_⟩
  unfold mSetN at h'
  exact a2 B G ρ σ H _ I (post_nb h') (fun d e v H' x r => post_ok e h' _ _ H' (I.setDeep x r) (Fr.big x I.gm)) (post_err I h')
/-! ### reading -/
theorem Sts.deep {S : Sig} {P : PX} {B : Bs} {G : Addr → Bool} {ρ : Env} {σ : L2.St} {H : Hp} (I : Sts S P B G ρ σ H) {i : Nat} {d : D} (h : ρ[i]? = some (.deep d)) : ∃ v, σ[i]? = some (some v) ∧ Rep S H v d := by
  obtain ⟨L, a1, _⟩ := I.bx.dp
  obtain ⟨v, h1, h2⟩ := a1 i d h
  exact ⟨v, h1, Rep.ex hid_sub h2⟩
/-- x[k], x a deep slot: data without lists, or a list of such -/
def dxD : D → D → R D
  | .tup ds, .int j => (match ixL ds j with
    | some e => if (lf e || flat e) = true then .ok e else .bad
    | none => .bad)
  | .lst ds, .int j => (match ixL ds j with
    | some e => if (lf e || flat e) = true then .ok e else .bad
    | none => .bad)
  | _, _ => .bad
def mDx (i : Nat) (m : ME) : ME := fun ρ => match ρ[i]? with
  | some (.deep d) => (m ρ).bind fun k => dxD d k
  | _ => .bad
theorem deepC {S : Sig} {G : Addr → Bool} {H : Hp} {v : V} {d : D} (gm : ∀ a, G a = true → MutO (H a)) (r : Rep S H v d) (h : (lf d || flat d) = true) : RepC S H G false v d := by
  rcases Bool.or_eq_true_iff.mp h with h | h
  · exact .inl (r.lf gm h)
  · exact .inr (.inr ⟨r, h, gm⟩)
theorem re_dx (hN : X.N[i]? = some x := by rfl) (hb : RE X W c2 b mb) (hv : Vis X.env.scope x := by first | exact Or.inl rfl | exact Or.inr (Or.inl rfl) | exact Or.inr (Or.inr rfl)) (hd : (x == ("__debug__" : Str)) = false := by decide) (hcd : (x == ("__classdict__" : Str)) = false := by decide) (hs : PlainIx b := by exact fun _ _ => rfl) :
    RE X W false (.Subscript (.Name x p2) b pos) (mDx i mb) := by
  obtain ⟨tb, b1, b2⟩ := hb.ex
  refine ⟨_, pe_ix ix_seq (pe_var hN hv hd hcd) b1 hs, fun B G ρ σ H Q I nb k ke => ?_⟩
  unfold mDx at nb k ke
  cases q : ρ[i]? with
  | none => rw [q] at nb; exact absurd rfl nb
  | some sl =>
    rw [q] at nb k ke
    cases sl with
    | deep d =>
      dsimp only at nb k ke
      obtain ⟨v, hv1, hv2⟩ := I.deep q
      refine ⟨v, hv1, b2 B G ρ σ H _ I (R.bad_bind nb) (fun kd e2 y H2 x2 r2 => ?_) (fun x e => ke x (by rw [e]; rfl))⟩
      rw [e2, R.bind_ok] at nb k
      have gm := (I.grow x2).gm
      have at_ : ∀ {ds : List D} {j : Int} {vs : List V}, Reps (sg X) H2 vs ds → (match ixL ds j with | some e => if (lf e || flat e) = true then R.ok e else .bad | none => .bad) ≠ .bad → (∀ d, (match ixL ds j with | some e => if (lf e || flat e) = true then R.ok e else .bad | none => .bad) = .ok d → ∀ v H', Ex H H' → RepC (sg X) H' G false v d → Q v H') → ∃ w, atI vs j = some w ∧ Q w H2 := by
        intro ds j vs r nb k
        cases z : ixL ds j with
        | none => rw [z] at nb; exact absurd rfl nb
        | some f =>
          rw [z] at nb k
          dsimp only at nb k
          obtain ⟨w, w1, w2⟩ := atI_of r z
          by_cases l : (lf f || flat f) = true
          · rw [if_pos l] at k
            exact ⟨w, w1, k f rfl w H2 x2 (deepC gm w2 l)⟩
          · rw [if_neg l] at nb; exact absurd rfl nb
      cases d with
      | tup ds =>
        cases kd with
        | int j =>
          obtain ⟨a, vs, rfl, h1, h2⟩ := (hv2.ex x2).is_tup
          obtain ⟨w, w1, w2⟩ := at_ h2 nb k
          exact .inr (.inl ⟨a, vs, j, w, rfl, r2.full.is_int, SqT.of h1, w1, w2⟩)
        | _ => exact absurd rfl nb
      | lst ds =>
        cases kd with
        | int j =>
          obtain ⟨a, vs, rfl, h1, h2⟩ := (hv2.ex x2).is_lst
          obtain ⟨w, w1, w2⟩ := at_ h2 nb k
          exact .inl ⟨a, vs, j, w, rfl, r2.full.is_int, .inl h1, w1, w2⟩
        | _ => exact absurd rfl nb
      | _ => cases kd <;> exact absurd rfl nb
    | _ => exact absurd rfl nb
/-! ### a deep slot handed to a def that looks at it -/
def SndEf (S : Sig) (P : PX) (W : WX) (t : TE) (m : ME) : Prop :=
  ∀ (B : Bs) (G : Addr → Bool) (ρ : Env) (σ : L2.St) (H : Hp) (Q : VK), Sts S P B G ρ σ H → m ρ ≠ .bad → (∀ d, m ρ = .ok d → ∀ v H', Ex H H' → Rep S H' v d → Q v H') →
    (∀ x, m ρ = .err x → ∀ cls dd H', Ex H H' → RepX S (hid H' G) cls dd x → W cls dd σ H') → t σ H Q
structure REf (X : Cx) (W : WX) (e : Expr) (m : ME) : Prop where
  ex : ∃ t, PE X e t ∧ SndEf (sg X) (pp X) W t m
def SndAf (S : Sig) (P : PX) (W : WX) (n : Nat) (t : TA) (m : MA) : Prop :=
  ∀ (B : Bs) (G : Addr → Bool) (ρ : Env) (σ : L2.St) (H : Hp) (Q : List V → Hp → Prop), Sts S P B G ρ σ H → m ρ ≠ .bad →
    (∀ ds, m ρ = .ok ds → ∀ vs H', Ex H H' → vs.length = n → Reps S H' vs ds → Q vs H') →
    (∀ x, m ρ = .err x → ∀ cls dd H', Ex H H' → RepX S (hid H' G) cls dd x → W cls dd σ H') → t σ H Q
structure RAf (X : Cx) (W : WX) (es : List Expr) (m : MA) : Prop where
  ex : ∃ t, PA X es t ∧ SndAf (sg X) (pp X) W es.length t m
theorem RE.f (h : RE X W c e me) : REf X W e me := by
  obtain ⟨t, a1, a2⟩ := h.ex
  exact ⟨t, a1, fun B G ρ σ H Q I nb k ke => a2 B G ρ σ H Q I nb (fun d e v H' x r => k d e v H' x r.full) ke⟩
def mDp (i : Nat) : ME := fun ρ => match ρ[i]? with
  | some (.deep d) => .ok d
  | _ => .bad
theorem ref_dp (hN : X.N[i]? = some x := by rfl) (hv : Vis X.env.scope x := by first | exact Or.inl rfl | exact Or.inr (Or.inl rfl) | exact Or.inr (Or.inr rfl)) (hd : (x == ("__debug__" : Str)) = false := by decide) (hcd : (x == ("__classdict__" : Str)) = false := by decide) : REf X W (.Name x pos) (mDp i) := by
  refine ⟨_, pe_var hN hv hd hcd, fun B G ρ σ H Q I nb k ke => ?_⟩
  unfold mDp at nb k
  cases q : ρ[i]? with
  | none => rw [q] at nb; exact absurd rfl nb
  | some sl =>
    rw [q] at nb k
    cases sl with
    | deep d =>
      obtain ⟨v, h1, h2⟩ := I.deep q
      exact ⟨v, h1, k d rfl v H (Ex.refl H) h2⟩
    | _ => exact absurd rfl nb
theorem raf_nil : RAf X W [] mNil := ⟨_, pa_nil, fun B G ρ σ H Q I nb k ke => k [] rfl [] H (Ex.refl H) rfl .nil⟩
theorem raf_cons {a : Expr} {ma : ME} {mr : MA} {es : List Expr} (ha : REf X W a ma) (hr : RAf X W es mr) (hs : starEach (a :: es) X.env = (false, eval a X.env) :: starEach es X.env := by rfl) : RAf X W (a :: es) (mCons ma mr) := by
  obtain ⟨ta, a1, a2⟩ := ha.ex
  obtain ⟨tr, r1, r2⟩ := hr.ex
  refine ⟨_, pa_cons a1 r1 hs, fun B G ρ σ H Q I nb k ke => ?_⟩
  unfold mCons at nb k ke
  refine a2 B G ρ σ H _ I (R.bad_bind nb) (fun d e v H' x r => ?_) (fun x e => ke x (by rw [e]; rfl))
  rw [e, R.bind_ok] at nb k ke
  refine r2 B G ρ σ H' _ (I.grow x) (R.bad_bind nb) (fun ds e2 vs H2 x2 hn rs => ?_) (fun y e2 cls dd H2 x2 => ke y (by rw [e2]; rfl) cls dd H2 (x.trans x2))
  exact k (d :: ds) (by rw [e2]; rfl) _ H2 (x.trans x2) (by rw [List.length_cons, List.length_cons, hn]) (.cons (r.ex x2) rs)
theorem re_defLf {k j : Nat} {f : Str} {mf : MF} {ma : MA} {es : List Expr} {p : Pos} (cl : Cl X.prog X.w X.K X.mg X.base k f .val (e :: es).length mf) (hr : Room j X.A) (hk : k ≤ j) (hg : Gl X f) (tk : L2N.Takes X W) (ha : RAf X W (e :: es) ma)
    (hdb : (f == ("__debug__" : Str)) = false := by decide) (he : starEach (e :: es) X.env = (false, eval e X.env) :: starEach es X.env := by rfl) (hpl : (backTo pos (starEach es X.env)).any (·.1) = false := by rfl) :
    RE X W true (.Call (.Name f p) (e :: es) [] pos) (mDefL mf ma) := by
  obtain ⟨g, fd, ps, F, hm, hkp, hb⟩ := cl.ex
  obtain ⟨t, a1, a2⟩ := ha.ex
  refine ⟨_, pe_callS F (hr.mono hk) hg hm hkp hb (L2N.passAt tk) a1 hdb he hpl, fun B G ρ σ H Q I nb k ke => ?_⟩
  unfold mDefL at nb k ke
  refine a2 B G ρ σ H _ I (R.bad_bind nb) (fun ds e vs H1 x1 hn rs => ?_) (fun x e => ke x (by rw [e]; rfl))
  rw [e, R.bind_ok] at nb k ke
  have e0 : ∀ {H : Hp}, hid H noG = H := hid_noG
  refine ⟨hn, noG, ds, (fun a g => by cases g), by rw [e0]; exact rs, fun z => nb (by rw [z]; rfl), fun d e2 => fun v H2 x2 r => ?_, fun y e2 cls dd H2 x2 r => ?_⟩
  · rw [e2] at nb k
    unfold lfR at nb k
    dsimp only at nb k
    by_cases l : lf d = true
    · rw [if_pos l] at k
      rw [e0] at r
      exact k d rfl v H2 (x1.trans x2) (r.lf (I.grow (x1.trans x2)).gm l)
    · rw [if_neg l] at nb; exact absurd rfl nb
  · rw [e2] at nb ke
    unfold lfR at nb ke
    dsimp only at nb ke
    by_cases l : lff y.fs = true
    · rw [if_pos l] at ke
      rw [e0] at r
      exact ke y rfl cls dd H2 (x1.trans x2) (r.lf (I.grow (x1.trans x2)).gm l)
    · rw [if_neg l] at nb; exact absurd rfl nb
end
end Fx

-- FxD3
set_option Elab.async false
set_option linter.all false
set_option maxRecDepth 100000
set_option maxHeartbeats 2000000
/-! FxD3: a list deep in a slot's own datum is changed. -/
namespace Fx
open PySem PySem.Spec PyProof.Rows L2
/-- the k-th item, a list without lists; the others have no lists -/
def itemS (ds : List D) (k : Int) : Option (Nat × List D) := match ixS ds.length k with
  | some n => (match ds[n]? with
    | some (.lst es) => if (lfs es && lfs (ds.set n .non)) = true then some (n, es) else none
    | _ => none)
  | none => none
def itemD (k : Int) : D → Option (Nat × List D)
  | .tup ds => itemS ds k
  | .lst ds => itemS ds k
  | _ => none
def withD (n : Nat) (es : List D) : D → D
  | .tup ds => .tup (ds.set n (.lst es))
  | .lst ds => .lst (ds.set n (.lst es))
  | d => d
section
variable {S : Sig} {P : PX} {W : WX} {B : Bs} {G : Addr → Bool} {ρ : Env} {σ : L2.St} {H H1 H' : Hp} {v w : V} {d e : D} {L : Addr → Bool} {l : Addr} {xs xs' : List V} {i n : Nat}
theorem lf_new (h : H l = some (.lst xs)) (r : Rep S H w e) (q : lf e = true) : Rep S (hid (upd H l (.lst xs')) (onlyG (upd H l (.lst xs')) L)) w e := by
  have r1 := r.lfN (G := fun a => mutB (H a) || frzB (H a)) (fun a ys z y => by dsimp only at z; rw [y] at z; cases z) q
  refine Rep.ex (fun a o z => ?_) r1
  obtain ⟨g, z⟩ := hid_some z
  obtain ⟨g1, g2⟩ := Bool.or_eq_false_iff.mp g
  have ne : a ≠ l := fun y => by rw [y, h] at g1; cases g1
  have e1 : upd H l (.lst xs') a = some o := by rw [upd_ne ne]; exact z
  refine hid_of ?_ e1
  unfold onlyG
  rw [e1]
  rw [z] at g1 g2
  rw [g1, g2]
  rfl
theorem lfs_new {es : List D} {ys : List V} (h : H l = some (.lst xs)) (r : Reps S H ys es) (q : lfs es = true) : Reps S (hid (upd H l (.lst xs')) (onlyG (upd H l (.lst xs')) L)) ys es :=
  ⟨r.1, fun i x d h1 h2 => lf_new h (r.2 i x d h1 h2) (lfs_get q h2)⟩
theorem inner_at {es : List D} (r : Rep S (hid H (onlyG H L)) w (.lst es)) : ∃ l xs, w = .ref l ∧ H l = some (.lst xs) ∧ L l = true ∧ Reps S H xs es := by
  obtain ⟨l, xs, rfl, h, rs⟩ := r.is_lst
  rcases h with h | ⟨o, h⟩
  · obtain ⟨g, h⟩ := hid_some h
    refine ⟨l, xs, rfl, h, ?_, rs.ex hid_sub⟩
    unfold onlyG at g
    rw [h] at g
    cases z : L l with
    | true => rfl
    | false => rw [z] at g; cases g
  · obtain ⟨g, h⟩ := hid_some h
    unfold onlyG at g
    rw [h] at g
    cases g
theorem lf_not_lst {H0 : Hp} (h : H0 l = some (.lst xs)) (r : Rep S H0 (.ref l) e) : lf e = false := by
  cases r with
  | tup hs => rw [h] at hs; cases hs
  | lst hs => rfl
  | dK hs => rfl
  | dT hs => rfl
  | ins hs => rfl
  | pool h1 h2 ne => rfl
/-- the outer items after the change -/
theorem outer_new {ds es' : List D} {vs : List V} (h : H l = some (.lst xs)) (hl : L l = true) (rs : Reps S (hid H (onlyG H L)) vs ds) (hv : vs[n]? = some (.ref l)) (ho : lfs (ds.set n .non) = true) (r : Reps S (hid (upd H l (.lst xs')) (onlyG (upd H l (.lst xs')) L)) xs' es') :
    Reps S (hid (upd H l (.lst xs')) (onlyG (upd H l (.lst xs')) L)) vs (ds.set n (.lst es')) := by
  refine ⟨by rw [List.length_set]; exact rs.1, fun i x d h1 h2 => ?_⟩
  by_cases q : i = n
  · subst q
    rw [hv] at h1
    cases h1
    have hi : i < ds.length := by
      have := (List.getElem?_eq_some_iff.mp h2).1
      rwa [List.length_set] at this
    rw [List.getElem?_set_self hi] at h2
    cases h2
    refine .mkL (Rd.of (hid_of ?_ upd_same)) r
    unfold onlyG
    rw [upd_same, hl]
    rfl
  · have h3 := h2
    rw [List.getElem?_set_ne (Ne.symm q)] at h3
    refine lf_new h ((rs.2 i x d h1 h3).ex hid_sub) (lfs_get (i := i) ho ?_)
    rw [List.getElem?_set_ne (Ne.symm q)]
    exact h3
/-- where the change goes -/
theorem deep_at {k : Int} {es : List D} (r : DeepAt S H L v d) (h : itemD k d = some (n, es)) : ∃ q vs l xs, v = V.ref q ∧ (H q = some (.tup vs) ∨ Rd H q (.lst vs)) ∧ atI vs k = some (V.ref l) ∧ H l = some (.lst xs) ∧ L l = true ∧ Reps S H xs es ∧ lfs es = true ∧
    ∀ xs' es', Reps S (hid (upd H l (.lst xs')) (onlyG (upd H l (.lst xs')) L)) xs' es' → DeepAt S (upd H l (.lst xs')) L v (withD n es' d) := by
  have main : ∀ {ds : List D} {vs : List V}, itemS ds k = some (n, es) → Reps S (hid H (onlyG H L)) vs ds → ∃ l xs, atI vs k = some (V.ref l) ∧ H l = some (.lst xs) ∧ L l = true ∧ Reps S H xs es ∧ lfs es = true ∧ vs[n]? = some (V.ref l) ∧
      ∀ xs' es', Reps S (hid (upd H l (.lst xs')) (onlyG (upd H l (.lst xs')) L)) xs' es' → Reps S (hid (upd H l (.lst xs')) (onlyG (upd H l (.lst xs')) L)) vs (ds.set n (.lst es')) := by
    intro ds vs h rs
    unfold itemS at h
    cases q : ixS ds.length k with
    | none => rw [q] at h; cases h
    | some m =>
      rw [q] at h
      dsimp only at h
      cases q2 : ds[m]? with
      | none => rw [q2] at h; cases h
      | some x =>
        rw [q2] at h
        cases x with
        | lst es =>
          dsimp only at h
          by_cases z : (lfs es && lfs (ds.set m .non)) = true
          · rw [if_pos z] at h
            cases h
            obtain ⟨z1, z2⟩ := Bool.and_eq_true_iff.mp z
            obtain ⟨w, w1, w2⟩ := rs.get q2
            obtain ⟨l, xs, rfl, h1, h2, h3⟩ := inner_at w2
            have at_ : atI vs k = some (V.ref l) := by
              unfold atI
              rw [rs.1, ixS_ixN q]
              exact w1
            exact ⟨l, xs, at_, h1, h2, h3, z1, w1, fun xs' es' r => outer_new h1 h2 rs w1 z2 r⟩
          · rw [if_neg z] at h; cases h
        | _ => cases h
  unfold DeepAt at r
  cases d with
  | tup ds =>
    obtain ⟨a, vs, rfl, h1, rs⟩ := r.is_tup
    obtain ⟨l, xs, b1, b2, b3, b4, b5, _, b7⟩ := main h rs
    obtain ⟨g1, h1⟩ := hid_some h1
    have ne : a ≠ l := fun z => by rw [z, b2] at h1; cases h1
    refine ⟨a, vs, l, xs, rfl, .inl h1, b1, b2, b3, b4, b5, fun xs' es' r => .mkT ?_ (b7 xs' es' r)⟩
    have e1 : upd H l (.lst xs') a = some (.tup vs) := by rw [upd_ne ne]; exact h1
    refine hid_of ?_ e1
    unfold onlyG
    rw [e1]
    rfl
  | lst ds =>
    obtain ⟨a, vs, rfl, h0, rs⟩ := r.is_lst
    obtain ⟨l, xs, b1, b2, b3, b4, b5, bn, b7⟩ := main h rs
    have h1 : H a = some (.lst vs) ∧ onlyG H L a = false := by
      rcases h0 with h | ⟨o, h⟩
      · obtain ⟨g, h⟩ := hid_some h
        exact ⟨h, g⟩
      · obtain ⟨g, h⟩ := hid_some h
        unfold onlyG at g
        rw [h] at g
        cases g
    have ne : a ≠ l := fun z => by
      rw [z, b2] at h1
      have ev : xs = vs := HO.lst.inj (Option.some.inj h1.1)
      rw [ev] at b4
      obtain ⟨e, e1, e2⟩ := b4.getV bn
      have := lf_not_lst b2 e2
      rw [lfs_get b5 e1] at this
      cases this
    refine ⟨a, vs, l, xs, rfl, .inr (.inl h1.1), b1, b2, b3, b4, b5, fun xs' es' r => .mkL (Rd.of ?_) (b7 xs' es' r)⟩
    have e1 : upd H l (.lst xs') a = some (.lst vs) := by rw [upd_ne ne]; exact h1.1
    refine hid_of ?_ e1
    have g := h1.2
    unfold onlyG at g ⊢
    rw [h1.1] at g
    rw [e1]
    exact g
  | _ => cases h
/-- the state after the change -/
theorem Sts.pokeDeep (I : Sts S P B G ρ σ H) (hi : ρ[i]? = some (.deep d)) {k : Int} {es : List D} (h : itemD k d = some (n, es)) : ∃ q vs l xs, σ[i]? = some (some (V.ref q)) ∧ (H q = some (.tup vs) ∨ Rd H q (.lst vs)) ∧ atI vs k = some (V.ref l) ∧ H l = some (.lst xs) ∧ G l = true ∧ Reps S H xs es ∧ lfs es = true ∧
    ∀ (xs' : List V) (es' : List D), lfs es' = true → Reps S H xs' es' → Sts S P B G (ρ.set i (.deep (withD n es' d))) σ (upd H l (.lst xs')) := by
  obtain ⟨L, a1, a2, a3, a4⟩ := I.bx.dp
  obtain ⟨v, hv, r⟩ := a1 i d hi
  obtain ⟨q, vs, l, xs, rfl, b1, b2, b3, b4, b5, b6, b8⟩ := deep_at r h
  have gl := a2 i d l hi b4
  refine ⟨q, vs, l, xs, hv, b1, b2, b3, gl.1, b5, b6, fun xs' es' q1 q2 => ?_⟩
  have hl : i < ρ.length := (List.getElem?_eq_some_iff.mp hi).1
  have ne : ∀ {a : Addr} {o : HO}, a ≠ l → H a = some o → upd H l (.lst xs') a = some o := fun {a o} n h => by rw [upd_ne n]; exact h
  have ex : Ex (hid H G) (hid (upd H l (.lst xs')) G) := fun a o z => by
    obtain ⟨g, z⟩ := hid_some z
    exact hid_of g (ne (fun y => by rw [y, gl.1] at g; cases g) z)
  have off : ∀ {j : Nat} {s : Sl}, (ρ.set i (.deep (withD n es' d)))[j]? = some s → (j = i ∧ s = .deep (withD n es' d)) ∨ (j ≠ i ∧ ρ[j]? = some s) := fun {j s} h => by
    by_cases q : j = i
    · subst q
      rw [List.getElem?_set_self hl] at h
      exact .inl ⟨rfl, (Option.some.inj h).symm⟩
    · rw [List.getElem?_set_ne (Ne.symm q)] at h
      exact .inr ⟨q, h⟩
  have dj : ∀ {j : Nat} {f : D}, (ρ.set i (.deep (withD n es' d)))[j]? = some (.deep f) → ∃ f', ρ[j]? = some (.deep f') := fun {j f} h => by
    rcases off h with ⟨rfl, _⟩ | ⟨_, h2⟩
    · exact ⟨d, hi⟩
    · exact ⟨f, h2⟩
  refine ⟨fun a o z => ne (fun y => by rw [y, gl.2] at z; cases z) (I.ex a o z), I.bg, I.gb, fun a g => ?_, by rw [List.length_set, I.len], fun j f z => ?_, fun j s z o => ?_, fun j k s t p z1 z2 o1 o2 y1 y2 => ?_, fun j x z => ?_, ⟨fun j c fs z => ?_, L, fun j f z => ?_, fun j f a z la => ?_, fun j k f f' a m z1 z2 la => ?_, fun j k s f p z1 o y1 z2 => ?_⟩⟩
  · by_cases y : a = l
    · rw [y, upd_same]; exact True.intro
    · rw [upd_ne y]; exact I.gm a g
  · rcases off z with ⟨_, y⟩ | ⟨_, z2⟩
    · cases y
    · obtain ⟨w, y1, y2⟩ := I.val j f z2
      exact ⟨w, y1, y2.ex ex⟩
  · rcases off z with ⟨_, rfl⟩ | ⟨_, z2⟩
    · cases o
    · obtain ⟨p, y1, y2, y3, y4⟩ := I.own j s z2 o
      have np : p ≠ l := fun y => by
        have := a4 j i s d p z2 o y1 hi
        rw [y, b4] at this
        cases this
      exact ⟨p, y1, y2, y3, y4.mono (upd_ne np) ex⟩
  · rcases off z1 with ⟨_, rfl⟩ | ⟨_, z3⟩
    · cases o1
    · rcases off z2 with ⟨_, rfl⟩ | ⟨_, z4⟩
      · cases o2
      · exact I.sep j k s t p z3 z4 o1 o2 y1 y2
  · rcases off z with ⟨_, y⟩ | ⟨_, z2⟩
    · cases y
    · obtain ⟨a, cls, dd, y1, y2, y3⟩ := I.exc j x z2
      exact ⟨a, cls, dd, y1, y2, y3.ex ex⟩
  · rcases off z with ⟨_, y⟩ | ⟨_, z2⟩
    · cases y
    · exact I.bx.me j c fs z2
  · rcases off z with ⟨rfl, y⟩ | ⟨m, z2⟩
    · cases y
      exact ⟨_, hv, b8 xs' es' (lfs_new b3 q2 q1)⟩
    · obtain ⟨w, y1, y2⟩ := a1 j f z2
      refine ⟨w, y1, Rep.ex (onlyG_ex (fun a o z nm => ne (fun y => by rw [y, b3] at z; cases z; cases nm) z) fun a la => ?_) y2⟩
      exact upd_ne fun y => by
        have := a3 i j d f l (Ne.symm m) hi z2 b4
        rw [← y, la] at this
        cases this
  · obtain ⟨f', z2⟩ := dj z
    exact a2 j f' a z2 la
  · obtain ⟨g1, z3⟩ := dj z1
    obtain ⟨g2, z4⟩ := dj z2
    exact a3 j k g1 g2 a m z3 z4 la
  · obtain ⟨g2, z4⟩ := dj z2
    rcases off z1 with ⟨_, rfl⟩ | ⟨_, z3⟩
    · cases o
    · exact a4 j k s g2 p z3 o y1 z4
end
/-! ### x[k].append(e), x[k][j] = e -/
def mAppD (i : Nat) (k : Int) (m : ME) : MS := fun ρ => match ρ[i]? with
  | some (.deep d) => (match itemD k d with
    | some (n, es) => (m ρ).out ρ fun e => if (lf e && szOk es.length) = true then .nx (ρ.set i (.deep (withD n (es ++ [e]) d))) else .bad
    | none => .bad)
  | _ => .bad
def mPutDp (i : Nat) (k j : Int) (m : ME) : MS := fun ρ => (m ρ).out ρ fun e => match ρ[i]? with
  | some (.deep d) => (match itemD k d with
    | some (n, es) => (match ixS es.length j with
      | some t => if lf e = true then .nx (ρ.set i (.deep (withD n (es.set t e) d))) else .bad
      | none => .bad)
    | none => .bad)
  | _ => .bad
theorem lfs_snoc {es : List D} {e : D} : lfs es = true → lf e = true → lfs (es ++ [e]) = true := by
  induction es with
  | nil => intro _ h; show (lf e && true) = true; rw [h]; rfl
  | cons x es ih =>
    intro h h2
    obtain ⟨h3, h4⟩ := Bool.and_eq_true_iff.mp (show (lf x && lfs es) = true from h)
    show (lf x && lfs (es ++ [e])) = true
    rw [h3, ih h4 h2]; rfl
theorem lfs_set {es : List D} {e : D} : ∀ {t : Nat}, lfs es = true → lf e = true → lfs (es.set t e) = true := by
  induction es with
  | nil => intro t h _; exact h
  | cons x es ih =>
    intro t h h2
    obtain ⟨h3, h4⟩ := Bool.and_eq_true_iff.mp (show (lf x && lfs es) = true from h)
    cases t with
    | zero => show (lf e && lfs es) = true; rw [h2, h4]; rfl
    | succ t => show (lf x && lfs (es.set t e)) = true; rw [h3, ih h4 h2]; rfl
section
variable {X : Cx} {W : WX} {fr : Fk} {me : ME} {e : Expr} {pos p2 p3 p4 p5 p6 : Pos} {c : Bool} {i : Nat} {x : Str} {k j : Int} {u u2 : Nat}
theorem rs_appD {apos cpos : Pos} (he : RE X W c e me) (hN : X.N[i]? = some x := by rfl) (hv : Vis X.env.scope x := by first | exact Or.inl rfl | exact Or.inr (Or.inl rfl) | exact Or.inr (Or.inr rfl)) (hd : (x == ("__debug__" : Str)) = false := by decide) (hcd : (x == ("__classdict__" : Str)) = false := by decide)
    (hbase : attributeBase (.Subscript (.Name x p2) (.Constant (.int k) u p3) p4) "append" X.env (eval (.Subscript (.Name x p2) (.Constant (.int k) u p3) p4) X.env) = eval (.Subscript (.Name x p2) (.Constant (.int k) u p3) p4) X.env := by rfl)
    (hfew : ((backTo cpos (starEach [e] X.env)).all (fun x => !x.1) && (backToKw cpos (keywordEach [] X.env)).all (fun x => x.1.isSome)
      && decide (([e] : List Expr).length + ([] : List Keyword).length + (if ([] : List Keyword).isEmpty then 0 else 1) < 30)) = true := by rfl)
    (hline : (apos.endLine == cpos.line) = true := by rfl) (hs : starEach [e] X.env = (false, eval e X.env) :: starEach [] X.env := by rfl) (hplain : (backTo cpos (starEach [] X.env)).any (·.1) = false := by rfl)
    (hsw : swapsWith (.Call (.Attribute (.Subscript (.Name x p2) (.Constant (.int k) u p3) p4) "append" apos) [e] [] cpos) none pos.line X.env = pure false := by rfl) :
    RS X W fr (.Expr (.Call (.Attribute (.Subscript (.Name x p2) (.Constant (.int k) u p3) p4) "append" apos) [e] [] cpos) pos) (mAppD i k me) := by
  obtain ⟨t, a1, a2⟩ := he.ex
  refine ⟨_, ps_expr (pe_bm PySem.F.plainAttrs_list PySem.F.slot_list_append PySem.F.type_list_append mt_append (pe_ix ix_seq (pe_var hN hv hd hcd) pe_int (fun _ _ => rfl)) (pa_cons a1 pa_nil hs) hbase hfew hline hs hplain) hsw, fun B G ρ σ H E I h' => ?_⟩
  unfold mAppD at h'
  cases q : ρ[i]? with
  | none => rw [q] at h'; exact h'.elim
  | some s =>
    rw [q] at h'
    cases s with
    | deep d =>
      dsimp only at h'
      cases q2 : itemD k d with
      | none => rw [q2] at h'; exact h'.elim
      | some ne =>
        obtain ⟨n, es⟩ := ne
        rw [q2] at h'
        dsimp only at h'
        obtain ⟨qa, vs, l, xs, s1, s2, s3, s4, s5, s6, s7, _⟩ := I.pokeDeep q q2
        have cont : tyV (sg X).K "list" (.ref l) H ∧ (tCons t tNil) σ H fun ys H2 => rAppend (.ref l) ys H2 fun _ H3 => E.nx σ H3 := by
          refine ⟨.inl ⟨rfl, xs, SqL.of s4⟩, ?_⟩
          refine a2 B G ρ σ H _ I (post_nb h') (fun f e2 y H1 x1 r1 => ?_) (post_err I h')
          have hz := post_ok e2 h'
          split at hz
          · rename_i z
            obtain ⟨z1, z2⟩ := Bool.and_eq_true_iff.mp z
            have I1 := I.grow x1
            obtain ⟨qb, vs', l', xs', t1, t2, t3, t4, t5, t6, t7, t8⟩ := I1.pokeDeep q q2
            rw [s1] at t1
            cases t1
            have ev : vs' = vs := by
              rcases s2 with b1 | b1 | ⟨o, b1⟩ <;> rcases t2 with c1 | c1 | ⟨o', c1⟩ <;> (rw [x1 qa _ b1] at c1; cases c1) <;> rfl
            rw [ev, s3] at t3
            cases t3
            have hl1 := x1 _ _ s4
            rw [hl1] at t4
            cases t4
            refine ⟨l, xs, y, rfl, rfl, hl1, by rw [t6.1]; exact szOk_lt z2, ?_⟩
            exact hz G σ _ (t8 (xs ++ [y]) (es ++ [f]) (lfs_snoc t7 z1) (t6.append (.cons r1.full .nil))) ((Fr.of_ex x1).trans (fr_write t5))
          · exact hz.elim
        refine ⟨_, s1, ?_⟩
        rcases s2 with s2 | s2
        · exact .inr (.inl ⟨qa, vs, k, _, rfl, rfl, SqT.of s2, s3, cont⟩)
        · exact .inl ⟨qa, vs, k, _, rfl, rfl, .inl s2, s3, cont⟩
    | _ => exact h'.elim
theorem rs_putD2 (he : RE X W c e me) (hN : X.N[i]? = some x := by rfl) (hv : Vis X.env.scope x := by first | exact Or.inl rfl | exact Or.inr (Or.inl rfl) | exact Or.inr (Or.inr rfl)) (hd : (x == ("__debug__" : Str)) = false := by decide) (hcd : (x == ("__classdict__" : Str)) = false := by decide)
    (ha : ∀ v, assign (.Subscript (.Subscript (.Name x p2) (.Constant (.int k) u p3) p4) (.Constant (.int j) u2 p5) p6) X.env v = (do
      let ov ← holding [v] (eval (.Subscript (.Name x p2) (.Constant (.int k) u p3) p4) X.env)
      let iv ← holding [v, ov] (eval (.Constant (.int j) u2 p5) X.env)
      standAt p6
      holding [v, ov, iv] (setItem ov iv v)
      release [v, ov, iv] []) := by intro _; rfl)
    (hs : swapsWithSole [.Subscript (.Subscript (.Name x p2) (.Constant (.int k) u p3) p4) (.Constant (.int j) u2 p5) p6] e pos.line X.env = pure false := by rfl) (hw : swappedStores [.Subscript (.Subscript (.Name x p2) (.Constant (.int k) u p3) p4) (.Constant (.int j) u2 p5) p6] e X.env = pure none := by rfl)
    (h1 : (assignEach [.Subscript (.Subscript (.Name x p2) (.Constant (.int k) u p3) p4) (.Constant (.int j) u2 p5) p6] X.env).map (·.2) = [assign (.Subscript (.Subscript (.Name x p2) (.Constant (.int k) u p3) p4) (.Constant (.int j) u2 p5) p6) X.env] := by rfl) :
    RS X W fr (.Assign [.Subscript (.Subscript (.Name x p2) (.Constant (.int k) u p3) p4) (.Constant (.int j) u2 p5) p6] e pos) (mPutDp i k j me) := by
  obtain ⟨t, a1, a2⟩ := he.ex
  refine ⟨_, ps_asg a1 (pg_sub (pe_ix ix_seq (pe_var hN hv hd hcd) pe_int (fun _ _ => rfl)) pe_int set_list ha) hs hw h1, fun B G ρ σ H E I h' => ?_⟩
  unfold mPutDp at h'
  refine a2 B G ρ σ H _ I (post_nb h') (fun f e2 y H1 x1 r1 => ?_) (post_err I h')
  have h' := PostS.move (.of_ex x1) (post_ok e2 h')
  have I := I.grow x1
  cases q : ρ[i]? with
  | none => rw [q] at h'; exact h'.elim
  | some s =>
    rw [q] at h'
    cases s with
    | deep d =>
      dsimp only at h'
      cases q2 : itemD k d with
      | none => rw [q2] at h'; exact h'.elim
      | some ne =>
        obtain ⟨n, es⟩ := ne
        rw [q2] at h'
        dsimp only at h'
        cases q3 : ixS es.length j with
        | none => rw [q3] at h'; exact h'.elim
        | some m =>
          rw [q3] at h'
          dsimp only at h'
          split at h'
          · rename_i z
            obtain ⟨qa, vs, l, xs, s1, s2, s3, s4, s5, s6, s7, s8⟩ := I.pokeDeep q q2
            have cont : rSetL (.ref l) (.int j) y H1 fun H3 => E.nx σ H3 := ⟨l, xs, j, m, rfl, rfl, s4, by rw [s6.1]; exact ixS_ixN q3, h' G σ _ (s8 (xs.set m y) (es.set m f) (lfs_set s7 z) (s6.set m r1.full)) (fr_write s5)⟩
            refine ⟨_, s1, ?_⟩
            rcases s2 with s2 | s2
            · exact .inr (.inl ⟨qa, vs, k, _, rfl, rfl, SqT.of s2, s3, cont⟩)
            · exact .inl ⟨qa, vs, k, _, rfl, rfl, .inl s2, s3, cont⟩
          · exact h'.elim
    | _ => exact h'.elim
end
end Fx

-- FxP
set_option Elab.async false
set_option linter.all false
set_option maxRecDepth 100000
set_option maxHeartbeats 2000000
/-! FxP: pools. A pool is a list of a list of ints and a place; a draw changes both, what is known of them stays. -/
namespace Fx
open PySem PySem.Spec PyProof.Rows L2
section
variable {P : Program} {w : World} {H : Hp} {h : Heap} {q c : Addr}
/-- the two lists, known -/
def two (H : Hp) (q c : Addr) (ns : List Int) (k : Int) : Hp := upd (upd H c (.lst (ns.map V.int))) q (.lst [.ref c, .int k])
/-- the two lists, only by their form -/
def ext2 (H : Hp) (q c : Addr) : Hp := upd (upd H c (PoolC c)) q (PoolQ q c)
theorem two_q {ns : List Int} {k : Int} : two H q c ns k q = some (.lst [.ref c, .int k]) := upd_same
theorem two_c {ns : List Int} {k : Int} (ne : q ≠ c) : two H q c ns k c = some (.lst (ns.map V.int)) := by
  unfold two
  rw [upd_ne (Ne.symm ne), upd_same]
theorem two_ne {ns : List Int} {k : Int} {a : Addr} (h1 : a ≠ q) (h2 : a ≠ c) : two H q c ns k a = H a := by
  unfold two
  rw [upd_ne h1, upd_ne h2]
theorem ext2_ne {a : Addr} (h1 : a ≠ q) (h2 : a ≠ c) : ext2 H q c a = H a := by
  unfold ext2
  rw [upd_ne h1, upd_ne h2]
theorem ext2_q : ext2 H q c q = some (PoolQ q c) := upd_same
theorem ext2_c (ne : q ≠ c) : ext2 H q c c = some (PoolC c) := by
  unfold ext2
  rw [upd_ne (Ne.symm ne), upd_same]
/-- other objects do not care -/
theorem other {H' : Hp} {a : Addr} {o : HO} (x : ObjOk P w H h a o) (k : ∀ b u, (∀ xs, u ≠ .lst xs) → (∀ φ, u ≠ .ext φ) → H b = some u → H' b = some u) : ObjOk P w H' h a o :=
  x.stay (fun b u _ z => z) (fun b z => k b _ (fun xs y => by cases y) (fun φ y => by cases y) z) fun b xs z => k b _ (fun xs y => by cases y) (fun φ y => by cases y) z
theorem to_ext {ns : List Int} {k : Int} (ok : HOk P w H h) (hq : H q = some (.lst [.ref c, .int k])) (hc : H c = some (.lst (ns.map V.int))) (hk : 0 ≤ k) (ne : q ≠ c) : HOk P w (ext2 H q c) h := by
  have oth : ∀ b u, (∀ xs, u ≠ .lst xs) → (∀ φ, u ≠ .ext φ) → H b = some u → ext2 H q c b = some u := fun b u n1 n2 z => by
    have h1 : b ≠ q := fun y => by rw [y, hq] at z; exact n1 _ (Option.some.inj z).symm
    have h2 : b ≠ c := fun y => by rw [y, hc] at z; exact n1 _ (Option.some.inj z).symm
    rw [ext2_ne h1 h2]; exact z
  intro a o z
  by_cases h1 : a = q
  · subst h1
    rw [ext2_q] at z
    cases z
    obtain ⟨_, its, n, r, e⟩ := ok a _ hq
    exact ⟨⟨k, hk, its, n, r, e⟩, ⟨_, e⟩, fun h1 h2 ⟨k, hk, its, n, r, e⟩ s => ⟨k, hk, its, n, r, s _ e⟩⟩
  · by_cases h2 : a = c
    · subst h2
      rw [ext2_c (Ne.symm h1)] at z
      cases z
      obtain ⟨l, its, n, r, e⟩ := ok a _ hc
      exact ⟨⟨ns, l, its, n, r, e⟩, ⟨_, e⟩, fun h1 h2 ⟨ns, l, its, n, r, e⟩ s => ⟨ns, l, its, n, r, s _ e⟩⟩
    · rw [ext2_ne h1 h2] at z
      exact other (ok a o z) oth
theorem of_ext (ok : HOk P w H h) (hq : H q = some (PoolQ q c)) (hc : H c = some (PoolC c)) (ne : q ≠ c) : ∃ ns k, 0 ≤ k ∧ HOk P w (two H q c ns k) h := by
  obtain ⟨⟨k, hk, its, n, r, e⟩, _⟩ := ok q _ hq
  obtain ⟨⟨ns, l, its2, n2, r2, e2⟩, _⟩ := ok c _ hc
  refine ⟨ns, k, hk, ?_⟩
  have oth : ∀ b u, (∀ xs, u ≠ .lst xs) → (∀ φ, u ≠ .ext φ) → H b = some u → two H q c ns k b = some u := fun b u n1 n2 z => by
    have h1 : b ≠ q := fun y => by rw [y, hq] at z; exact n2 _ (Option.some.inj z).symm
    have h2 : b ≠ c := fun y => by rw [y, hc] at z; exact n2 _ (Option.some.inj z).symm
    rw [two_ne h1 h2]; exact z
  intro a o z
  by_cases h1 : a = q
  · subst h1
    rw [two_q] at z
    cases z
    exact ⟨by rw [sizeLine_eq]; show 2 ≤ _; decide, its, n, r, e⟩
  · by_cases h2 : a = c
    · subst h2
      rw [two_c (Ne.symm h1)] at z
      cases z
      exact ⟨l, its2, n2, r2, e2⟩
    · rw [two_ne h1 h2] at z
      exact other (ok a o z) oth
theorem two_ext {ns : List Int} {k : Int} (hq : H q = some (PoolQ q c)) (hc : H c = some (PoolC c)) (ne : q ≠ c) : ext2 (two H q c ns k) q c = H := by
  funext a
  by_cases h1 : a = q
  · subst h1; rw [ext2_q, hq]
  · by_cases h2 : a = c
    · subst h2; rw [ext2_c (Ne.symm h1), hc]
    · rw [ext2_ne h1 h2, two_ne h1 h2]
end
/-! ### a draw -/
/-- with the lists known -/
def spD1 : Sp := fun vs H Q E => ∃ (q c : Addr) (ns : List Int) (k m : Int), vs = [.ref q, .int m] ∧ H q = some (.lst [.ref c, .int k]) ∧ H c = some (.lst (ns.map V.int)) ∧ q ≠ c ∧ 0 ≤ k ∧ 0 < m ∧ m.natAbs.log2 < 9000 ∧
  ∀ (d : Int) (ns' : List Int) (k' : Int) (H' : Hp), 0 ≤ d → d < m → 0 ≤ k' → H' q = some (.lst [.ref c, .int k']) → H' c = some (.lst (ns'.map V.int)) → (∀ a o, a ≠ q → a ≠ c → H a = some o → H' a = some o) → Q (.int d) H'
/-- a draw: some digit -/
def spD (S : Sig) : Sp := fun vs H Q E => vs.length = 2 ∧ ∃ (v : V) (m : Int), vs = [v, .int m] ∧ Rep S H v .pool ∧ 0 < m ∧ m.natAbs.log2 < 9000 ∧ ∀ (d : Int) (H' : Hp), 0 ≤ d → d < m → Ex H H' → Q (.int d) H'
theorem draw_ext {P : Program} {w : World} {K : PySem.W.Frag} {mg : Str → Option Value} {base : Heap} {k : Nat} {f : Addr} {fd : FuncData} {ps : List Str} (hl : ps.length = 2) (F : FnOk P w K mg base (L2N.CX P w) k f fd ps spD1) : FnOk P w K mg base (L2N.CX P w) k f fd ps (spD ⟨K, mg⟩) where
  len := fun vs H Q E h => h.1.trans hl.symm
  run := fun A outer s H args us vs Q E hr he hb hv hs => by
    obtain ⟨_, v, m, rfl, r, m0, m1, hq⟩ := hs
    cases r with
    | @pool q c h1 h2 ne =>
      obtain ⟨ns, k0, hk, ok2⟩ := of_ext he.hok h1 h2 ne
      have nn : ∀ b, H b = none → two H q c ns k0 b = none := fun b z => by
        rw [two_ne (fun y => by rw [y, h1] at z; cases z) (fun y => by rw [y, h2] at z; cases z)]; exact z
      have he2 : Env0 P w K mg base A outer s (two H q c ns k0) := ⟨he.frames, he.mod, fun b o z => ⟨(he.bs b o z).1, nn b (he.bs b o z).2⟩, he.bsz, he.funs, fun b z => nn b (he.frf b z), ok2, he.bare⟩
      have z := F.run A outer s (two H q c ns k0) args us _ (fun v H' => ∃ (d : Int) (ns' : List Int) (k' : Int), v = .int d ∧ 0 ≤ d ∧ d < m ∧ 0 ≤ k' ∧ H' q = some (.lst [.ref c, .int k']) ∧ H' c = some (.lst (ns'.map V.int)) ∧ ∀ a o, a ≠ q → a ≠ c → H a = some o → H' a = some o) (fun _ _ _ => False) hr he2 hb hv
        ⟨q, c, ns, k0, m, rfl, two_q, two_c ne, ne, hk, m0, m1, fun d ns' k' H' d0 d1 k0' e1 e2 fr => ⟨d, ns', k', rfl, d0, d1, k0', e1, e2, fun a o n1 n2 z => fr a o n1 n2 (by rw [two_ne n1 n2]; exact z)⟩⟩
      refine codeAny_mono z fun res s' h => ?_
      cases res with
      | error e =>
        obtain ⟨_, _, _, _, _, _, _, _, _, _, _, _, hE⟩ := h
        exact hE.elim
      | ok fl =>
        cases fl with
        | next => exact h
        | brk => exact h
        | cont => exact h
        | ret u =>
          obtain ⟨v, H', os, bare, un, ok', rv, d, ns', k', rfl, d0, d1, k0', e1, e2, fr⟩ := h
          have ex : Ex H (ext2 H' q c) := fun a o zz => by
            by_cases y1 : a = q
            · subst y1; rw [ext2_q, ← h1]; exact zz
            · by_cases y2 : a = c
              · subst y2; rw [ext2_c ne, ← h2]; exact zz
              · rw [ext2_ne y1 y2]; exact fr a o y1 y2 zz
          refine ⟨.int d, ext2 H' q c, os, bare, ⟨fun b o z n => un.keep b o z (nn b n), fun b o z n => un.slot b o z (nn b n), fun b o z n x => ?_, un.there, fun b xs z => ex b _ z, fun b o u z => ex b _ z, fun b ps z => ⟨#[], by rw [Array.append_empty]; exact ex b _ z⟩⟩, to_ext ok' e1 e2 k0' ne, rv, hq d _ d0 d1 ex⟩
          have y1 : b ≠ q := fun y => by rw [y, h1] at n; cases n
          have y2 : b ≠ c := fun y => by rw [y, h2] at n; cases n
          rw [ext2_ne y1 y2]
          exact un.free b o z (nn b n) x
/-! ### the body of a draw -/
def rDm : List V → Hp → VK → Prop := fun xs H Q => ∃ i j, xs = [.int i, .int j] ∧ (0 < j ∧ j.natAbs.log2 < 9000) ∧ ∀ p, H p = none → Q (.ref p) (upd H p (.tup [.int (i / j), .int (i % j)]))
theorem call_dm {X : Cx} : CallR X (.builtin "divmod") rDm := by
  intro pins s σ H xs us Q I r h
  obtain ⟨i, j, rfl, ⟨h1, h2⟩, hq⟩ := h
  obtain ⟨u, w', rfl, ⟨t, rfl⟩, ⟨t', rfl⟩⟩ := vals2 r
  refine PyProof.Rows.divmod_int (by omega) ?_ (.inl (PyProof.noPylong_of_log2 h2))
  rw [Int.fdiv_eq_ediv_of_nonneg i (by omega), Int.fmod_eq_emod_of_nonneg i (by omega)]
  have new : H s.heap.objs.size = none := I.hok.fresh (Nat.le_refl _)
  exact ⟨.ref s.heap.objs.size, upd H s.heap.objs.size (.tup [.int (i / j), .int (i % j)]), I.laid (fun b o e => Heap.get?_push_of_some _ e) (Nat.le_refl _) ⟨by rw [sizeLine_eq]; show 2 ≤ _; decide, [.int (i / j) s.toks, .int (i % j) (s.toks + 1)], .cons ⟨_, rfl⟩ (.cons ⟨_, rfl⟩ .nil), ⟨_, Heap.get?_push_size s.heap rfl, rfl, 0, rfl⟩⟩, rfl, hq _ new⟩
end Fx

-- FxP2
set_option Elab.async false
set_option linter.all false
set_option maxRecDepth 100000
set_option maxHeartbeats 2000000
/-! FxP2: what the body of a draw does. -/
namespace Fx
open PySem PySem.Spec PyProof.Rows L2
abbrev rLn (K : PySem.W.Frag) : List V → Hp → VK → Prop := fun xs H Q => ∃ p ys, xs = [V.ref p] ∧ (SqL K H p ys ∨ SqT K H p ys) ∧ Q (.int (ys.length : Nat)) H
def tDraw (K : PySem.W.Frag) (n : Nat) : TS :=
  tSeq (tAsg (tOp (rIx K) (tVar 0) (tC (.int 0))) (gName 2))
  (tSeq (tAsg (tOp (rIx K) (tVar 0) (tC (.int 1))) (gName 3))
  (tSeq (tIfS (tTest (tOp (rI0 fun i j => .bl (decide (j ≤ i))) (tVar 3) (tCB (rLn K) (tCons (tVar 2) tNil)))) (tSeq (tRet (tC (.int 0))) tNext) tNext)
  (tSeq (tAsg (tCB rDm (tCons (tOp (rIx K) (tVar 2) (tVar 3)) (tCons (tVar 1) tNil))) (gTup K n (gCons (gName 4) (gCons (gName 5) gNil))))
  (tSeq (tAsg (tVar 4) (gSub (tVar 2) (tVar 3) rSetL))
  (tSeq (tIfS (tOr (tTest (tOp rEq (tVar 4) (tC (.int 0)))) (tTest (tOp rEq (tVar 4) (tUn (rU fun i => .int (-i)) (tC (.int 1)))))) (tSeq (tAsg (tOp (rI0 fun i j => .int (i + j)) (tVar 3) (tC (.int 1))) (gSub (tVar 0) (tC (.int 1)) rSetL)) tNext) tNext)
  (tSeq (tRet (tVar 5)) tNext))))))
theorem draw_read {K : PySem.W.Frag} {n : Nat} {D : Ends} {N : List Str} {vs : List V} {H : Hp} {E : XK} (hn : n = 2) (hN : N.length = 6) (hs : spD1 vs H D.rt E) : tDraw K n D (L2.start N vs) H := by
  obtain ⟨q, c, ns, k, m, rfl, hq, hc, ne, k0, m0, m1, hQ⟩ := hs
  have st : L2.start N [V.ref q, V.int m] = [some (.ref q), some (.int m), none, none, none, none] := by
    unfold L2.start
    rw [hN]
    rfl
  rw [st]
  unfold tDraw
  refine ⟨_, rfl, .inl ⟨q, _, 0, .ref c, rfl, rfl, SqL.of hq, rfl, ?_⟩⟩
  refine ⟨_, rfl, .inl ⟨q, _, 1, .int k, rfl, rfl, SqL.of hq, rfl, ?_⟩⟩
  refine ⟨.int k, rfl, _, rfl, c, _, rfl, .inl (SqL.of hc), k, _, rfl, rfl, _, rfl, ?_⟩
  rw [List.length_map]
  by_cases z : ((ns.length : Nat) : Int) ≤ k
  · rw [decide_eq_true z]; dsimp only; rw [if_pos rfl]
    exact hQ 0 ns k H (by omega) m0 k0 hq hc (fun a o _ _ h => h)
  · rw [decide_eq_false z]; dsimp only; rw [if_neg Bool.false_ne_true]
    obtain ⟨j, hj⟩ : ∃ j : Nat, k = j := ⟨k.toNat, by omega⟩
    have jl : j < ns.length := by omega
    subst hj
    have ixj : ixN (ns.map V.int).length (j : Int) = some j := by
      unfold ixN
      rw [if_pos (by omega), List.length_map, if_pos (by omega)]
      simp
    have hat : atI (ns.map V.int) (j : Int) = some (.int ns[j]) := by
      unfold atI
      rw [ixj]
      show (ns.map V.int)[j]? = _
      rw [List.getElem?_map, List.getElem?_eq_getElem jl]
      rfl
    refine ⟨.ref c, rfl, .int j, rfl, .inl ⟨c, _, j, .int ns[j], rfl, rfl, SqL.of hc, hat, .int m, rfl, ns[j], m, rfl, ⟨m0, m1⟩, fun p hp => ?_⟩⟩
    have pq : q ≠ p := fun y => by rw [y, hp] at hq; cases hq
    have pc : c ≠ p := fun y => by rw [y, hp] at hc; cases hc
    refine ⟨p, _, rfl, SqT.of upd_same, hn.symm, .int (ns[j] / m), _, rfl, .int (ns[j] % m), _, rfl, rfl, ?_⟩
    refine ⟨.int (ns[j] / m), rfl, .ref c, rfl, .int j, rfl, c, ns.map V.int, j, j, rfl, rfl, by rw [upd_ne pc]; exact hc, ixj, ?_⟩
    have em : (ns.map V.int).set j (.int (ns[j] / m)) = (ns.set j (ns[j] / m)).map V.int := by rw [List.map_set]
    rw [em]
    have d0 := Int.emod_nonneg ns[j] (Int.ne_of_gt m0)
    have d1 := Int.emod_lt_of_pos ns[j] m0
    have fr : ∀ a o, a ≠ q → a ≠ c → H a = some o → upd (upd H p (.tup [.int (ns[j] / m), .int (ns[j] % m)])) c (.lst ((ns.set j (ns[j] / m)).map V.int)) a = some o := fun a o n1 n2 h => by
      rw [upd_ne n2, upd_ne fun y => by rw [y, hp] at h; cases h]; exact h
    have hq2 : upd (upd H p (.tup [.int (ns[j] / m), .int (ns[j] % m)])) c (.lst ((ns.set j (ns[j] / m)).map V.int)) q = some (.lst [.ref c, .int j]) := by rw [upd_ne ne, upd_ne pq]; exact hq
    have fin1 : ∀ H' : Hp, H' = upd (upd H p (.tup [.int (ns[j] / m), .int (ns[j] % m)])) c (.lst ((ns.set j (ns[j] / m)).map V.int)) → D.rt (.int (ns[j] % m)) H' := fun H' e => by
      subst e
      exact hQ _ _ j _ d0 d1 (by omega) hq2 upd_same fr
    have fin2 : D.rt (.int (ns[j] % m)) (upd (upd (upd H p (.tup [.int (ns[j] / m), .int (ns[j] % m)])) c (.lst ((ns.set j (ns[j] / m)).map V.int))) q (.lst [.ref c, .int ((j : Int) + 1)])) :=
      hQ _ (ns.set j (ns[j] / m)) ((j : Int) + 1) _ d0 d1 (by omega) upd_same (by rw [upd_ne (Ne.symm ne), upd_same]) fun a o n1 n2 h => by rw [upd_ne n1]; exact fr a o n1 n2 h
    have go : D.rt (.int (ns[j] % m)) (upd (upd H p (.tup [.int (ns[j] / m), .int (ns[j] % m)])) c (.lst ((ns.set j (ns[j] / m)).map V.int))) := fin1 _ rfl
    have set2 : rSetL (.ref q) (.int 1) (.int ((j : Int) + 1)) (upd (upd H p (.tup [.int (ns[j] / m), .int (ns[j] % m)])) c (.lst ((ns.set j (ns[j] / m)).map V.int))) (fun H3 => D.rt (.int (ns[j] % m)) H3) :=
      ⟨q, _, 1, 1, rfl, rfl, hq2, rfl, fin2⟩
    refine ⟨.int (ns[j] / m), rfl, rfl, _, rfl, ?_⟩
    by_cases y : V.int (ns[j] / m) = V.int 0
    · rw [decide_eq_true y]; dsimp only; rw [if_pos rfl, if_pos rfl]
      exact ⟨.int j, rfl, j, 1, rfl, rfl, .ref q, rfl, q, _, 1, 1, rfl, rfl, hq2, rfl, _, rfl, fin2⟩
    · rw [decide_eq_false y]; dsimp only; rw [if_neg Bool.false_ne_true]
      refine ⟨.int (ns[j] / m), rfl, 1, rfl, rfl, _, rfl, ?_⟩
      by_cases x : V.int (ns[j] / m) = V.int (-1)
      · rw [decide_eq_true x]; dsimp only; rw [if_pos rfl]
        exact ⟨.int j, rfl, j, 1, rfl, rfl, .ref q, rfl, q, _, 1, 1, rfl, rfl, hq2, rfl, _, rfl, fin2⟩
      · rw [decide_eq_false x]; dsimp only; rw [if_neg Bool.false_ne_true]
        exact ⟨_, rfl, go⟩
end Fx

-- FxW
set_option Elab.async false
set_option linter.all false
set_option maxRecDepth 100000
set_option maxHeartbeats 2000000
/-! FxW: bodies with draws: a mirror tells what holds of every outcome. -/
namespace Fx
open PySem PySem.Spec PyProof.Rows L2
abbrev MEw := Env → (D → Prop) → Prop
abbrev MAw := Env → (List D → Prop) → Prop
abbrev MSw := Env → (Out → Prop) → Prop
abbrev MFw := List D → (R D → Prop) → Prop
def Mono {α : Type} (m : Env → (α → Prop) → Prop) : Prop := ∀ ρ K K', (∀ a, K a → K' a) → m ρ K → m ρ K'
def SndEw (S : Sig) (P : PX) (W : WX) (c : Bool) (t : TE) (m : MEw) : Prop :=
  ∀ (B : Bs) (G : Addr → Bool) (ρ : Env) (σ : L2.St) (H : Hp) (Q : VK), Sts S P B G ρ σ H → m ρ (fun d => ∀ v H', Ex H H' → RepC S H' G c v d → Q v H') → t σ H Q
structure REw (X : Cx) (W : WX) (c : Bool) (e : Expr) (m : MEw) : Prop where
  mono : Mono m
  ex : ∃ t, PE X e t ∧ SndEw (sg X) (pp X) W c t m
def SndFw (S : Sig) (P : PX) (W : WX) (t : TE) (m : MEw) : Prop :=
  ∀ (B : Bs) (G : Addr → Bool) (ρ : Env) (σ : L2.St) (H : Hp) (Q : VK), Sts S P B G ρ σ H → m ρ (fun d => ∀ p s H', H p = none → Ex H H' → s.d = d → OwnAt S H' (addG G p) p s → Q (.ref p) H') → t σ H Q
structure RFw (X : Cx) (W : WX) (e : Expr) (m : MEw) : Prop where
  mono : Mono m
  ex : ∃ t, PE X e t ∧ SndFw (sg X) (pp X) W t m
def SndAw (S : Sig) (P : PX) (W : WX) (n : Nat) (t : TA) (m : MAw) : Prop :=
  ∀ (B : Bs) (G : Addr → Bool) (ρ : Env) (σ : L2.St) (H : Hp) (Q : List V → Hp → Prop), Sts S P B G ρ σ H →
    m ρ (fun ds => ∀ vs H', Ex H H' → vs.length = n → Reps S (hid H' G) vs ds → Q vs H') → t σ H Q
structure RAw (X : Cx) (W : WX) (es : List Expr) (m : MAw) : Prop where
  mono : Mono m
  ex : ∃ t, PA X es t ∧ SndAw (sg X) (pp X) W es.length t m
def SndSw (S : Sig) (P : PX) (W : WX) (fr : Fk) (t : TS) (m : MSw) : Prop :=
  ∀ (B : Bs) (G : Addr → Bool) (ρ : Env) (σ : L2.St) (H : Hp) (E : Ends), Sts S P B G ρ σ H → m ρ (fun o => PostS S P W fr B G H E o) → t E σ H
structure RSw (X : Cx) (W : WX) (fr : Fk) (st : Stmt) (m : MSw) : Prop where
  mono : Mono m
  ex : ∃ t, PS X st t ∧ SndSw (sg X) (pp X) W fr t m
structure RSsw (X : Cx) (W : WX) (fr : Fk) (st : List Stmt) (m : MSw) : Prop where
  mono : Mono m
  ex : ∃ t, PSs X st t ∧ SndSw (sg X) (pp X) W fr t m
/-! ### mirrors -/
def wE (m : ME) : MEw := fun ρ K => ∃ d, m ρ = .ok d ∧ K d
def wBin (g : D → D → Option D) (a b : MEw) : MEw := fun ρ K => a ρ fun x => b ρ fun y => ∃ d, g x y = some d ∧ K d
def wNil : MAw := fun _ K => K []
def wCons (a : MEw) (r : MAw) : MAw := fun ρ K => a ρ fun x => r ρ fun xs => K (x :: xs)
def wTup (r : MAw) : MEw := fun ρ K => r ρ fun ds => K (.tup ds)
def wLst (r : MAw) : MEw := fun ρ K => r ρ fun ds => K (.lst ds)
/-- a digit below a number -/
def wDraw (p m : ME) : MEw := fun ρ K => p ρ = .ok .pool ∧ ∃ i : Int, m ρ = .ok (.int i) ∧ 0 < i ∧ small i = true ∧ ∀ d : Int, 0 ≤ d → d < i → K (.int d)
def wDef (mf : MFw) (a : MAw) : MEw := fun ρ K => a ρ fun ds => mf ds fun r => match r with
  | .ok d => K d
  | _ => False
def wS (m : MS) : MSw := fun ρ K => K (m ρ)
def wSeq (a b : MSw) : MSw := fun ρ K => a ρ fun o => match o with
  | .nx ρ' => b ρ' K
  | o => K o
def wIte (t : MT) (a b : MSw) : MSw := fun ρ K => ∃ k, t ρ = .ok k ∧ if k = true then a ρ K else b ρ K
def wSet (i : Nat) (m : MEw) : MSw := fun ρ K => m ρ fun d => K (.nx (ρ.set i (.val d)))
def wSetO (i : Nat) (m : MEw) : MSw := fun ρ K => m ρ fun d => K (.nx (ρ.set i (slOf d)))
def wApp (i : Nat) (m : MEw) : MSw := fun ρ K => match ρ[i]? with
  | some (.lst ds) => m ρ fun d => szOk ds.length = true ∧ K (.nx (ρ.set i (.lst (ds ++ [d]))))
  | _ => False
def wRet (m : MEw) : MSw := fun ρ K => m ρ fun d => K (.rt d)
def forW (g : MG) (body : MSw) : List D → Env → (Out → Prop) → Prop
  | [], ρ, K => K (.nx ρ)
  | d :: ds, ρ, K => ∃ ρ1, g d ρ = some ρ1 ∧ body ρ1 fun o => match o with
    | .nx ρ2 => forW g body ds ρ2 K
    | .ct ρ2 => forW g body ds ρ2 K
    | .bk ρ2 => K (.nx ρ2)
    | o => K o
def wFor (m : MI) (g : MG) (body : MSw) : MSw := fun ρ K => ∃ ds, m ρ = .ok ds ∧ forW g body ds ρ K
/-! ### soundness -/
section
variable {X : Cx} {W : WX} {c c1 c2 : Bool} {e a b : Expr} {es : List Expr} {me ma mb : MEw} {mr : MAw} {m1 : ME} {pos p : Pos} {fr : Fk}
theorem mono_E {m : ME} : Mono (wE m) := fun ρ K K' h ⟨d, e, k⟩ => ⟨d, e, h d k⟩
theorem RE.w (h : RE X W c e m1) : REw X W c e (wE m1) := by
  obtain ⟨t, a1, a2⟩ := h.ex
  refine ⟨mono_E, t, a1, fun B G ρ σ H Q I ⟨d, ed, k⟩ => a2 B G ρ σ H Q I (fun z => by rw [ed] at z; cases z) (fun d' e' v H' x r => ?_) (fun x e' => by rw [ed] at e'; cases e')⟩
  rw [ed] at e'
  cases e'
  exact k v H' x r
theorem rew_bin {op : Operator} {g : D → D → Option D} (h : OpD X (binaryOp op) g) (ha : REw X W true a ma) (hb : REw X W c2 b mb) : REw X W true (.BinOp a op b pos) (wBin g ma mb) := by
  obtain ⟨r, h1, h2⟩ := h
  obtain ⟨ta, a1, a2⟩ := ha.ex
  obtain ⟨tb, b1, b2⟩ := hb.ex
  refine ⟨fun ρ K K' k z => ha.mono ρ _ _ (fun x z => hb.mono ρ _ _ (fun y ⟨d, e, z⟩ => ⟨d, e, k d z⟩) z) z, _, pe_op h1 a1 b1, fun B G ρ σ H Q I z => ?_⟩
  refine a2 B G ρ σ H _ I (ha.mono ρ _ _ (fun x z v H1 x1 rx => ?_) z)
  refine b2 B G ρ σ H1 _ (I.grow x1) (hb.mono ρ _ _ (fun y z u H2 x2 ry => ?_) z)
  obtain ⟨d, e, k⟩ := z
  exact h2 H2 G v u x y d Q (I.grow (x1.trans x2)).gm ((show RepC (sg X) H1 G true v x from rx).grow x2).weak ry.weak e fun w H3 x3 r => k w H3 ((x1.trans x2).trans x3) r
theorem rew_cmp {op : CmpOp} {g : D → D → Option D} (h : OpD X (compareOp op) g) (ha : REw X W true a ma) (hb : REw X W c2 b mb) (hm : behindInMarks op b = false) : REw X W true (.Compare a [op] [b] pos) (wBin g ma mb) := by
  obtain ⟨r, h1, h2⟩ := h
  obtain ⟨ta, a1, a2⟩ := ha.ex
  obtain ⟨tb, b1, b2⟩ := hb.ex
  refine ⟨fun ρ K K' k z => ha.mono ρ _ _ (fun x z => hb.mono ρ _ _ (fun y ⟨d, e, z⟩ => ⟨d, e, k d z⟩) z) z, _, pe_cmpR h1 a1 b1 hm, fun B G ρ σ H Q I z => ?_⟩
  refine a2 B G ρ σ H _ I (ha.mono ρ _ _ (fun x z v H1 x1 rx => ?_) z)
  refine b2 B G ρ σ H1 _ (I.grow x1) (hb.mono ρ _ _ (fun y z u H2 x2 ry => ?_) z)
  obtain ⟨d, e, k⟩ := z
  exact h2 H2 G v u x y d Q (I.grow (x1.trans x2)).gm ((show RepC (sg X) H1 G true v x from rx).grow x2).weak ry.weak e fun w H3 x3 r => k w H3 ((x1.trans x2).trans x3) r
theorem rew_ix (ha : REw X W true a ma) (hb : REw X W c2 b mb) (hs : PlainIx b := by exact fun _ _ => rfl) : REw X W true (.Subscript a b pos) (wBin gIx ma mb) := by
  obtain ⟨ta, a1, a2⟩ := ha.ex
  obtain ⟨tb, b1, b2⟩ := hb.ex
  refine ⟨fun ρ K K' k z => ha.mono ρ _ _ (fun x z => hb.mono ρ _ _ (fun y ⟨d, e, z⟩ => ⟨d, e, k d z⟩) z) z, _, pe_ix ix_seq a1 b1 hs, fun B G ρ σ H Q I z => ?_⟩
  refine a2 B G ρ σ H _ I (ha.mono ρ _ _ (fun x z v H1 x1 rx => ?_) z)
  refine b2 B G ρ σ H1 _ (I.grow x1) (hb.mono ρ _ _ (fun y z u H2 x2 ry => ?_) z)
  obtain ⟨d, e, k⟩ := z
  exact snd_ix (S := sg X) rfl H2 G v u x y d Q (I.grow (x1.trans x2)).gm ((show RepC (sg X) H1 G true v x from rx).grow x2).weak ry.weak e fun w H3 x3 r => k w H3 ((x1.trans x2).trans x3) r
theorem raw_nil : RAw X W [] wNil := ⟨fun ρ K K' h k => h _ k, _, pa_nil, fun B G ρ σ H Q I k => k [] H (Ex.refl H) rfl .nil⟩
theorem raw_cons (ha : REw X W true a ma) (hr : RAw X W es mr) (hs : starEach (a :: es) X.env = (false, eval a X.env) :: starEach es X.env := by rfl) : RAw X W (a :: es) (wCons ma mr) := by
  obtain ⟨ta, a1, a2⟩ := ha.ex
  obtain ⟨tr, r1, r2⟩ := hr.ex
  refine ⟨fun ρ K K' k z => ha.mono ρ _ _ (fun x z => hr.mono ρ _ _ (fun xs z => k _ z) z) z, _, pa_cons a1 r1 hs, fun B G ρ σ H Q I z => ?_⟩
  refine a2 B G ρ σ H _ I (ha.mono ρ _ _ (fun x z v H1 x1 rx => ?_) z)
  refine r2 B G ρ σ H1 _ (I.grow x1) (hr.mono ρ _ _ (fun xs z vs H2 x2 hn rs => ?_) z)
  exact z _ H2 (x1.trans x2) (by rw [List.length_cons, List.length_cons, hn]) (.cons (Rep.ex (hid_ex x2) rx) rs)
theorem rfw_lst (h : RAw X W es mr) (hz : es.length ≤ sizeLine := by first | exact Nat.le_of_ble_eq_true rfl | decide) : RFw X W (.List es pos) (wLst mr) := by
  obtain ⟨t, r1, r2⟩ := h.ex
  refine ⟨fun ρ K K' k z => h.mono ρ _ _ (fun xs z => k _ z) z, _, pe_lst r1, fun B G ρ σ H Q I z => ?_⟩
  refine r2 B G ρ σ H _ I (h.mono ρ _ _ (fun ds k vs H' x hn rs => ⟨by rw [hn]; exact hz, fun p hp => ?_⟩) z)
  have hp0 : H p = none := by
    cases z : H p with
    | none => rfl
    | some o => rw [x p o z] at hp; cases hp
  have e2 : Ex H' (upd H' p (.lst vs)) := Ex.new hp
  exact k p (.lst ds) _ hp0 (x.trans e2) rfl ⟨vs, upd_same, rs.ex (hid_addG hp e2)⟩
theorem rew_tup {x1} (h : RAw X W es mr) (hz : es.length ≤ sizeLine := by first | exact Nat.le_of_ble_eq_true rfl | decide) : REw X W true (.Tuple es x1 pos) (wTup mr) := by
  obtain ⟨t, r1, r2⟩ := h.ex
  refine ⟨fun ρ K K' k z => h.mono ρ _ _ (fun xs z => k _ z) z, _, pe_tup r1, fun B G ρ σ H Q I z => ?_⟩
  refine r2 B G ρ σ H _ I (h.mono ρ _ _ (fun ds k vs H' x hn rs => ⟨by rw [hn]; exact hz, fun p hp => ?_⟩) z)
  exact k _ _ (x.trans (Ex.new hp)) (.mkT (hid_of (fresh_vis (I.grow x).gm hp) upd_same) (rs.ex (hid_ex (Ex.new hp))))
theorem RFw.re (h : RFw X W e me) : REw X W true e me := by
  obtain ⟨t, a1, a2⟩ := h.ex
  refine ⟨h.mono, t, a1, fun B G ρ σ H Q I z => a2 B G ρ σ H Q I (h.mono ρ _ _ (fun d k p s H' hp x es w => ?_) z)⟩
  subst es
  exact k _ H' x (ownAt_clean I.gm hp w)
/-! ### calls -/
/-- the def of a draw -/
structure ClD1 (P : Program) (w : World) (K : PySem.W.Frag) (mg : Str → Option Value) (base : Heap) (k : Nat) (x : Str) : Prop where
  ex : ∃ (f : Addr) (fd : FuncData) (ps : List Str), FnOk P w K mg base (L2N.CX P w) k f fd ps (spD ⟨K, mg⟩) ∧ mg x = some (.ref f) ∧ PySem.W.keepIn K (.ref f) = true ∧ Binds K fd ps []
theorem rew_draw {k j : Nat} {x : Str} {mp mm : ME} {b : Expr} (cl : ClD1 X.prog X.w X.K X.mg X.base k x) (hr : Room j X.A) (hk : k ≤ j) (hg : Gl X x) (tk : L2N.Takes X W) (ha : RE X W true a mp) (hb : RE X W true b mm)
    (hdb : (x == ("__debug__" : Str)) = false := by decide) (he : starEach [a, b] X.env = (false, eval a X.env) :: starEach [b] X.env := by rfl) (he2 : starEach [b] X.env = (false, eval b X.env) :: starEach [] X.env := by rfl) (hpl : (backTo pos (starEach [b] X.env)).any (·.1) = false := by rfl) :
    REw X W true (.Call (.Name x p) [a, b] [] pos) (wDraw mp mm) := by
  obtain ⟨f, fd, ps, F, hm, hkp, hb'⟩ := cl.ex
  obtain ⟨ta, a1, a2⟩ := ha.ex
  obtain ⟨tb, b1, b2⟩ := hb.ex
  refine ⟨fun ρ K K' h ⟨h1, i, h2, h3, h4, k⟩ => ⟨h1, i, h2, h3, h4, fun d d0 d1 => h _ (k d d0 d1)⟩, _, pe_callS F (hr.mono hk) hg hm hkp hb' (L2N.passAt tk) (pa_cons a1 (pa_cons b1 pa_nil he2) he) hdb he hpl, fun B G ρ σ H Q I ⟨h1, i, h2, h3, h4, k⟩ => ?_⟩
  refine a2 B G ρ σ H _ I (fun z => by rw [h1] at z; cases z) (fun d e v H1 x1 rv => ?_) (fun x e => by rw [h1] at e; cases e)
  rw [h1] at e
  cases e
  refine b2 B G ρ σ H1 _ (I.grow x1) (fun z => by rw [h2] at z; cases z) (fun d e u H2 x2 ru => ?_) (fun x e => by rw [h2] at e; cases e)
  rw [h2] at e
  cases e
  have eu := (RepC.full (c := true) ru).is_int
  subst eu
  have hl : i.natAbs.log2 < 9000 := by have := of_decide_eq_true h4; omega
  exact ⟨rfl, v, i, rfl, Rep.ex x2 (RepC.full (c := true) rv), h3, hl, fun d H3 d0 d1 x3 => k d d0 d1 _ H3 ((x1.trans x2).trans x3) (.int d)⟩
end
end Fx

-- FxS
set_option Elab.async false
set_option linter.all false
set_option maxRecDepth 100000
set_option maxHeartbeats 2000000
/-! FxS: how mirrors compute. -/
namespace Fx
open PySem PySem.Spec PyProof.Rows L2
section
variable {ρ : Env} {d : D} {i j : Nat} {m n : ME} {t t2 : MT} {a : MA} {x y : D} {b : Bool} {e : Exn}
@[simp] theorem e_C : mC d ρ = .ok d := rfl
@[simp] theorem e_Nil : mNil ρ = .ok [] := rfl
@[simp] theorem e_Next : mNext ρ = .nx ρ := rfl
@[simp] theorem e_Break : mBreak ρ = .bk ρ := rfl
@[simp] theorem e_Cont : mCont ρ = .ct ρ := rfl
theorem e_V (h : ρ[i]? = some (.val d)) : mV i ρ = .ok d := by unfold mV; rw [h]
theorem e_O {ds : List D} (h : ρ[i]? = some (.lst ds)) : mO i ρ = .ok (.lst ds) := by unfold mO; rw [h]
theorem e_OD {t : Bool} {ds : List (D × D)} (h : ρ[i]? = some (.dic t ds)) : mO i ρ = .ok (.dic t ds) := by unfold mO; rw [h]
theorem e_bin {g : D → D → Option D} (h1 : m ρ = .ok x) (h2 : n ρ = .ok y) (h : g x y = some d) : mBin g m n ρ = .ok d := by unfold mBin; rw [h1, h2, R.bind_ok, R.bind_ok, h]; rfl
theorem e_bool (h : m ρ = .ok (.bl b)) : mBool m ρ = .ok b := by unfold mBool; rw [h]; rfl
theorem e_tup {ds : List D} (h : a ρ = .ok ds) : mTup a ρ = .ok (.tup ds) := by unfold mTup; rw [h]; rfl
theorem e_lst {ds : List D} (h : a ρ = .ok ds) : mLst a ρ = .ok (.lst ds) := by unfold mLst; rw [h]; rfl
theorem e_cons {ds : List D} (h : m ρ = .ok d) (h2 : a ρ = .ok ds) : mCons m a ρ = .ok (d :: ds) := by unfold mCons; rw [h, R.bind_ok, h2]; rfl
theorem e_call {g : List D → Option D} {ds : List D} (h : a ρ = .ok ds) (h2 : g ds = some d) : mCall g a ρ = .ok d := by unfold mCall; rw [h, R.bind_ok, h2]; rfl
theorem e_def {f : MF} {ds : List D} {r : R D} (h : a ρ = .ok ds) (h2 : f ds = r) : mDef f a ρ = r := by unfold mDef; rw [h, R.bind_ok, h2]
theorem e_defL {f : MF} {ds : List D} {r : R D} (h : a ρ = .ok ds) (h2 : lfR (f ds) = r) : mDefL f a ρ = r := by unfold mDefL; rw [h, R.bind_ok, h2]
theorem e_neg {k : Int} (h : m ρ = .ok (.int k)) : mNeg m ρ = .ok (.int (-k)) := by unfold mNeg; rw [h]; rfl
theorem e_lf (h : m ρ = .ok d) (h2 : lf d = true) : mLf m ρ = .ok d := by unfold mLf; rw [h, R.bind_ok, if_pos h2]
theorem e_tru (h : m ρ = .ok d) (h2 : truD d = some b) : mTru m ρ = .ok b := by unfold mTru; rw [h, R.bind_ok, h2]; rfl
theorem e_not (h : t ρ = .ok b) : mNot t ρ = .ok (!b) := by unfold mNot; rw [h]; rfl
theorem e_and1 (h : t ρ = .ok true) : mAnd t t2 ρ = t2 ρ := by unfold mAnd; rw [h, R.bind_ok, if_pos rfl]
theorem e_and0 (h : t ρ = .ok false) : mAnd t t2 ρ = .ok false := by unfold mAnd; rw [h, R.bind_ok, if_neg Bool.false_ne_true]
theorem e_or1 (h : t ρ = .ok true) : mOr t t2 ρ = .ok true := by unfold mOr; rw [h, R.bind_ok, if_pos rfl]
theorem e_or0 (h : t ρ = .ok false) : mOr t t2 ρ = t2 ρ := by unfold mOr; rw [h, R.bind_ok, if_neg Bool.false_ne_true]
end
section
variable {ρ ρ' : Env} {d : D} {i j k : Nat} {m : ME} {t : MT} {s s2 : MS} {b : Bool} {e : Exn} {o : Out}
theorem s_seq (h : s ρ = .nx ρ') : mSeq s s2 ρ = s2 ρ' := by unfold mSeq; rw [h]
theorem s_seqR (h : s ρ = .rt d) : mSeq s s2 ρ = .rt d := by unfold mSeq; rw [h]
theorem s_seqE (h : s ρ = .err e ρ') : mSeq s s2 ρ = .err e ρ' := by unfold mSeq; rw [h]
theorem s_seqB (h : s ρ = .bk ρ') : mSeq s s2 ρ = .bk ρ' := by unfold mSeq; rw [h]
theorem s_seqC (h : s ρ = .ct ρ') : mSeq s s2 ρ = .ct ρ' := by unfold mSeq; rw [h]
theorem s_set (h : m ρ = .ok d) : mSet i m ρ = .nx (ρ.set i (.val d)) := by unfold mSet; rw [h]; rfl
theorem s_setE (h : m ρ = .err e) : mSet i m ρ = .err e ρ := by unfold mSet; rw [h]; rfl
theorem s_setO (h : m ρ = .ok d) : mSetO i m ρ = .nx (ρ.set i (slOf d)) := by unfold mSetO; rw [h]; rfl
theorem s_ret (h : m ρ = .ok d) : mRet m ρ = .rt d := by unfold mRet; rw [h]; rfl
theorem s_retE (h : m ρ = .err e) : mRet m ρ = .err e ρ := by unfold mRet; rw [h]; rfl
theorem s_drop (h : m ρ = .ok d) : mDrop m ρ = .nx ρ := by unfold mDrop; rw [h]; rfl
theorem s_dropE (h : m ρ = .err e) : mDrop m ρ = .err e ρ := by unfold mDrop; rw [h]; rfl
theorem s_if1 (h : t ρ = .ok true) : mIte t s s2 ρ = s ρ := by unfold mIte; rw [h, R.out_ok, if_pos rfl]
theorem s_if0 (h : t ρ = .ok false) : mIte t s s2 ρ = s2 ρ := by unfold mIte; rw [h, R.out_ok, if_neg Bool.false_ne_true]
theorem s_raise {mx : Env → R Exn} (h : mx ρ = .ok e) : mRaise mx ρ = .err e ρ := by unfold mRaise; rw [h]; rfl
theorem e_err {x : Str} {fs : List Str} {a : MA} {ds : List D} (h : a ρ = .ok ds) : mErr x fs a ρ = .ok ⟨x, fs.zip ds⟩ := by unfold mErr; rw [h]; rfl
theorem s_par {ma mb : ME} {d2 : D} (h : ma ρ = .ok d) (h2 : mb ρ = .ok d2) : mPar i j ma mb ρ = .nx ((ρ.set i (.val d)).set j (.val d2)) := by unfold mPar; rw [h, R.out_ok, h2]; rfl
end
theorem kMul_ok {i j : Int} (h1 : small i = true) (h2 : small j = true) : kMul i j = some (.int (i * j)) := by unfold kMul; rw [h1, h2]; rfl
theorem kDiv_ok {i j : Int} (h1 : 0 < j) (h2 : small j = true) : kDiv i j = some (.int (i / j)) := by unfold kDiv; rw [h2, decide_eq_true h1]; rfl
theorem kMod_ok {i j : Int} (h1 : 0 < j) : kMod i j = some (.int (i % j)) := by unfold kMod; rw [if_pos h1]
theorem small_of {i : Int} (h : i.natAbs < 2 ^ 8000) : small i = true := by
  unfold small
  refine decide_eq_true ?_
  by_cases z : i.natAbs = 0
  · rw [z]; decide
  · exact (Nat.log2_lt z).mpr h
/-- below 10^100 -/
def Sm (i : Int) : Prop := -(10 ^ 100) < i ∧ i < 10 ^ 100
theorem big : (10 : Nat) ^ 100 < 2 ^ 8000 := by decide +kernel
theorem Sm.ok {i : Int} (h : Sm i) : small i = true := by
  obtain ⟨h1, h2⟩ := h
  refine small_of (Nat.lt_trans ?_ big)
  omega
/-! ### by simp -/
def farR (b : Bool) (ds : List D) : R (List D) := if b = true then .ok ds else .bad
def szN (b : Bool) (o : Out) : Out := if b = true then o else .bad
def szM (b : Bool) (r : R D) : R D := if b = true then r else .bad
@[simp] theorem farR_t {ds : List D} : farR true ds = .ok ds := rfl
@[simp] theorem szN_t {o : Out} : szN true o = o := rfl
@[simp] theorem szM_t {r : R D} : szM true r = r := rfl
section
variable {ρ : Env} {i j n : Nat} {m ma mb md mk : ME} {t t2 : MT} {a : MA} {b s s2 : MS} {d : D} {ds es : List D} {g g' : D → D → Option D} {f : MF} {fr : Fk} {N : Nat} {nms : List Str} {mi : MI} {mg : MG}
@[simp] theorem x_V : mV i ρ = (match ρ[i]? with | some (.val d) => .ok d | _ => .bad) := rfl
@[simp] theorem x_O : mO i ρ = (match ρ[i]? with | some (.lst ds) => .ok (.lst ds) | some (.dic t ds) => .ok (.dic t ds) | _ => .bad) := rfl
@[simp] theorem x_bin : mBin g ma mb ρ = (ma ρ).bind fun x => (mb ρ).bind fun y => R.of (g x y) := rfl
@[simp] theorem x_bool : mBool m ρ = (m ρ).bind fun d => (match d with | .bl b => .ok b | _ => .bad) := rfl
@[simp] theorem x_tup : mTup a ρ = (a ρ).bind fun ds => .ok (.tup ds) := rfl
@[simp] theorem x_lst : mLst a ρ = (a ρ).bind fun ds => .ok (.lst ds) := rfl
@[simp] theorem x_cons : mCons m a ρ = (m ρ).bind fun x => (a ρ).bind fun xs => .ok (x :: xs) := rfl
@[simp] theorem x_call {g : List D → Option D} : mCall g a ρ = (a ρ).bind fun ds => R.of (g ds) := rfl
@[simp] theorem x_def : mDef f a ρ = (a ρ).bind f := rfl
@[simp] theorem x_defL : mDefL f a ρ = (a ρ).bind fun ds => lfR (f ds) := rfl
@[simp] theorem x_defD : mDefD f es a ρ = (a ρ).bind fun ds => f (ds ++ es) := rfl
@[simp] theorem x_defK {gd : List D → List D → List D} {a2 : MA} : mDefK f gd a a2 ρ = (a ρ).bind fun ds => (a2 ρ).bind fun es => f (gd ds es) := rfl
@[simp] theorem x_neg : mNeg m ρ = (m ρ).bind fun d => (match d with | .int i => .ok (.int (-i)) | _ => .bad) := rfl
@[simp] theorem x_lf : mLf m ρ = (m ρ).bind fun d => if lf d = true then .ok d else .bad := rfl
@[simp] theorem x_tru : mTru m ρ = (m ρ).bind fun d => R.of (truD d) := rfl
@[simp] theorem x_not : mNot t ρ = (t ρ).bind fun k => .ok (!k) := rfl
@[simp] theorem x_and : mAnd t t2 ρ = (t ρ).bind fun k => if k = true then t2 ρ else .ok false := rfl
@[simp] theorem x_or : mOr t t2 ρ = (t ρ).bind fun k => if k = true then .ok true else t2 ρ := rfl
@[simp] theorem x_andV : mAndV ma mb ρ = (ma ρ).bind fun d => (match d with | .bl true => mb ρ | .bl false => .ok (.bl false) | _ => .bad) := rfl
@[simp] theorem x_orV : mOrV ma mb ρ = (ma ρ).bind fun d => (match d with | .bl true => .ok (.bl true) | .bl false => mb ρ | _ => .bad) := rfl
@[simp] theorem x_notV : mNotV ma ρ = (ma ρ).bind fun d => (match d with | .bl k => .ok (.bl (!k)) | _ => .bad) := rfl
@[simp] theorem x_if : mIf t ma mb ρ = (t ρ).bind fun k => if k = true then ma ρ else mb ρ := rfl
@[simp] theorem x_isi {T : String} : mIsi T m ρ = (m ρ).bind fun d => (match tyD d with | some t => .ok (.bl (isiB t T)) | none => .bad) := rfl
@[simp] theorem x_chain : mChain g g' ma mb md ρ = (ma ρ).bind fun x => (mb ρ).bind fun y => (match g x y with | some (.bl true) => (md ρ).bind fun z => R.of (g' y z) | some (.bl false) => .ok (.bl false) | _ => .bad) := rfl
@[simp] theorem x_sl {l h : MO} : mSl m l h ρ = (m ρ).bind fun d => (l ρ).bind fun i => (h ρ).bind fun j => (match d with | .lst ds => .ok (.lst (cutD ds i j)) | _ => .bad) := rfl
@[simp] theorem x_no : mNo ρ = .ok none := rfl
@[simp] theorem x_part : mPart m ρ = (m ρ).bind fun d => (match d with | .int i => .ok (some i) | _ => .bad) := rfl
@[simp] theorem x_X {f : Exn → R D} : mX nms i f ρ = (match ρ[i]? with | some (.exc x) => if nms.contains x.c then f x else .bad | _ => .bad) := rfl
@[simp] theorem x_defX {f : Exn → R D} : mDefX i f ρ = (match ρ[i]? with | some (.exc x) => (match f x with | .ok d => .ok d | _ => .bad) | _ => .bad) := rfl
@[simp] theorem x_seq : mSeq s s2 ρ = (match s ρ with | .nx ρ' => s2 ρ' | o => o) := rfl
@[simp] theorem x_set : mSet i m ρ = (m ρ).out ρ fun d => .nx (ρ.set i (.val d)) := rfl
@[simp] theorem x_setO : mSetO i m ρ = (m ρ).out ρ fun d => .nx (ρ.set i (slOf d)) := rfl
@[simp] theorem x_drop : mDrop m ρ = (m ρ).out ρ fun _ => .nx ρ := rfl
@[simp] theorem x_ite : mIte t s s2 ρ = (t ρ).out ρ fun k => if k = true then s ρ else s2 ρ := rfl
@[simp] theorem x_ret : mRet m ρ = (m ρ).out ρ fun d => .rt d := rfl
@[simp] theorem x_retO : mRetO i ρ = (match ρ[i]? with | some (.lst ds) => .rt (.lst ds) | some (.dic t ds) => .rt (.dic t ds) | _ => .bad) := rfl
@[simp] theorem x_raise {mx : Env → R Exn} : mRaise mx ρ = (mx ρ).out ρ fun x => .err x ρ := rfl
@[simp] theorem x_err {x : Str} {fs : List Str} : mErr x fs a ρ = (a ρ).bind fun ds => .ok ⟨x, fs.zip ds⟩ := rfl
@[simp] theorem x_par : mPar i j ma mb ρ = (ma ρ).out ρ fun d => (mb ρ).out ρ fun d2 => .nx ((ρ.set i (.val d)).set j (.val d2)) := rfl
@[simp] theorem x_asg : mAsg m mg ρ = (m ρ).out ρ fun d => (match mg d ρ with | some ρ' => .nx ρ' | none => .bad) := rfl
@[simp] theorem x_gSet : gSet i d ρ = some (ρ.set i (.val d)) := rfl
@[simp] theorem x_gTup {m : MGs} : gTupM n m (.tup ds) ρ = if ds.length = n then m ds ρ else none := rfl
@[simp] theorem x_gsNil : gsNil [] ρ = some ρ := rfl
@[simp] theorem x_gsCons {r : MGs} : gsCons mg r (d :: ds) ρ = (mg d ρ).bind fun ρ' => r ds ρ' := rfl
@[simp] theorem x_app : mApp i m ρ = (match ρ[i]? with | some (.lst ds) => (m ρ).out ρ fun d => szN (szOk ds.length) (.nx (ρ.set i (.lst (ds ++ [d])))) | _ => .bad) := by unfold mApp; cases ρ[i]? <;> rfl
@[simp] theorem x_frz : mFrz i ρ = (match ρ[i]? with | some (.lst ds) => .nx (ρ.set i (.val (.lst ds))) | some (.dic t ds) => .nx (ρ.set i (.val (.dic t ds))) | _ => .bad) := rfl
@[simp] theorem x_for : mFor mi mg b ρ = (mi ρ).out ρ fun ds => forL mg b ds ρ := rfl
@[simp] theorem x_items : mItems m ρ = (m ρ).bind fun d => (match d with | .lst ds => .ok ds | _ => .bad) := rfl
@[simp] theorem x_itemsT : mItemsT m ρ = (m ρ).bind fun d => (match d with | .tup ds => .ok ds | _ => .bad) := rfl
@[simp] theorem x_range1 : mRange1 m ρ = (m ρ).bind fun d => (match d with | .int n => farR (farOk n) (rangeD 0 n) | _ => .bad) := by unfold mRange1; cases m ρ <;> rfl
@[simp] theorem x_range2 : mRange2 ma mb ρ = (ma ρ).bind fun d => (mb ρ).bind fun d2 => (match d, d2 with | .int i, .int j => farR (farOk i && farOk j) (rangeD i j) | _, _ => .bad) := by unfold mRange2; cases ma ρ <;> rfl
@[simp] theorem x_lc : mLc i mi t m ρ = (mi ρ).bind fun ds => szM (szOk ds.length) ((lcL i t m ds ((noExc ρ).set i .no)).bind fun ys => .ok (.lst ys)) := by unfold mLc; cases mi ρ <;> rfl
@[simp] theorem x_mfn : mfn fr N b ds = (b (ent N ds)).res fr := rfl
@[simp] theorem x_mfnX {x : Exn} : mfnX N b x = (b (entX N x)).res .val := rfl
@[simp] theorem x_ent : ent N ds = ds.map .val ++ List.replicate (N - ds.length) .no := rfl
@[simp] theorem x_entX {x : Exn} : entX N x = .exc x :: List.replicate (N - 1) .no := rfl
@[simp] theorem r_rt : (Out.rt d).res fr = .ok d := rfl
@[simp] theorem r_nx : (Out.nx ρ).res .val = .ok .non := rfl
@[simp] theorem r_err {x : Exn} : (Out.err x ρ).res fr = .err x := rfl
@[simp] theorem x_mYes : mYes ρ = .ok true := rfl
@[simp] theorem l_ok (h : lf d = true) : lfR (.ok d) = .ok d := by unfold lfR; simp [h]
@[simp] theorem x_noE1 : noE (.val d) = .val d := rfl
@[simp] theorem x_noE2 : noE .no = .no := rfl
@[simp] theorem x_noE3 : noE (.lst ds) = .lst ds := rfl
@[simp] theorem x_sl1 : slOf (.lst ds) = .lst ds := rfl
end
/-! ### loops -/
/-- while, with a measure -/
theorem while_run {t : MT} {body : MS} {I : Nat → Env → Prop} {Q : Env → Prop} (h : ∀ k ρ, I k ρ → (t ρ = .ok false ∧ Q ρ) ∨ (t ρ = .ok true ∧ ∃ ρ' k', body ρ = .nx ρ' ∧ k' < k ∧ I k' ρ')) :
    ∀ (n k : Nat) (ρ : Env), I k ρ → k < n → ∃ ρ', whileL t body n ρ = .nx ρ' ∧ Q ρ'
  | 0, k, ρ, _, hk => absurd hk (Nat.not_lt_zero _)
  | n + 1, k, ρ, i, hk => by
    rcases h k ρ i with ⟨h1, q⟩ | ⟨h1, ρ', k', h2, h3, h4⟩
    · exact ⟨ρ, by unfold whileL; rw [h1], q⟩
    · obtain ⟨ρ2, e, q⟩ := while_run h n k' ρ' h4 (by omega)
      exact ⟨ρ2, by unfold whileL; rw [h1]; dsimp only; rw [h2]; exact e, q⟩
/-- for with a break, with a measure; i the turn -/
theorem for_brk {g : MG} {body : MS} {ds : List D} {I : Nat → Nat → Env → Prop} {Q : Env → Prop} (h : ∀ i k ρ d, I i k ρ → ds[i]? = some d → ∃ ρ1, g d ρ = some ρ1 ∧ ((∃ ρ2, body ρ1 = .bk ρ2 ∧ Q ρ2) ∨ ∃ ρ2 k', body ρ1 = .nx ρ2 ∧ k' < k ∧ I (i + 1) k' ρ2)) :
    ∀ (m i k : Nat) (ρ : Env), m = ds.length - i → I i k ρ → k < m → ∃ ρ', forL g body (ds.drop i) ρ = .nx ρ' ∧ Q ρ'
  | 0, i, k, ρ, _, _, hk => absurd hk (Nat.not_lt_zero _)
  | m + 1, i, k, ρ, hm, hi, hk => by
    have hlt : i < ds.length := by omega
    rw [List.drop_eq_getElem_cons hlt]
    obtain ⟨ρ1, e1, h1⟩ := h i k ρ _ hi (List.getElem?_eq_getElem hlt)
    rcases h1 with ⟨ρ2, e2, q⟩ | ⟨ρ2, k', e2, hk', i2⟩
    · exact ⟨ρ2, by unfold forL; rw [e1]; dsimp only; rw [e2], q⟩
    · obtain ⟨ρ3, e3, q⟩ := for_brk h m (i + 1) k' ρ2 (by omega) i2 (by omega)
      exact ⟨ρ3, by unfold forL; rw [e1]; dsimp only; rw [e2]; exact e3, q⟩
/-- for, each turn going on -/
theorem for_all {g : MG} {body : MS} {ds : List D} {I : Nat → Env → Prop} (h : ∀ i ρ d, I i ρ → ds[i]? = some d → ∃ ρ1, g d ρ = some ρ1 ∧ ∃ ρ2, body ρ1 = .nx ρ2 ∧ I (i + 1) ρ2) :
    ∀ (m i : Nat) (ρ : Env), m = ds.length - i → i ≤ ds.length → I i ρ → ∃ ρ', forL g body (ds.drop i) ρ = .nx ρ' ∧ I ds.length ρ'
  | 0, i, ρ, hm, hl, hi => by
    have e : i = ds.length := by omega
    subst e
    rw [List.drop_length]
    exact ⟨ρ, rfl, hi⟩
  | m + 1, i, ρ, hm, hl, hi => by
    have hlt : i < ds.length := by omega
    rw [List.drop_eq_getElem_cons hlt]
    obtain ⟨ρ1, e1, ρ2, e2, i2⟩ := h i ρ _ hi (List.getElem?_eq_getElem hlt)
    obtain ⟨ρ3, e3, q⟩ := for_all h m (i + 1) ρ2 (by omega) (by omega) i2
    exact ⟨ρ3, by unfold forL; rw [e1]; dsimp only; rw [e2]; exact e3, q⟩
theorem for_all0 {g : MG} {body : MS} {ds : List D} {ρ : Env} {I : Nat → Env → Prop} (h : ∀ i ρ d, I i ρ → ds[i]? = some d → ∃ ρ1, g d ρ = some ρ1 ∧ ∃ ρ2, body ρ1 = .nx ρ2 ∧ I (i + 1) ρ2) (h0 : I 0 ρ) : ∃ ρ', forL g body ds ρ = .nx ρ' ∧ I ds.length ρ' := by
  have z := for_all h ds.length 0 ρ (by omega) (Nat.zero_le _) h0
  rw [List.drop_zero] at z
  exact z
theorem for_brk0 {g : MG} {body : MS} {ds : List D} {ρ : Env} {k : Nat} {I : Nat → Nat → Env → Prop} {Q : Env → Prop} (h : ∀ i k ρ d, I i k ρ → ds[i]? = some d → ∃ ρ1, g d ρ = some ρ1 ∧ ((∃ ρ2, body ρ1 = .bk ρ2 ∧ Q ρ2) ∨ ∃ ρ2 k', body ρ1 = .nx ρ2 ∧ k' < k ∧ I (i + 1) k' ρ2)) (h0 : I 0 k ρ) (hk : k < ds.length) : ∃ ρ', forL g body ds ρ = .nx ρ' ∧ Q ρ' := by
  have z := for_brk h ds.length 0 k ρ (by omega) h0 hk
  rw [List.drop_zero] at z
  exact z
end Fx

-- FxN
set_option Elab.async false
set_option linter.all false
set_option maxRecDepth 100000
set_option maxHeartbeats 2000000
/-! FxN: from a law's mirror to the row. -/
namespace Fx
open PySem PySem.Spec PyProof.Rows L2
theorem sp_law {K : PySem.W.Frag} {mg : Str → Option Value} {H : Hp} {a : Addr} {ns : List Int} {mf : MF} (h : Rd H a (.lst (ns.map V.int))) (e : mf [.lst (ns.map .int)] = .ok (.bl true)) : spF ⟨K, mg⟩ .val 1 mf [.ref a] H (fun v _ => v = .bl true) fun _ _ _ => False := by
  refine ⟨rfl, fun _ => false, [.lst (ns.map .int)], fun a z => absurd z Bool.false_ne_true, ?_, by rw [e]; exact (fun z => by cases z), fun d ed => ?_, fun x ex => by rw [e] at ex; cases ex⟩
  · have hh : hid H (fun _ => false) = H := by funext b; exact hid_no rfl
    rw [hh]
    exact .cons (.mkL h (.of_ints ns)) .nil
  · rw [e] at ed
    cases ed
    intro v H' _ r
    exact r.is_bl
theorem no_fly {P : Program} {w : World} (H : Hp) (s : Shared) (e : Value) (s' : Shared) : L2N.CX P w [] H s (fun _ _ _ => False) e s' → False := fun ⟨_, _, _, _, _, _, _, _, _, _, _, _, h⟩ => h
/-- the def law keeps its promise, at each world -/
def LawOk (P : Program) (k : Nat) (mf : MF) (hk : World → Heap → Prop) : Prop := ∀ (w : World) (mg : Str → Option Value) (fa : Addr) (h : Heap), hk w h → h.Ns mainGlobals mg → mg ("law" : Str) = some (.ref fa) →
  ∃ (K : PySem.W.Frag) (fd : FuncData), K.In h ∧ FxHd.NoL K ∧ (∀ (s : Shared) (u : Value), BindsTo s fd ⟨[u], []⟩ [("script", u)]) ∧ ∀ base : Heap, K.In base → base.Ns mainGlobals mg → FnOk P w K mg base (L2N.CX P w) k fa fd ["script"] (spF ⟨K, mg⟩ .val 1 mf)
theorem walk_w {l : PySem.W.OpenLaw} {n k : Nat} {q : Program} {loose : List Str} {XP : (Str → Option Value) → Heap → Prop} {YP : World → Heap → Prop} {d : DefRec} {mf : MF}
    (hn : l.most = some n) (hn2 : n ≤ sizeLine) (hdf : d.params.defaults = []) (hr : Room k callerA) (hd : d.name = ("law" : Str)) (F : LawOk l.prog k mf YP)
    (ok : ∀ ns : List Int, ns.length ≤ n → mf [.lst (ns.map .int)] = .ok (.bl true)) : PySem.W.WalkO q loose XP YP l.row.toRowW d [] (fun f vs => PySem.call f vs) := by
  refine Att.attach_call hn hdf ?_
  intro w _ s1 mg _ fa _ _ _ _ a _ ns gr y _ _ _ hg ho hi hl g0
  rw [hd] at hg
  obtain ⟨K, fd, kin, nl, hb, hF⟩ := F w mg fa _ y gr.T.g hg
  exact law_call kin gr.T.g gr.T.b gr.T.builtins gr.T.nolimit g0 ho hi (Nat.le_trans hl hn2) hr hF hb (fun H _ hS => sp_law (nl.sq hS) (ok ns hl)) (fun H e s' => no_fly H s1 e s')
end Fx

-- FxW2
set_option Elab.async false
set_option linter.all false
set_option maxRecDepth 100000
set_option maxHeartbeats 2000000
/-! FxW2: statements, defs, the law, with draws. -/
namespace Fx
open PySem PySem.Spec PyProof.Rows L2
section
variable {X : Cx} {W : WX} {c : Bool} {e iter tg : Expr} {me : MEw} {ms ms2 : MSw} {m0 : MS} {st : Stmt} {rest body body2 : List Stmt} {pos p : Pos} {fr : Fk} {i : Nat} {x : Str}
theorem RS.w (h : RS X W fr st m0) : RSw X W fr st (wS m0) := by
  obtain ⟨t, a1, a2⟩ := h.ex
  exact ⟨fun ρ K K' h k => h _ k, t, a1, fun B G ρ σ H E I k => a2 B G ρ σ H E I k⟩
theorem RSs.w (h : RSs X W fr rest m0) : RSsw X W fr rest (wS m0) := by
  obtain ⟨t, a1, a2⟩ := h.ex
  exact ⟨fun ρ K K' h k => h _ k, t, a1, fun B G ρ σ H E I k => a2 B G ρ σ H E I k⟩
theorem mono_seq (h1 : Mono ms) (h2 : Mono ms2) : Mono (wSeq ms ms2) := fun ρ K K' h k => h1 ρ _ _ (fun o z => by
  cases o with
  | nx ρ' => exact h2 ρ' K K' h z
  | _ => exact h _ z) k
theorem rssw_cons (h1 : RSw X W fr st ms) (h2 : RSsw X W fr rest ms2) : RSsw X W fr (st :: rest) (wSeq ms ms2) := by
  obtain ⟨t, a1, a2⟩ := h1.ex
  obtain ⟨u, b1, b2⟩ := h2.ex
  refine ⟨mono_seq h1.mono h2.mono, _, pss_cons a1 b1, fun B G ρ σ H E I k => ?_⟩
  refine a2 B G ρ σ H _ I (h1.mono ρ _ _ (fun o z => ?_) k)
  cases o with
  | nx ρ' => exact fun G' σ' H' I' f => b2 B G' ρ' σ' H' E I' (h2.mono ρ' _ _ (fun o z => PostS.move f z) z)
  | bk ρ' => exact z
  | ct ρ' => exact z
  | rt d => exact z
  | err x ρ' => exact z
  | bad => exact z
theorem rssw_one (h1 : RSw X W fr st ms) : RSsw X W fr [st] ms := by
  obtain ⟨t, a1, a2⟩ := h1.ex
  exact ⟨h1.mono, _, pss_one a1, a2⟩
theorem rsw_set {pos' : Pos} (hN : X.N.Nodup) (hi : X.N[i]? = some x) (hx : Loc X.env.scope x) (he : REw X W true e me) (hs : swapsWith e (some (.Name x pos')) pos.line X.env = pure false := by rfl)
    (hf : X.fn x = true ∨ X.env.scope.names.lookup x = some .local := by first | exact .inl rfl | exact .inr rfl | assumption) : RSw X W fr (.Assign [.Name x pos'] e pos) (wSet i me) := by
  obtain ⟨t, a1, a2⟩ := he.ex
  exact ⟨fun ρ K K' h k => he.mono ρ _ _ (fun d z => h _ z) k, _, ps_set hN hi hx a1 hs hf, fun B G ρ σ H E I k => a2 B G ρ σ H _ I (he.mono ρ _ _ (fun d z v H' x r => z G _ H' ((I.grow x).setVal r) (.of_ex x)) k)⟩
theorem rsw_setO {pos' : Pos} (hN : X.N.Nodup) (hi : X.N[i]? = some x) (hx : Loc X.env.scope x) (he : RFw X W e me) (hs : swapsWith e (some (.Name x pos')) pos.line X.env = pure false := by rfl)
    (hf : X.fn x = true ∨ X.env.scope.names.lookup x = some .local := by first | exact .inl rfl | exact .inr rfl | assumption) : RSw X W fr (.Assign [.Name x pos'] e pos) (wSetO i me) := by
  obtain ⟨t, a1, a2⟩ := he.ex
  refine ⟨fun ρ K K' h k => he.mono ρ _ _ (fun d z => h _ z) k, _, ps_set hN hi hx a1 hs hf, fun B G ρ σ H E I k => a2 B G ρ σ H _ I (he.mono ρ _ _ (fun d z p s H' hp x es w => ?_) k)⟩
  subst es
  rcases own_slOf w with ⟨e1, e2, e3⟩ | e1
  · rw [e1] at z
    exact z _ _ H' (I.setOwn x hp e2 w fun c fs h => absurd h (e3 c fs)) (fr_own hp x)
  · rw [e1] at z
    exact z _ _ H' ((I.grow x).setVal (ownAt_clean I.gm hp w)) (.of_ex x)
theorem rsw_app {o : Expr} {apos cpos : Pos} (ho : PE X o (tVar i)) (he : REw X W true e me)
    (hbase : attributeBase o "append" X.env (eval o X.env) = eval o X.env := by rfl)
    (hfew : ((backTo cpos (starEach [e] X.env)).all (fun x => !x.1) && (backToKw cpos (keywordEach [] X.env)).all (fun x => x.1.isSome)
      && decide (([e] : List Expr).length + ([] : List Keyword).length + (if ([] : List Keyword).isEmpty then 0 else 1) < 30)) = true := by rfl)
    (hline : (apos.endLine == cpos.line) = true := by rfl) (hs : starEach [e] X.env = (false, eval e X.env) :: starEach [] X.env := by rfl) (hplain : (backTo cpos (starEach [] X.env)).any (·.1) = false := by rfl)
    (hsw : swapsWith (.Call (.Attribute o "append" apos) [e] [] cpos) none pos.line X.env = pure false := by rfl) : RSw X W fr (.Expr (.Call (.Attribute o "append" apos) [e] [] cpos) pos) (wApp i me) := by
  obtain ⟨t, a1, a2⟩ := he.ex
  refine ⟨fun ρ K K' h k => ?_, _, ps_expr (pe_bm PySem.F.plainAttrs_list PySem.F.slot_list_append PySem.F.type_list_append mt_append ho (pa_cons a1 pa_nil hs) hbase hfew hline hs hplain) hsw, fun B G ρ σ H E I k => ?_⟩
  · unfold wApp at k ⊢
    cases q : ρ[i]? with
    | none => rw [q] at k; exact k
    | some s =>
      rw [q] at k
      cases s with
      | lst ds => exact he.mono ρ _ _ (fun d z => ⟨z.1, h _ z.2⟩) k
      | _ => exact k
  · unfold wApp at k
    cases q : ρ[i]? with
    | none => rw [q] at k; exact k.elim
    | some s =>
      rw [q] at k
      cases s with
      | lst ds =>
        dsimp only at k
        obtain ⟨p, h1, h2, h3, xs, h4, h5⟩ := I.own i _ q rfl
        refine ⟨_, h1, .inl ⟨rfl, xs, SqL.of h4⟩, ?_⟩
        refine a2 B G ρ σ H _ I (he.mono ρ _ _ (fun d z v H' x r => ?_) k)
        obtain ⟨z, hz⟩ := z
        have h6 := x p _ h4
        have h7 := Reps.ex (hid_ex (G := G) x) h5
        refine ⟨p, xs, v, rfl, rfl, h6, by rw [h5.1]; exact szOk_lt z, ?_⟩
        have J := I.grow x
        exact hz G σ _ (J.write q rfl h1 rfl fun H2 ne e2 ex => ⟨xs ++ [v], e2, (h7.ex ex).append (.cons (Rep.ex ex r) .nil)⟩) ((Fr.of_ex x).trans (fr_write h2))
      | _ => exact k.elim
theorem rsw_ret (he : REw X W true e me) : RSw X W .val (.Return (some e) pos) (wRet me) := by
  obtain ⟨t, a1, a2⟩ := he.ex
  exact ⟨fun ρ K K' h k => he.mono ρ _ _ (fun d z => h _ z) k, _, ps_ret a1, fun B G ρ σ H E I k => a2 B G ρ σ H _ I (he.mono ρ _ _ (fun d z v H' x r => z v H' (I.ex.trans x) (Rep.ex (hid_anti I.gb) r)) k)⟩
theorem rsw_if {t : Expr} {mt : MT} (hc : RT X W t mt) (ha : RSsw X W fr body ms) (hb : RSsw X W fr body2 ms2) : RSw X W fr (.If t body body2 pos) (wIte mt ms ms2) := by
  obtain ⟨tc, c1, c2⟩ := hc.ex
  obtain ⟨ta, a1, a2⟩ := ha.ex
  obtain ⟨tb, b1, b2⟩ := hb.ex
  refine ⟨fun ρ K K' h ⟨k, e, z⟩ => ⟨k, e, ?_⟩, _, ps_if c1 a1 b1, fun B G ρ σ H E I ⟨k, e, z⟩ => ?_⟩
  · cases k with
    | true => rw [if_pos rfl] at z ⊢; exact ha.mono ρ _ _ h z
    | false => rw [if_neg Bool.false_ne_true] at z ⊢; exact hb.mono ρ _ _ h z
  · refine c2 B G ρ σ H _ I (fun y => by rw [e] at y; cases y) (fun k' e' H1 x => ?_) (fun x e' => by rw [e] at e'; cases e')
    rw [e] at e'
    cases e'
    show (if k = true then _ else _)
    cases k with
    | true =>
      rw [if_pos rfl] at z ⊢
      exact a2 B G ρ σ H1 E (I.grow x) (ha.mono ρ _ _ (fun o z => PostS.move (.of_ex x) z) z)
    | false =>
      rw [if_neg Bool.false_ne_true] at z ⊢
      exact b2 B G ρ σ H1 E (I.grow x) (hb.mono ρ _ _ (fun o z => PostS.move (.of_ex x) z) z)
theorem forW_mono {g : MG} (h : Mono ms) : ∀ (ds : List D), Mono (forW g ms ds)
  | [], ρ, K, K', hk, k => hk _ k
  | d :: ds, ρ, K, K', hk, ⟨ρ1, e, k⟩ => ⟨ρ1, e, h ρ1 _ _ (fun o z => by
      cases o with
      | nx ρ2 => exact forW_mono h ds ρ2 K K' hk z
      | ct ρ2 => exact forW_mono h ds ρ2 K K' hk z
      | bk ρ2 => exact hk _ z
      | rt d => exact hk _ z
      | err x ρ2 => exact hk _ z
      | bad => exact hk _ z) k⟩
theorem rsw_for {mi : MI} {g : MG} (hp : PassesOwn (model X.prog X.w) X.A X.env X.xe) (hc : X.calm = true) (hi : RI X W tg iter mi) (hg : RG X tg g) (hb : RSsw X W fr body ms)
    (hs : ∀ x, foldedSetIterable iter X.env x = pure x := by intro _; rfl) : RSw X W fr (.For tg iter body [] pos) (wFor mi g ms) := by
  obtain ⟨t, a1, a2⟩ := hi.ex
  obtain ⟨u, b1, b2⟩ := hg.ex
  obtain ⟨v, c1, c2⟩ := hb.ex
  refine ⟨fun ρ K K' h ⟨ds, e, z⟩ => ⟨ds, e, forW_mono hb.mono ds ρ K K' h z⟩, _, ps_for hp hc a1 b1 c1 hs, fun B G ρ σ H E I ⟨ds, e, h⟩ => ?_⟩
  refine a2 B G ρ σ H _ I (fun y => by rw [e] at y; cases y) (fun ds' e' J H1 x w => ?_) (fun x e' => by rw [e] at e'; cases e')
  rw [e] at e'
  cases e'
  have mv : ∀ {G1 G2 : Addr → Bool} {H1 H2 : Hp} {es : List D} {ρ : Env}, Fr G1 H1 G2 H2 → forW g ms es ρ (fun o => PostS (sg X) (pp X) W fr B G1 H1 E o) → forW g ms es ρ (fun o => PostS (sg X) (pp X) W fr B G2 H2 E o) := fun f z => forW_mono hb.mono _ _ _ _ (fun o y => PostS.move f y) z
  have h := mv (.of_ex x) h
  have I := I.grow x
  refine ⟨fun i m σ' H' => m = ds.length - i ∧ i ≤ ds.length ∧ ∃ G' ρ', Sts (sg X) (pp X) B G' ρ' σ' H' ∧ Fr G H1 G' H' ∧ forW g ms (ds.drop i) ρ' (fun o => PostS (sg X) (pp X) W fr B G' H' E o), ⟨ds.length, by rw [Nat.sub_zero], Nat.zero_le _, G, ρ, I, .refl _ _, h⟩, ?_⟩
  rintro i m σ' H' ⟨rfl, hi, G', ρ', I', f, h⟩
  obtain ⟨w1, w2, w3⟩ := w G' H' I'.gm f
  by_cases hlt : i < ds.length
  · right
    refine ⟨w1 i hlt, fun σ2 H2 => ∃ G2 ρ2, Sts (sg X) (pp X) B G2 ρ2 σ2 H2 ∧ Fr G H1 G2 H2 ∧ forW g ms (ds.drop (i + 1)) ρ2 (fun o => PostS (sg X) (pp X) W fr B G2 H2 E o), fun σ2 H2 n => ⟨ds.length - (i + 1), by omega, rfl, hlt, n⟩, fun v H2 y => ?_⟩
    obtain ⟨x2, r⟩ := w3 i _ v H2 (List.getElem?_eq_getElem hlt) y
    rw [List.drop_eq_getElem_cons hlt] at h
    obtain ⟨ρ1, e1, h⟩ := h
    have f2 := f.trans (.of_ex x2)
    refine b2 B G' ρ' ρ1 σ' H2 v _ _ (I'.grow x2) r e1 fun σ3 I3 => c2 B G' ρ1 σ3 H2 _ I3 (hb.mono ρ1 _ _ (fun o z => ?_) h)
    cases o with
    | nx ρ2 => exact fun G4 σ4 H4 I4 f4 => ⟨G4, ρ2, I4, f2.trans f4, mv ((Fr.of_ex x2).trans f4) z⟩
    | ct ρ2 => exact fun G4 σ4 H4 I4 f4 => ⟨G4, ρ2, I4, f2.trans f4, mv ((Fr.of_ex x2).trans f4) z⟩
    | bk ρ2 => exact fun G4 σ4 H4 I4 f4 => z G4 σ4 H4 I4 ((Fr.of_ex x2).trans f4)
    | rt d => exact z
    | err x ρ2 => exact PostS.move (.of_ex x2) z
    | bad => exact z
  · left
    have e : i = ds.length := by omega
    subst e
    rw [List.drop_length] at h
    exact ⟨w2 _ (Nat.le_refl _), (show PostS (sg X) (pp X) W fr B G' H' E (.nx ρ') from h) G' σ' H' I' (.refl _ _)⟩
end
/-! ### defs -/
def mfnW (fr : Fk) (N : Nat) (m : MSw) : MFw := fun ds K => m (ent N ds) fun o => K (o.res fr)
def spW (S : Sig) (n : Nat) (mf : MFw) : Sp := fun vs H Q E => vs.length = n ∧ ∃ (G : Addr → Bool) (ds : List D), (∀ a, G a = true → MutO (H a)) ∧ Reps S (hid H G) vs ds ∧
  mf ds fun r => match r with
    | .ok d => ∀ v H', Ex H H' → Rep S (hid H' G) v d → Q v H'
    | _ => False
structure ClW (P : Program) (w : World) (K : PySem.W.Frag) (mg : Str → Option Value) (base : Heap) (k : Nat) (x : Str) (n : Nat) (mf : MFw) : Prop where
  mono : ∀ ds K K', (∀ r, K r → K' r) → mf ds K → mf ds K'
  ex : ∃ (f : Addr) (fd : FuncData) (ps : List Str), FnOk P w K mg base (L2N.CX P w) k f fd ps (spW ⟨K, mg⟩ n mf) ∧ mg x = some (.ref f) ∧ PySem.W.keepIn K (.ref f) = true ∧ Binds K fd ps []
section
variable {P : Program} {w : World} {K : PySem.W.Frag} {mg : Str → Option Value} {base : Heap} {qual : Str} {params : Arguments} {body : List Stmt} {scope : Scope} {f : Addr} {fd : FuncData}
theorem mono_fn {fr : Fk} {N : Nat} {m : MSw} (h : Mono m) : ∀ ds K K', (∀ r, K r → K' r) → mfnW fr N m ds K → mfnW fr N m ds K' := fun ds K K' hk z => h _ _ _ (fun o y => hk _ y) z
theorem fx_fnW {N ps : List Str} {k : Nat} {fr : Fk} {m : MSw} {x : Str} {dvs : List V} {kws : List (Str × V)} (F : FunD K x qual params body scope dvs kws f fd) (S : FnScope N ps scope) (hm : Mono m) (hf : fr.isNew = false)
    (h : ∀ (cdv : Value) (A : Around) (outer : List PySem.Env) (s : Shared) (H : Hp) (E : XK), Room k (A.deeper (envOfC qual scope s.heap.objs.size f cdv)) →
      RSsw (cxOf (L2N.CX P w) P w K mg base N qual scope f cdv A outer s H E) (fun cls d _ H => E cls d H) fr body m) :
    FnOk P w K mg base (L2N.CX P w) (k + 1) f fd ps (spW ⟨K, mg⟩ ps.length (mfnW fr N.length m)) := by
  refine F.ok S (fun vs H Q E q => q.1) fun cdv A outer s H vs Q E hr hsp => ?_
  obtain ⟨t, h1, h2⟩ := (h cdv A outer s H E hr).ex
  refine ⟨t, h1, ?_⟩
  obtain ⟨hl, G, ds, gm, r, hm'⟩ := hsp
  have I := sts_start (P := pinP []) (N := N) gm r
  refine h2 ⟨H, G, 0⟩ G (ent N.length ds) (L2.start N vs) H _ I (hm _ _ _ (fun o z => ?_) hm')
  cases o with
  | nx ρ' =>
    intro G' σ' H' J fr'
    cases fr with
    | own => exact z.elim
    | new => cases hf
    | val => exact z .non H' J.ex .non
  | bk ρ' => exact z.elim
  | ct ρ' => exact z.elim
  | bad => exact z.elim
  | rt d =>
    cases fr with
    | val => exact z
    | new => cases hf
    | own => exact fun p s H' x hp es w => z _ H' x (by subst es; exact ownAt_clean (H := H) gm hp w)
  | err y ρ' => exact z.elim
end
section
variable {X : Cx} {W : WX} {k j : Nat} {x : Str} {mf : MFw} {mr : MAw} {e : Expr} {es : List Expr} {p pos : Pos}
theorem rew_def (cl : ClW X.prog X.w X.K X.mg X.base k x (e :: es).length mf) (hr : Room j X.A) (hk : k ≤ j) (hg : Gl X x) (tk : L2N.Takes X W) (ha : RAw X W (e :: es) mr)
    (hdb : (x == ("__debug__" : Str)) = false := by decide) (he : starEach (e :: es) X.env = (false, eval e X.env) :: starEach es X.env := by rfl) (hpl : (backTo pos (starEach es X.env)).any (·.1) = false := by rfl) :
    REw X W true (.Call (.Name x p) (e :: es) [] pos) (wDef mf mr) := by
  obtain ⟨f, fd, ps, F, hm, hkp, hb⟩ := cl.ex
  obtain ⟨t, a1, a2⟩ := ha.ex
  refine ⟨fun ρ K K' h k => ha.mono ρ _ _ (fun ds z => cl.mono ds _ _ (fun r y => by cases r <;> first | exact h _ y | exact y) z) k, _, pe_callS F (hr.mono hk) hg hm hkp hb (L2N.passAt tk) a1 hdb he hpl, fun B G ρ σ H Q I k => ?_⟩
  refine a2 B G ρ σ H _ I (ha.mono ρ _ _ (fun ds z vs H1 x1 hn rs => ?_) k)
  exact ⟨hn, G, ds, (I.grow x1).gm, rs, cl.mono ds _ _ (fun r y => by
    cases r with
    | ok d => exact fun v H2 x2 rv => y v H2 (x1.trans x2) rv
    | err x => exact y
    | bad => exact y) z⟩
end
/-! ### the law -/
def LawOkW (P : Program) (k : Nat) (mf : MFw) (hk : World → Heap → Prop) : Prop := ∀ (w : World) (mg : Str → Option Value) (fa : Addr) (h : Heap), hk w h → h.Ns mainGlobals mg → mg ("law" : Str) = some (.ref fa) →
  ∃ (K : PySem.W.Frag) (fd : FuncData), K.In h ∧ FxHd.NoL K ∧ (∀ (s : Shared) (u : Value), BindsTo s fd ⟨[u], []⟩ [("script", u)]) ∧ ∀ base : Heap, K.In base → base.Ns mainGlobals mg → FnOk P w K mg base (L2N.CX P w) k fa fd ["script"] (spW ⟨K, mg⟩ 1 mf)
theorem walk_wW {l : PySem.W.OpenLaw} {n k : Nat} {q : Program} {loose : List Str} {XP : (Str → Option Value) → Heap → Prop} {YP : World → Heap → Prop} {d : DefRec} {mf : MFw} (hmono : ∀ ds K K', (∀ r, K r → K' r) → mf ds K → mf ds K')
    (hn : l.most = some n) (hn2 : n ≤ sizeLine) (hdf : d.params.defaults = []) (hr : Room k callerA) (hd : d.name = ("law" : Str)) (F : LawOkW l.prog k mf YP)
    (ok : ∀ ns : List Int, ns.length ≤ n → mf [.lst (ns.map .int)] fun r => r = .ok (.bl true)) : PySem.W.WalkO q loose XP YP l.row.toRowW d [] (fun f vs => PySem.call f vs) := by
  refine Att.attach_call hn hdf ?_
  intro w _ s1 mg _ fa _ _ _ _ a _ ns gr y _ _ _ hg ho hi hl g0
  rw [hd] at hg
  obtain ⟨K, fd, kin, nl, hb, hF⟩ := F w mg fa _ y gr.T.g hg
  refine law_call kin gr.T.g gr.T.b gr.T.builtins gr.T.nolimit g0 ho hi (Nat.le_trans hl hn2) hr hF hb (fun H _ hS => ?_) (fun H e s' => no_fly H s1 e s')
  refine ⟨rfl, fun _ => false, [.lst (ns.map .int)], fun a z => absurd z Bool.false_ne_true, ?_, hmono _ _ _ (fun r e => ?_) (ok ns hl)⟩
  · have hh : hid H (fun _ => false) = H := by funext b; exact hid_no rfl
    rw [hh]
    exact .cons (.mkL (nl.sq hS) (.of_ints ns)) .nil
  · subst e
    exact fun v H' _ r => r.is_bl
end Fx

-- FxP3
set_option Elab.async false
set_option linter.all false
set_option maxRecDepth 100000
set_option maxHeartbeats 2000000
/-! FxP3: a pool is made; a list with draws is walked; a comprehension with draws. -/
namespace Fx
open PySem PySem.Spec PyProof.Rows L2
theorem inv_ext {X : Cx} {pins : List (Addr × Obj)} {σ : L2.St} {H : Hp} {s : Shared} {q c : Addr} {ns : List Int} {k : Int} (I : L2.Inv X pins σ H s) (hq : H q = some (.lst [.ref c, .int k])) (hc : H c = some (.lst (ns.map V.int))) (hk : 0 ≤ k) (ne : q ≠ c) : L2.Inv X pins σ (ext2 H q c) s := by
  have nn : ∀ b, H b = none → ext2 H q c b = none := fun b z => by
    rw [ext2_ne (fun y => by rw [y, hq] at z; cases z) (fun y => by rw [y, hc] at z; cases z)]; exact z
  have oth : ∀ b u, (∀ xs, u ≠ .lst xs) → H b = some u → ext2 H q c b = some u := fun b u n z => by
    rw [ext2_ne (fun y => by rw [y, hq] at z; exact n _ (Option.some.inj z).symm) (fun y => by rw [y, hc] at z; exact n _ (Option.some.inj z).symm)]; exact z
  refine ⟨I.ok, I.os, I.bare, ⟨I.base.keep, I.base.slot, fun b o z n x => nn b (I.base.free b o z n x), I.base.there, fun b xs z => oth b _ (fun _ y => by cases y) (I.base.tups b xs z), fun b o u z => oth b _ (fun _ y => by cases y) (I.base.frzs b o u z), fun b ps z => ?_⟩, I.loc, I.cell, nn _ I.free, fun x a z => nn _ (I.freeC x a z), fun p hp => ?_, to_ext I.hok hq hc hk ne, I.len⟩
  · obtain ⟨more, e⟩ := I.base.tbls b ps z
    exact ⟨more, oth b _ (fun _ y => by cases y) e⟩
  · obtain ⟨h1, h2, h3⟩ := I.pin p hp
    exact ⟨h1, nn _ h2, h3⟩
def tPool (t : TA) : TE := fun σ H Q => t σ H fun vs H' => vs.length ≤ sizeLine ∧ ∀ p, H' p = none → ∃ (c : Addr) (ns : List Int) (k : Int), vs = [.ref c, .int k] ∧ 0 ≤ k ∧ H' c = some (.lst (ns.map V.int)) ∧ Q (.ref p) (ext2 H' p c)
/-- a list of ints -/
def allInt : List D → Bool
  | [] => true
  | .int _ :: ds => allInt ds
  | _ => false
theorem allInt_of : ∀ {ds : List D}, allInt ds = true → ∃ ns : List Int, ds = ns.map D.int
  | [], _ => ⟨[], rfl⟩
  | .int i :: ds, h => by
    obtain ⟨ns, e⟩ := allInt_of (ds := ds) h
    exact ⟨i :: ns, by rw [e]; rfl⟩
  | .non :: _, h => by cases h
  | .bl _ :: _, h => by cases h
  | .str _ :: _, h => by cases h
  | .tup _ :: _, h => by cases h
  | .lst _ :: _, h => by cases h
  | .dic _ _ :: _, h => by cases h
  | .ins _ _ :: _, h => by cases h
  | .pool :: _, h => by cases h
/-- [e, 0] -/
def mPool (m : ME) : ME := fun ρ => (m ρ).bind fun d => match d with
  | .lst ds => if allInt ds = true then .ok .pool else .bad
  | _ => .bad
section
variable {X : Cx} {W : WX} {e : Expr} {me : ME} {pos p3 : Pos} {u : Nat}
theorem pe_pool {es : List Expr} {t : TA} (h : PA X es t) : PE X (.List es pos) (tPool t) := by
  refine ⟨fun pins s σ H Q I z => wpAny_List_spliced (thn (h.run pos pins s σ H _ I z) ?_)⟩
  rintro us s1 ⟨xs, H1, I1, r, zl, q⟩
  refine ⟨by rw [← r.length]; exact zl, ?_⟩
  have hf : H1 s1.heap.objs.size = none := I1.hok.fresh (Nat.le_refl _)
  obtain ⟨c, ns, k, ex, hk, hc, hq⟩ := q _ hf
  have J := I1.laid (a := s1.heap.objs.size) (o := .lst xs) (t' := s1.toks) (h' := s1.heap.push { cls := .type "list", data := .seq us.toArray }) (fun b u e => Heap.get?_push_of_some _ e) (Nat.le_refl _) ⟨zl, us, 0, r, Heap.get?_push_size _ rfl⟩
  have ne : s1.heap.objs.size ≠ c := fun y => by rw [← y, hf] at hc; cases hc
  have J2 := inv_ext (q := s1.heap.objs.size) (c := c) (k := k) J (by rw [upd_same, ex]) (by rw [upd_ne (Ne.symm ne)]; exact hc) hk ne
  have eq_ : ext2 (upd H1 s1.heap.objs.size (.lst xs)) s1.heap.objs.size c = ext2 H1 s1.heap.objs.size c := by
    funext a
    by_cases h1 : a = s1.heap.objs.size
    · subst h1; rw [ext2_q, ext2_q]
    · by_cases h2 : a = c
      · subst h2; rw [ext2_c ne, ext2_c ne]
      · rw [ext2_ne h1 h2, ext2_ne h1 h2, upd_ne h1]
  rw [eq_] at J2
  exact ⟨.ref s1.heap.objs.size, _, J2, rfl, hq⟩
theorem re_pool (h : RF X W e me) (hs : starEach [e, .Constant (.int 0) u p3] X.env = (false, eval e X.env) :: starEach [.Constant (.int 0) u p3] X.env := by rfl) (hs2 : starEach [.Constant (.int 0) u p3] X.env = (false, eval (.Constant (.int 0) u p3) X.env) :: starEach [] X.env := by rfl) :
    RE X W true (.List [e, .Constant (.int 0) u p3] pos) (mPool me) := by
  obtain ⟨t, a1, a2⟩ := h.ex
  refine ⟨_, pe_pool (pa_cons a1 (pa_cons pe_int pa_nil hs2) hs), fun B G ρ σ H Q I nb k ke => ?_⟩
  unfold mPool at nb k ke
  refine a2 B G ρ σ H _ I (R.bad_bind nb) (fun d e p s H1 hp x1 es w => ?_) (fun x e => ke x (by rw [e]; rfl))
  rw [e, R.bind_ok] at nb k
  subst es
  cases s with
  | lst ds =>
    dsimp only [Sl.d] at nb k
    by_cases z : allInt ds = true
    · rw [if_pos z] at k
      obtain ⟨ns, rfl⟩ := allInt_of z
      obtain ⟨xs, h1, h2⟩ := w
      have ex := h2.ints
      subst ex
      refine ⟨by rw [sizeLine_eq]; show 2 ≤ _; decide, fun q hq => ⟨p, ns, 0, rfl, Int.le_refl 0, h1, ?_⟩⟩
      have ne : q ≠ p := fun y => by rw [y, h1] at hq; cases hq
      have ex2 : Ex H (ext2 H1 q p) := fun a o z => by
        have n1 : a ≠ q := fun y => by
          have := x1 a o z
          rw [y, hq] at this; cases this
        have n2 : a ≠ p := fun y => by rw [y, hp] at z; cases z
        rw [ext2_ne n1 n2]; exact x1 a o z
      have g1 : G q = false := fresh_vis I.gm (by
        cases z : H q with
        | none => rfl
        | some o => rw [x1 q o z] at hq; cases hq)
      have g2 : G p = false := fresh_vis I.gm hp
      exact k .pool rfl _ _ ex2 (.pool (hid_of g1 ext2_q) (hid_of g2 (ext2_c ne)) ne)
    · rw [if_neg z] at nb; exact absurd rfl nb
  | no => exact w.elim
  | val d => exact w.elim
  | exc x => exact w.elim
  | deep d => exact w.elim
  | dic t kvs => exact absurd rfl nb
  | ins c fs => exact absurd rfl nb
end
end Fx

-- FxJ1
set_option Elab.async false
set_option linter.all false
set_option maxRecDepth 100000
set_option maxHeartbeats 3200000
/-! FxJ1: set(xs) of a list of ints. -/
namespace Fx
open PySem PySem.Spec PyProof.Rows L2
/-- the empty set that is laid first -/
abbrev eSet (w : World) : Obj := { cls := .type "set", dict := none, data := .set #[] 0 (.fresh 0 0 (!w.params.followText "set-order")) }
abbrev hp0 (w : World) (s : Shared) : Heap := s.heap.push (eSet w)
section
variable {P : Program} {w : World} {A : Around} {E : Value → Shared → Prop} {s : Shared}
theorem mk_set_lst {l : Addr} {xs : Array Value} (ns : List Int) {Q : Value → Shared → Prop} (a0 : A.handled = none) (hl : s.heap.IsList l xs) (hi : IntsAre xs.toList ns) (hb : ns.length + 1 < scanBound)
    (fin : ∀ (h2 : Heap) (t c : Nat), SetR w h2 s.heap.objs.size (fun j => decide (j ∈ ns)) c → c ≤ ns.length → (∀ b o, s.heap.get? b = some o → h2.get? b = some o) → Q (.ref s.heap.objs.size) { s with heap := h2, toks := t }) :
    wpAny (model P w) A (call (.type "set") [.ref l]) Q E s := by
  have sz : xs.size = ns.length := (Array.length_toList (xs := xs)).symm.trans (IntsAre.length hi)
  obtain ⟨c0, tl0, f0⟩ := PySem.F.called_set.mro
  have f1 := PySem.F.called_set.made
  have f2 := PySem.F.called_set.sub
  have f3 := PySem.F.called_set.notType
  have f4 := PySem.F.called_set.canCreate
  have f5 := PySem.F.typeCall_set_1 (.ref l)
  have f6 := PySem.F.called_set.init.lookup
  have f7 := PySem.F.called_set.init.bind (.ref s.heap.objs.size)
  refine wpAny_call (codeAny_of_tree (wpAny_pure (⟨Code.quiet_builtin _ (by decide +kernel), codeAny_builtin PySem.F.entry_type_call ?_⟩ : _ ∧ _)))
  rw [Around.under_plain (weight_type_call_type "set" [.ref l] []) rfl]
  repeat (any_goals (first | assumption | wp_step))
  refine codeAny_mono (code_set_led1 (.ref l) (E := E) (Q₁ := fun ob s1 => ob = .ref s.heap.objs.size ∧ s1 = { s with heap := hp0 w s }) ⟨rfl, rfl⟩) ?_
  rintro (e | fl) s1 hr
  · exact hr
  cases fl with
  | next => exact hr.elim
  | brk => exact hr.elim
  | cont => exact hr.elim
  | ret ob =>
    obtain ⟨rfl, rfl⟩ := hr
    have g0 : (hp0 w s).get? s.heap.objs.size = some (eSet w) := Heap.get?_push_size _ rfl
    have ty : Shared.TypeIs { s with heap := hp0 w s } (.ref s.heap.objs.size) "set" := ⟨_, g0, rfl⟩
    repeat (any_goals (first | assumption | wp_step))
    refine codeAny_mono (codeAny_call_builtin (R := wants (fun r s2 => r = .none ∧ ∃ h2 t c, s2 = { s with heap := h2, toks := t } ∧ SetR w h2 s.heap.objs.size (fun j => decide (j ∈ ns)) c ∧ c ≤ ns.length ∧ ∀ b o, s.heap.get? b = some o → h2.get? b = some o) E)
      PySem.F.called_set.init.plain PySem.F.entry_set_init (check_set_init_1 ty ?_)) ?_
    · obtain ⟨⟨kc, kd, kt, ks⟩, k1, k2, kn, k3⟩ := hl
      simp only at k2 k3
      subst k2; subst k3
      have k4 : (hp0 w s).get? l = some { cls := .type "list", dict := kd, data := .seq xs kn, slots := ks } := Heap.get?_push_of_some _ k1
      have b1 := PySem.F.sub_list_set
      have b2 := PySem.F.sub_list_frozenset
      have b3 : (Value.type "list" == Value.type "dict") = false := by decide
      have il : (hp0 w s).IsList l xs := ⟨_, k4, rfl, kn, rfl⟩
      unfold Builtin.«set.__init__» noKeywords Builtin.Frozenset.updateFrom
      generalize hit : pyIter = it
      wp_walk
      subst hit
      refine wpAny_pyIter_list il (wpAny_bind (wpAny_runValue ?_))
      have l1 : l < s.heap.objs.size := Heap.lt_size k1
      have a3 : A.in1.in1.in1.handled = none := by simp [a0]
      have z1 : (hp0 w s).objs.size = s.heap.objs.size + 1 := Heap.size_push ..
      have n1 : l ≠ (hp0 w s).objs.size := by rw [z1]; exact Nat.ne_of_lt (Nat.lt_succ_of_lt l1)
      have n2 : s.heap.objs.size ∉ [(hp0 w s).objs.size, l] := by
        rw [z1]
        simp only [List.mem_cons, List.not_mem_nil, or_false, not_or]
        exact ⟨Nat.ne_of_lt (Nat.lt_succ_self _), Nat.ne_of_gt l1⟩
      have vl : ∀ (i : Nat) (v : Value), xs[i]? = some v → ∃ k t, ns[i]? = some k ∧ v = .int k t := fun i v hv => by
        have li : i < ns.length := by rw [← sz]; exact (Array.getElem?_eq_some_iff.mp hv).1
        obtain ⟨t, e⟩ := IntsAre.int_at hi i v (by rw [Array.getElem?_toList]; exact hv)
        rw [List.getD_eq_getElem?_getD, List.getElem?_eq_getElem li] at e
        exact ⟨ns[i], t, List.getElem?_eq_getElem li, e⟩
      refine set_update_ints ((Walks.list a3 _ l n1 xs).toS) s.heap.objs.size n2 ns sz hb vl (xs.size - 0) 0 _ (by omega) (Nat.zero_le _) ⟨⟨_, Heap.get?_push_size _ rfl, rfl, rfl⟩, (il.push _)⟩ ?start ?stop
      case start =>
        have g1 : ((hp0 w s).push { cls := .type "list_iterator", data := .fields #[.ref l, .int 0 0] }).get? s.heap.objs.size = some (eSet w) := Heap.get?_push_of_some _ g0
        exact ⟨0, Nat.le_refl 0, setR_new_at g1⟩
      case stop =>
        intro s2 c2 hm hc hS
        obtain ⟨h2, g2, d2, t2, o2⟩ := s2
        have e1 : g2 = s.gens := hm.gens
        have e2 : d2 = s.drawn := hm.drawn
        have e3 : o2 = s.os := hm.os
        subst e1; subst e2; subst e3
        refine wpAny_pure (show wpAny _ _ (ret Value.none) _ _ _ from wpAny_pure ⟨rfl, h2, t2, c2, rfl, hS, by omega, fun b o e => ?_⟩)
        have lb : b < s.heap.objs.size := Heap.lt_size e
        exact hm.heap b o (by
          simp only [List.mem_cons, List.not_mem_nil, or_false, not_or]
          exact ⟨Nat.ne_of_lt lb, by rw [z1]; exact Nat.ne_of_lt (Nat.lt_succ_of_lt lb)⟩) (Heap.get?_push_of_some _ (Heap.get?_push_of_some _ e))
    · rintro (e | fl2) s2 hr2
      · exact hr2
      cases fl2 with
      | next => exact hr2.elim
      | brk => exact hr2.elim
      | cont => exact hr2.elim
      | ret r =>
        obtain ⟨rfl, h2, t, c, rfl, hS, hc, hk⟩ := hr2
        repeat (any_goals (first | assumption | wp_step))
        exact fin h2 _ c hS hc hk
end
end Fx

-- FxJ2
set_option Elab.async false
set_option linter.all false
set_option maxRecDepth 100000
set_option maxHeartbeats 2000000
/-! FxJ2: sum, max, min, sorted, all, any of a list; sorted(set(..)); is of bools; enumerate of a tuple. -/
namespace Fx
open PySem PySem.Spec PyProof.Rows L2
/-! ### lists of ints, of bools -/
def intsOf : List D → Option (List Int)
  | [] => some []
  | .int i :: ds => (intsOf ds).map (i :: ·)
  | _ => none
theorem intsOf_eq : ∀ {ds : List D} {ns : List Int}, intsOf ds = some ns → ds = ns.map D.int
  | [], ns, h => by cases h; rfl
  | d :: ds, ns, h => by
    cases d with
    | int i =>
      unfold intsOf at h
      cases q : intsOf ds with
      | none => rw [q] at h; cases h
      | some ms => rw [q] at h; cases h; rw [intsOf_eq q]; rfl
    | _ => cases h
theorem intsOf_map : ∀ ns : List Int, intsOf (ns.map D.int) = some ns
  | [] => rfl
  | n :: ns => by show (intsOf (ns.map D.int)).map (n :: ·) = _; rw [intsOf_map ns]; rfl
def blsOf : List D → Option (List Bool)
  | [] => some []
  | .bl i :: ds => (blsOf ds).map (i :: ·)
  | _ => none
theorem blsOf_eq : ∀ {ds : List D} {ns : List Bool}, blsOf ds = some ns → ds = ns.map D.bl
  | [], ns, h => by cases h; rfl
  | d :: ds, ns, h => by
    cases d with
    | bl i =>
      unfold blsOf at h
      cases q : blsOf ds with
      | none => rw [q] at h; cases h
      | some ms => rw [q] at h; cases h; rw [blsOf_eq q]; rfl
    | _ => cases h
theorem blsOf_map : ∀ ns : List Bool, blsOf (ns.map D.bl) = some ns
  | [] => rfl
  | n :: ns => by show (blsOf (ns.map D.bl)).map (n :: ·) = _; rw [blsOf_map ns]; rfl
theorem reps_bls {S : Sig} {H : Hp} : ∀ {bs : List Bool} {xs : List V}, Reps S H xs (bs.map D.bl) → xs = bs.map V.bl
  | [], [], _ => rfl
  | [], _ :: _, r => by have := r.1; simp at this
  | _ :: _, [], r => by have := r.1; simp at this
  | b :: bs, x :: xs, r => by
    have h1 := r.head.is_bl
    subst h1
    rw [reps_bls (bs := bs) r.tail]
    rfl
theorem reps_mapI {S : Sig} {H : Hp} : ∀ ns : List Int, Reps S H (ns.map V.int) (ns.map D.int)
  | [] => Reps.nil
  | n :: ns => .cons (.int n) (reps_mapI ns)
/-- the greatest, the least -/
def maxI : List Int → Option Int
  | [] => none
  | n :: ns => some (ns.foldl (fun a b => if b > a then b else a) n)
def minI : List Int → Option Int
  | [] => none
  | n :: ns => some (ns.foldl (fun a b => if b < a then b else a) n)
theorem foldl_max : ∀ (ns : List Int) (n : Int), (ns.foldl (fun a b => if b > a then b else a) n = n ∨ ns.foldl (fun a b => if b > a then b else a) n ∈ ns) ∧ n ≤ ns.foldl (fun a b => if b > a then b else a) n ∧ ∀ y ∈ ns, y ≤ ns.foldl (fun a b => if b > a then b else a) n
  | [], n => ⟨.inl rfl, Int.le_refl _, fun y h => by cases h⟩
  | m :: ns, n => by
    rw [List.foldl_cons]
    obtain ⟨h1, h2, h3⟩ := foldl_max ns (if m > n then m else n)
    refine ⟨?_, ?_, fun y hy => ?_⟩
    · rcases h1 with h1 | h1
      · rw [h1]
        by_cases z : m > n
        · rw [if_pos z]; exact .inr (List.mem_cons_self ..)
        · rw [if_neg z]; exact .inl rfl
      · exact .inr (List.mem_cons_of_mem _ h1)
    · refine Int.le_trans ?_ h2
      split <;> omega
    · rcases List.mem_cons.mp hy with rfl | hy
      · refine Int.le_trans ?_ h2
        split <;> omega
      · exact h3 y hy
theorem foldl_min : ∀ (ns : List Int) (n : Int), (ns.foldl (fun a b => if b < a then b else a) n = n ∨ ns.foldl (fun a b => if b < a then b else a) n ∈ ns) ∧ ns.foldl (fun a b => if b < a then b else a) n ≤ n ∧ ∀ y ∈ ns, ns.foldl (fun a b => if b < a then b else a) n ≤ y
  | [], n => ⟨.inl rfl, Int.le_refl _, fun y h => by cases h⟩
  | m :: ns, n => by
    rw [List.foldl_cons]
    obtain ⟨h1, h2, h3⟩ := foldl_min ns (if m < n then m else n)
    refine ⟨?_, ?_, fun y hy => ?_⟩
    · rcases h1 with h1 | h1
      · rw [h1]
        by_cases z : m < n
        · rw [if_pos z]; exact .inr (List.mem_cons_self ..)
        · rw [if_neg z]; exact .inl rfl
      · exact .inr (List.mem_cons_of_mem _ h1)
    · refine Int.le_trans h2 ?_
      split <;> omega
    · rcases List.mem_cons.mp hy with rfl | hy
      · refine Int.le_trans h2 ?_
        split <;> omega
      · exact h3 y hy
theorem maxI_spec {ns : List Int} {m : Int} (h : maxI ns = some m) : m ∈ ns ∧ ∀ y ∈ ns, y ≤ m := by
  cases ns with
  | nil => cases h
  | cons n ns =>
    cases h
    obtain ⟨h1, h2, h3⟩ := foldl_max ns n
    refine ⟨h1.elim (fun e => by rw [e]; exact List.mem_cons_self ..) (List.mem_cons_of_mem _), fun y hy => ?_⟩
    rcases List.mem_cons.mp hy with rfl | hy
    · exact h2
    · exact h3 y hy
theorem minI_spec {ns : List Int} {m : Int} (h : minI ns = some m) : m ∈ ns ∧ ∀ y ∈ ns, m ≤ y := by
  cases ns with
  | nil => cases h
  | cons n ns =>
    cases h
    obtain ⟨h1, h2, h3⟩ := foldl_min ns n
    refine ⟨h1.elim (fun e => by rw [e]; exact List.mem_cons_self ..) (List.mem_cons_of_mem _), fun y hy => ?_⟩
    rcases List.mem_cons.mp hy with rfl | hy
    · exact h2
    · exact h3 y hy
/-- sorted -/
def sins (a : Int) : List Int → List Int
  | [] => [a]
  | b :: bs => if a ≤ b then a :: b :: bs else b :: sins a bs
def ssort : List Int → List Int
  | [] => []
  | a :: l => sins a (ssort l)
theorem sins_perm (a : Int) : ∀ l, (sins a l).Perm (a :: l)
  | [] => .refl _
  | b :: bs => by
    unfold sins
    split
    · exact .refl _
    · exact (List.Perm.cons b (sins_perm a bs)).trans (List.Perm.swap a b bs)
theorem ssort_perm : ∀ l, (ssort l).Perm l
  | [] => .refl _
  | a :: l => (sins_perm a (ssort l)).trans (List.Perm.cons a (ssort_perm l))
theorem sins_srt (a : Int) : ∀ {l : List Int}, l.Pairwise (· ≤ ·) → (sins a l).Pairwise (· ≤ ·)
  | [], _ => List.pairwise_singleton _ _
  | b :: bs, h => by
    unfold sins
    obtain ⟨h1, h2⟩ := List.pairwise_cons.mp h
    split
    · rename_i q
      refine List.pairwise_cons.mpr ⟨fun x hx => ?_, h⟩
      rcases List.mem_cons.mp hx with rfl | hx
      · exact q
      · exact Int.le_trans q (h1 x hx)
    · rename_i q
      refine List.pairwise_cons.mpr ⟨fun x hx => ?_, sins_srt a h2⟩
      rcases List.mem_cons.mp ((sins_perm a bs).mem_iff.mp hx) with rfl | hx
      · omega
      · exact h1 x hx
theorem ssort_srt : ∀ l : List Int, (ssort l).Pairwise (· ≤ ·)
  | [] => List.Pairwise.nil
  | a :: l => sins_srt a (ssort_srt l)
theorem srt_uniq : ∀ {l m : List Int}, l.Perm m → l.Pairwise (· ≤ ·) → m.Pairwise (· ≤ ·) → l = m
  | [], m, p, _, _ => by rw [List.nil_perm.mp p]
  | a :: l, [], p, _, _ => by have := p.length_eq; simp at this
  | a :: l, b :: m, p, h1, h2 => by
    obtain ⟨a1, a2⟩ := List.pairwise_cons.mp h1
    obtain ⟨b1, b2⟩ := List.pairwise_cons.mp h2
    have hab : a = b := by
      have x1 : a ∈ b :: m := p.mem_iff.mp (List.mem_cons_self ..)
      have x2 : b ∈ a :: l := p.mem_iff.mpr (List.mem_cons_self ..)
      rcases List.mem_cons.mp x1 with e | x1
      · exact e
      · rcases List.mem_cons.mp x2 with e | x2
        · exact e.symm
        · have := b1 a x1
          have := a1 b x2
          omega
    subst hab
    rw [srt_uniq (List.Perm.cons_inv p) a2 b2]
theorem ssort_uniq {l m : List Int} (p : m.Perm l) (h : m.Pairwise (· ≤ ·)) : m = ssort l := srt_uniq (p.trans (ssort_perm l).symm) h (ssort_srt l)
/-- sorted, each once -/
def uins (a : Int) : List Int → List Int
  | [] => [a]
  | b :: bs => if a < b then a :: b :: bs else if a = b then b :: bs else b :: uins a bs
def usort : List Int → List Int
  | [] => []
  | a :: l => uins a (usort l)
theorem uins_mem {a x : Int} : ∀ {l : List Int}, x ∈ uins a l ↔ x = a ∨ x ∈ l
  | [] => by unfold uins; simp
  | b :: bs => by
    unfold uins
    split
    · rw [List.mem_cons]
    · split
      · rename_i e
        subst e
        rw [List.mem_cons]
        constructor
        · intro h; exact .inr h
        · rintro (h | h)
          · exact .inl h
          · exact h
      · rw [List.mem_cons, uins_mem, List.mem_cons]
        constructor
        · rintro (h | h | h)
          · exact .inr (.inl h)
          · exact .inl h
          · exact .inr (.inr h)
        · rintro (h | h | h)
          · exact .inr (.inl h)
          · exact .inl h
          · exact .inr (.inr h)
theorem usort_mem {x : Int} : ∀ {l : List Int}, x ∈ usort l ↔ x ∈ l
  | [] => Iff.rfl
  | a :: l => by unfold usort; rw [uins_mem, usort_mem, List.mem_cons]
theorem uins_srt (a : Int) : ∀ {l : List Int}, l.Pairwise (· < ·) → (uins a l).Pairwise (· < ·)
  | [], _ => List.pairwise_singleton _ _
  | b :: bs, h => by
    unfold uins
    obtain ⟨h1, h2⟩ := List.pairwise_cons.mp h
    split
    · rename_i q
      refine List.pairwise_cons.mpr ⟨fun x hx => ?_, h⟩
      rcases List.mem_cons.mp hx with rfl | hx
      · exact q
      · exact Int.lt_trans q (h1 x hx)
    · split
      · exact h
      · rename_i q q2
        refine List.pairwise_cons.mpr ⟨fun x hx => ?_, uins_srt a h2⟩
        rcases uins_mem.mp hx with rfl | hx
        · omega
        · exact h1 x hx
theorem usort_srt : ∀ l : List Int, (usort l).Pairwise (· < ·)
  | [] => List.Pairwise.nil
  | a :: l => uins_srt a (usort_srt l)
theorem usrt_uniq : ∀ {l m : List Int}, (∀ x, x ∈ l ↔ x ∈ m) → l.Pairwise (· < ·) → m.Pairwise (· < ·) → l = m
  | [], [], _, _, _ => rfl
  | [], b :: m, p, _, _ => by have := (p b).mpr (List.mem_cons_self ..); cases this
  | a :: l, [], p, _, _ => by have := (p a).mp (List.mem_cons_self ..); cases this
  | a :: l, b :: m, p, h1, h2 => by
    obtain ⟨a1, a2⟩ := List.pairwise_cons.mp h1
    obtain ⟨b1, b2⟩ := List.pairwise_cons.mp h2
    have hab : a = b := by
      have x1 : a ∈ b :: m := (p a).mp (List.mem_cons_self ..)
      have x2 : b ∈ a :: l := (p b).mpr (List.mem_cons_self ..)
      rcases List.mem_cons.mp x1 with e | x1
      · exact e
      · rcases List.mem_cons.mp x2 with e | x2
        · exact e.symm
        · have := b1 a x1
          have := a1 b x2
          omega
    subst hab
    rw [usrt_uniq (fun x => ⟨fun h => ?_, fun h => ?_⟩) a2 b2]
    · rcases List.mem_cons.mp ((p x).mp (List.mem_cons_of_mem _ h)) with rfl | h'
      · exact absurd (a1 x h) (Int.lt_irrefl _)
      · exact h'
    · rcases List.mem_cons.mp ((p x).mpr (List.mem_cons_of_mem _ h)) with rfl | h'
      · exact absurd (b1 x h) (Int.lt_irrefl _)
      · exact h'
theorem uins_len (a : Int) : ∀ l : List Int, (uins a l).length ≤ l.length + 1
  | [] => Nat.le_refl _
  | b :: bs => by
    unfold uins
    split
    · exact Nat.le_refl _
    · split
      · exact Nat.le_succ _
      · exact Nat.succ_le_succ (uins_len a bs)
theorem usort_len : ∀ l : List Int, (usort l).length ≤ l.length
  | [] => Nat.le_refl _
  | a :: l => Nat.le_trans (uins_len a _) (Nat.succ_le_succ (usort_len l))
/-! ### the calls -/
def gSum : List D → Option D
  | [.lst ds] => (intsOf ds).map fun ns => .int ns.sum
  | _ => none
def gMaxL : List D → Option D
  | [.lst ds] => (intsOf ds).bind fun ns => (maxI ns).map .int
  | _ => none
def gMinL : List D → Option D
  | [.lst ds] => (intsOf ds).bind fun ns => (minI ns).map .int
  | _ => none
def gAll : List D → Option D
  | [.lst ds] => (blsOf ds).map fun bs => .bl (bs.all id)
  | _ => none
def gAny : List D → Option D
  | [.lst ds] => (blsOf ds).map fun bs => .bl (bs.any id)
  | _ => none
def gSorted : List D → Option D
  | [.lst ds] => (intsOf ds).map fun ns => .lst ((ssort ns).map D.int)
  | _ => none
theorem calls_sum {S : Sig} : CallS S (rSum S.K) gSum := fun H G vs ds d Q gm hl rs e k => by
  match ds, e with
  | [.lst es], e =>
    obtain ⟨ns, q, rfl⟩ := Option.map_eq_some_iff.mp (show (intsOf es).map _ = some d from e)
    obtain rfl := intsOf_eq q
    obtain ⟨v, rfl⟩ := vs1 hl
    obtain ⟨a, xs, rfl, h1, h2⟩ := (rs 0 v _ rfl rfl).list
    obtain rfl := h2.ints
    exact ⟨a, ns, rfl, .inl h1, k _ H (Ex.refl H) (.int _)⟩
theorem calls_maxL {S : Sig} : CallS S (rMax S.K) gMaxL := fun H G vs ds d Q gm hl rs e k => by
  match ds, e with
  | [.lst es], e =>
    obtain ⟨ns, q, e⟩ := Option.bind_eq_some_iff.mp (show (intsOf es).bind _ = some d from e)
    obtain ⟨m, q2, rfl⟩ := Option.map_eq_some_iff.mp e
    obtain rfl := intsOf_eq q
    obtain ⟨v, rfl⟩ := vs1 hl
    obtain ⟨a, xs, rfl, h1, h2⟩ := (rs 0 v _ rfl rfl).list
    obtain rfl := h2.ints
    obtain ⟨m1, m2⟩ := maxI_spec q2
    refine ⟨a, ns, rfl, .inl h1, List.length_pos_of_mem m1, fun m' a1 a2 => ?_⟩
    have : m' = m := Int.le_antisymm (m2 _ a1) (a2 _ m1)
    subst this
    exact k _ H (Ex.refl H) (.int _)
theorem calls_minL {S : Sig} : CallS S (rMin S.K) gMinL := fun H G vs ds d Q gm hl rs e k => by
  match ds, e with
  | [.lst es], e =>
    obtain ⟨ns, q, e⟩ := Option.bind_eq_some_iff.mp (show (intsOf es).bind _ = some d from e)
    obtain ⟨m, q2, rfl⟩ := Option.map_eq_some_iff.mp e
    obtain rfl := intsOf_eq q
    obtain ⟨v, rfl⟩ := vs1 hl
    obtain ⟨a, xs, rfl, h1, h2⟩ := (rs 0 v _ rfl rfl).list
    obtain rfl := h2.ints
    obtain ⟨m1, m2⟩ := minI_spec q2
    refine ⟨a, ns, rfl, .inl h1, List.length_pos_of_mem m1, fun m' a1 a2 => ?_⟩
    have : m' = m := Int.le_antisymm (a2 _ m1) (m2 _ a1)
    subst this
    exact k _ H (Ex.refl H) (.int _)
theorem calls_all {S : Sig} : CallS S (rAll S.K) gAll := fun H G vs ds d Q gm hl rs e k => by
  match ds, e with
  | [.lst es], e =>
    obtain ⟨ns, q, rfl⟩ := Option.map_eq_some_iff.mp (show (blsOf es).map _ = some d from e)
    obtain rfl := blsOf_eq q
    obtain ⟨v, rfl⟩ := vs1 hl
    obtain ⟨a, xs, rfl, h1, h2⟩ := (rs 0 v _ rfl rfl).list
    obtain rfl := reps_bls h2
    exact ⟨a, ns, rfl, .inl h1, k _ H (Ex.refl H) (.bl _)⟩
theorem calls_any {S : Sig} : CallS S (rAny S.K) gAny := fun H G vs ds d Q gm hl rs e k => by
  match ds, e with
  | [.lst es], e =>
    obtain ⟨ns, q, rfl⟩ := Option.map_eq_some_iff.mp (show (blsOf es).map _ = some d from e)
    obtain rfl := blsOf_eq q
    obtain ⟨v, rfl⟩ := vs1 hl
    obtain ⟨a, xs, rfl, h1, h2⟩ := (rs 0 v _ rfl rfl).list
    obtain rfl := reps_bls h2
    exact ⟨a, ns, rfl, .inl h1, k _ H (Ex.refl H) (.bl _)⟩
theorem calls_sorted {S : Sig} : CallSF S (rSortedI S.K) gSorted := fun H G vs ds d Q gm hl rs e k => by
  match ds, e with
  | [.lst es], e =>
    obtain ⟨ns, q, rfl⟩ := Option.map_eq_some_iff.mp (show (intsOf es).map _ = some d from e)
    obtain rfl := intsOf_eq q
    obtain ⟨v, rfl⟩ := vs1 hl
    obtain ⟨a, xs, rfl, h1, h2⟩ := (rs 0 v _ rfl rfl).list
    obtain rfl := h2.ints
    refine ⟨a, ns, rfl, .inl h1, fun ns' p pm st hp => ?_⟩
    obtain rfl := ssort_uniq pm st
    exact k p (.lst ((ssort ns).map D.int)) _ hp (Ex.new hp) rfl ⟨_, upd_same, reps_mapI _⟩
section
variable {X : Cx} {W : WX} {c c1 c2 : Bool} {e a b : Expr} {es : List Expr} {m : MA} {ma mb me : ME} {p p2 pos pos2 : Pos}
theorem re_sum (hc : X.calm = true) (hg : Gl X "sum") (hm : X.mg "sum" = none) (ha : RA X W c (e :: es) m) (he : starEach (e :: es) X.env = (false, eval e X.env) :: starEach es X.env := by rfl) (hpl : (backTo pos (starEach es X.env)).any (·.1) = false := by rfl) : RE X W true (.Call (.Name "sum" p) (e :: es) [] pos) (mCall gSum m) :=
  re_callB (cr_sum hc) (calls_sum (S := sg X)) hg hm PyProof.Rows.Boot.sum ha (by decide) (by decide) he hpl
theorem re_maxL (hc : X.calm = true) (hg : Gl X "max") (hm : X.mg "max" = none) (ha : RA X W c (e :: es) m) (he : starEach (e :: es) X.env = (false, eval e X.env) :: starEach es X.env := by rfl) (hpl : (backTo pos (starEach es X.env)).any (·.1) = false := by rfl) : RE X W true (.Call (.Name "max" p) (e :: es) [] pos) (mCall gMaxL m) :=
  re_callB (cr_max hc) (calls_maxL (S := sg X)) hg hm PyProof.Rows.Boot.max ha (by decide) (by decide) he hpl
theorem re_minL (hc : X.calm = true) (hg : Gl X "min") (hm : X.mg "min" = none) (ha : RA X W c (e :: es) m) (he : starEach (e :: es) X.env = (false, eval e X.env) :: starEach es X.env := by rfl) (hpl : (backTo pos (starEach es X.env)).any (·.1) = false := by rfl) : RE X W true (.Call (.Name "min" p) (e :: es) [] pos) (mCall gMinL m) :=
  re_callB (cr_min hc) (calls_minL (S := sg X)) hg hm PyProof.Rows.Boot.min ha (by decide) (by decide) he hpl
theorem re_all (hc : X.calm = true) (hg : Gl X "all") (hm : X.mg "all" = none) (ha : RA X W c (e :: es) m) (he : starEach (e :: es) X.env = (false, eval e X.env) :: starEach es X.env := by rfl) (hpl : (backTo pos (starEach es X.env)).any (·.1) = false := by rfl) : RE X W true (.Call (.Name "all" p) (e :: es) [] pos) (mCall gAll m) :=
  re_callB (cr_all hc) (calls_all (S := sg X)) hg hm PyProof.Rows.Boot.all ha (by decide) (by decide) he hpl
theorem re_any (hc : X.calm = true) (hg : Gl X "any") (hm : X.mg "any" = none) (ha : RA X W c (e :: es) m) (he : starEach (e :: es) X.env = (false, eval e X.env) :: starEach es X.env := by rfl) (hpl : (backTo pos (starEach es X.env)).any (·.1) = false := by rfl) : RE X W true (.Call (.Name "any" p) (e :: es) [] pos) (mCall gAny m) :=
  re_callB (cr_any hc) (calls_any (S := sg X)) hg hm PyProof.Rows.Boot.any ha (by decide) (by decide) he hpl
theorem rf_sorted (hg : Gl X "sorted") (hm : X.mg "sorted" = none) (ha : RA X W c (e :: es) m) (he : starEach (e :: es) X.env = (false, eval e X.env) :: starEach es X.env := by rfl) (hpl : (backTo pos (starEach es X.env)).any (·.1) = false := by rfl) : RF X W (.Call (.Name "sorted" p) (e :: es) [] pos) (mCall gSorted m) :=
  rf_callB cr_sortedI (calls_sorted (S := sg X)) hg hm PyProof.Rows.Boot.sorted ha (by decide) (by decide) he hpl
/-! ### x is True -/
def gIs : D → D → Option D
  | x, .non => some (.bl (isNon x))
  | .bl a, .bl b => some (.bl (decide (a = b)))
  | _, _ => none
def gIsNot : D → D → Option D
  | x, .non => some (.bl (!isNon x))
  | .bl a, .bl b => some (.bl (!decide (a = b)))
  | _, _ => none
def gIsB : D → D → Option D
  | .bl a, .bl b => some (.bl (decide (a = b)))
  | _, _ => none
def gNotB : D → D → Option D
  | .bl a, .bl b => some (.bl (!decide (a = b)))
  | _, _ => none
theorem opd_isB : OpD X (compareOp .Is) gIsB := ⟨_, op_isBl, fun H G x y dx dy d Q gm rx ry e k => by
  match dx, dy, e with
  | .bl a, .bl b, e =>
    cases e
    exact ⟨a, b, rx.full.is_bl, ry.full.is_bl, k _ H (Ex.refl H) (.bl _)⟩⟩
theorem opd_notB : OpD X (compareOp .IsNot) gNotB := ⟨_, op_notBl, fun H G x y dx dy d Q gm rx ry e k => by
  match dx, dy, e with
  | .bl a, .bl b, e =>
    cases e
    exact ⟨a, b, rx.full.is_bl, ry.full.is_bl, k _ H (Ex.refl H) (.bl _)⟩⟩
end
end Fx

-- FxJ3
set_option Elab.async false
set_option linter.all false
set_option maxRecDepth 100000
set_option maxHeartbeats 2000000
/-! FxJ3: sorted(set(..)), enumerate of a tuple, comprehensions over pairs. -/
namespace Fx
open PySem PySem.Spec PyProof.Rows L2
/-! ### sorted(set(xs)) -/
def rSetL (w : World) (K : PySem.W.Frag) : List V → Hp → VK → Prop := fun vs H Q => ∃ (a : Addr) (ns : List Int), vs = [V.ref a] ∧ SqL K H a (ns.map V.int) ∧ ns.length + 1 < scanBound ∧
  ∀ p n, H p = none → n ≤ ns.length → Q (.ref p) (upd H p (SetO w p (fun j => decide (j ∈ ns)) n))
theorem cr_setL {X : Cx} (hc : X.calm = true) : CallR X (.type "set") (rSetL X.w X.K) := by
  intro pins s σ H vs us Q I r h
  obtain ⟨a, ns, rfl, hs, hb, q⟩ := h
  obtain ⟨its, rv, hl, _⟩ := I.list hs
  rw [Vals.ref1 r]
  refine mk_set_lst ns (I.ok.hd hc) hl.isList rv.ints hb fun h2 t c R hc hk => ?_
  exact ⟨.ref _, upd H s.heap.objs.size (SetO X.w s.heap.objs.size (fun j => decide (j ∈ ns)) c), I.laid (t' := t) hk (Nat.le_refl _) (setO_new R), rfl, q _ _ (I.hok.fresh (Nat.le_refl _)) hc⟩
def mSset (m : ME) : ME := fun ρ => (m ρ).bind fun d => match d with
  | .lst es => (match intsOf es with
    | some ns => if ns.length < 64 then .ok (.lst ((usort ns).map D.int)) else .bad
    | none => .bad)
  | _ => .bad
section
variable {X : Cx} {W : WX} {c : Bool} {e : Expr} {me : ME} {p p2 pos pos2 : Pos}
theorem rf_sset (hc : X.calm = true) (hg : Gl X "sorted") (hm : X.mg "sorted" = none) (hg2 : Gl X "set") (hm2 : X.mg "set" = none) (he : RE X W c e me)
    (h1 : starEach [.Call (.Name "set" p2) [e] [] pos2] X.env = (false, eval (.Call (.Name "set" p2) [e] [] pos2) X.env) :: starEach [] X.env := by rfl) (h2 : starEach [e] X.env = (false, eval e X.env) :: starEach [] X.env := by rfl) :
    RF X W (.Call (.Name "sorted" p) [.Call (.Name "set" p2) [e] [] pos2] [] pos) (mSset me) := by
  obtain ⟨t, a1, a2⟩ := he.ex
  refine ⟨_, pe_callB (cr_sortedSet hc) hg hm PyProof.Rows.Boot.sorted (pa_cons (pe_callTy (cr_setL hc) hg2 hm2 PyProof.Rows.Boot.set (pa_cons a1 pa_nil h2) (by decide) (by decide) h2 rfl) pa_nil h1) (by decide) (by decide) h1 rfl, fun B G ρ σ H Q I nb k ke => ?_⟩
  unfold mSset at nb k ke
  refine a2 B G ρ σ H _ I (R.bad_bind nb) (fun d e v H1 x r => ?_) (fun x e => ke x (by rw [e]; rfl))
  rw [e, R.bind_ok] at nb k
  cases d with
  | lst es =>
    dsimp only at nb k
    cases q : intsOf es with
    | none => rw [q] at nb; exact absurd rfl nb
    | some ns =>
      rw [q] at nb k
      dsimp only at nb k
      by_cases hl : ns.length < 64
      · rw [if_pos hl] at k
        obtain rfl := intsOf_eq q
        obtain ⟨a, xs, rfl, g1, g2⟩ := r.list
        obtain rfl := g2.ints
        refine ⟨a, ns, rfl, .inl g1, by have : scanBound = 4096 := rfl
                                        omega, fun pa n hp hn => ?_⟩
        refine ⟨pa, _, n, rfl, upd_same, by omega, fun ns' pb st mm _ hq => ?_⟩
        have e1 : ns' = usort ns := usrt_uniq (fun x => by rw [mm x, decide_eq_true_iff, usort_mem]) st (usort_srt ns)
        subst e1
        have hq1 : H1 pb = none := by
          by_cases z : pb = pa
          · rw [z]; exact hp
          · rw [upd_ne z] at hq; exact hq
        have hq0 : H pb = none := by
          cases z : H pb with
          | none => rfl
          | some o => rw [x pb o z] at hq1; cases hq1
        exact k _ rfl pb (.lst ((usort ns).map D.int)) _ hq0 (x.trans ((Ex.new hp).trans (Ex.new hq))) rfl ⟨_, upd_same, reps_mapI _⟩
      · rw [if_neg hl] at nb; exact absurd rfl nb
  | _ => exact absurd rfl nb
end
/-! ### enumerate of a tuple -/
set_option maxHeartbeats 1000000 in
theorem meets_enum1 {v : Value} {o : Obj} {H : Heap → Prop} (B : Begins v o H) :
    Meets (Builtin.«enumerate.__new__» ⟨[.type "enumerate", v], []⟩) (fun _ R s => H s.heap ∧
      R (.ok (.ret (.ref (s.heap.push o).objs.size))) { s with heap := (s.heap.push o).push { cls := .type "enumerate", data := .fields #[.none, .bool false, .ref s.heap.objs.size, rawInt 0, .none, .none] } }) :=
  .of_wp fun prog w A R s h => by
    obtain ⟨hp, g, d, tk, os⟩ := s; obtain ⟨h1, h⟩ := h
    have hsub := sub_enumerate
    have q1 : ∀ {A' : Around} {E : Value → Shared → Prop} {Q : Value → Shared → Prop}, Q (.ref hp.objs.size) ⟨hp.push o, g, d, tk, os⟩ → wpAny (model prog w) A' (pyIter v) Q E ⟨hp, g, d, tk, os⟩ :=
      fun q => B.iter prog w _ _ ⟨hp, g, d, tk, os⟩ _ h1 q
    wp_walk using q1
    refine wpAny_stack_any fun st => wpAny_pure ?_
    split
    · rename_i c _ _ _ _ _
      cases (c == Value.type "enumerate")
      · wp_walk using q1
        exact ⟨_, rfl, h⟩
      · wp_walk using q1
        exact ⟨_, rfl, h⟩
    · wp_walk using q1
      exact ⟨_, rfl, h⟩
theorem enum_begins1 {prog : Program} {w : World} {A : Around} {E : Value → Shared → Prop} {s : Shared} {v : Value} {o : Obj} {H : Heap → Prop} {Q : Value → Shared → Prop} (B : Begins v o H) (h1 : H s.heap)
    (h : ∀ h', IsEnum h' (s.heap.objs.size + 1) s.heap.objs.size 0 .none → h'.get? s.heap.objs.size = some o → h'.objs.size = s.heap.objs.size + 2 →
      (∀ b o, s.heap.get? b = some o → h'.get? b = some o) → Q (.ref (s.heap.objs.size + 1)) { s with heap := h' }) :
    wpAny (model prog w) A (call (.type "enumerate") [v]) Q E s := by
  refine callType_new F.called_enumerate (by decide) (F.typeCall_enumerate_1 _) (F.newCall_enumerate_1 _) (fun obj => F.args_object_init_2 obj _) F.entry_enumerate_new
    (meets_enum1 B) ⟨h1, ?_⟩
  have hz : (s.heap.push o).objs.size = s.heap.objs.size + 1 := Heap.size_push ..
  show _ ∧ _
  rw [hz]
  have he : IsEnum ((s.heap.push o).push { cls := .type "enumerate", data := .fields #[.none, .bool false, .ref s.heap.objs.size, rawInt 0, .none, .none] }) (s.heap.objs.size + 1) s.heap.objs.size 0 .none := by
    have := Heap.get?_push_size (s.heap.push o) (o := { cls := .type "enumerate", data := .fields #[.none, .bool false, .ref s.heap.objs.size, rawInt 0, .none, .none] }) rfl
    rw [hz] at this; exact this
  refine ⟨⟨_, he, rfl⟩, h _ he (Heap.get?_push_of_some _ (Heap.get?_push_size _ B.free)) (by rw [Heap.size_push, hz]) fun b o x => Heap.get?_push_of_some _ (Heap.get?_push_of_some _ x)⟩
/-- the tuple at a as it stands at each turn, each item in a new pair -/
def IteT (K : PySem.W.Frag) (a : Addr) : It :=
  ⟨fun i H => ∃ (xs : List V) (x : V), SqT K H a xs ∧ xs[i]? = some x, fun i H v H' => ∃ T x, v = .ref T ∧ H T = none ∧ H' = upd H T (.tup [.int (i : Nat), x]) ∧ ∀ xs, SqT K H a xs → xs[i]? = some x, fun i H => ∃ xs : List V, SqT K H a xs ∧ xs.length ≤ i⟩
theorem turn_enumT {P : Program} {w : World} {K : PySem.W.Frag} {elts : List Expr} {kk : Nat} {tpos : Pos} (a e it : Addr) :
    Turn P w K (.Tuple elts kk tpos) (IteT K a) [e, it] e (fun i h => (∃ old, IsEnum h e it ((i : Nat) : Int) old) ∧ h.IsTupleIter it a i ∧ e ≠ it) where
  mem := by simp
  obj := fun i h st b hb => by
    obtain ⟨⟨old, he⟩, ⟨o, ho, hc, hd⟩, _⟩ := st
    have e' : b = e ∨ b = it := by simpa using hb
    rcases e' with z | z
    · rw [z]; exact ⟨_, he, fun v q => nomatch q⟩
    · rw [z]; exact ⟨o, ho, fun v q => by rw [hd] at q; cases q⟩
  keep := fun i h h' st k => let ⟨⟨old, he⟩, hi, hne⟩ := st; ⟨⟨old, k e (by simp) _ he⟩, hi.at fun o q => k it (by simp) o q, hne⟩
  item := by
    intro X hP hw hK hc i pins s σ H E I hf st hg
    subst hP hw hK
    obtain ⟨⟨old, he⟩, hit, hne⟩ := st
    obtain ⟨xs, x, hq, hx⟩ := hg
    obtain ⟨its, rv, p, hz⟩ := I.tuple hq
    have p : s.heap.IsTuple a its.toArray := p
    obtain ⟨u, hu, ru⟩ := rv.get hx
    have hel : e < s.heap.objs.size := Heap.lt_size he
    have hil : it < s.heap.objs.size := by obtain ⟨_, q, _⟩ := hit; exact Heap.lt_size q
    have hti : a ≠ it := fun z => by
      obtain ⟨o1, g1, c1, d1⟩ := hit
      obtain ⟨o2, g2, c2, n2⟩ := p
      rw [z, g1] at g2
      cases g2
      rw [c1] at c2
      exact absurd c2 (by decide)
    have hte : e ∉ [it, a] := fun z => by
      rcases List.mem_cons.mp z with z | z
      · exact hne z
      · have z := List.mem_singleton.mp z
        obtain ⟨o2, g2, c2, n2⟩ := p
        rw [← z, he] at g2
        cases g2
        exact absurd (show Value.type "enumerate" = Value.type "tuple" from c2) (by decide)
    have hiu : its.toArray[i]? = some u := by simpa using hu
    have hin : i < its.toArray.size := (Array.getElem?_eq_some_iff.mp hiu).1
    refine wpAny_pyNext_enum_itemC (Draws.tuple (A := X.A.in1) (I.ok.hd hc) it a hti its.toArray) he ⟨hit, p⟩ hin hne hte fun y h' tk hy ho hst hT hsz hk => ?_
    have ey : y = u := Option.some.inj (hy.symm.trans hiu)
    subst ey
    refine ⟨_, rfl, wpAny_letOwnedTupleGo_enum (s := { s with heap := h', toks := tk + 1 }) ho fun h'' he' sb => ?_⟩
    have hT2 : h''.get? s.heap.objs.size = some { cls := .type "tuple", data := .seq #[.int i tk, y] } := (sb.2 _ (Nat.ne_of_gt hel)).trans hT
    have new : ObjOk X.prog X.w (upd H s.heap.objs.size (.tup [.int (i : Nat), x])) h'' s.heap.objs.size (.tup [.int (i : Nat), x]) :=
      ⟨by show 2 ≤ sizeLine; decide, [.int i tk, y], .cons ⟨_, rfl⟩ (.cons ru .nil), ⟨_, hT2, rfl, _, rfl⟩⟩
    have I1 : Inv X pins σ (upd H s.heap.objs.size (.tup [.int (i : Nat), x])) { s with heap := h'', toks := tk + 1 } :=
      I.turnedNew (ch := [e, it]) (fun b ob hb q => (sb.2 b (fun z => hb (by simp [z]))).trans (hk b ob (fun z => hb (by simp [z])) (fun z => hb (by simp [z])) q)) hf (Nat.le_refl _) new
    refine ⟨.ref s.heap.objs.size, _, I1, rfl, ⟨_, x, rfl, I.hok.fresh (Nat.le_refl _), rfl, fun ys hy => by rw [I.tuple_inj hy hq]; exact hx⟩, ⟨⟨y, ?_⟩, hst.1.at fun o q => (sb.2 it (Ne.symm hne)).trans q, hne⟩, fun b hb => ?_⟩
    · have e1 : ((i + 1 : Nat) : Int) = (i : Int) + 1 := by omega
      rw [e1]; exact he'
    · have hb' : b < s.heap.objs.size := by
        have e' : b = e ∨ b = it := by simpa using hb
        rcases e' with z | z
        · rw [z]; exact hel
        · rw [z]; exact hil
      rw [upd_ne (Nat.ne_of_lt hb')]
      exact (hf b hb).1
  done := by
    intro X hP hw hK hc i pins s σ H E I hf st hg
    subst hP hw hK
    obtain ⟨⟨old, he⟩, hit, hne⟩ := st
    obtain ⟨xs, hq, hx⟩ := hg
    obtain ⟨its, rv, p, hz⟩ := I.tuple hq
    have p : s.heap.IsTuple a its.toArray := p
    have hl := rv.length
    have hti : a ≠ it := fun z => by
      obtain ⟨o1, g1, c1, d1⟩ := hit
      obtain ⟨o2, g2, c2, n2⟩ := p
      rw [z, g1] at g2
      cases g2
      rw [c1] at c2
      exact absurd c2 (by decide)
    obtain ⟨f0, f1, f2, f3, f4, f5⟩ := hf it (by simp)
    have D : Draws X.prog X.w X.A.in1 it [it, a] i (fun _ _ => True) (fun j h => (h.IsTupleIter it a j ∧ h.IsTuple a its.toArray) ∧ i ≤ j) :=
      ⟨fun _ _ st => let ⟨o, ho, _⟩ := st.1.1; ⟨o, ho⟩, fun _ _ _ st hk => ⟨⟨st.1.1.at fun o e => hk it (by simp) o e, st.1.2.at fun o e => hk a (by simp) o e⟩, st.2⟩,
        fun j s Q E hj st _ => absurd st.2 (by omega), fun s Q E st hE => wpAny_nextOf_tuple_end (I.ok.hd hc) st.1.1 st.1.2 (by simp; omega) hE⟩
    exact wpAny_pyNext_enum_endD D he ⟨⟨hit, p⟩, Nat.le_refl _⟩ fun h' eb => ⟨rfl, I.turned (t' := s.toks) (fun b o hb q => eb b o hb q) f0 f1 f3 f4 f5⟩
  self := fun A i s Q E st h => let ⟨⟨_, he⟩, _⟩ := st; wpAny_pyIter_enum he h
def iEnumT (K : PySem.W.Frag) (ta : TA) : TI := fun σ H R => ta σ H fun vs H1 => ∃ a xs, vs = [.ref a] ∧ SqT K H1 a xs ∧ R (IteT K a) H1
theorem pi_enumT {X : Cx} {e : Expr} {ta : TA} {p pos tpos : Pos} {elts : List Expr} {kk : Nat} (hg : Gl X "enumerate") (hm : X.mg "enumerate" = none) (ha : PA X [e] ta) (hs : starEach [e] X.env = [(false, eval e X.env)] := by rfl) :
    PI X (.Tuple elts kk tpos) (.Call (.Name "enumerate" p) [e] [] pos) (iEnumT X.K ta) := by
  refine ⟨fun pins s σ H R I h => ?_⟩
  refine Call_ (ld_blt I hg hm boot_enumerate (PyProof.Rows.callWith_type1 (thn (ha.run pos pins s σ H _ I h) fun us s1 ⟨vs, H1, I1, r1, q1⟩ => ?_) hs rfl))
  obtain ⟨a, xs, ex, hq, q⟩ := q1
  subst ex
  cases r1 with
  | cons r rr =>
    cases rr
    cases r
    obtain ⟨its, rv, p', hz⟩ := I1.tuple hq
    have p' : s1.heap.IsTuple a its.toArray := p'
    refine enum_begins1 (begins_tuple a its.toArray) p' fun h' he hit hsz hk => wpAny_pyIter_enum he ?_
    have I2 : Inv X pins σ H1 { s1 with heap := h' } := I1.kept (t' := s1.toks) hk
    refine ⟨s1.heap.objs.size + 1, [s1.heap.objs.size + 1, s1.heap.objs.size], _, _, H1, rfl, I2, turn_enumT a (s1.heap.objs.size + 1) s1.heap.objs.size, ⟨⟨.none, he⟩, ⟨_, hit, rfl, rfl⟩, Nat.succ_ne_self _⟩, fun b hb => ?_, q⟩
    have e' : b = s1.heap.objs.size + 1 ∨ b = s1.heap.objs.size := by simpa using hb
    have hle : s1.heap.objs.size ≤ b := by
      rcases e' with z | z
      · rw [z]; exact Nat.le_add_right _ _
      · rw [z]; exact Nat.le_refl _
    exact I1.fpOk hle (I1.hok.fresh hle)
end Fx

-- FxJ4
set_option Elab.async false
set_option linter.all false
set_option maxRecDepth 100000
set_option maxHeartbeats 2000000
/-! FxJ4: comprehensions over pairs; enumerate of a tuple as a walk. -/
namespace Fx
open PySem PySem.Spec PyProof.Rows L2
def mEnumT (m : ME) : MI := fun ρ => (m ρ).bind fun d => match d with
  | .tup ds => .ok ((List.range ds.length).map fun i => .tup [.int (i : Nat), ds.getD i .non])
  | _ => .bad
section
variable {X : Cx} {W : WX} {c : Bool} {e : Expr} {me : ME} {p pos tpos : Pos} {elts : List Expr} {kk : Nat}
theorem ri_enumT (hg : Gl X "enumerate") (hm : X.mg "enumerate" = none) (he : RE X W true e me) (hs : starEach [e] X.env = [(false, eval e X.env)] := by rfl) : RI X W (.Tuple elts kk tpos) (.Call (.Name "enumerate" p) [e] [] pos) (mEnumT me) := by
  obtain ⟨t, a1, a2⟩ := he.ex
  refine ⟨_, pi_enumT hg hm (pa_cons a1 pa_nil hs) hs, fun B G ρ σ H Q I nb k ke => ?_⟩
  unfold mEnumT at nb k ke
  refine a2 B G ρ σ H _ I (R.bad_bind nb) (fun d e v H' x r => ?_) (fun x e => ke x (by rw [e]; rfl))
  rw [e, R.bind_ok] at nb k
  cases d with
  | tup ds =>
    obtain ⟨a, xs, rfl, h1, h2⟩ := Rep.is_tup (H := hid H' G) r
    refine ⟨a, xs, rfl, SqT.of (hid_sub _ _ h1), k _ rfl _ H' x fun G2 H2 gm f => ?_⟩
    have q : SqT X.K H2 a xs := SqT.of (hid_sub _ _ (f.ex _ _ h1))
    refine ⟨fun i hi => ?_, fun i hi => ⟨xs, q, ?_⟩, fun i d x H3 hd hy => ?_⟩
    · rw [List.length_map, List.length_range] at hi
      have hi : i < xs.length := by rw [h2.1]; exact hi
      exact ⟨xs, xs[i], q, List.getElem?_eq_getElem hi⟩
    · rw [List.length_map, List.length_range] at hi
      rw [h2.1]; exact hi
    · obtain ⟨T, y, rfl, hT, rfl, hy⟩ := hy
      have hy := hy xs q
      rw [List.getElem?_map] at hd
      cases w : (List.range ds.length)[i]? with
      | none => rw [w] at hd; cases hd
      | some j =>
        rw [w] at hd
        obtain ⟨w1, w2⟩ := List.getElem?_eq_some_iff.mp w
        rw [List.getElem_range] at w2
        subst w2
        have hd : D.tup [.int (i : Nat), ds.getD i .non] = d := Option.some.inj hd
        subst hd
        rw [List.length_range] at w1
        have ex : Ex H2 (upd H2 T (.tup [.int (i : Nat), y])) := Ex.new hT
        refine ⟨ex, Rep.mkT (hid_of (fresh_vis gm hT) upd_same) (.cons (.int _) (.cons ?_ .nil))⟩
        have e1 : ds[i]? = some (ds.getD i .non) := by rw [List.getD_eq_getElem?_getD, List.getElem?_eq_getElem w1]; rfl
        exact (h2.2 i y _ hy e1).ex (f.ex.trans (hid_ex ex))
  | _ => exact absurd rfl nb
end
def pr2 : D → Option (D × D)
  | .tup [a, b] => some (a, b)
  | _ => none
theorem pr2_of {d : D} {p : D × D} (h : pr2 d = some p) : d = .tup [p.1, p.2] := by
  unfold pr2 at h
  split at h
  · cases h; rfl
  · cases h
def lcL2 (i j : Nat) (t : MT) (e : ME) : List D → Env → R (List D)
  | [], _ => .ok []
  | d :: ds, ρ => match pr2 d with
    | none => .bad
    | some p => match t ((ρ.set i (.val p.1)).set j (.val p.2)) with
      | .ok true => (match e ((ρ.set i (.val p.1)).set j (.val p.2)) with
        | .ok y => (match lcL2 i j t e ds ρ with
          | .ok ys => .ok (y :: ys)
          | _ => .bad)
        | _ => .bad)
      | .ok false => lcL2 i j t e ds ρ
      | _ => .bad
def mLc2 (i j : Nat) (mi : MI) (t : MT) (e : ME) : ME := fun ρ => (mi ρ).bind fun ds => if szOk ds.length then (lcL2 i j t e ds (((noExc ρ).set j .no).set i .no)).bind fun ys => .ok (.lst ys) else .bad
theorem lcL2_noerr {i j : Nat} {t : MT} {e : ME} : ∀ {ds : List D} {ρ : Env} {y : Exn}, lcL2 i j t e ds ρ ≠ .err y
  | [], ρ, y, h => by cases h
  | d :: ds, ρ, y, h => by
    unfold lcL2 at h
    split at h
    · cases h
    · split at h
      · split at h
        · split at h <;> cases h
        · cases h
      · exact lcL2_noerr h
      · cases h
theorem snd_lc2 {S : Sig} {P : PX} {W : WX} {i j : Nat} (hij : i ≠ j) {wi : TI} {mi : MI} {mt : MT} {me : ME} (hi : SndI S P W wi mi) : SndF S P W (tLc wi (gTup S.K 2 (gCons (gName i) (gCons (gName j) gNil))) (canT S (pinP []) noX mt) (canE S (pinP []) noX true me) [i, j]) (mLc2 i j mi mt me) := fun B G ρ σ H Q I nb k ke => by
  unfold mLc2 at nb k ke
  refine hi B G ρ σ H _ I (R.bad_bind nb) (fun ds e J H1 x1 wk => ?_) (fun x e => ke x (by rw [e]; rfl))
  rw [e, R.bind_ok] at nb k
  have I1 := I.grow x1
  intro L hL
  by_cases hz : szOk ds.length = true
  rotate_left
  · rw [if_neg hz] at nb; exact absurd rfl nb
  rw [if_pos hz] at nb k
  generalize hρ0 : ((noExc ρ).set j .no).set i .no = ρ0 at nb k ke
  cases hy : lcL2 i j mt me ds ρ0 with
  | err y => exact absurd hy lcL2_noerr
  | bad => rw [hy] at nb; exact absurd rfl nb
  | ok ys =>
  rw [hy] at k
  have k := k _ rfl
  have Iw : Sts S (pinP []) B G ρ0 (wipe σ [i, j]) H1 := by
    rw [← hρ0]
    exact (I1.noX.setNo (i := j)).setNo (i := i)
  have hL0 : H L = none := by
    cases z : H L with
    | none => rfl
    | some o => rw [x1 L o z] at hL; cases hL
  refine ⟨fun n m H2 => m = ds.length - n ∧ n ≤ ds.length ∧ Ex H1 H2 ∧ ∃ (acc : List V) (ad rest : List D), H2 L = some (.lst acc) ∧ Reps S (hid H2 (addG G L)) acc ad ∧ acc.length ≤ n ∧ lcL2 i j mt me (ds.drop n) ρ0 = .ok rest ∧ ad ++ rest = ys,
    ⟨ds.length, by rw [Nat.sub_zero], Nat.zero_le _, Ex.new hL, [], [], ys, upd_same, Reps.nil, Nat.le_refl _, hy, rfl⟩, ?_⟩
  rintro n m H2 ⟨rfl, hj, ex, acc, ad, rest, hacc, hrep, hlen, hrest, hsum⟩
  have I2 : Sts S (pinP []) B (addG G L) ρ0 (wipe σ [i, j]) H2 := Iw.side ex hL hacc hrep
  have f2 : Fr G H1 (addG G L) H2 := fr_own hL ex
  obtain ⟨w1, w2, w3⟩ := wk (addG G L) H2 I2.gm f2
  by_cases hlt : n < ds.length
  · refine .inr ⟨w1 n hlt, fun H3 => Ex H1 H3 ∧ ∃ (acc : List V) (ad rest : List D), H3 L = some (.lst acc) ∧ Reps S (hid H3 (addG G L)) acc ad ∧ acc.length ≤ n + 1 ∧ lcL2 i j mt me (ds.drop (n + 1)) ρ0 = .ok rest ∧ ad ++ rest = ys,
      fun H3 q => ⟨ds.length - (n + 1), by omega, rfl, hlt, q⟩, fun v H3 y => ?_⟩
    obtain ⟨x3, rv⟩ := w3 n _ v H3 (List.getElem?_eq_getElem hlt) y
    rw [List.drop_eq_getElem_cons hlt] at hrest
    unfold lcL2 at hrest
    cases q2 : pr2 ds[n] with
    | none => rw [q2] at hrest; cases hrest
    | some p =>
    rw [q2] at hrest
    dsimp only at hrest
    rw [pr2_of q2] at rv
    obtain ⟨a, xs, rfl, h1, h2⟩ := Rep.is_tup rv
    match xs, h2 with
    | [], h2 => have := h2.1; simp at this
    | [_], h2 => have := h2.1; simp at this
    | _ :: _ :: _ :: _, h2 => have := h2.1; simp at this
    | [v1, v2], h2 =>
    refine ⟨a, [v1, v2], rfl, SqT.of (hid_sub _ _ h1), rfl, ?_⟩
    refine ⟨v1, [v2], rfl, v2, [], rfl, rfl, ?_⟩
    have r1 : Rep S (hid H3 (addG G L)) v1 p.1 := h2.head
    have r2 : Rep S (hid H3 (addG G L)) v2 p.2 := h2.tail.head
    have I3 : Sts S (pinP []) B (addG G L) ((ρ0.set i (.val p.1)).set j (.val p.2)) (((wipe σ [i, j]).set i (some v1)).set j (some v2)) H3 := ((I2.grow x3).setVal r1).setVal r2
    refine ⟨?_, ?_⟩
    · show ((((((σ.set j none).set i none).set i (some v1)).set j (some v2)).set j none).set i none) = (σ.set j none).set i none
      rw [List.set_set, List.set_set]
      rw [List.set_comm _ _ hij, List.set_set, List.set_set]
    have keep : ∀ {H4 : Hp}, Ex H3 H4 → H4 L = some (.lst acc) := fun e4 => e4 _ _ (x3 _ _ hacc)
    have keepR : ∀ {H4 : Hp}, Ex H3 H4 → Reps S (hid H4 (addG G L)) acc ad := fun e4 => hrep.ex (hid_ex (x3.trans e4))
    refine ⟨B, addG G L, _, I3, (fun z => by rw [z] at hrest; cases hrest), fun b eb H4 x4 => ?_, (fun x ex' => by rw [ex'] at hrest; cases hrest)⟩
    rw [eb] at hrest
    cases b with
    | false =>
      rw [if_neg Bool.false_ne_true]
      exact ⟨(ex.trans x3).trans x4, acc, ad, rest, keep x4, keepR x4, Nat.le_succ_of_le hlen, hrest, hsum⟩
    | true =>
      rw [if_pos rfl]
      dsimp only at hrest
      refine ⟨B, addG G L, _, I3.grow x4, (fun z => by rw [z] at hrest; cases hrest), fun d ed u H5 x5 ru => ?_, (fun x ex' => by rw [ex'] at hrest; cases hrest)⟩
      rw [ed] at hrest
      dsimp only at hrest
      split at hrest
      · rename_i ys2 hq
        cases hrest
        refine ⟨acc, keep (x4.trans x5), Nat.lt_of_le_of_lt hlen (Nat.lt_trans hlt (szOk_lt hz)), fun a o h => ?_, acc ++ [u], ad ++ [d], ys2, upd_same, ?_, ?_, hq, ?_⟩
        · by_cases z : a = L
          · rw [z, hL] at h; cases h
          · rw [upd_ne z]
            exact (((ex.trans x3).trans x4).trans x5) a o h
        · have eh : hid (upd H5 L (.lst (acc ++ [u]))) (addG G L) = hid H5 (addG G L) := by
            funext a
            by_cases z : a = L
            · rw [hid_yes (by rw [z, addG_self]), hid_yes (by rw [z, addG_self])]
            · unfold hid
              rw [upd_ne z]
          rw [eh]
          exact (keepR (x4.trans x5)).append (.cons ru .nil)
        · rw [List.length_append]; exact Nat.succ_le_succ hlen
        · rw [List.append_assoc]; exact hsum
      · cases hrest
  · left
    have ej : n = ds.length := by omega
    subst ej
    rw [List.drop_length] at hrest
    cases hrest
    rw [List.append_nil] at hsum
    subst hsum
    exact ⟨w2 _ (Nat.le_refl _), k L (.lst ad) H2 hL0 (x1.trans ex) rfl ⟨acc, hacc, hrep⟩⟩
section
variable {X : Cx} {W : WX} {fr : Fk} {i j : Nat} {x y : Str} {px py pos tpos : Pos} {kk : Nat} {elt iter : Expr} {ifs : List Expr} {scope : Scope} {mi : MI} {mt : MT} {me : ME}
theorem rf_lc2 (hij : i ≠ j) (hc : X.calm = true) (hN : X.N.Nodup) (hi : RI X W (.Tuple [.Name x px, .Name y py] kk tpos) iter mi) (ok : BlkOk X.N X.env.scope scope [(x, i), (y, j)])
    (hg : ∀ (s : Shared) (H : Hp) (C : Addr) (cl : List (Str × Addr)) (fp : List Addr), PG (X.blk s H scope (compEnvC scope cl C X.env) fp) (.Tuple [.Name x px, .Name y py] kk tpos) (gTup X.K 2 (gCons (gName i) (gCons (gName j) gNil))))
    (ht : ∀ (s : Shared) (H : Hp) (C : Addr) (cl : List (Str × Addr)) (fp : List Addr), RTs (X.blk s H scope (compEnvC scope cl C X.env) fp) noX ifs mt)
    (he : ∀ (s : Shared) (H : Hp) (C : Addr) (cl : List (Str × Addr)) (fp : List Addr), RE (X.blk s H scope (compEnvC scope cl C X.env) fp) noX true elt me) (hs : ∀ x, foldedSetIterable iter X.env x = pure x := by intro _; rfl) :
    RF X W (.ListComp elt [⟨.Tuple [.Name x px, .Name y py] kk tpos, iter, ifs, 0⟩] scope pos) (mLc2 i j mi mt me) := by
  obtain ⟨t, a1, a2⟩ := hi.ex
  exact ⟨_, pe_lc hc hN a1 ok hg (fun s H C cl fp => (ht s H C cl fp).ex) (fun s H C cl fp => (he s H C cl fp).can) hs, snd_lc2 hij a2⟩
end
end Fx

-- FxW3
set_option Elab.async false
set_option linter.all false
set_option maxRecDepth 100000
set_option maxHeartbeats 2000000
/-! FxW3: tests, walks and comprehensions with draws. -/
namespace Fx
open PySem PySem.Spec PyProof.Rows L2
abbrev MTw := Env → (Bool → Prop) → Prop
abbrev MIw := Env → (List D → Prop) → Prop
def SndTw (S : Sig) (P : PX) (W : WX) (t : TT) (m : MTw) : Prop :=
  ∀ (B : Bs) (G : Addr → Bool) (ρ : Env) (σ : L2.St) (H : Hp) (Q : Bool → Hp → Prop), Sts S P B G ρ σ H → m ρ (fun b => ∀ H', Ex H H' → Q b H') → t σ H Q
structure RTw (X : Cx) (W : WX) (e : Expr) (m : MTw) : Prop where
  mono : Mono m
  ex : ∃ t, PT X e t ∧ SndTw (sg X) (pp X) W t m
structure RWw (X : Cx) (W : WX) (e : Expr) (m : MTw) : Prop where
  mono : Mono m
  ex : ∃ t, PW X e t ∧ SndTw (sg X) (pp X) W t m
def SndIw (S : Sig) (P : PX) (W : WX) (wi : TI) (m : MIw) : Prop :=
  ∀ (B : Bs) (G : Addr → Bool) (ρ : Env) (σ : L2.St) (H : Hp) (Q : It → Hp → Prop), Sts S P B G ρ σ H → m ρ (fun ds => ∀ J H', Ex H H' → WalkD S J G H' ds → Q J H') → wi σ H Q
structure RIw (X : Cx) (W : WX) (tg e : Expr) (m : MIw) : Prop where
  mono : Mono m
  ex : ∃ t, PI X tg e t ∧ SndIw (sg X) (pp X) W t m
/-! ### mirrors -/
def wT (m : MT) : MTw := fun ρ K => ∃ b, m ρ = .ok b ∧ K b
def wBool (m : MEw) : MTw := fun ρ K => m ρ fun d => match d with
  | .bl b => K b
  | _ => False
def wTru (m : MEw) : MTw := fun ρ K => m ρ fun d => ∃ b, truD d = some b ∧ K b
def wNot (m : MTw) : MTw := fun ρ K => m ρ fun b => K (!b)
def wAnd (m n : MTw) : MTw := fun ρ K => m ρ fun b => if b = true then n ρ K else K false
def wOr (m n : MTw) : MTw := fun ρ K => m ρ fun b => if b = true then K true else n ρ K
def wIteW (t : MTw) (a b : MSw) : MSw := fun ρ K => t ρ fun k => if k = true then a ρ K else b ρ K
def wI (m : MI) : MIw := fun ρ K => ∃ ds, m ρ = .ok ds ∧ K ds
def wItems (m : MEw) : MIw := fun ρ K => m ρ fun d => match d with
  | .lst ds => K ds
  | _ => False
def wForW (m : MIw) (g : MG) (body : MSw) : MSw := fun ρ K => m ρ fun ds => forW g body ds ρ K
def lcW (i : Nat) (e : MEw) : List D → Env → (List D → Prop) → Prop
  | [], _, K => K []
  | d :: ds, ρ, K => e (ρ.set i (.val d)) fun y => lcW i e ds ρ fun ys => K (y :: ys)
def wLc (i : Nat) (mi : MI) (e : MEw) : MEw := fun ρ K => ∃ ds, mi ρ = .ok ds ∧ szOk ds.length = true ∧ lcW i e ds ((noExc ρ).set i .no) fun ys => K (.lst ys)
section
variable {X : Cx} {W : WX} {c c1 c2 : Bool} {e a b : Expr} {es rest : List Expr} {me ma mb : MEw} {m n : MTw} {m1 : MT} {pos p : Pos} {fr : Fk}
theorem RT.w (h : RT X W e m1) : RTw X W e (wT m1) := by
  obtain ⟨t, a1, a2⟩ := h.ex
  refine ⟨fun ρ K K' h ⟨d, e, k⟩ => ⟨d, e, h d k⟩, t, a1, fun B G ρ σ H Q I ⟨d, ed, k⟩ => a2 B G ρ σ H Q I (fun z => by rw [ed] at z; cases z) (fun d' e' H' x => ?_) (fun x e' => by rw [ed] at e'; cases e')⟩
  rw [ed] at e'
  cases e'
  exact k H' x
theorem mono_bool (h : Mono me) : Mono (wBool me) := fun ρ K K' hk k => h ρ _ _ (fun d z => by cases d <;> first | exact hk _ z | exact z) k
theorem rtw_cmp {op : CmpOp} {g : D → D → Option D} (h : OpD X (compareOp op) g) (ha : REw X W true a ma) (hb : REw X W c2 b mb) (hm : behindInMarks op b = false) : RTw X W (.Compare a [op] [b] pos) (wBool (wBin g ma mb)) := by
  obtain ⟨r, h1, h2⟩ := h.ex
  obtain ⟨ta, a1, a2⟩ := ha.ex
  obtain ⟨tb, b1, b2⟩ := hb.ex
  refine ⟨mono_bool (rew_cmp (W := W) (pos := pos) h ha hb hm).mono, _, pt_cmpR h1 a1 b1 hm, fun B G ρ σ H Q I z => ?_⟩
  refine a2 B G ρ σ H _ I (ha.mono ρ _ _ (fun x z v H1 x1 rx => ?_) z)
  refine b2 B G ρ σ H1 _ (I.grow x1) (hb.mono ρ _ _ (fun y z u H2 x2 ry => ?_) z)
  obtain ⟨d, e, k⟩ := z
  refine h2 H2 G v u x y d _ (I.grow (x1.trans x2)).gm ((show RepC (sg X) H1 G true v x from rx).grow x2).weak ry.weak e fun w H3 x3 r => ?_
  cases d with
  | bl q =>
    have ev := r.is_bl
    subst ev
    exact ⟨q, rfl, k H3 ((x1.trans x2).trans x3)⟩
  | _ => exact k.elim
theorem rtw_tru (h : REw X W c a ma) (he : ∀ whole, isTrue a X.env whole = (do let v ← whole; standAt a.pos; holding [v] (truthy v)) := by intro _; rfl) : RTw X W a (wTru ma) := by
  obtain ⟨t, h1, h2⟩ := h.ex
  refine ⟨fun ρ K K' hk k => h.mono ρ _ _ (fun d ⟨q, e, z⟩ => ⟨q, e, hk _ z⟩) k, _, pt_truth h1 he, fun B G ρ σ H Q I z => ?_⟩
  exact h2 B G ρ σ H _ I (h.mono ρ _ _ (fun d ⟨q, e, z⟩ v H' x r => ⟨q, truV_of r e, z H' x⟩) z)
theorem rtw_not (h : RTw X W a m) : RTw X W (.UnaryOp .Not a pos) (wNot m) := by
  obtain ⟨t, h1, h2⟩ := h.ex
  exact ⟨fun ρ K K' hk k => h.mono ρ _ _ (fun d z => hk _ z) k, _, pt_not h1, fun B G ρ σ H Q I z => h2 B G ρ σ H _ I z⟩
theorem rww_and1 (h : RTw X W a m) : RWw X W (.BoolOp .And [a] pos) m := by
  obtain ⟨t, h1, h2⟩ := h.ex
  exact ⟨h.mono, t, pw_and1 h1, h2⟩
theorem rww_or1 (h : RTw X W a m) : RWw X W (.BoolOp .Or [a] pos) m := by
  obtain ⟨t, h1, h2⟩ := h.ex
  exact ⟨h.mono, t, pw_or1 h1, h2⟩
theorem mono_and (h1 : Mono m) (h2 : Mono n) : Mono (wAnd m n) := fun ρ K K' hk k => h1 ρ _ _ (fun q z => by
  cases q with
  | true => rw [if_pos rfl] at z ⊢; exact h2 ρ _ _ hk z
  | false => rw [if_neg Bool.false_ne_true] at z ⊢; exact hk _ z) k
theorem mono_or (h1 : Mono m) (h2 : Mono n) : Mono (wOr m n) := fun ρ K K' hk k => h1 ρ _ _ (fun q z => by
  cases q with
  | true => rw [if_pos rfl] at z ⊢; exact hk _ z
  | false => rw [if_neg Bool.false_ne_true] at z ⊢; exact h2 ρ _ _ hk z) k
theorem rww_and (h : RTw X W a m) (h' : RWw X W (.BoolOp .And (b :: rest) pos) n) : RWw X W (.BoolOp .And (a :: b :: rest) pos) (wAnd m n) := by
  obtain ⟨t, h1, h2⟩ := h.ex
  obtain ⟨u, k1, k2⟩ := h'.ex
  refine ⟨mono_and h.mono h'.mono, _, pw_and h1 k1, fun B G ρ σ H Q I z => ?_⟩
  refine h2 B G ρ σ H _ I (h.mono ρ _ _ (fun q z H1 x1 => ?_) z)
  show (if q = true then u σ H1 Q else Q false H1)
  cases q with
  | true =>
    rw [if_pos rfl] at z ⊢
    exact k2 B G ρ σ H1 Q (I.grow x1) (h'.mono ρ _ _ (fun q z H2 x2 => z H2 (x1.trans x2)) z)
  | false =>
    rw [if_neg Bool.false_ne_true] at z ⊢
    exact z H1 x1
theorem rww_or (h : RTw X W a m) (h' : RWw X W (.BoolOp .Or (b :: rest) pos) n) : RWw X W (.BoolOp .Or (a :: b :: rest) pos) (wOr m n) := by
  obtain ⟨t, h1, h2⟩ := h.ex
  obtain ⟨u, k1, k2⟩ := h'.ex
  refine ⟨mono_or h.mono h'.mono, _, pw_or h1 k1, fun B G ρ σ H Q I z => ?_⟩
  refine h2 B G ρ σ H _ I (h.mono ρ _ _ (fun q z H1 x1 => ?_) z)
  show (if q = true then Q true H1 else u σ H1 Q)
  cases q with
  | true =>
    rw [if_pos rfl] at z ⊢
    exact z H1 x1
  | false =>
    rw [if_neg Bool.false_ne_true] at z ⊢
    exact k2 B G ρ σ H1 Q (I.grow x1) (h'.mono ρ _ _ (fun q z H2 x2 => z H2 (x1.trans x2)) z)
theorem RWw.rt {e : Expr} (h : RWw X W e m) : RTw X W e m := by
  obtain ⟨t, h1, h2⟩ := h.ex
  exact ⟨h.mono, t, h1.pt, h2⟩
theorem rsw_ifW {t : Expr} {body body2 : List Stmt} {ms ms2 : MSw} (hc : RTw X W t m) (ha : RSsw X W fr body ms) (hb : RSsw X W fr body2 ms2) : RSw X W fr (.If t body body2 pos) (wIteW m ms ms2) := by
  obtain ⟨tc, c1, c2⟩ := hc.ex
  obtain ⟨ta, a1, a2⟩ := ha.ex
  obtain ⟨tb, b1, b2⟩ := hb.ex
  refine ⟨fun ρ K K' h z => hc.mono ρ _ _ (fun k z => ?_) z, _, ps_if c1 a1 b1, fun B G ρ σ H E I z => ?_⟩
  · cases k with
    | true => rw [if_pos rfl] at z ⊢; exact ha.mono ρ _ _ h z
    | false => rw [if_neg Bool.false_ne_true] at z ⊢; exact hb.mono ρ _ _ h z
  · refine c2 B G ρ σ H _ I (hc.mono ρ _ _ (fun k z H1 x => ?_) z)
    show (if k = true then _ else _)
    cases k with
    | true =>
      rw [if_pos rfl] at z ⊢
      exact a2 B G ρ σ H1 E (I.grow x) (ha.mono ρ _ _ (fun o z => PostS.move (.of_ex x) z) z)
    | false =>
      rw [if_neg Bool.false_ne_true] at z ⊢
      exact b2 B G ρ σ H1 E (I.grow x) (hb.mono ρ _ _ (fun o z => PostS.move (.of_ex x) z) z)
/-! ### walks -/
theorem riw_list {tg : Expr} (he : REw X W true e me) : RIw X W tg e (wItems me) := by
  obtain ⟨t, a1, a2⟩ := he.ex
  refine ⟨fun ρ K K' hk k => he.mono ρ _ _ (fun d z => by cases d <;> first | exact hk _ z | exact z) k, _, pi_list a1, fun B G ρ σ H Q I z => ?_⟩
  refine a2 B G ρ σ H _ I (he.mono ρ _ _ (fun d k v H' x r => ?_) z)
  cases d with
  | lst ds =>
    obtain ⟨a, xs, rfl, h1, h2⟩ := Rep.is_lst (H := hid H' G) r
    have at_ : ∀ {G2 : Addr → Bool} {H2 : Hp}, Fr G H' G2 H2 → Rd (hid H2 G2) a (.lst xs) := fun f => rd_ex f.ex h1
    refine ⟨a, rfl, ⟨xs, .inl (rd_ex hid_sub h1)⟩, k _ H' x fun G2 H2 gm f => ?_⟩
    have q : SqL X.K H2 a xs := .inl (rd_ex hid_sub (at_ f))
    refine ⟨fun i hi => ?_, fun i hi => ⟨xs, q, by rw [h2.1]; exact hi⟩, fun i d x H3 hd hy => ?_⟩
    · have hi : i < xs.length := by rw [h2.1]; exact hi
      exact ⟨xs, xs[i], q, List.getElem?_eq_getElem hi⟩
    · obtain ⟨e, hy⟩ := hy
      subst e
      exact ⟨Ex.refl _, (h2.2 i x d (hy xs q) hd).ex f.ex⟩
  | _ => exact k.elim
theorem rsw_forW {mi : MIw} {g : MG} {iter tg : Expr} {body : List Stmt} {ms : MSw} (hp : PassesOwn (model X.prog X.w) X.A X.env X.xe) (hc : X.calm = true) (hi : RIw X W tg iter mi) (hg : RG X tg g) (hb : RSsw X W fr body ms)
    (hs : ∀ x, foldedSetIterable iter X.env x = pure x := by intro _; rfl) : RSw X W fr (.For tg iter body [] pos) (wForW mi g ms) := by
  obtain ⟨t, a1, a2⟩ := hi.ex
  obtain ⟨u, b1, b2⟩ := hg.ex
  obtain ⟨v, c1, c2⟩ := hb.ex
  refine ⟨fun ρ K K' h z => hi.mono ρ _ _ (fun ds z => forW_mono hb.mono ds ρ K K' h z) z, _, ps_for hp hc a1 b1 c1 hs, fun B G ρ σ H E I h => ?_⟩
  have mv : ∀ {G1 G2 : Addr → Bool} {H1 H2 : Hp} {es : List D} {ρ : Env}, Fr G1 H1 G2 H2 → forW g ms es ρ (fun o => PostS (sg X) (pp X) W fr B G1 H1 E o) → forW g ms es ρ (fun o => PostS (sg X) (pp X) W fr B G2 H2 E o) := fun f z => forW_mono hb.mono _ _ _ _ (fun o y => PostS.move f y) z
  refine a2 B G ρ σ H _ I (hi.mono ρ _ _ (fun ds h J H1 x w => ?_) h)
  have h := mv (.of_ex x) h
  have I := I.grow x
  refine ⟨fun i m σ' H' => m = ds.length - i ∧ i ≤ ds.length ∧ ∃ G' ρ', Sts (sg X) (pp X) B G' ρ' σ' H' ∧ Fr G H1 G' H' ∧ forW g ms (ds.drop i) ρ' (fun o => PostS (sg X) (pp X) W fr B G' H' E o), ⟨ds.length, by rw [Nat.sub_zero], Nat.zero_le _, G, ρ, I, .refl _ _, h⟩, ?_⟩
  rintro i m σ' H' ⟨rfl, hi, G', ρ', I', f, h⟩
  obtain ⟨w1, w2, w3⟩ := w G' H' I'.gm f
  by_cases hlt : i < ds.length
  · right
    refine ⟨w1 i hlt, fun σ2 H2 => ∃ G2 ρ2, Sts (sg X) (pp X) B G2 ρ2 σ2 H2 ∧ Fr G H1 G2 H2 ∧ forW g ms (ds.drop (i + 1)) ρ2 (fun o => PostS (sg X) (pp X) W fr B G2 H2 E o), fun σ2 H2 n => ⟨ds.length - (i + 1), by omega, rfl, hlt, n⟩, fun v H2 y => ?_⟩
    obtain ⟨x2, r⟩ := w3 i _ v H2 (List.getElem?_eq_getElem hlt) y
    rw [List.drop_eq_getElem_cons hlt] at h
    obtain ⟨ρ1, e1, h⟩ := h
    have f2 := f.trans (.of_ex x2)
    refine b2 B G' ρ' ρ1 σ' H2 v _ _ (I'.grow x2) r e1 fun σ3 I3 => c2 B G' ρ1 σ3 H2 _ I3 (hb.mono ρ1 _ _ (fun o z => ?_) h)
    cases o with
    | nx ρ2 => exact fun G4 σ4 H4 I4 f4 => ⟨G4, ρ2, I4, f2.trans f4, mv ((Fr.of_ex x2).trans f4) z⟩
    | ct ρ2 => exact fun G4 σ4 H4 I4 f4 => ⟨G4, ρ2, I4, f2.trans f4, mv ((Fr.of_ex x2).trans f4) z⟩
    | bk ρ2 => exact fun G4 σ4 H4 I4 f4 => z G4 σ4 H4 I4 ((Fr.of_ex x2).trans f4)
    | rt d => exact z
    | err x ρ2 => exact PostS.move (.of_ex x2) z
    | bad => exact z
  · left
    have e : i = ds.length := by omega
    subst e
    rw [List.drop_length] at h
    exact ⟨w2 _ (Nat.le_refl _), (show PostS (sg X) (pp X) W fr B G' H' E (.nx ρ') from h) G' σ' H' I' (.refl _ _)⟩
/-! ### comprehensions -/
def canEw (S : Sig) (P : PX) (c : Bool) (m : MEw) : TE := fun σ H Q => ∃ B G ρ, Sts S P B G ρ σ H ∧ m ρ (fun d => ∀ v H', Ex H H' → RepC S H' G c v d → Q v H')
theorem REw.can (h : REw X W c e me) : PE X e (canEw (sg X) (pp X) c me) := by
  obtain ⟨t, a, b⟩ := h.ex
  exact ⟨fun pins s σ H Q I ⟨B, G, ρ, J, k⟩ => a.run pins s σ H Q I (b B G ρ σ H Q J k)⟩
theorem lcW_mono {i : Nat} (h : Mono me) : ∀ (ds : List D) (ρ : Env) (K K' : List D → Prop), (∀ a, K a → K' a) → lcW i me ds ρ K → lcW i me ds ρ K'
  | [], ρ, K, K', hk, k => hk _ k
  | d :: ds, ρ, K, K', hk, k => h _ _ _ (fun y z => lcW_mono h ds ρ _ _ (fun ys z => hk _ z) z) k
theorem snd_lcW {S : Sig} {P : PX} {W : WX} {i : Nat} {wi : TI} {mi : MI} {me : MEw} (hi : SndI S P W wi mi) (hm : Mono me) : SndFw S P W (tLc wi (gName i) (canT S (pinP []) noX mYes) (canEw S (pinP []) true me) [i]) (wLc i mi me) := fun B G ρ σ H Q I ⟨ds, e0, hz, hy⟩ => by
  refine hi B G ρ σ H _ I (fun z => by rw [e0] at z; cases z) (fun ds' e J H1 x1 wk => ?_) (fun x e => by rw [e0] at e; cases e)
  rw [e0] at e
  cases e
  have I1 := I.grow x1
  intro L hL
  have Iw : Sts S (pinP []) B G ((noExc ρ).set i .no) (wipe σ [i]) H1 := I1.noX.setNo
  have hL0 : H L = none := by
    cases z : H L with
    | none => rfl
    | some o => rw [x1 L o z] at hL; cases hL
  refine ⟨fun j m H2 => m = ds.length - j ∧ j ≤ ds.length ∧ Ex H1 H2 ∧ ∃ (acc : List V) (ad : List D), H2 L = some (.lst acc) ∧ Reps S (hid H2 (addG G L)) acc ad ∧ acc.length ≤ j ∧
      lcW i me (ds.drop j) ((noExc ρ).set i .no) (fun ys => ∀ (p : Addr) (s : Sl) (H' : Hp), H p = none → Ex H H' → s.d = D.lst (ad ++ ys) → OwnAt S H' (addG G p) p s → Q (.ref p) H'),
    ⟨ds.length, by rw [Nat.sub_zero], Nat.zero_le _, Ex.new hL, [], [], upd_same, Reps.nil, Nat.le_refl _, hy⟩, ?_⟩
  rintro j m H2 ⟨rfl, hj, ex, acc, ad, hacc, hrep, hlen, hrest⟩
  have I2 : Sts S (pinP []) B (addG G L) ((noExc ρ).set i .no) (wipe σ [i]) H2 := Iw.side ex hL hacc hrep
  have f2 : Fr G H1 (addG G L) H2 := fr_own hL ex
  obtain ⟨w1, w2, w3⟩ := wk (addG G L) H2 I2.gm f2
  by_cases hlt : j < ds.length
  · refine .inr ⟨w1 j hlt, fun H3 => Ex H1 H3 ∧ ∃ (acc : List V) (ad : List D), H3 L = some (.lst acc) ∧ Reps S (hid H3 (addG G L)) acc ad ∧ acc.length ≤ j + 1 ∧
        lcW i me (ds.drop (j + 1)) ((noExc ρ).set i .no) (fun ys => ∀ (p : Addr) (s : Sl) (H' : Hp), H p = none → Ex H H' → s.d = D.lst (ad ++ ys) → OwnAt S H' (addG G p) p s → Q (.ref p) H'),
      fun H3 q => ⟨ds.length - (j + 1), by omega, rfl, hlt, q⟩, fun v H3 y => ?_⟩
    obtain ⟨x3, rv⟩ := w3 j _ v H3 (List.getElem?_eq_getElem hlt) y
    rw [List.drop_eq_getElem_cons hlt] at hrest
    have I3 : Sts S (pinP []) B (addG G L) (((noExc ρ).set i .no).set i (.val ds[j])) ((wipe σ [i]).set i (some v)) H3 := (I2.grow x3).setVal rv
    refine ⟨?_, ?_⟩
    · show ((σ.set i none).set i (some v)).set i none = σ.set i none
      rw [List.set_set, List.set_set]
    unfold lcW at hrest
    have keep : ∀ {H4 : Hp}, Ex H3 H4 → H4 L = some (.lst acc) := fun e4 => e4 _ _ (x3 _ _ hacc)
    have keepR : ∀ {H4 : Hp}, Ex H3 H4 → Reps S (hid H4 (addG G L)) acc ad := fun e4 => hrep.ex (hid_ex (x3.trans e4))
    refine ⟨B, addG G L, _, I3, (fun z => by cases z), fun b eb H4 x4 => ?_, (fun x ex' => by cases ex')⟩
    cases eb
    rw [if_pos rfl]
    refine ⟨B, addG G L, _, I3.grow x4, hm _ _ _ (fun d hrest u H5 x5 ru => ?_) hrest⟩
    refine ⟨acc, keep (x4.trans x5), Nat.lt_of_le_of_lt hlen (Nat.lt_trans hlt (szOk_lt hz)), fun a o h => ?_, acc ++ [u], ad ++ [d], upd_same, ?_, ?_, lcW_mono hm _ _ _ _ (fun ys z p s H' hp x es w => z p s H' hp x (by rw [es, List.append_assoc]; rfl) w) hrest⟩
    · by_cases z : a = L
      · rw [z, hL] at h; cases h
      · rw [upd_ne z]
        exact (((ex.trans x3).trans x4).trans x5) a o h
    · have eh : hid (upd H5 L (.lst (acc ++ [u]))) (addG G L) = hid H5 (addG G L) := by
        funext a
        by_cases z : a = L
        · rw [hid_yes (by rw [z, addG_self]), hid_yes (by rw [z, addG_self])]
        · unfold hid
          rw [upd_ne z]
      rw [eh]
      exact (keepR (x4.trans x5)).append (.cons ru .nil)
    · rw [List.length_append]; exact Nat.succ_le_succ hlen
  · left
    have ej : j = ds.length := by omega
    subst ej
    rw [List.drop_length] at hrest
    exact ⟨w2 _ (Nat.le_refl _), hrest L (.lst ad) H2 hL0 (x1.trans ex) (by rw [List.append_nil]; rfl) ⟨acc, hacc, hrep⟩⟩
theorem mono_lc {i : Nat} {mi : MI} (h : Mono me) : Mono (wLc i mi me) := fun ρ K K' hk ⟨ds, e, z, k⟩ => ⟨ds, e, z, lcW_mono h _ _ _ _ (fun ys y => hk _ y) k⟩
variable {i : Nat} {x : Str} {px : Pos} {elt iter : Expr} {scope : Scope} {mi : MI}
theorem rfw_lc (hc : X.calm = true) (hN : X.N.Nodup) (hi : RI X W (.Name x px) iter mi) (ok : BlkOk X.N X.env.scope scope [(x, i)]) (hm : Mono me)
    (hg : ∀ (s : Shared) (H : Hp) (C : Addr) (cl : List (Str × Addr)) (fp : List Addr), PG (X.blk s H scope (compEnvC scope cl C X.env) fp) (.Name x px) (gName i))
    (he : ∀ (s : Shared) (H : Hp) (C : Addr) (cl : List (Str × Addr)) (fp : List Addr), REw (X.blk s H scope (compEnvC scope cl C X.env) fp) noX true elt me) (hs : ∀ x, foldedSetIterable iter X.env x = pure x := by intro _; rfl) :
    RFw X W (.ListComp elt [⟨.Name x px, iter, [], 0⟩] scope pos) (wLc i mi me) := by
  obtain ⟨t, a1, a2⟩ := hi.ex
  have ht2 : ∀ (s : Shared) (H : Hp) (C : Addr) (cl : List (Str × Addr)) (fp : List Addr), PTs (X.blk s H scope (compEnvC scope cl C X.env) fp) [] (canT (sg X) (pinP []) noX mYes) := fun s H C cl fp => (rts_nil (X := X.blk s H scope (compEnvC scope cl C X.env) fp) (W := noX)).ex
  have hc2 : ∀ (s : Shared) (H : Hp) (C : Addr) (cl : List (Str × Addr)) (fp : List Addr), PE (X.blk s H scope (compEnvC scope cl C X.env) fp) elt (canEw (sg X) (pinP []) true me) := fun s H C cl fp => (he s H C cl fp).can
  exact ⟨mono_lc hm, _, pe_lc hc hN a1 ok hg ht2 hc2 hs, snd_lcW a2 hm⟩
/-- name = [..], shared at once -/
theorem rsw_setLcV {j : Nat} {y : Str} {py spos : Pos} (hc : X.calm = true) (hN : X.N.Nodup) (hy : X.N[j]? = some y) (hyl : X.env.scope.names.lookup y = some .local)
    (hsw : swapsWith (.ListComp elt [⟨.Name x px, iter, [], 0⟩] scope pos) (some (.Name y py)) spos.line X.env = pure true) (hi : RI X W (.Name x px) iter mi) (ok : BlkOk X.N X.env.scope scope [(x, i)]) (hm : Mono me)
    (hg : ∀ (s : Shared) (H : Hp) (C : Addr) (cl : List (Str × Addr)) (fp : List Addr), PG (X.blk s H scope (compEnvC scope cl C X.env) fp) (.Name x px) (gName i))
    (he : ∀ (s : Shared) (H : Hp) (C : Addr) (cl : List (Str × Addr)) (fp : List Addr), REw (X.blk s H scope (compEnvC scope cl C X.env) fp) noX true elt me) (hs : ∀ x, foldedSetIterable iter X.env x = pure x := by intro _; rfl) :
    RSw X W fr (.Assign [.Name y py] (.ListComp elt [⟨.Name x px, iter, [], 0⟩] scope pos) spos) (wSet j (wLc i mi me)) := by
  obtain ⟨t, a1, a2⟩ := hi.ex
  have ht2 : ∀ (s : Shared) (H : Hp) (C : Addr) (cl : List (Str × Addr)) (fp : List Addr), PTs (X.blk s H scope (compEnvC scope cl C X.env) fp) [] (canT (sg X) (pinP []) noX mYes) := fun s H C cl fp => (rts_nil (X := X.blk s H scope (compEnvC scope cl C X.env) fp) (W := noX)).ex
  have hc2 : ∀ (s : Shared) (H : Hp) (C : Addr) (cl : List (Str × Addr)) (fp : List Addr), PE (X.blk s H scope (compEnvC scope cl C X.env) fp) elt (canEw (sg X) (pinP []) true me) := fun s H C cl fp => (he s H C cl fp).can
  refine ⟨fun ρ K K' h k => mono_lc hm ρ _ _ (fun d z => h _ z) k, _, ps_setLc hc hN hy hyl hsw a1 ok hg ht2 hc2 hs, fun B G ρ σ H E I k => ?_⟩
  refine snd_lcW a2 hm B G ρ σ H _ I (mono_lc hm ρ _ _ (fun d z p s H' hp x es w => ?_) k)
  subst es
  exact z _ _ H' ((I.grow x).setVal (ownAt_clean I.gm hp w)) (.of_ex x)
theorem rsw_setLc {j : Nat} {y : Str} {py spos : Pos} (hc : X.calm = true) (hN : X.N.Nodup) (hy : X.N[j]? = some y) (hyl : X.env.scope.names.lookup y = some .local)
    (hsw : swapsWith (.ListComp elt [⟨.Name x px, iter, [], 0⟩] scope pos) (some (.Name y py)) spos.line X.env = pure true) (hi : RI X W (.Name x px) iter mi) (ok : BlkOk X.N X.env.scope scope [(x, i)]) (hm : Mono me)
    (hg : ∀ (s : Shared) (H : Hp) (C : Addr) (cl : List (Str × Addr)) (fp : List Addr), PG (X.blk s H scope (compEnvC scope cl C X.env) fp) (.Name x px) (gName i))
    (he : ∀ (s : Shared) (H : Hp) (C : Addr) (cl : List (Str × Addr)) (fp : List Addr), REw (X.blk s H scope (compEnvC scope cl C X.env) fp) noX true elt me) (hs : ∀ x, foldedSetIterable iter X.env x = pure x := by intro _; rfl) :
    RSw X W fr (.Assign [.Name y py] (.ListComp elt [⟨.Name x px, iter, [], 0⟩] scope pos) spos) (wSetO j (wLc i mi me)) := by
  obtain ⟨t, a1, a2⟩ := hi.ex
  have ht2 : ∀ (s : Shared) (H : Hp) (C : Addr) (cl : List (Str × Addr)) (fp : List Addr), PTs (X.blk s H scope (compEnvC scope cl C X.env) fp) [] (canT (sg X) (pinP []) noX mYes) := fun s H C cl fp => (rts_nil (X := X.blk s H scope (compEnvC scope cl C X.env) fp) (W := noX)).ex
  have hc2 : ∀ (s : Shared) (H : Hp) (C : Addr) (cl : List (Str × Addr)) (fp : List Addr), PE (X.blk s H scope (compEnvC scope cl C X.env) fp) elt (canEw (sg X) (pinP []) true me) := fun s H C cl fp => (he s H C cl fp).can
  refine ⟨fun ρ K K' h k => mono_lc hm ρ _ _ (fun d z => h _ z) k, _, ps_setLc hc hN hy hyl hsw a1 ok hg ht2 hc2 hs, fun B G ρ σ H E I k => ?_⟩
  refine snd_lcW a2 hm B G ρ σ H _ I (mono_lc hm ρ _ _ (fun d z p s H' hp x es w => ?_) k)
  subst es
  rcases own_slOf w with ⟨e1, e2, e3⟩ | e1
  · rw [e1] at z
    exact z _ _ H' (I.setOwn x hp e2 w fun c fs h => absurd h (e3 c fs)) (fr_own hp x)
  · rw [e1] at z
    exact z _ _ H' ((I.grow x).setVal (ownAt_clean I.gm hp w)) (.of_ex x)
end
theorem mono_bin {g : D → D → Option D} {a b : MEw} (h1 : Mono a) (h2 : Mono b) : Mono (wBin g a b) := fun ρ K K' k z => h1 ρ _ _ (fun x z => h2 ρ _ _ (fun y ⟨d, e, z⟩ => ⟨d, e, k d z⟩) z) z
theorem mono_draw {a b : ME} : Mono (wDraw a b) := fun ρ K K' h ⟨h1, i, h2, h3, h4, k⟩ => ⟨h1, i, h2, h3, h4, fun d d0 d1 => h _ (k d d0 d1)⟩
theorem mono_nil : Mono wNil := fun ρ K K' h k => h _ k
theorem mono_cons {a : MEw} {r : MAw} (h1 : Mono a) (h2 : Mono r) : Mono (wCons a r) := fun ρ K K' k z => h1 ρ _ _ (fun x z => h2 ρ _ _ (fun xs z => k _ z) z) z
theorem mono_tup {r : MAw} (h : Mono r) : Mono (wTup r) := fun ρ K K' k z => h ρ _ _ (fun xs z => k _ z) z
theorem mono_lst {r : MAw} (h : Mono r) : Mono (wLst r) := fun ρ K K' k z => h ρ _ _ (fun xs z => k _ z) z
theorem mono_def {mf : MFw} {r : MAw} (h1 : ∀ ds K K', (∀ r, K r → K' r) → mf ds K → mf ds K') (h : Mono r) : Mono (wDef mf r) := fun ρ K K' k z => h ρ _ _ (fun ds z => h1 ds _ _ (fun r y => by cases r <;> first | exact k _ y | exact y) z) z
theorem rssw_frz {X : Cx} {W : WX} {fr : Fk} {st : List Stmt} {m : MSw} (i : Nat) (h : RSsw X W fr st m) : RSsw X W fr st (wSeq (wS (mFrz i)) m) := by
  obtain ⟨t, a, b⟩ := h.ex
  refine ⟨mono_seq (fun ρ K K' h k => h _ k) h.mono, t, a, fun B G ρ σ H E I h' => ?_⟩
  have h' : (fun o : Out => match o with | .nx ρ' => m ρ' (fun o => PostS (sg X) (pp X) W fr B G H E o) | o => PostS (sg X) (pp X) W fr B G H E o) (mFrz i ρ) := h'
  unfold mFrz at h'
  cases q : ρ[i]? with
  | none => rw [q] at h'; exact h'.elim
  | some s =>
    rw [q] at h'
    have go : ∀ (ho : Own s = true), m (ρ.set i (.val s.d)) (fun o => PostS (sg X) (pp X) W fr B G H E o) → t E σ H := fun ho h2 => by
      obtain ⟨p, h1, h2', h3, h4⟩ := I.own i s q ho
      refine b B (delG G p) (ρ.set i (.val s.d)) σ H E (I.freeze q ho h1 h4.rep) (h.mono _ _ _ (fun o z => PostS.move (fun x o g q => ⟨q, ?_⟩) z) h2)
      unfold delG
      split
      · rfl
      · exact g
    cases s with
    | lst ds => exact go rfl h'
    | dic t ds => exact go rfl h'
    | _ => exact h'.elim
section
variable {m n : MSw} {t : MTw} {e : MEw} {i : Nat}
theorem mono_S {m : MS} : Mono (wS m) := fun ρ K K' h k => h _ k
theorem mono_T {m : MT} : Mono (wT m) := fun ρ K K' h ⟨d, e, k⟩ => ⟨d, e, h d k⟩
theorem mono_not {t : MTw} (h : Mono t) : Mono (wNot t) := fun ρ K K' hk k => h ρ _ _ (fun b z => hk _ z) k
theorem mono_tru (h : Mono e) : Mono (wTru e) := fun ρ K K' hk k => h ρ _ _ (fun d ⟨q, e, z⟩ => ⟨q, e, hk _ z⟩) k
theorem mono_set (h : Mono e) : Mono (wSet i e) := fun ρ K K' hk k => h ρ _ _ (fun d z => hk _ z) k
theorem mono_setO (h : Mono e) : Mono (wSetO i e) := fun ρ K K' hk k => h ρ _ _ (fun d z => hk _ z) k
theorem mono_ret (h : Mono e) : Mono (wRet e) := fun ρ K K' hk k => h ρ _ _ (fun d z => hk _ z) k
theorem mono_app (h : Mono e) : Mono (wApp i e) := fun ρ K K' hk k => by
  unfold wApp at k ⊢
  cases q : ρ[i]? with
  | none => rw [q] at k; exact k
  | some s =>
    rw [q] at k
    cases s with
    | lst ds => exact h ρ _ _ (fun d z => ⟨z.1, hk _ z.2⟩) k
    | _ => exact k
theorem mono_ite {t : MT} (h1 : Mono m) (h2 : Mono n) : Mono (wIte t m n) := fun ρ K K' h ⟨k, e, z⟩ => ⟨k, e, by
  cases k with
  | true => rw [if_pos rfl] at z ⊢; exact h1 ρ _ _ h z
  | false => rw [if_neg Bool.false_ne_true] at z ⊢; exact h2 ρ _ _ h z⟩
theorem mono_iteW (h : Mono t) (h1 : Mono m) (h2 : Mono n) : Mono (wIteW t m n) := fun ρ K K' hk z => h ρ _ _ (fun k z => by
  cases k with
  | true => rw [if_pos rfl] at z ⊢; exact h1 ρ _ _ hk z
  | false => rw [if_neg Bool.false_ne_true] at z ⊢; exact h2 ρ _ _ hk z) z
theorem mono_for {mi : MI} {g : MG} (h : Mono m) : Mono (wFor mi g m) := fun ρ K K' hk ⟨ds, e, z⟩ => ⟨ds, e, forW_mono h ds ρ K K' hk z⟩
theorem mono_items (h : Mono e) : Mono (wItems e) := fun ρ K K' hk k => h ρ _ _ (fun d z => by cases d <;> first | exact hk _ z | exact z) k
theorem mono_forW {mi : MIw} {g : MG} (h0 : Mono mi) (h : Mono m) : Mono (wForW mi g m) := fun ρ K K' hk z => h0 ρ _ _ (fun ds z => forW_mono h ds ρ K K' hk z) z
end
end Fx

-- FxR
set_option Elab.async false
set_option linter.all false
set_option maxRecDepth 100000
set_option maxHeartbeats 2000000
/-! FxR: range with a step, lists of ranges, list.remove. -/
namespace Fx
open PySem PySem.Spec PyProof.Rows L2
/-- how many -/
def rgN (a b c : Int) : Nat := if a < b then ((b - a - 1) / c + 1).toNat else 0
def rangeD3 (a b c : Int) : List D := (List.range (rgN a b c)).map fun i : Nat => .int (a + (i : Int) * c)
theorem rangeD3_len (a b c : Int) : (rangeD3 a b c).length = rgN a b c := by unfold rangeD3; rw [List.length_map, List.length_range]
theorem rangeD3_get {a b c : Int} {i : Nat} {d : D} (h : (rangeD3 a b c)[i]? = some d) : d = .int (a + (i : Int) * c) := by
  unfold rangeD3 at h
  rw [List.getElem?_map] at h
  cases q : (List.range (rgN a b c))[i]? with
  | none => rw [q] at h; cases h
  | some j =>
    rw [q] at h
    have : j = i := by
      obtain ⟨h1, h2⟩ := List.getElem?_eq_some_iff.mp q
      rw [List.getElem_range] at h2
      exact h2.symm
    subst this
    exact (Option.some.inj h).symm
theorem walk_range3 {S : Sig} {G : Addr → Bool} {H : Hp} (a b c : Int) : WalkD S (Itc a c (rgN a b c)) G H (rangeD3 a b c) := fun G' H' gm f => by
  refine ⟨fun i h => ?_, fun i h => ?_, fun i d x H2 hd hy => ?_⟩
  · show i < rgN a b c
    rw [← rangeD3_len]; exact h
  · show rgN a b c ≤ i
    rw [← rangeD3_len]; exact h
  · obtain ⟨rfl, rfl⟩ := hy
    rw [rangeD3_get hd]
    exact ⟨Ex.refl _, .int _⟩
def stepOk (c : Int) : Bool := decide (0 < c) && decide (c < 1073741824)
theorem rgN_le {a b c : Int} (hc : 0 < c) : (rgN a b c : Int) ≤ (b - a).toNat := by
  unfold rgN
  split
  · rename_i h
    have h1 : 0 ≤ (b - a - 1) / c := Int.ediv_nonneg (by omega) (by omega)
    have h2 : (b - a - 1) / c ≤ b - a - 1 := Int.ediv_le_self _ (by omega)
    omega
  · omega
theorem rgC_ok {a b c : Int} (ha : farOk a = true) (hb : farOk b = true) (hc : stepOk c = true) : RgC a b c (rgN a b c) := by
  obtain ⟨c1, c2⟩ := Bool.and_eq_true_iff.mp hc
  have c1 := of_decide_eq_true c1
  have c2 := of_decide_eq_true c2
  obtain ⟨a1, a2⟩ := farOk_of ha
  obtain ⟨b1, b2⟩ := farOk_of hb
  have e : Builtin.Range.rangeSize a b c = (rgN a b c : Int) := by
    unfold Builtin.Range.rangeSize rgN
    rw [if_pos c1]
    split
    · rename_i h
      have h1 : 0 ≤ (b - a - 1) / c := Int.ediv_nonneg (by omega) (by omega)
      omega
    · rfl
  refine ⟨by omega, by omega, ?_, e⟩
  unfold Builtin.Range.small
  rw [e]
  have hm : (rgN a b c : Int) * c ≤ (b - a).toNat + c := by
    unfold rgN
    split
    · rename_i h
      have h1 : 0 ≤ (b - a - 1) / c := Int.ediv_nonneg (by omega) (by omega)
      have h2 := Int.ediv_mul_le (b - a - 1) (b := c) (by omega)
      have e2 : (((b - a - 1) / c + 1).toNat : Int) = (b - a - 1) / c + 1 := by omega
      rw [e2, Int.add_mul]
      omega
    · simp only [Int.natCast_zero, Int.zero_mul]; omega
  have hn := rgN_le (a := a) (b := b) c1
  simp only [Builtin.Range.rangeFitsLong, Bool.and_eq_true, Bool.or_eq_true, decide_eq_true_eq, beq_iff_eq, c1, if_true, gt_iff_lt]
  omega
def mRange3 (ma mb mc : ME) : MI := fun ρ => (ma ρ).bind fun d => (mb ρ).bind fun d2 => (mc ρ).bind fun d3 => match d, d2, d3 with
  | .int i, .int j, .int k => if farOk i && (farOk j && stepOk k) then .ok (rangeD3 i j k) else .bad
  | _, _, _ => .bad
section
variable {X : Cx} {W : WX} {a b c e : Expr} {ma mb mc me : ME} {p p2 p3 pos : Pos} {c1 c2 c3 : Bool} {fr : Fk}
theorem ri_range3 {tg : Expr} (hg : Gl X "range") (hm : X.mg "range" = none) (ha : RE X W c1 a ma) (hb : RE X W c2 b mb) (hd : RE X W c3 c mc)
    (hs : starEach [a, b, c] X.env = (false, eval a X.env) :: starEach [b, c] X.env := by rfl) (hs2 : starEach [b, c] X.env = (false, eval b X.env) :: starEach [c] X.env := by rfl) (hs3 : starEach [c] X.env = (false, eval c X.env) :: starEach [] X.env := by rfl) (hpl : (backTo pos (starEach [b, c] X.env)).any (·.1) = false := by rfl) :
    RI X W tg (.Call (.Name "range" p) [a, b, c] [] pos) (mRange3 ma mb mc) := by
  obtain ⟨t, a1, a2⟩ := ha.ex
  obtain ⟨u, b1, b2⟩ := hb.ex
  obtain ⟨v, f1, f2⟩ := hd.ex
  refine ⟨_, pi_range3 hg hm (pa_cons a1 (pa_cons b1 (pa_cons f1 pa_nil hs3) hs2) hs) hs hpl, fun B G ρ σ H Q I nb k ke => ?_⟩
  unfold mRange3 at nb k ke
  refine a2 B G ρ σ H _ I (R.bad_bind nb) (fun d e v H' x r => ?_) (fun x e => ke x (by rw [e]; rfl))
  rw [e, R.bind_ok] at nb k ke
  refine b2 B G ρ σ H' _ (I.grow x) (R.bad_bind nb) (fun d2 e2 v2 H2 x2 r2 => ?_) (fun y e2 cls dd H2 x2 => ke y (by rw [e2]; rfl) cls dd H2 (x.trans x2))
  rw [e2, R.bind_ok] at nb k ke
  refine f2 B G ρ σ H2 _ (I.grow (x.trans x2)) (R.bad_bind nb) (fun d3 e3 v3 H3 x3 r3 => ?_) (fun y e3 cls dd H3 x3 => ke y (by rw [e3]; rfl) cls dd H3 ((x.trans x2).trans x3))
  rw [e3, R.bind_ok] at nb k
  cases d with
  | int i =>
    cases d2 with
    | int j =>
      cases d3 with
      | int l =>
        dsimp only at nb k
        by_cases z : (farOk i && (farOk j && stepOk l)) = true
        · rw [if_pos z] at k
          obtain ⟨z1, z2⟩ := Bool.and_eq_true_iff.mp z
          obtain ⟨z2, z3⟩ := Bool.and_eq_true_iff.mp z2
          have ev := r.full.is_int
          have eu := r2.full.is_int
          have ew := r3.full.is_int
          subst ev eu ew
          exact ⟨i, j, l, _, rfl, rgC_ok z1 z2 z3, k _ rfl _ H3 ((x.trans x2).trans x3) (walk_range3 i j l)⟩
        · rw [if_neg z] at nb; exact absurd rfl nb
      | _ => exact absurd rfl nb
    | _ => cases d3 <;> exact absurd rfl nb
  | _ => cases d2 <;> cases d3 <;> exact absurd rfl nb
/-! ### list(range(..)) -/
def PRg3 (X : Cx) (e : Expr) (t : L2.St → Hp → (Int → Int → Int → Hp → Prop) → Prop) : Prop :=
  ∀ (pins : List (Addr × Obj)) (s : Shared) (σ : L2.St) (H : Hp) (Q : Int → Int → Int → Hp → Prop), Inv X pins σ H s → t σ H Q →
    wpAny (model X.prog X.w) X.A (eval e X.env) (fun x s' => ∃ r a b c t u v H', x = .ref r ∧ IsRange s'.heap r a b c t u v ∧ Inv X pins σ H' s' ∧ Q a b c H') X.xe s
def tRg3 (ta : TA) : L2.St → Hp → (Int → Int → Int → Hp → Prop) → Prop := fun σ H Q => ta σ H fun vs H1 => ∃ i j k, vs = [.int i, .int j, .int k] ∧ (k ≠ 0 ∧ k.natAbs < 1073741824) ∧ Q i j k H1
theorem prg_3 {ta : TA} (hg : Gl X "range") (hm : X.mg "range" = none) (ha : PA X [a, b, c] ta) (hs : starEach [a, b, c] X.env = (false, eval a X.env) :: starEach [b, c] X.env := by rfl) (hpl : (backTo pos (starEach [b, c] X.env)).any (·.1) = false := by rfl) : PRg3 X (.Call (.Name "range" p) [a, b, c] [] pos) (tRg3 ta) := by
  intro pins s σ H Q I h
  refine Call_ (ld_blt I hg hm boot_range (PyProof.Rows.callWith_type1 (thn (ha.run pos pins s σ H _ I h) fun us s1 ⟨vs, H1, I1, r1, q1⟩ => ?_) hs hpl))
  obtain ⟨i, j, k, e, ⟨c0, c1⟩, q⟩ := q1
  subst e
  cases r1 with
  | cons r rr =>
    cases rr with
    | cons r' rr =>
      cases rr with
      | cons r'' rr =>
        cases rr
        obtain ⟨t, rfl⟩ := r
        obtain ⟨t', rfl⟩ := r'
        obtain ⟨t'', rfl⟩ := r''
        refine call_range_3 c0 ?_ (.inl (PyProof.noPylong_small c1))
        exact ⟨_, i, j, k, _, _, _, H1, rfl, IsRange.new _ _ _ _ _ _ _, I1.kept (t' := s1.toks) fun b u e => Heap.get?_push_of_some _ e, q⟩
def rgV3 (a b c : Int) : List V := (List.range (rgN a b c)).map fun i : Nat => V.int (a + (i : Nat) * c)
theorem vals_rg3 {a b c : Int} {acc : Array Value} (h : ItemsOf (fun i v => ∃ t, v = .int (a + i * c) t) acc (rgN a b c)) : Vals (rgV3 a b c) acc.toList := by
  have e : acc.toList.length = rgN a b c := by rw [Array.length_toList]; exact h.1
  unfold rgV3
  rw [← e]
  refine vals_of_get acc.toList _ fun j u hj => ?_
  obtain ⟨t, rfl⟩ := h.2 j u (by rw [← hj, Array.getElem?_toList])
  exact ⟨t, rfl⟩
def tLstRg3 (te : L2.St → Hp → (Int → Int → Int → Hp → Prop) → Prop) : TE := fun σ H Q => te σ H fun a b c H1 => (RgC a b c (rgN a b c) ∧ rgN a b c ≤ 2 ^ 24) ∧ ∀ q, H1 q = none → Q (.ref q) (upd H1 q (.lst (rgV3 a b c)))
theorem pe_listRg3 {te : L2.St → Hp → (Int → Int → Int → Hp → Prop) → Prop} (hc : X.calm = true) (hg : Gl X "list") (hm : X.mg "list" = none) (he : PRg3 X e te) (na : starEach [e] X.env = (false, eval e X.env) :: starEach [] X.env := by rfl) : PE X (.Call (.Name "list" p) [e] [] pos) (tLstRg3 te) := by
  refine ⟨fun pins s σ H Q I h => ?_⟩
  refine Call_ (ld_blt I hg hm boot_list (PyProof.Rows.callWith_type1 (args_cons (thn (he pins s σ H _ I h) fun x s1 ⟨r, a, b, c, t, u, v, H1, ex, hr, I1, ok, q⟩ => args_nil ?_) na) na))
  subst ex
  obtain ⟨⟨c0, c1, c2, c3⟩, b5⟩ := ok
  refine call_list_range (n := rgN a b c) (I1.ok.hd hc) hr c2 c3 b5 fun h' tk acc c' hk e' hi => ?_
  refine ⟨.ref s1.heap.objs.size, upd H1 s1.heap.objs.size (.lst (rgV3 a b c)), I1.laid hk (Nat.le_refl _) (show ObjOk X.prog X.w _ _ _ (.lst (rgV3 a b c)) from ⟨?_, acc.toList, c', vals_rg3 hi, ?_⟩), rfl, q _ (I1.hok.fresh (Nat.le_refl _))⟩
  · unfold rgV3; rw [List.length_map, List.length_range, sizeLine_eq]; omega
  · rw [Array.toArray_toList]; exact e'
def mLrg3 (ma mb mc : ME) : ME := fun ρ => (mRange3 ma mb mc ρ).bind fun ds => if szOk ds.length = true then .ok (.lst ds) else .bad
theorem reps_rg3 {S : Sig} {H : Hp} (a b c : Int) : Reps S H (rgV3 a b c) (rangeD3 a b c) := by
  refine ⟨by unfold rgV3 rangeD3; rw [List.length_map, List.length_map], fun i x d h1 h2 => ?_⟩
  rw [rangeD3_get h2]
  unfold rgV3 at h1
  rw [List.getElem?_map] at h1
  cases q : (List.range (rgN a b c))[i]? with
  | none => rw [q] at h1; cases h1
  | some j =>
    rw [q] at h1
    have : j = i := by
      obtain ⟨h1, h2⟩ := List.getElem?_eq_some_iff.mp q
      rw [List.getElem_range] at h2
      exact h2.symm
    subst this
    have e := (Option.some.inj h1).symm
    subst e
    exact .int _
theorem rf_lrg3 (hc : X.calm = true) (hg0 : Gl X "list") (hm0 : X.mg "list" = none) (hg : Gl X "range") (hm : X.mg "range" = none) (ha : RE X W c1 a ma) (hb : RE X W c2 b mb) (hd : RE X W c3 c mc)
    (hs : starEach [a, b, c] X.env = (false, eval a X.env) :: starEach [b, c] X.env := by rfl) (hs2 : starEach [b, c] X.env = (false, eval b X.env) :: starEach [c] X.env := by rfl) (hs3 : starEach [c] X.env = (false, eval c X.env) :: starEach [] X.env := by rfl) (hpl : (backTo p2 (starEach [b, c] X.env)).any (·.1) = false := by rfl)
    (na : starEach [Expr.Call (.Name "range" p3) [a, b, c] [] p2] X.env = (false, eval (Expr.Call (.Name "range" p3) [a, b, c] [] p2) X.env) :: starEach [] X.env := by rfl) :
    RF X W (.Call (.Name "list" p) [.Call (.Name "range" p3) [a, b, c] [] p2] [] pos) (mLrg3 ma mb mc) := by
  obtain ⟨t, a1, a2⟩ := ha.ex
  obtain ⟨u, b1, b2⟩ := hb.ex
  obtain ⟨v, f1, f2⟩ := hd.ex
  refine ⟨_, pe_listRg3 hc hg0 hm0 (prg_3 hg hm (pa_cons a1 (pa_cons b1 (pa_cons f1 pa_nil hs3) hs2) hs) hs hpl) na, fun B G ρ σ H Q I nb k ke => ?_⟩
  unfold mLrg3 mRange3 at nb k ke
  refine a2 B G ρ σ H _ I (R.bad_bind (R.bad_bind nb)) (fun d e v H' x r => ?_) (fun x e => ke x (by rw [e]; rfl))
  rw [e, R.bind_ok] at nb k ke
  refine b2 B G ρ σ H' _ (I.grow x) (R.bad_bind (R.bad_bind nb)) (fun d2 e2 v2 H2 x2 r2 => ?_) (fun y e2 cls dd H2 x2 => ke y (by rw [e2]; rfl) cls dd H2 (x.trans x2))
  rw [e2, R.bind_ok] at nb k ke
  refine f2 B G ρ σ H2 _ (I.grow (x.trans x2)) (R.bad_bind (R.bad_bind nb)) (fun d3 e3 v3 H3 x3 r3 => ?_) (fun y e3 cls dd H3 x3 => ke y (by rw [e3]; rfl) cls dd H3 ((x.trans x2).trans x3))
  rw [e3, R.bind_ok] at nb k
  cases d with
  | int i =>
    cases d2 with
    | int j =>
      cases d3 with
      | int l =>
        dsimp only at nb k
        by_cases z : (farOk i && (farOk j && stepOk l)) = true
        · rw [if_pos z, R.bind_ok] at nb k
          by_cases y : szOk (rangeD3 i j l).length = true
          · rw [if_pos y] at k
            obtain ⟨z1, z2⟩ := Bool.and_eq_true_iff.mp z
            obtain ⟨z2, z3⟩ := Bool.and_eq_true_iff.mp z2
            have ev := r.full.is_int
            have eu := r2.full.is_int
            have ew := r3.full.is_int
            subst ev eu ew
            have rc := rgC_ok z1 z2 z3
            have hx : Ex H H3 := (x.trans x2).trans x3
            refine ⟨i, j, l, rfl, ⟨rc.1, rc.2.1⟩, ⟨rc, ?_⟩, fun q hq => ?_⟩
            · rw [rangeD3_len] at y
              have := of_decide_eq_true y
              omega
            · have hq0 : H q = none := by
                cases z : H q with
                | none => rfl
                | some o => rw [hx q o z] at hq; cases hq
              exact k _ rfl q (.lst (rangeD3 i j l)) _ hq0 (hx.trans (Ex.new hq)) rfl ⟨_, upd_same, reps_rg3 i j l⟩
          · rw [if_neg y] at nb; exact absurd rfl nb
        · rw [if_neg z] at nb; exact absurd rfl nb
      | _ => exact absurd rfl nb
    | _ => cases d3 <;> exact absurd rfl nb
  | _ => cases d2 <;> cases d3 <;> exact absurd rfl nb
/-- list(range(n)) -/
def mLrg1 (m : ME) : ME := fun ρ => (mRange1 m ρ).bind fun ds => if szOk ds.length = true then .ok (.lst ds) else .bad
theorem reps_rg {S : Sig} {H : Hp} (a b : Int) : Reps S H (rgV a b) (rangeD a b) := by
  refine ⟨by rw [rgV_length, rangeD_len], fun i x d h1 h2 => ?_⟩
  rw [rangeD_get h2]
  unfold rgV at h1
  rw [List.getElem?_map] at h1
  cases q : (List.range (b - a).toNat)[i]? with
  | none => rw [q] at h1; cases h1
  | some j =>
    rw [q] at h1
    have : j = i := by
      obtain ⟨h1, h2⟩ := List.getElem?_eq_some_iff.mp q
      rw [List.getElem_range] at h2
      exact h2.symm
    subst this
    have e := (Option.some.inj h1).symm
    subst e
    exact .int _
theorem rf_lrg1 (hc : X.calm = true) (hg0 : Gl X "list") (hm0 : X.mg "list" = none) (hg : Gl X "range") (hm : X.mg "range" = none) (ha : RE X W c1 a ma)
    (hs : starEach [a] X.env = (false, eval a X.env) :: starEach [] X.env := by rfl)
    (na : starEach [Expr.Call (.Name "range" p3) [a] [] p2] X.env = (false, eval (Expr.Call (.Name "range" p3) [a] [] p2) X.env) :: starEach [] X.env := by rfl) :
    RF X W (.Call (.Name "list" p) [.Call (.Name "range" p3) [a] [] p2] [] pos) (mLrg1 ma) := by
  obtain ⟨t, a1, a2⟩ := ha.ex
  refine ⟨_, pe_listRg hc hg0 hm0 (prg_1 hg hm a1 hs) na, fun B G ρ σ H Q I nb k ke => ?_⟩
  unfold mLrg1 mRange1 at nb k ke
  refine a2 B G ρ σ H _ I (R.bad_bind (R.bad_bind nb)) (fun d e v H' x r => ?_) (fun x e => ke x (by rw [e]; rfl))
  rw [e, R.bind_ok] at nb k
  cases d with
  | int n =>
    dsimp only at nb k
    by_cases z : farOk n = true
    · rw [if_pos z, R.bind_ok] at nb k
      by_cases y : szOk (rangeD 0 n).length = true
      · rw [if_pos y] at k
        have ev := r.full.is_int
        subst ev
        obtain ⟨z1, z2⟩ := farOk_of z
        rw [rangeD_len] at y
        have y := of_decide_eq_true y
        refine ⟨n, rfl, ⟨by omega, by omega, z1, z2, by omega⟩, fun q hq => ?_⟩
        have hq0 : H q = none := by
          cases z : H q with
          | none => rfl
          | some o => rw [x q o z] at hq; cases hq
        exact k _ rfl q (.lst (rangeD 0 n)) _ hq0 (x.trans (Ex.new hq)) rfl ⟨_, upd_same, reps_rg 0 n⟩
      · rw [if_neg y] at nb; exact absurd rfl nb
    · rw [if_neg z] at nb; exact absurd rfl nb
  | _ => exact absurd rfl nb
/-! ### xs.remove(k) -/
def idxOf (k : Int) : List Int → Option Nat
  | [] => none
  | a :: l => if a = k then some 0 else (idxOf k l).map (· + 1)
theorem idxOf_some {k : Int} : ∀ {l : List Int} {j : Nat}, idxOf k l = some j → l[j]? = some k ∧ ∀ m : Nat, m < j → l[m]? ≠ some k
  | [], j, h => by cases h
  | a :: l, j, h => by
    unfold idxOf at h
    by_cases z : a = k
    · rw [if_pos z] at h
      cases h
      exact ⟨by rw [z]; rfl, fun m hm => absurd hm (Nat.not_lt_zero _)⟩
    · rw [if_neg z] at h
      cases q : idxOf k l with
      | none => rw [q] at h; cases h
      | some i =>
        rw [q] at h
        have h : j = i + 1 := (Option.some.inj h).symm
        subst h
        obtain ⟨h1, h2⟩ := idxOf_some q
        refine ⟨h1, fun m hm => ?_⟩
        cases m with
        | zero => exact fun e => z (Option.some.inj e)
        | succ m => exact h2 m (by omega)
def mRem (i : Nat) (m : ME) : MS := fun ρ => match ρ[i]? with
  | some (.lst ds) => (m ρ).out ρ fun d => match d with
    | .int k => (match intsOf ds with
      | some ns => (match idxOf k ns with
        | some j => .nx (ρ.set i (.lst ((ns.eraseIdx j).map D.int)))
        | none => .bad)
      | none => .bad)
    | _ => .bad
  | _ => .bad
theorem rs_rem {i : Nat} {o : Expr} {apos cpos : Pos} (ho : PE X o (tVar i)) (he : RE X W c1 e me)
    (hbase : attributeBase o "remove" X.env (eval o X.env) = eval o X.env := by rfl)
    (hfew : ((backTo cpos (starEach [e] X.env)).all (fun x => !x.1) && (backToKw cpos (keywordEach [] X.env)).all (fun x => x.1.isSome)
      && decide (([e] : List Expr).length + ([] : List Keyword).length + (if ([] : List Keyword).isEmpty then 0 else 1) < 30)) = true := by rfl)
    (hline : (apos.endLine == cpos.line) = true := by rfl) (hs : starEach [e] X.env = (false, eval e X.env) :: starEach [] X.env := by rfl) (hplain : (backTo cpos (starEach [] X.env)).any (·.1) = false := by rfl)
    (hsw : swapsWith (.Call (.Attribute o "remove" apos) [e] [] cpos) none pos.line X.env = pure false := by rfl) : RS X W fr (.Expr (.Call (.Attribute o "remove" apos) [e] [] cpos) pos) (mRem i me) := by
  obtain ⟨t, a1, a2⟩ := he.ex
  refine ⟨_, ps_expr (pe_bm PySem.F.plainAttrs_list PySem.F.slot_list_remove PySem.F.type_list_remove mt_remove ho (pa_cons a1 pa_nil hs) hbase hfew hline hs hplain) hsw, fun B G ρ σ H E I h' => ?_⟩
  unfold mRem at h'
  cases q : ρ[i]? with
  | none => rw [q] at h'; exact h'.elim
  | some s =>
    rw [q] at h'
    cases s with
    | lst ds =>
      dsimp only at h'
      obtain ⟨p, h1, h2, h3, xs, h4, h5⟩ := I.own i _ q rfl
      refine ⟨_, h1, .inl ⟨rfl, xs, SqL.of h4⟩, ?_⟩
      refine a2 B G ρ σ H _ I (post_nb h') (fun d e v H' x r => ?_) (post_err I h')
      have hz := post_ok e h'
      cases d with
      | int k =>
        dsimp only at hz
        cases q2 : intsOf ds with
        | none => rw [q2] at hz; exact hz.elim
        | some ns =>
          rw [q2] at hz
          dsimp only at hz
          cases q3 : idxOf k ns with
          | none => rw [q3] at hz; exact hz.elim
          | some j =>
            rw [q3] at hz
            have ed := intsOf_eq q2
            subst ed
            have ex := h5.ints
            subst ex
            have ev := r.full.is_int
            subst ev
            obtain ⟨j1, j2⟩ := idxOf_some q3
            have h6 := x p _ h4
            refine ⟨p, ns, k, j, rfl, rfl, h6, j1, j2, ?_⟩
            have J := I.grow x
            exact hz G σ _ (J.write q rfl h1 rfl fun H2 ne e2 ex => ⟨(ns.eraseIdx j).map V.int, e2, Reps.of_ints _⟩) ((Fr.of_ex x).trans (fr_write h2))
      | _ => exact hz.elim
    | _ => exact h'.elim
end
end Fx

-- FxC
set_option Elab.async false
set_option linter.all false
set_option maxRecDepth 100000
set_option maxHeartbeats 2000000
/-! FxC: a comprehension over a range while an error is handled (the library's rule asks that none is). -/
namespace Fx
open PySem PySem.Spec PyProof.Rows L2 L2H
section
variable {X : Cx} {pn0 : List (Addr × Obj)} {τ : L2.St} {U : Hp} {z : Shared}
/-- the block's context with one more pin -/
abbrev withPn (Y : Cx) (p : Addr × Obj) : Cx := { Y with pn := [p] }
theorem okPn {Y : Cx} {p : Addr × Obj} (k : Y.Ok) : (withPn Y p).Ok :=
  ⟨k.mod, k.kind, k.glob, k.blt, k.above, k.inj, k.has, k.cab, k.hd, k.frames, k.stk, k.exf, k.bs, k.bsz, k.noex, k.exfs, k.funs, k.frf⟩
theorem unPn {Y : Cx} {p : Addr × Obj} (k : (withPn Y p).Ok) : Y.Ok :=
  ⟨k.mod, k.kind, k.glob, k.blt, k.above, k.inj, k.has, k.cab, k.hd, k.frames, k.stk, k.exf, k.bs, k.bsz, k.noex, k.exfs, k.funs, k.frf⟩
/-- a pin of the context as a pin of the state, and back -/
theorem pnTo {Y : Cx} {p : Addr × Obj} (hY : Y.pn = []) (J : Inv Y (p :: pn0) τ U z) : Inv (withPn Y p) pn0 τ U z :=
  ⟨okPn J.ok, J.os, J.bare, J.base, J.loc, J.cell, J.free, J.freeC, fun q hq => J.pin q (by rw [hY]; exact hq), J.hok, J.len⟩
theorem pnOf {Y : Cx} {p : Addr × Obj} (hY : Y.pn = []) (J : Inv (withPn Y p) pn0 τ U z) : Inv Y (p :: pn0) τ U z :=
  ⟨unPn J.ok, J.os, J.bare, J.base, J.loc, J.cell, J.free, J.freeC, fun q hq => J.pin q (by rw [hY] at hq; exact hq), J.hok, J.len⟩
theorem addPin {Y : Cx} {p : Addr × Obj} (J : Inv Y [] τ U z) (h1 : z.heap.get? p.1 = some p.2) (h2 : U p.1 = none) (h3 : p.1 ≠ Y.env.locals) (h4 : p.1 ∉ Y.fs) (h5 : ∀ v, p.2.data ≠ .cell v) : Inv Y [p] τ U z :=
  J.pins_of fun q hq => by
    have e : q = p := by simpa using hq
    rw [e]
    exact ⟨h1, h2, h3, h4, h5⟩
/-- what such a block does: the reading of the calm one -/
theorem lc_hot {R : VK} {elt tg iter : Expr} {ifs : List Expr} {scope : Scope} {own : List (Str × Nat)} {pos pos' : Pos} {wi : TI} {g : TG} {tt : TT} {te : TE} {use : Option (Value → Sem Unit)} {Fin : Value → Shared → Prop}
    (hot : HotC X) (ndN : X.N.Nodup) (J0 : Inv X pn0 τ U z) (rng : PIH X tg iter wi) (bk : BlkOk X.N X.env.scope scope own)
    (tgR : ∀ (y : Shared) (V : Hp) (C : Addr) (cl : List (Str × Addr)) (fp : List Addr), PG (X.blk y V scope (compEnvC scope cl C X.env) fp) tg g)
    (ifR : ∀ (y : Shared) (V : Hp) (C : Addr) (cl : List (Str × Addr)) (fp : List Addr), PTs (X.blk y V scope (compEnvC scope cl C X.env) fp) ifs tt)
    (elR : ∀ (y : Shared) (V : Hp) (C : Addr) (cl : List (Str × Addr)) (fp : List Addr), PE (X.blk y V scope (compEnvC scope cl C X.env) fp) elt te)
    (nofold : ∀ x, foldedSetIterable iter X.env x = pure x) (rd : tLc wi g tt te (own.map (·.2)) τ U R)
    (after : ∀ L C y m V, Inv X pn0 τ V y → R (.ref L) V → y.heap.Ns C m → FpOk X pn0 V C → compPost (model X.prog X.w) X.A X.xe use Fin (.ref L) C (.ok .next) y) :
    wpAny (model X.prog X.w) X.A (comprehension (.ListComp elt [⟨tg, iter, ifs, 0⟩] scope pos) scope X.env pos' (newList []) false (eval iter X.env) use) Fin X.xe z := by
  obtain ⟨p, hp1, hpX⟩ := hot
  have cells : ∀ y ∈ scope.names, y.2 = .free → ∃ c, X.env.cells.lookup y.1 = some c := by
    intro y hy e
    exact (bk.free y hy e).elim (fun k => J0.ok.has _ (.inl k)) fun k => J0.ok.has _ (.inr k)
  refine wpAny_comprehension_free (use := use) rfl nofold (closure_ok cells) bk.kind (fun y hy e => by rw [bk.uniq y hy, e]) (thn (rng.run pn0 z τ U _ J0 rd) fun _ y1 q1 => thn q1 fun _ y2 q2 => ?_)
  obtain ⟨ia, fp, at_, J, U2, rfl, J2, tu, a0, fp0, rd2⟩ := q2
  refine wpAny_newObj_type (newEnv_comp ?_) (by show 0 ≤ sizeLine; decide)
  generalize eL : y2.heap.objs.size = L
  obtain ⟨Wd, ⟨m0, w0⟩, turn⟩ := rd2 L (J2.hok.fresh (Nat.le_of_eq eL))
  generalize ey3 : ({ y2 with heap := y2.heap.push { cls := .type "list", data := .seq ([] : List Value).toArray } } : Shared) = y3
  have hy3 : y3.heap = y2.heap.push { cls := .type "list", data := .seq ([] : List Value).toArray } := by rw [← ey3]
  have J3 : Inv X pn0 τ (upd U2 L (.lst [])) y3 := by
    subst ey3
    exact J2.laid (t' := y2.toks) (fun b o e => Heap.get?_push_of_some _ e) (Nat.le_of_eq eL) ⟨Nat.zero_le _, [], 0, .nil, by rw [← eL]; exact Heap.get?_push_size _ rfl⟩
  have fp3 : ∀ b ∈ fp, FpOk X pn0 (upd U2 L (.lst [])) b ∧ b < y3.heap.objs.size := by
    intro b hb
    obtain ⟨o, eo, _⟩ := tu.obj _ _ a0 b hb
    have lt := Heap.lt_size eo
    refine ⟨⟨?_, (fp0 b hb).2⟩, by rw [hy3, Heap.size_push]; exact Nat.lt_succ_of_lt lt⟩
    rw [upd_ne (fun e => absurd (e.trans eL.symm) (Nat.ne_of_lt lt))]
    exact (fp0 b hb).1
  have a3 : at_ 0 y3.heap := tu.keep _ _ _ a0 fun b _ o e => by rw [hy3]; exact Heap.get?_push_of_some _ e
  have B0 := block_start J3 bk ndN fp3
  have P3 := J3.pin p (List.mem_append_left _ hpX)
  generalize eU3 : upd U2 L (.lst []) = U3 at J3 B0 w0 fp3 P3
  have tgB := tgR y3 U3 y3.heap.objs.size (cellsFrom (y3.heap.objs.size + 1) scope.names (cloFrom X.env.cells scope.names [])) fp
  have ifB := ifR y3 U3 y3.heap.objs.size (cellsFrom (y3.heap.objs.size + 1) scope.names (cloFrom X.env.cells scope.names [])) fp
  have elB := elR y3 U3 y3.heap.objs.size (cellsFrom (y3.heap.objs.size + 1) scope.names (cloFrom X.env.cells scope.names [])) fp
  show codeAny _ _ (.compStart (.ListComp elt [⟨tg, iter, ifs, 0⟩] scope pos) 0 (.ref ia) (.ref L) (compEnvC scope (cellsFrom (y3.heap.objs.size + 1) scope.names (cloFrom X.env.cells scope.names [])) y3.heap.objs.size X.env)) (compPost (model X.prog X.w) X.A X.xe use Fin (.ref L) y3.heap.objs.size) { y3 with heap := pushCells (y3.heap.push { cls := .type "dict", data := .dict #[] }) scope.names }
  generalize ece : compEnvC scope (cellsFrom (y3.heap.objs.size + 1) scope.names (cloFrom X.env.cells scope.names [])) y3.heap.objs.size X.env = ce at B0 tgB ifB elB ⊢
  have locC : ce.locals = y3.heap.objs.size := by rw [← ece]; rfl
  generalize ey4 : ({ y3 with heap := pushCells (y3.heap.push { cls := .type "dict", data := .dict #[] }) scope.names } : Shared) = y4 at B0 ⊢
  have kept34 : ∀ b o, y3.heap.get? b = some o → y4.heap.get? b = some o := fun b o e => by rw [← ey4]; exact pushCells_keeps _ _ _ _ (Heap.get?_push_of_some _ e)
  -- the handled error, pinned in the block
  have B1 : Inv (X.blk y3 U3 scope ce fp) [p] (wipe τ (own.map (·.2))) U3 y4 :=
    addPin B0 (kept34 _ _ P3.1) P3.2.1 (by show p.1 ≠ ce.locals; rw [locC]; exact Nat.ne_of_lt (Heap.lt_size P3.1)) (fun hm => (List.mem_cons.mp (J3.stkSub p.1 hm)).elim P3.2.2.1 P3.2.2.2.1) P3.2.2.2.2
  have fpB : ∀ {τ' : L2.St} {V : Hp} {y : Shared}, Inv (X.blk y3 U3 scope ce fp) [p] τ' V y → (∀ b ∈ fp, V b = none) → ∀ b ∈ fp, FpOk (withPn (X.blk y3 U3 scope ce fp) p) [] V b := by
    intro τ' V y K hn b hb
    refine ⟨hn b hb, (K.ok.exf b hb).1, K.ok.exfs b hb, .inl hb, fun x c e => (K.ok.exf b hb).2 x c e, fun q hq => ?_⟩
    have e : q = p := by simpa using hq
    rw [e]
    exact (fp3 b hb).1.2.2.2.2.2 p (List.mem_append_left _ hpX)
  have hotB : HotC (withPn (X.blk y3 U3 scope ce fp) p) := ⟨p, hp1, List.mem_singleton.mpr rfl⟩
  have noneB : ∀ b ∈ fp, U3 b = none := fun b hb => (fp3 b hb).1.1
  have run : codeAny (model X.prog X.w) X.A (.compLoop (.ListComp elt [⟨tg, iter, ifs, 0⟩] scope pos) 0 (.ref ia) (.ref L) ce) (compPost (model X.prog X.w) X.A X.xe use Fin (.ref L) y3.heap.objs.size) y4 := by
    refine compLoop_any (fun k y => ∃ i V, Inv (X.blk y3 U3 scope ce fp) [p] (wipe τ (own.map (·.2))) V y ∧ at_ i y.heap ∧ (∀ b ∈ fp, V b = none) ∧ Wd i k V) ?_ m0 ⟨0, U3, B1, tu.keep _ _ _ a3 (fun b _ o e => kept34 b o e), noneB, w0⟩
    rintro k y5 ⟨i, V5, K5, a5, n5, w5⟩
    rcases turn i k V5 w5 with ⟨halt, fin⟩ | ⟨go, Nx, less, next⟩
    · refine thnF (tu.done (withPn (X.blk y3 U3 scope ce fp) p) rfl rfl rfl hotB i [] y5 _ V5 (fun _ _ => False) (pnTo rfl K5) (fpB K5 n5) a5 halt) fun r y6 ⟨er, K6⟩ => ?_
      subst er
      have K6 := pnOf rfl K6
      have J6 : Inv X pn0 τ V5 y6 := J3.call' (ch := fp) K6.os K6.base K6.hok K6.bare fun b hb => ⟨(fp3 b hb).1.2.2.2.1, (fp3 b hb).1.2.1, (fp3 b hb).1.2.2.2.2.1, (fp3 b hb).1.2.2.2.2.2⟩
      have freeL : V5 y3.heap.objs.size = none := by have q : V5 ce.locals = none := K6.free; rwa [locC] at q
      obtain ⟨m, hm, _⟩ := K6.loc
      have hm : y6.heap.Ns ce.locals m := hm
      rw [locC] at hm
      exact after L y3.heap.objs.size y6 m V5 J6 fin hm (J3.fpOk (Nat.le_refl _) freeL)
    · refine thnF (tu.item (withPn (X.blk y3 U3 scope ce fp) p) rfl rfl rfl hotB i [] y5 _ V5 (fun _ _ => False) (pnTo rfl K5) (fpB K5 n5) a5 go) fun r y6 ⟨u, er, q6⟩ => ?_
      subst er
      refine thnF q6 fun _ y7 ⟨x, V7, K7, r7, yl7, a7, n7⟩ => ?_
      have K7 := pnOf rfl ((pnTo rfl (pnOf rfl K7)).pinned (fpB (pnOf rfl K7) n7) (tu.obj _ _ a7))
      refine thnF (tgB.run _ y7 _ V7 x u _ K7 r7 (next x V7 yl7)) fun _ y8 ⟨τ8, V8, K8, wp8, q8⟩ => ?_
      refine thnF (ifB.run _ y8 τ8 V8 _ K8 q8) fun b y9 ⟨V9, K9, q9⟩ => ?_
      have close : ∀ {y : Shared} {V : Hp}, Inv (X.blk y3 U3 scope ce fp) (p :: ([] ++ pinsAt fp y7.heap)) τ8 V y → Nx V → ∃ m, m < k ∧ ∃ i V, Inv (X.blk y3 U3 scope ce fp) [p] (wipe τ (own.map (·.2))) V y ∧ at_ i y.heap ∧ (∀ b ∈ fp, V b = none) ∧ Wd i m V := by
        intro y V K nx
        obtain ⟨m', lt, w'⟩ := less V nx
        have stay : ∀ b ∈ fp, ∀ o, y7.heap.get? b = some o → y.heap.get? b = some o ∧ V b = none := fun b hb o e => by
          have q := K.pin (b, o) (List.mem_append_right _ (List.mem_cons_of_mem _ (List.mem_append_right _ (mem_pinsAt hb e))))
          exact ⟨q.1, q.2.1⟩
        have K' : Inv (X.blk y3 U3 scope ce fp) [p] τ8 V y := K.pins_of fun q hq => by
          have e : q = p := by simpa using hq
          rw [e]
          exact K.pin p (List.mem_append_right _ (List.mem_cons_self ..))
        refine ⟨m', lt, i + 1, V, K'.weak (by rw [← wp8, wipe_length]) (fun j v e => ?_), tu.keep _ _ _ a7 fun b hb o e => (stay b hb o e).1, fun b hb => ?_, w'⟩
        · rw [← wp8] at e
          exact (wipe_some e).1
        · obtain ⟨o, e, _⟩ := tu.obj _ _ a7 b hb
          exact (stay b hb o e).2
      cases b with
      | false =>
        rw [if_neg Bool.false_ne_true] at q9 ⊢
        exact close K9 q9
      | true =>
        rw [if_pos rfl] at q9 ⊢
        refine thnF (elB.run _ y9 τ8 V9 _ K9 q9) fun _ y10 ⟨yv, V10, K10, r10, acc, hacc, short, nx⟩ => ?_
        exact app_ok (X := X.blk y3 U3 scope ce fp) K10 hacc short r10 fun y11 K11 => close K11 nx
  exact codeAny_compStart_list run (tu.self X.A 0 _ _ _ (tu.keep _ _ _ a3 fun b _ o e => kept34 b o e) run)
/-- name = [..], the name a local, an error handled -/
theorem ps_setLcH {i : Nat} {y : Str} {py : Pos} {elt tg iter : Expr} {ifs : List Expr} {scope : Scope} {own : List (Str × Nat)} {pos spos : Pos} {wi : TI} {g : TG} {tt : TT} {te : TE} (hot : HotC X) (ndN : X.N.Nodup) (slot : X.N[i]? = some y) (loc : X.env.scope.names.lookup y = some .local)
    (sw : swapsWith (.ListComp elt [⟨tg, iter, ifs, 0⟩] scope pos) (some (.Name y py)) spos.line X.env = pure true) (rng : PIH X tg iter wi) (bk : BlkOk X.N X.env.scope scope own)
    (tgR : ∀ (y : Shared) (V : Hp) (C : Addr) (cl : List (Str × Addr)) (fp : List Addr), PG (X.blk y V scope (compEnvC scope cl C X.env) fp) tg g)
    (ifR : ∀ (y : Shared) (V : Hp) (C : Addr) (cl : List (Str × Addr)) (fp : List Addr), PTs (X.blk y V scope (compEnvC scope cl C X.env) fp) ifs tt)
    (elR : ∀ (y : Shared) (V : Hp) (C : Addr) (cl : List (Str × Addr)) (fp : List Addr), PE (X.blk y V scope (compEnvC scope cl C X.env) fp) elt te)
    (nofold : ∀ x, foldedSetIterable iter X.env x = pure x) : PS X (.Assign [.Name y py] (.ListComp elt [⟨tg, iter, ifs, 0⟩] scope pos) spos) (tAsg (tLc wi g tt te (own.map (·.2))) (gName i)) := by
  refine ⟨fun pn z τ U D J rd => ?_⟩
  have rd : tLc wi g tt te (own.map (·.2)) τ U (fun v V => gName i v τ V D.nx) := rd
  rw [exec_Assign_Name_used _ _ _ _ sw]
  refine wpAny_bind (wpAny_standAt (wpAny_bind (wpAny_bind ?_)))
  refine thn (lc_hot (Fin := fun _ z' => SP X pn D .next z') hot ndN J rng bk tgR ifR elR nofold rd fun L C z1 m V1 J1 fin ns ⟨t0, t1, t2, t3, t4, t5⟩ => ?_) fun _ _ q => wpAny_pure (wpAny_pure q)
  show wpAny _ _ (assign (.Name y py) X.env (.ref L)) _ _ _
  refine wpAny_assign_Name (store_ok2 (v := V.ref L) J1 ndN slot (.inl loc) rfl (fun z2 J2 ⟨a, same, wh⟩ => ?_) (.inr loc))
  have apart : C ≠ a := by
    rcases wh with e | e
    · rw [e]; exact t1
    · intro q; exact t4 y a e q.symm
  exact ⟨m, ns.sameBut same apart, fun h3 same3 => ⟨_, V1, J2.turned (t' := z2.toks) (fun b o hb e => (same3.2 b hb).trans e) t0 t1 t3 t4 t5, fin⟩⟩
end
/-! ### over mirrors -/
structure RIh (X : Cx) (W : WX) (tg e : Expr) (m : MI) : Prop where
  ex : ∃ t, PIH X tg e t ∧ SndI (sg X) (pp X) W t m
section
variable {X : Cx} {W : WX} {fr : Fk} {i : Nat} {x : Str} {px p pos : Pos} {a elt iter : Expr} {ifs : List Expr} {scope : Scope} {ma : ME} {c1 : Bool} {mi : MI} {mt : MT} {me : ME}
theorem ri_range1h {tg : Expr} (hg : Gl X "range") (hm : X.mg "range" = none) (ha : RE X W c1 a ma) (hs : starEach [a] X.env = [(false, eval a X.env)] := by rfl) : RIh X W tg (.Call (.Name "range" p) [a] [] pos) (mRange1 ma) := by
  obtain ⟨t, a1, a2⟩ := ha.ex
  refine ⟨_, pi_range1H hg hm (pa_cons a1 pa_nil hs) hs, fun B G ρ σ H Q I nb k ke => ?_⟩
  unfold mRange1 at nb k ke
  refine a2 B G ρ σ H _ I (R.bad_bind nb) (fun d e v H' x r => ?_) (fun x e => ke x (by rw [e]; rfl))
  rw [e, R.bind_ok] at nb k
  cases d with
  | int n =>
    dsimp only at nb k
    by_cases z : farOk n = true
    · rw [if_pos z] at k
      have ev := r.full.is_int
      subst ev
      obtain ⟨z1, z2⟩ := farOk_of z
      have w := walk_range (S := sg X) (G := G) (H := H') 0 n
      rw [Int.sub_zero] at w
      exact ⟨n, rfl, z1, z2, k _ rfl _ H' x w⟩
    · rw [if_neg z] at nb; exact absurd rfl nb
  | _ => exact absurd rfl nb
/-- name = [..], shared at once, in a def that is called while an error is handled -/
theorem rs_setLcVh {j : Nat} {y : Str} {py spos : Pos} (hc : HotC X) (hN : X.N.Nodup) (hy : X.N[j]? = some y) (hyl : X.env.scope.names.lookup y = some .local)
    (hsw : swapsWith (.ListComp elt [⟨.Name x px, iter, ifs, 0⟩] scope pos) (some (.Name y py)) spos.line X.env = pure true) (hi : RIh X W (.Name x px) iter mi) (ok : BlkOk X.N X.env.scope scope [(x, i)])
    (hg : ∀ (s : Shared) (H : Hp) (C : Addr) (cl : List (Str × Addr)) (fp : List Addr), PG (X.blk s H scope (compEnvC scope cl C X.env) fp) (.Name x px) (gName i))
    (ht : ∀ (s : Shared) (H : Hp) (C : Addr) (cl : List (Str × Addr)) (fp : List Addr), RTs (X.blk s H scope (compEnvC scope cl C X.env) fp) noX ifs mt)
    (he : ∀ (s : Shared) (H : Hp) (C : Addr) (cl : List (Str × Addr)) (fp : List Addr), RE (X.blk s H scope (compEnvC scope cl C X.env) fp) noX true elt me) (hs : ∀ x, foldedSetIterable iter X.env x = pure x := by intro _; rfl) :
    RS X W fr (.Assign [.Name y py] (.ListComp elt [⟨.Name x px, iter, ifs, 0⟩] scope pos) spos) (mSet j (mLc i mi mt me)) := by
  obtain ⟨t, a1, a2⟩ := hi.ex
  have ht2 : ∀ (s : Shared) (H : Hp) (C : Addr) (cl : List (Str × Addr)) (fp : List Addr), PTs (X.blk s H scope (compEnvC scope cl C X.env) fp) ifs (canT (sg X) (pinP []) noX mt) := fun s H C cl fp => (ht s H C cl fp).ex
  have he2 : ∀ (s : Shared) (H : Hp) (C : Addr) (cl : List (Str × Addr)) (fp : List Addr), PE (X.blk s H scope (compEnvC scope cl C X.env) fp) elt (canE (sg X) (pinP []) noX true me) := fun s H C cl fp => (he s H C cl fp).can
  exact ⟨_, ps_setLcH hc hN hy hyl hsw a1 ok hg ht2 he2 hs, snd_set (snd_lc a2).clean⟩
theorem hotC_def {CX : CXT} {P : Program} {w : World} {K : PySem.W.Frag} {mg : Str → Option Value} {base : Heap} {N : List Str} {qual : Str} {scope : Scope} {f : Addr} {cd : Value} {A : Around} {outer : List PySem.Env} {s : Shared} {H : Hp} {E : XK} {p : Addr × Obj} (h : L2H.Hot1 A p) : HotC (L2H.cxH CX P w K mg base N qual scope f cd A outer s H E p) :=
  ⟨p, h, List.mem_singleton.mpr rfl⟩
end
end Fx

-- FxL
set_option Elab.async false
set_option linter.all false
set_option maxRecDepth 100000
set_option maxHeartbeats 2000000
/-! FxL: x in a list of ints. -/
namespace Fx
open PySem PySem.Spec PyProof.Rows L2
def gInI : D → D → Option D
  | .int k, .lst ds => (intsOf ds).map fun ns => .bl (ns.contains k)
  | .int k, .tup ds => (intsOf ds).map fun ns => .bl (ns.contains k)
  | _, _ => none
def gNotInI : D → D → Option D
  | .int k, .lst ds => (intsOf ds).map fun ns => .bl (!ns.contains k)
  | .int k, .tup ds => (intsOf ds).map fun ns => .bl (!ns.contains k)
  | _, _ => none
theorem inV_ints {k : Int} : ∀ ns : List Int, inV (.int k) (ns.map V.int) = ns.contains k
  | [] => rfl
  | a :: l => by
    show (eqV (.int a) (.int k) || inV (.int k) (l.map V.int)) = _
    rw [inV_ints l]
    show ((a == k) || l.contains k) = _
    rw [List.contains_cons]
    have e : (a == k) = (k == a) := by
      by_cases q : a = k
      · subst q; rfl
      · rw [beq_eq_false_iff_ne.mpr q, beq_eq_false_iff_ne.mpr (Ne.symm q)]
    rw [e]
theorem flat_ints : ∀ ns : List Int, (ns.map V.int).all flatV = true
  | [] => rfl
  | a :: l => by
    show (flatV (.int a) && (l.map V.int).all flatV) = true
    rw [flat_ints l]; rfl
section
variable {X : Cx}
theorem seq_of {S : Sig} {H : Hp} {c : Bool} {G : Addr → Bool} {y : V} {ds : List D} {ns : List Int} (h : RepC S H G c y (.lst ds) ∨ RepC S H G c y (.tup ds)) (e : intsOf ds = some ns) : ∃ p, y = .ref p ∧ (SqL S.K H p (ns.map V.int) ∨ SqT S.K H p (ns.map V.int)) := by
  have ed := intsOf_eq e
  subst ed
  rcases h with h | h
  · obtain ⟨p, xs, rfl, h1, h2⟩ := h.list
    have := h2.ints
    subst this
    exact ⟨p, rfl, .inl (.inl h1)⟩
  · obtain ⟨p, xs, rfl, h1, h2⟩ := h.tuple
    have := h2.ints
    subst this
    exact ⟨p, rfl, .inr (SqT.of h1)⟩
theorem opd_inI : OpD X (compareOp .In) gInI := ⟨_, op_in_seq, fun H G x y dx dy d Q gm rx ry e k => by
  cases dx with
  | int i =>
    have ex := rx.full.is_int
    subst ex
    have go : ∀ {ds : List D}, (RepC (sg X) H G false y (.lst ds) ∨ RepC (sg X) H G false y (.tup ds)) → (intsOf ds).map (fun ns => D.bl (ns.contains i)) = some d → rIn X.K false (.int i) y H Q := fun {ds} r e => by
      cases q : intsOf ds with
      | none => rw [q] at e; cases e
      | some ns =>
        rw [q] at e
        have ed := (Option.some.inj e).symm
        subst ed
        obtain ⟨p, rfl, h⟩ := seq_of r q
        refine ⟨p, _, rfl, h, rfl, flat_ints ns, ?_⟩
        rw [if_neg Bool.false_ne_true, inV_ints]
        exact k _ H (Ex.refl H) (.bl _)
    cases dy with
    | lst ds => exact go (.inl ry) e
    | tup ds => exact go (.inr ry) e
    | _ => cases e
  | _ => cases dy <;> cases e⟩
theorem opd_notInI : OpD X (compareOp .NotIn) gNotInI := ⟨_, op_notIn_seq, fun H G x y dx dy d Q gm rx ry e k => by
  cases dx with
  | int i =>
    have ex := rx.full.is_int
    subst ex
    have go : ∀ {ds : List D}, (RepC (sg X) H G false y (.lst ds) ∨ RepC (sg X) H G false y (.tup ds)) → (intsOf ds).map (fun ns => D.bl (!ns.contains i)) = some d → rIn X.K true (.int i) y H Q := fun {ds} r e => by
      cases q : intsOf ds with
      | none => rw [q] at e; cases e
      | some ns =>
        rw [q] at e
        have ed := (Option.some.inj e).symm
        subst ed
        obtain ⟨p, rfl, h⟩ := seq_of r q
        refine ⟨p, _, rfl, h, rfl, flat_ints ns, ?_⟩
        rw [if_pos rfl, inV_ints]
        exact k _ H (Ex.refl H) (.bl _)
    cases dy with
    | lst ds => exact go (.inl ry) e
    | tup ds => exact go (.inr ry) e
    | _ => cases e
  | _ => cases dy <;> cases e⟩
end
/-! ### comprehensions over own lists: nothing is changed there -/
def WalkE (S : Sig) (J : It) (G : Addr → Bool) (H1 : Hp) (ds : List D) : Prop := ∀ G' H', (∀ a, G' a = true → MutO (H' a)) → Fr G H1 G' H' → Ex H1 H' →
  (∀ i, i < ds.length → J.go i H') ∧ (∀ i, ds.length ≤ i → J.stop i H') ∧ ∀ i d x H2, ds[i]? = some d → J.yld i H' x H2 → Ex H' H2 ∧ Rep S (hid H2 G') x d
def SndIE (S : Sig) (P : PX) (W : WX) (wi : TI) (m : MI) : Prop :=
  ∀ (B : Bs) (G : Addr → Bool) (ρ : Env) (σ : L2.St) (H : Hp) (Q : It → Hp → Prop), Sts S P B G ρ σ H → m ρ ≠ .bad → (∀ ds, m ρ = .ok ds → ∀ J H', Ex H H' → WalkE S J G H' ds → Q J H') →
    (∀ x, m ρ = .err x → ∀ cls dd H', Ex H H' → RepX S (hid H' G) cls dd x → W cls dd σ H') → wi σ H Q
structure RIE (X : Cx) (W : WX) (tg e : Expr) (m : MI) : Prop where
  ex : ∃ t, PI X tg e t ∧ SndIE (sg X) (pp X) W t m
def mItemsO (i : Nat) : MI := fun ρ => match ρ[i]? with
  | some (.lst ds) => .ok ds
  | _ => .bad
theorem snd_lcE {S : Sig} {P : PX} {W : WX} {i : Nat} {wi : TI} {mi : MI} {mt : MT} {me : ME} (hi : SndIE S P W wi mi) : SndF S P W (tLc wi (gName i) (canT S (pinP []) noX mt) (canE S (pinP []) noX true me) [i]) (mLc i mi mt me) := fun B G ρ σ H Q I nb k ke => by
  unfold mLc at nb k ke
  refine hi B G ρ σ H _ I (R.bad_bind nb) (fun ds e J H1 x1 wk => ?_) (fun x e => ke x (by rw [e]; rfl))
  rw [e, R.bind_ok] at nb k
  have I1 := I.grow x1
  intro L hL
  by_cases hz : szOk ds.length = true
  rotate_left
  · rw [if_neg hz] at nb; exact absurd rfl nb
  rw [if_pos hz] at nb k
  cases hy : lcL i mt me ds ((noExc ρ).set i .no) with
  | err y => 
    exfalso
    clear nb k ke
    -- never an error
    have : ∀ (ds : List D), ∀ y, lcL i mt me ds ((noExc ρ).set i .no) ≠ .err y := by
      intro ds
      induction ds with
      | nil => intro y h; cases h
      | cons d ds ih =>
        intro y h
        unfold lcL at h
        split at h
        · split at h
          · split at h <;> cases h
          · cases h
        · exact ih y h
        · cases h
    exact this ds y hy
  | bad => rw [hy] at nb; exact absurd rfl nb
  | ok ys =>
  rw [hy] at k
  have k := k _ rfl
  have Iw : Sts S (pinP []) B G ((noExc ρ).set i .no) (wipe σ [i]) H1 := I1.noX.setNo
  have hL0 : H L = none := by
    cases z : H L with
    | none => rfl
    | some o => rw [x1 L o z] at hL; cases hL
  refine ⟨fun j m H2 => m = ds.length - j ∧ j ≤ ds.length ∧ Ex H1 H2 ∧ ∃ (acc : List V) (ad rest : List D), H2 L = some (.lst acc) ∧ Reps S (hid H2 (addG G L)) acc ad ∧ acc.length ≤ j ∧ lcL i mt me (ds.drop j) ((noExc ρ).set i .no) = .ok rest ∧ ad ++ rest = ys,
    ⟨ds.length, by rw [Nat.sub_zero], Nat.zero_le _, Ex.new hL, [], [], ys, upd_same, Reps.nil, Nat.le_refl _, hy, rfl⟩, ?_⟩
  rintro j m H2 ⟨rfl, hj, ex, acc, ad, rest, hacc, hrep, hlen, hrest, hsum⟩
  have I2 : Sts S (pinP []) B (addG G L) ((noExc ρ).set i .no) (wipe σ [i]) H2 := Iw.side ex hL hacc hrep
  have f2 : Fr G H1 (addG G L) H2 := fr_own hL ex
  obtain ⟨w1, w2, w3⟩ := wk (addG G L) H2 I2.gm f2 ex
  by_cases hlt : j < ds.length
  · refine .inr ⟨w1 j hlt, fun H3 => Ex H1 H3 ∧ ∃ (acc : List V) (ad rest : List D), H3 L = some (.lst acc) ∧ Reps S (hid H3 (addG G L)) acc ad ∧ acc.length ≤ j + 1 ∧ lcL i mt me (ds.drop (j + 1)) ((noExc ρ).set i .no) = .ok rest ∧ ad ++ rest = ys,
      fun H3 q => ⟨ds.length - (j + 1), by omega, rfl, hlt, q⟩, fun v H3 y => ?_⟩
    obtain ⟨x3, rv⟩ := w3 j _ v H3 (List.getElem?_eq_getElem hlt) y
    rw [List.drop_eq_getElem_cons hlt] at hrest
    have I3 : Sts S (pinP []) B (addG G L) (((noExc ρ).set i .no).set i (.val ds[j])) ((wipe σ [i]).set i (some v)) H3 := (I2.grow x3).setVal rv
    refine ⟨?_, ?_⟩
    · show ((σ.set i none).set i (some v)).set i none = σ.set i none
      rw [List.set_set, List.set_set]
    unfold lcL at hrest
    have keep : ∀ {H4 : Hp}, Ex H3 H4 → H4 L = some (.lst acc) := fun e4 => e4 _ _ (x3 _ _ hacc)
    have keepR : ∀ {H4 : Hp}, Ex H3 H4 → Reps S (hid H4 (addG G L)) acc ad := fun e4 => hrep.ex (hid_ex (x3.trans e4))
    refine ⟨B, addG G L, _, I3, (fun z => by rw [z] at hrest; cases hrest), fun b eb H4 x4 => ?_, (fun x ex' => by rw [ex'] at hrest; cases hrest)⟩
    rw [eb] at hrest
    cases b with
    | false =>
      rw [if_neg Bool.false_ne_true]
      exact ⟨(ex.trans x3).trans x4, acc, ad, rest, keep x4, keepR x4, Nat.le_succ_of_le hlen, hrest, hsum⟩
    | true =>
      rw [if_pos rfl]
      dsimp only at hrest
      refine ⟨B, addG G L, _, I3.grow x4, (fun z => by rw [z] at hrest; cases hrest), fun d ed u H5 x5 ru => ?_, (fun x ex' => by rw [ex'] at hrest; cases hrest)⟩
      rw [ed] at hrest
      dsimp only at hrest
      split at hrest
      · rename_i ys2 hq
        cases hrest
        refine ⟨acc, keep (x4.trans x5), Nat.lt_of_le_of_lt hlen (Nat.lt_trans hlt (szOk_lt hz)), fun a o h => ?_, acc ++ [u], ad ++ [d], ys2, upd_same, ?_, ?_, hq, ?_⟩
        · by_cases z : a = L
          · rw [z, hL] at h; cases h
          · rw [upd_ne z]
            exact (((ex.trans x3).trans x4).trans x5) a o h
        · have eh : hid (upd H5 L (.lst (acc ++ [u]))) (addG G L) = hid H5 (addG G L) := by
            funext a
            by_cases z : a = L
            · rw [hid_yes (by rw [z, addG_self]), hid_yes (by rw [z, addG_self])]
            · unfold hid
              rw [upd_ne z]
          rw [eh]
          exact (keepR (x4.trans x5)).append (.cons ru .nil)
        · rw [List.length_append]; exact Nat.succ_le_succ hlen
        · rw [List.append_assoc]; exact hsum
      · cases hrest
  · left
    have ej : j = ds.length := by omega
    subst ej
    rw [List.drop_length] at hrest
    cases hrest
    rw [List.append_nil] at hsum
    subst hsum
    exact ⟨w2 _ (Nat.le_refl _), k L (.lst ad) H2 hL0 (x1.trans ex) rfl ⟨acc, hacc, hrep⟩⟩
section
variable {X : Cx} {W : WX} {fr : Fk} {i : Nat} {x : Str} {px pos : Pos} {elt iter : Expr} {ifs : List Expr} {scope : Scope} {mi : MI} {mt : MT} {me : ME}
theorem ri_own {tg o : Expr} (ho : PE X o (tVar i)) : RIE X W tg o (mItemsO i) := by
  refine ⟨_, pi_list ho, fun B G ρ σ H Q I nb k ke => ?_⟩
  unfold mItemsO at nb k
  cases q : ρ[i]? with
  | none => rw [q] at nb; exact absurd rfl nb
  | some s =>
    rw [q] at nb k
    cases s with
    | lst ds =>
      obtain ⟨p, h1, h2, h3, xs, h4, h5⟩ := I.own i _ q rfl
      refine ⟨_, h1, p, rfl, ⟨xs, SqL.of h4⟩, k ds rfl _ H (Ex.refl H) fun G2 H2 gm f e => ?_⟩
      have qq : SqL X.K H2 p xs := SqL.of (e p _ h4)
      refine ⟨fun i hi => ?_, fun i hi => ⟨xs, qq, by rw [h5.1]; exact hi⟩, fun i d x H3 hd hy => ?_⟩
      · have hi : i < xs.length := by rw [h5.1]; exact hi
        exact ⟨xs, xs[i], qq, List.getElem?_eq_getElem hi⟩
      · obtain ⟨e1, hy⟩ := hy
        subst e1
        exact ⟨Ex.refl _, (h5.2 i x d (hy xs qq) hd).ex f.ex⟩
    | _ => exact absurd rfl nb
theorem rf_lcE (hc : X.calm = true) (hN : X.N.Nodup) (hi : RIE X W (.Name x px) iter mi) (ok : BlkOk X.N X.env.scope scope [(x, i)])
    (hg : ∀ (s : Shared) (H : Hp) (C : Addr) (cl : List (Str × Addr)) (fp : List Addr), PG (X.blk s H scope (compEnvC scope cl C X.env) fp) (.Name x px) (gName i))
    (ht : ∀ (s : Shared) (H : Hp) (C : Addr) (cl : List (Str × Addr)) (fp : List Addr), RTs (X.blk s H scope (compEnvC scope cl C X.env) fp) noX ifs mt)
    (he : ∀ (s : Shared) (H : Hp) (C : Addr) (cl : List (Str × Addr)) (fp : List Addr), RE (X.blk s H scope (compEnvC scope cl C X.env) fp) noX true elt me) (hs : ∀ x, foldedSetIterable iter X.env x = pure x := by intro _; rfl) :
    RF X W (.ListComp elt [⟨.Name x px, iter, ifs, 0⟩] scope pos) (mLc i mi mt me) := by
  obtain ⟨t, a1, a2⟩ := hi.ex
  exact ⟨_, pe_lc hc hN a1 ok hg (fun s H C cl fp => (ht s H C cl fp).ex) (fun s H C cl fp => (he s H C cl fp).can) hs, snd_lcE a2⟩
theorem rs_setLcE {j : Nat} {y : Str} {py spos : Pos} (hc : X.calm = true) (hN : X.N.Nodup) (hy : X.N[j]? = some y) (hyl : X.env.scope.names.lookup y = some .local)
    (hsw : swapsWith (.ListComp elt [⟨.Name x px, iter, ifs, 0⟩] scope pos) (some (.Name y py)) spos.line X.env = pure true) (hi : RIE X W (.Name x px) iter mi) (ok : BlkOk X.N X.env.scope scope [(x, i)])
    (hg : ∀ (s : Shared) (H : Hp) (C : Addr) (cl : List (Str × Addr)) (fp : List Addr), PG (X.blk s H scope (compEnvC scope cl C X.env) fp) (.Name x px) (gName i))
    (ht : ∀ (s : Shared) (H : Hp) (C : Addr) (cl : List (Str × Addr)) (fp : List Addr), RTs (X.blk s H scope (compEnvC scope cl C X.env) fp) noX ifs mt)
    (he : ∀ (s : Shared) (H : Hp) (C : Addr) (cl : List (Str × Addr)) (fp : List Addr), RE (X.blk s H scope (compEnvC scope cl C X.env) fp) noX true elt me) (hs : ∀ x, foldedSetIterable iter X.env x = pure x := by intro _; rfl) :
    RS X W fr (.Assign [.Name y py] (.ListComp elt [⟨.Name x px, iter, ifs, 0⟩] scope pos) spos) (mSetO j (mLc i mi mt me)) := by
  obtain ⟨t, a1, a2⟩ := hi.ex
  exact ⟨_, ps_setLc hc hN hy hyl hsw a1 ok hg (fun s H C cl fp => (ht s H C cl fp).ex) (fun s H C cl fp => (he s H C cl fp).can) hs, snd_setO (snd_lcE a2)⟩
theorem rs_setLcVE {j : Nat} {y : Str} {py spos : Pos} (hc : X.calm = true) (hN : X.N.Nodup) (hy : X.N[j]? = some y) (hyl : X.env.scope.names.lookup y = some .local)
    (hsw : swapsWith (.ListComp elt [⟨.Name x px, iter, ifs, 0⟩] scope pos) (some (.Name y py)) spos.line X.env = pure true) (hi : RIE X W (.Name x px) iter mi) (ok : BlkOk X.N X.env.scope scope [(x, i)])
    (hg : ∀ (s : Shared) (H : Hp) (C : Addr) (cl : List (Str × Addr)) (fp : List Addr), PG (X.blk s H scope (compEnvC scope cl C X.env) fp) (.Name x px) (gName i))
    (ht : ∀ (s : Shared) (H : Hp) (C : Addr) (cl : List (Str × Addr)) (fp : List Addr), RTs (X.blk s H scope (compEnvC scope cl C X.env) fp) noX ifs mt)
    (he : ∀ (s : Shared) (H : Hp) (C : Addr) (cl : List (Str × Addr)) (fp : List Addr), RE (X.blk s H scope (compEnvC scope cl C X.env) fp) noX true elt me) (hs : ∀ x, foldedSetIterable iter X.env x = pure x := by intro _; rfl) :
    RS X W fr (.Assign [.Name y py] (.ListComp elt [⟨.Name x px, iter, ifs, 0⟩] scope pos) spos) (mSet j (mLc i mi mt me)) := by
  obtain ⟨t, a1, a2⟩ := hi.ex
  exact ⟨_, ps_setLc hc hN hy hyl hsw a1 ok hg (fun s H C cl fp => (ht s H C cl fp).ex) (fun s H C cl fp => (he s H C cl fp).can) hs, snd_set (snd_lcE a2).clean⟩
end
end Fx

-- FxT
set_option Elab.async false
set_option linter.all false
set_option maxRecDepth 100000
set_option maxHeartbeats 2000000
/-! FxT: a list or a tuple as a walk. -/
namespace Fx
open PySem PySem.Spec PyProof.Rows L2
variable {X : Cx} {W : WX}
/-- what is walked is a list or a tuple -/
def mItemsS (m : ME) : MI := fun ρ => (m ρ).bind fun d => match d with
  | .lst ds => .ok ds
  | .tup ds => .ok ds
  | _ => .bad
theorem e_itemsS {m : ME} {ρ : Env} {ds : List D} (h : m ρ = .ok (.lst ds)) : mItemsS m ρ = .ok ds := by unfold mItemsS; rw [h]; rfl
theorem e_itemsS' {m : ME} {ρ : Env} {ds : List D} (h : m ρ = .ok (.tup ds)) : mItemsS m ρ = .ok ds := by unfold mItemsS; rw [h]; rfl
@[simp] theorem x_itemsS {m : ME} {ρ : Env} : mItemsS m ρ = (m ρ).bind fun d => (match d with | .lst ds => .ok ds | .tup ds => .ok ds | _ => .bad) := rfl
theorem ri_seq {tg e : Expr} {me : ME} (he : RE X W true e me) : RI X W tg e (mItemsS me) := by
  obtain ⟨t1, p1, s1⟩ := ri_list (tg := tg) he
  obtain ⟨t2, p2, s2⟩ := ri_tup (tg := tg) he
  refine ⟨fun σ H R => t1 σ H R ∨ t2 σ H R, ⟨fun pins s σ H R I h => h.elim (p1.run pins s σ H R I) (p2.run pins s σ H R I)⟩, fun B G ρ σ H Q I nb k ke => ?_⟩
  cases hm : me ρ with
  | bad => exact absurd (by unfold mItemsS; rw [hm]; rfl) nb
  | err x =>
    have e1 : mItemsS me ρ = .err x := by unfold mItemsS; rw [hm]; rfl
    have e2 : mItems me ρ = .err x := by unfold mItems; rw [hm]; rfl
    exact .inl (s1 B G ρ σ H Q I (by rw [e2]; exact fun h => nomatch h) (fun ds h => by rw [e2] at h; exact nomatch h) (fun y h => ke y (by rw [e1, ← h, e2])))
  | ok d =>
    cases d with
    | lst ds =>
      have e1 : mItemsS me ρ = .ok ds := e_itemsS hm
      have e2 : mItems me ρ = .ok ds := by unfold mItems; rw [hm]; rfl
      exact .inl (s1 B G ρ σ H Q I (by rw [e2]; exact fun h => nomatch h) (fun es h => k es (by rw [e1, ← h, e2])) (fun y h => by rw [e2] at h; exact nomatch h))
    | tup ds =>
      have e1 : mItemsS me ρ = .ok ds := e_itemsS' hm
      have e2 : mItemsT me ρ = .ok ds := by unfold mItemsT; rw [hm]; rfl
      exact .inr (s2 B G ρ σ H Q I (by rw [e2]; exact fun h => nomatch h) (fun es h => k es (by rw [e1, ← h, e2])) (fun y h => by rw [e2] at h; exact nomatch h))
    | _ => exact absurd (by unfold mItemsS; rw [hm]; rfl) nb
end Fx

-- Gk02
set_option Elab.async false
set_option linter.all false
set_option maxRecDepth 100000
set_option maxHeartbeats 4000000
namespace G
open PySem PySem.Spec PyProof.Rows L2 Fx
/-! printed by gen.py -/
abbrev kwT := List (Str × V)
structure Ft (P : Program) (K : PySem.W.Frag) (mg : Str → Option Value) : Prop where
  d_u_wall : ∃ fd, FunD K "_wall" "_wall" (defArgs (top 1)) (defBody (top 1)) (defScope (top 1)) [] [] (He.ga K "_wall") fd
  g_u_wall : mg "_wall" = some (.ref (He.ga K "_wall"))
  d_in_table : ∃ fd, FunD K "in_table" "in_table" (defArgs (top 26)) (defBody (top 26)) (defScope (top 26)) [] [] (He.ga K "in_table") fd
  g_in_table : mg "in_table" = some (.ref (He.ga K "in_table"))
  d_put_coin : ∃ fd, FunD K "put_coin" "put_coin" (defArgs (top 27)) (defBody (top 27)) (defScope (top 27)) [] [] (He.ga K "put_coin") fd
  g_put_coin : mg "put_coin" = some (.ref (He.ga K "put_coin"))
  d_table_of : ∃ fd, FunD K "table_of" "table_of" (defArgs (top 28)) (defBody (top 28)) (defScope (top 28)) [] [] (He.ga K "table_of") fd
  g_table_of : mg "table_of" = some (.ref (He.ga K "table_of"))
  d_look_number : ∃ fd, FunD K "look_number" "look_number" (defArgs (top 32)) (defBody (top 32)) (defScope (top 32)) [] [] (He.ga K "look_number") fd
  g_look_number : mg "look_number" = some (.ref (He.ga K "look_number"))
  d_look_far : ∃ fd, FunD K "look_far" "look_far" (defArgs (top 33)) (defBody (top 33)) (defScope (top 33)) [] [] (He.ga K "look_far") fd
  g_look_far : mg "look_far" = some (.ref (He.ga K "look_far"))
  d_look_list : ∃ fd, FunD K "look_list" "look_list" (defArgs (top 34)) (defBody (top 34)) (defScope (top 34)) [] [] (He.ga K "look_list") fd
  g_look_list : mg "look_list" = some (.ref (He.ga K "look_list"))
  d_look_numbers : ∃ fd, FunD K "look_numbers" "look_numbers" (defArgs (top 35)) (defBody (top 35)) (defScope (top 35)) [] [] (He.ga K "look_numbers") fd
  g_look_numbers : mg "look_numbers" = some (.ref (He.ga K "look_numbers"))
  d_Lot_has : ∃ fd, FunD K "has" "Lot.has" (defArgs (mth 43 2)) (defBody (mth 43 2)) (defScope (mth 43 2)) [] [] (He.ma K (He.ga K "Lot") "has") fd
  d_rest_table : ∃ fd, FunD K "rest_table" "rest_table" (defArgs (top 37)) (defBody (top 37)) (defScope (top 37)) [] [] (He.ga K "rest_table") fd
  g_rest_table : mg "rest_table" = some (.ref (He.ga K "rest_table"))
  d_gcd_of : ∃ fd, FunD K "gcd_of" "gcd_of" (defArgs (top 41)) (defBody (top 41)) (defScope (top 41)) [] [] (He.ga K "gcd_of") fd
  g_gcd_of : mg "gcd_of" = some (.ref (He.ga K "gcd_of"))
  d_Lot___init__ : ∃ fd, FunD K "__init__" "Lot.__init__" (defArgs (mth 43 0)) (defBody (mth 43 0)) (defScope (mth 43 0)) [] [] (He.ma K (He.ga K "Lot") "__init__") fd
  d_u_law_int : ∃ fd, FunD K "_law_int" "_law_int" (defArgs (top 45)) (defBody (top 45)) (defScope (top 45)) [] [] (He.ga K "_law_int") fd
  g_u_law_int : mg "_law_int" = some (.ref (He.ga K "_law_int"))
  d_u_law_draw : ∃ fd, FunD K "_law_draw" "_law_draw" (defArgs (top 46)) (defBody (top 46)) (defScope (top 46)) [] [] (He.ga K "_law_draw") fd
  g_u_law_draw : mg "_law_draw" = some (.ref (He.ga K "_law_draw"))
  d_u_law_error : ∃ fd, FunD K "_law_error" "_law_error" (defArgs (top 47)) (defBody (top 47)) (defScope (top 47)) [] [] (He.ga K "_law_error") fd
  g_u_law_error : mg "_law_error" = some (.ref (He.ga K "_law_error"))
  d_u_law_told : ∃ fd, FunD K "_law_told" "_law_told" (defArgs (top 48)) (defBody (top 48)) (defScope (top 48)) [] [] (He.ga K "_law_told") fd
  g_u_law_told : mg "_law_told" = some (.ref (He.ga K "_law_told"))
  d_u_law_unlike : ∃ fd, FunD K "_law_unlike" "_law_unlike" (defArgs (top 49)) (defBody (top 49)) (defScope (top 49)) [] [] (He.ga K "_law_unlike") fd
  g_u_law_unlike : mg "_law_unlike" = some (.ref (He.ga K "_law_unlike"))
  d_u_law_table : ∃ fd, FunD K "_law_table" "_law_table" (defArgs (top 50)) (defBody (top 50)) (defScope (top 50)) [] [] (He.ga K "_law_table") fd
  g_u_law_table : mg "_law_table" = some (.ref (He.ga K "_law_table"))
  d_u_law_sieve : ∃ fd, FunD K "_law_sieve" "_law_sieve" (defArgs (top 51)) (defBody (top 51)) (defScope (top 51)) [] [] (He.ga K "_law_sieve") fd
  g_u_law_sieve : mg "_law_sieve" = some (.ref (He.ga K "_law_sieve"))
  d_u_law_list : ∃ fd, FunD K "_law_list" "_law_list" (defArgs (top 52)) (defBody (top 52)) (defScope (top 52)) [] [] (He.ga K "_law_list") fd
  g_u_law_list : mg "_law_list" = some (.ref (He.ga K "_law_list"))
  d_u_law_great : ∃ fd, FunD K "_law_great" "_law_great" (defArgs (top 53)) (defBody (top 53)) (defScope (top 53)) [] [] (He.ga K "_law_great") fd
  g_u_law_great : mg "_law_great" = some (.ref (He.ga K "_law_great"))
  d_u_law_refusal : ∃ fd, FunD K "_law_refusal" "_law_refusal" (defArgs (top 54)) (defBody (top 54)) (defScope (top 54)) [] [] (He.ga K "_law_refusal") fd
  g_u_law_refusal : mg "_law_refusal" = some (.ref (He.ga K "_law_refusal"))
  d_u_law_rests : ∃ fd, FunD K "_law_rests" "_law_rests" (defArgs (top 55)) (defBody (top 55)) (defScope (top 55)) [] [] (He.ga K "_law_rests") fd
  g_u_law_rests : mg "_law_rests" = some (.ref (He.ga K "_law_rests"))
  d_u_law_ask : ∃ fd, FunD K "_law_ask" "_law_ask" (defArgs (top 56)) (defBody (top 56)) (defScope (top 56)) [] [] (He.ga K "_law_ask") fd
  g_u_law_ask : mg "_law_ask" = some (.ref (He.ga K "_law_ask"))
  d_u_law_entry : ∃ fd, FunD K "_law_entry" "_law_entry" (defArgs (top 57)) (defBody (top 57)) (defScope (top 57)) [] [] (He.ga K "_law_entry") fd
  g_u_law_entry : mg "_law_entry" = some (.ref (He.ga K "_law_entry"))
  d_u_law_right : ∃ fd, FunD K "_law_right" "_law_right" (defArgs (top 58)) (defBody (top 58)) (defScope (top 58)) [] [] (He.ga K "_law_right") fd
  g_u_law_right : mg "_law_right" = some (.ref (He.ga K "_law_right"))
  d_u_law_moduli : ∃ fd, FunD K "_law_moduli" "_law_moduli" (defArgs (top 59)) (defBody (top 59)) (defScope (top 59)) [] [] (He.ga K "_law_moduli") fd
  g_u_law_moduli : mg "_law_moduli" = some (.ref (He.ga K "_law_moduli"))
  d_law : ∃ fd, FunD K "law" "law" (defArgs (top 60)) (defBody (top 60)) (defScope (top 60)) [] [] (He.ga K "law") fd
  g_law : mg "law" = some (.ref (He.ga K "law"))
  g_Lot : mg "Lot" = some (.ref (He.ga K "Lot"))
  cl_Lot : Cls K (He.ga K "Lot")
  mk_Lot : Mk K (He.ga K "Lot") (He.ma K (He.ga K "Lot") "__init__")
  me_Lot_has : Meth K (He.ga K "Lot") "has" (He.ma K (He.ga K "Lot") "has")
  na_coins : NoAt K mg ["Lot"] "coins"
  na_size : NoAt K mg ["Lot"] "size"
  na_grain : NoAt K mg ["Lot"] "grain"
  na_least : NoAt K mg ["Lot"] "least"
  na_greatest : NoAt K mg ["Lot"] "greatest"
  na_u_table : NoAt K mg ["Lot"] "_table"
  n_ValueError : mg "ValueError" = none
  n_bool : mg "bool" = none
  n_divmod : mg "divmod" = none
  n_int : mg "int" = none
  n_isinstance : mg "isinstance" = none
  n_len : mg "len" = none
  n_list : mg "list" = none
  n_max : mg "max" = none
  n_min : mg "min" = none
  n_range : mg "range" = none
  n_set : mg "set" = none
  n_sorted : mg "sorted" = none
  n_tuple : mg "tuple" = none
  c_FAR : ∃ t, mg "FAR" = some (.int 10000000000000000000000000000000000000000 t)
  c_COIN : ∃ t, mg "COIN" = some (.int 1000000000000 t)
  gcd : mg "gcd" = some (.builtin "math.gcd")
  e_NotMade : ∃ C fI, FxEr.Txt P K mg "NotMade" C fI ["number"]
  e_NumberError : ∃ C fI, FxEr.Txt P K mg "NumberError" C fI ["number"]
  e_SizeError : ∃ C fI, FxEr.Txt P K mg "SizeError" C fI ["count"]
  e_WideError : ∃ C fI, FxEr.Txt P K mg "WideError" C fI ["number"]
  ek : ErrK K mg nms
  f_at : ∀ c ∈ nms, ∀ D, mg c = some (.ref D) → PySem.W.findIn K (.ref D) "at" = some none
  f_count : ∀ c ∈ nms, ∀ D, mg c = some (.ref D) → PySem.W.findIn K (.ref D) "count" = some none
  f_first : ∀ c ∈ nms, ∀ D, mg c = some (.ref D) → PySem.W.findIn K (.ref D) "first" = some none
  f_grain : ∀ c ∈ nms, ∀ D, mg c = some (.ref D) → PySem.W.findIn K (.ref D) "grain" = some none
  f_limit : ∀ c ∈ nms, ∀ D, mg c = some (.ref D) → PySem.W.findIn K (.ref D) "limit" = some none
  f_line : ∀ c ∈ nms, ∀ D, mg c = some (.ref D) → PySem.W.findIn K (.ref D) "line" = some none
  f_number : ∀ c ∈ nms, ∀ D, mg c = some (.ref D) → PySem.W.findIn K (.ref D) "number" = some none
  f_second : ∀ c ∈ nms, ∀ D, mg c = some (.ref D) → PySem.W.findIn K (.ref D) "second" = some none
  coinV : mg "CoinError" = some (.ref (He.ga K "CoinError"))
  coin : ∀ cn ∈ nms, ∀ D, mg cn = some (.ref D) → PySem.W.exmOne K (.ref D) (.ref (He.ga K "CoinError")) = some true
section
variable {P : Program} {w : World} {K : PySem.W.Frag} {mg : Str → Option Value} {base : Heap}
def kw_u_wall : List (Str × V) := []
def N_u_wall : List Str := ["k"]
theorem sc_u_wall : FnScope N_u_wall ["k"] (defScope (top 1)) := ⟨rfl, rfl, rfl, by decide +kernel, rfl, by decide +kernel, by decide +kernel⟩
def m_u_wall : MS :=
  (mWhile 100000 (mTru (mC (.bl true))) mNext)
def mf_u_wall : MF := mfn .val N_u_wall.length m_u_wall
theorem fn_u_wall (F : Ft P K mg) : ∃ fd, FunD K "_wall" "_wall" (defArgs (top 1)) (defBody (top 1)) (defScope (top 1)) [] kw_u_wall (He.ga K "_wall") fd ∧ FnOk P w K mg base (L2N.CX P w) 1 (He.ga K "_wall") fd ["k"] (spF ⟨K, mg⟩ .val 1 mf_u_wall) := by
  obtain ⟨fd, FD⟩ := F.d_u_wall
  refine ⟨fd, FD, fx_fn (k := 0) FD sc_u_wall fun cdv A outer s H E hr => ?_⟩
  have nd : N_u_wall.Nodup := sc_u_wall.nd
  have tk := takesF (P := P) (w := w) (K := K) (mg := mg) (base := base) (N := N_u_wall) (qual := "_wall") (scope := defScope (top 1)) (f := He.ga K "_wall") (cd := cdv) (A := A) (outer := outer) (s := s) (H := H) (E := E)
  have ps := passesF (P := P) (w := w) (K := K) (mg := mg) (base := base) (N := N_u_wall) (qual := "_wall") (scope := defScope (top 1)) (f := He.ga K "_wall") (cd := cdv) (A := A) (outer := outer) (s := s) (H := H) (E := E)
  exact (rss_one (rs_while 100000 ps (rt_tru re_bl) (rss_one rs_pass)))
theorem ok_u_wall (F : Ft P K mg) : Cl P w K mg base 1 "_wall" .val 1 mf_u_wall := by
  obtain ⟨fd, FD, h⟩ := fn_u_wall (w := w) (base := base) F
  exact ⟨_, fd, _, h, F.g_u_wall, FD.kp, FD.bindsN fun _ _ _ _ _ _ us hl => match us, hl with | [_], _ => rfl⟩

def kw_in_table : List (Str × V) := []
def N_in_table : List Str := ["table", "number", "entry"]
theorem sc_in_table : FnScope N_in_table ["table", "number"] (defScope (top 26)) := ⟨rfl, rfl, rfl, by decide +kernel, rfl, by decide +kernel, by decide +kernel⟩
def m_in_table : MS :=
  (mSeq (mSet 2 (mBin gIx (mV 0) (mBin (gI kMod) (mV 1) (mCall gLen (mCons (mV 0) mNil)))))
  (mRet (mAndV (mBin gNotN (mV 2) (mC .non)) (mBin (gI (kBl fun i j => decide (i ≤ j))) (mV 2) (mV 1)))))
def mf_in_table : MF := mfn .val N_in_table.length m_in_table
theorem fn_in_table (F : Ft P K mg) : ∃ fd, FunD K "in_table" "in_table" (defArgs (top 26)) (defBody (top 26)) (defScope (top 26)) [] kw_in_table (He.ga K "in_table") fd ∧ FnOk P w K mg base (L2N.CX P w) 1 (He.ga K "in_table") fd ["table", "number"] (spF ⟨K, mg⟩ .val 2 mf_in_table) := by
  obtain ⟨fd, FD⟩ := F.d_in_table
  refine ⟨fd, FD, fx_fn (k := 0) FD sc_in_table fun cdv A outer s H E hr => ?_⟩
  have nd : N_in_table.Nodup := sc_in_table.nd
  have tk := takesF (P := P) (w := w) (K := K) (mg := mg) (base := base) (N := N_in_table) (qual := "in_table") (scope := defScope (top 26)) (f := He.ga K "in_table") (cd := cdv) (A := A) (outer := outer) (s := s) (H := H) (E := E)
  have ps := passesF (P := P) (w := w) (K := K) (mg := mg) (base := base) (N := N_in_table) (qual := "in_table") (scope := defScope (top 26)) (f := He.ga K "in_table") (cd := cdv) (A := A) (outer := outer) (s := s) (H := H) (E := E)
  exact (rss_cons (rs_set nd rfl (by first | exact Or.inl rfl | exact Or.inr rfl) (re_ix (re_v 0) (re_bin opd_mod (re_v 1) (re_len rfl F.n_len (ra_cons (re_v 0) ra_nil)))))
    (rss_one (rs_ret (re_and (re_cmp opd_notN (re_v 2) re_non rfl) (re_one (re_cmp opd_le (re_v 2) (re_v 1) rfl))))))
theorem ok_in_table (F : Ft P K mg) : Cl P w K mg base 1 "in_table" .val 2 mf_in_table := by
  obtain ⟨fd, FD, h⟩ := fn_in_table (w := w) (base := base) F
  exact ⟨_, fd, _, h, F.g_in_table, FD.kp, FD.bindsN fun _ _ _ _ _ _ us hl => match us, hl with | [_, _], _ => rfl⟩

def kw_put_coin : List (Str × V) := []
def N_put_coin : List Str := ["table", "coin", "modulus", "told", "rings", "start", "here", "_", "there"]
theorem sc_put_coin : FnScope N_put_coin ["table", "coin"] (defScope (top 27)) := ⟨rfl, rfl, rfl, by decide +kernel, rfl, by decide +kernel, by decide +kernel⟩
def m_put_coin : MS :=
  (mSeq (mSet 2 (mCall gLen (mCons (mV 0) mNil)))
  (mSeq (mSetO 3 (mCall gList (mCons (mV 0) mNil)))
  (mSeq (mSet 4 (mCall (gII fGcd) (mCons (mV 2) (mCons (mV 1) mNil))))
  (mSeq (mFor (mRange1 (mV 4)) (gSet 5) (mSeq (mSet 6 (mV 5))
  (mFor (mRange1 (mBin (gI kDiv) (mBin (gI kMul) (mC (.int 2)) (mV 2)) (mV 4))) (gSet 7) (mSeq (mSet 8 (mBin (gI kMod) (mBin gAdd (mV 6) (mV 1)) (mV 2)))
  (mSeq (mIte (mAnd (mBool (mBin gNotN (mBin gIx (mO 3) (mV 6)) (mC .non))) (mOr (mBool (mBin gIsN (mBin gIx (mO 3) (mV 8)) (mC .non))) (mBool (mBin (gI (kBl fun i j => decide (j < i))) (mBin gIx (mO 3) (mV 8)) (mBin gAdd (mBin gIx (mO 3) (mV 6)) (mV 1)))))) (mPutL 3 (mV 8) (mBin gAdd (mBin gIx (mO 3) (mV 6)) (mV 1))) mNext)
  (mSet 6 (mV 8)))))))
  (mRetO 3)))))
def mf_put_coin : MF := mfn .val N_put_coin.length m_put_coin
theorem fn_put_coin (F : Ft P K mg) : ∃ fd, FunD K "put_coin" "put_coin" (defArgs (top 27)) (defBody (top 27)) (defScope (top 27)) [] kw_put_coin (He.ga K "put_coin") fd ∧ FnOk P w K mg base (L2N.CX P w) 1 (He.ga K "put_coin") fd ["table", "coin"] (spF ⟨K, mg⟩ .val 2 mf_put_coin) := by
  obtain ⟨fd, FD⟩ := F.d_put_coin
  refine ⟨fd, FD, fx_fn (k := 0) FD sc_put_coin fun cdv A outer s H E hr => ?_⟩
  have nd : N_put_coin.Nodup := sc_put_coin.nd
  have tk := takesF (P := P) (w := w) (K := K) (mg := mg) (base := base) (N := N_put_coin) (qual := "put_coin") (scope := defScope (top 27)) (f := He.ga K "put_coin") (cd := cdv) (A := A) (outer := outer) (s := s) (H := H) (E := E)
  have ps := passesF (P := P) (w := w) (K := K) (mg := mg) (base := base) (N := N_put_coin) (qual := "put_coin") (scope := defScope (top 27)) (f := He.ga K "put_coin") (cd := cdv) (A := A) (outer := outer) (s := s) (H := H) (E := E)
  exact (rss_cons (rs_set nd rfl (by first | exact Or.inl rfl | exact Or.inr rfl) (re_len rfl F.n_len (ra_cons (re_v 0) ra_nil)))
    (rss_cons (rs_setO nd rfl (by first | exact Or.inl rfl | exact Or.inr rfl) (rf_list rfl F.n_list (ra_cons (re_v 0) ra_nil)))
    (rss_cons (rs_set nd rfl (by first | exact Or.inl rfl | exact Or.inr rfl) (re_gcd rfl F.gcd (ra_cons (re_v 2) (ra_cons (re_v 1) ra_nil))))
    (rss_cons (rs_for ps rfl (ri_range1 rfl F.n_range (re_v 4)) (rg_name nd rfl (by first | exact Or.inl rfl | exact Or.inr rfl)) (rss_cons (rs_set nd rfl (by first | exact Or.inl rfl | exact Or.inr rfl) (re_v 5))
    (rss_one (rs_for ps rfl (ri_range1 rfl F.n_range (re_bin opd_div (re_bin opd_mul re_int (re_v 2)) (re_v 4))) (rg_name nd rfl (by first | exact Or.inl rfl | exact Or.inr rfl)) (rss_cons (rs_set nd rfl (by first | exact Or.inl rfl | exact Or.inr rfl) (re_bin opd_mod (re_bin opd_add (re_v 6) (re_v 1)) (re_v 2)))
    (rss_cons (rs_if (RW.rt (rw_and (rt_cmp opd_notN (re_ix (re_o 3) (re_v 6)) re_non rfl) (rw_and1 (RW.rt (rw_or (rt_cmp opd_isN (re_ix (re_o 3) (re_v 8)) re_non rfl) (rw_or1 (rt_cmp opd_gt (re_ix (re_o 3) (re_v 8)) (re_bin opd_add (re_ix (re_o 3) (re_v 6)) (re_v 1)) rfl))))))) (rss_one (rs_putL (pv 3) (re_v 8) (re_bin opd_add (re_ix (re_o 3) (re_v 6)) (re_v 1)))) rss_nil)
    (rss_one (rs_set nd rfl (by first | exact Or.inl rfl | exact Or.inr rfl) (re_v 8)))))))))
    (rss_one (rs_retO (pv 3)))))))
theorem ok_put_coin (F : Ft P K mg) : Cl P w K mg base 1 "put_coin" .val 2 mf_put_coin := by
  obtain ⟨fd, FD, h⟩ := fn_put_coin (w := w) (base := base) F
  exact ⟨_, fd, _, h, F.g_put_coin, FD.kp, FD.bindsN fun _ _ _ _ _ _ us hl => match us, hl with | [_, _], _ => rfl⟩

def kw_table_of : List (Str × V) := []
def N_table_of : List Str := ["coins", "modulus", "table", "coin"]
theorem sc_table_of : FnScope N_table_of ["coins", "modulus"] (defScope (top 28)) := ⟨rfl, rfl, rfl, by decide +kernel, rfl, by decide +kernel, by decide +kernel⟩
def m_table_of : MS :=
  (mSeq (mSet 2 (mBin gAdd (mLst (mCons (mC (.int 0)) mNil)) (mBin gRep (mLst (mCons (mC .non) mNil)) (mBin (gI (kInt fun i j => i - j)) (mV 1) (mC (.int 1))))))
  (mSeq (mFor (mItemsS (mV 0)) (gSet 3) (mSet 2 (mDef mf_put_coin (mCons (mV 2) (mCons (mV 3) mNil)))))
  (mRet (mV 2))))
def mf_table_of : MF := mfn .val N_table_of.length m_table_of
theorem fn_table_of (F : Ft P K mg) : ∃ fd, FunD K "table_of" "table_of" (defArgs (top 28)) (defBody (top 28)) (defScope (top 28)) [] kw_table_of (He.ga K "table_of") fd ∧ FnOk P w K mg base (L2N.CX P w) 2 (He.ga K "table_of") fd ["coins", "modulus"] (spF ⟨K, mg⟩ .val 2 mf_table_of) := by
  obtain ⟨fd, FD⟩ := F.d_table_of
  refine ⟨fd, FD, fx_fn (k := 1) FD sc_table_of fun cdv A outer s H E hr => ?_⟩
  have nd : N_table_of.Nodup := sc_table_of.nd
  have tk := takesF (P := P) (w := w) (K := K) (mg := mg) (base := base) (N := N_table_of) (qual := "table_of") (scope := defScope (top 28)) (f := He.ga K "table_of") (cd := cdv) (A := A) (outer := outer) (s := s) (H := H) (E := E)
  have ps := passesF (P := P) (w := w) (K := K) (mg := mg) (base := base) (N := N_table_of) (qual := "table_of") (scope := defScope (top 28)) (f := He.ga K "table_of") (cd := cdv) (A := A) (outer := outer) (s := s) (H := H) (E := E)
  exact (rss_cons (rs_set nd rfl (by first | exact Or.inl rfl | exact Or.inr rfl) (re_bin opd_add (RF.re (rf_lst (ra_cons re_int ra_nil))) (RF.re (rf_rep (rf_lst (ra_cons re_non ra_nil)) (re_bin opd_sub (re_v 1) re_int)))))
    (rss_cons (rs_for ps rfl (ri_seq (re_v 0)) (rg_name nd rfl (by first | exact Or.inl rfl | exact Or.inr rfl)) (rss_one (rs_set nd rfl (by first | exact Or.inl rfl | exact Or.inr rfl) (re_def (ok_put_coin F) hr (by decide) rfl tk (ra_cons (re_v 2) (ra_cons (re_v 3) ra_nil))))))
    (rss_one (rs_ret (re_v 2)))))
theorem ok_table_of (F : Ft P K mg) : Cl P w K mg base 2 "table_of" .val 2 mf_table_of := by
  obtain ⟨fd, FD, h⟩ := fn_table_of (w := w) (base := base) F
  exact ⟨_, fd, _, h, F.g_table_of, FD.kp, FD.bindsN fun _ _ _ _ _ _ us hl => match us, hl with | [_, _], _ => rfl⟩

def kw_look_number : List (Str × V) := []
def N_look_number : List Str := ["number", "low", "high"]
theorem sc_look_number : FnScope N_look_number ["number", "low", "high"] (defScope (top 32)) := ⟨rfl, rfl, rfl, by decide +kernel, rfl, by decide +kernel, by decide +kernel⟩
def m_look_number : MS :=
  (mSeq (mIte (mOr (mBool (mBin (gI (kBl fun i j => decide (i < j))) (mV 0) (mV 1))) (mBool (mBin (gI (kBl fun i j => decide (j < i))) (mV 0) (mV 2)))) (mRaise (mErr "NumberError" ["number"] (mCons (mV 0) mNil))) mNext)
  (mRet (mV 0)))
def mf_look_number : MF := mfn .val N_look_number.length m_look_number
theorem fn_look_number (F : Ft P K mg) : ∃ fd, FunD K "look_number" "look_number" (defArgs (top 32)) (defBody (top 32)) (defScope (top 32)) [] kw_look_number (He.ga K "look_number") fd ∧ FnOk P w K mg base (L2N.CX P w) 1 (He.ga K "look_number") fd ["number", "low", "high"] (spF ⟨K, mg⟩ .val 3 mf_look_number) := by
  obtain ⟨C_NumberError, I_NumberError, T_NumberError⟩ := F.e_NumberError
  obtain ⟨fd, FD⟩ := F.d_look_number
  refine ⟨fd, FD, fx_fn (k := 0) FD sc_look_number fun cdv A outer s H E hr => ?_⟩
  have nd : N_look_number.Nodup := sc_look_number.nd
  have tk := takesF (P := P) (w := w) (K := K) (mg := mg) (base := base) (N := N_look_number) (qual := "look_number") (scope := defScope (top 32)) (f := He.ga K "look_number") (cd := cdv) (A := A) (outer := outer) (s := s) (H := H) (E := E)
  have ps := passesF (P := P) (w := w) (K := K) (mg := mg) (base := base) (N := N_look_number) (qual := "look_number") (scope := defScope (top 32)) (f := He.ga K "look_number") (cd := cdv) (A := A) (outer := outer) (s := s) (H := H) (E := E)
  exact (rss_cons (rs_if (RW.rt (rw_or (rt_cmp opd_lt (re_v 0) (re_v 1) rfl) (rw_or1 (rt_cmp opd_gt (re_v 0) (re_v 2) rfl)))) (rss_one (rs_raise rfl tk (rx_err T_NumberError hr rfl (ra_cons (re_v 0) ra_nil)))) rss_nil)
    (rss_one (rs_ret (re_v 0))))
theorem ok_look_number (F : Ft P K mg) : Cl P w K mg base 1 "look_number" .val 3 mf_look_number := by
  obtain ⟨fd, FD, h⟩ := fn_look_number (w := w) (base := base) F
  exact ⟨_, fd, _, h, F.g_look_number, FD.kp, FD.bindsN fun _ _ _ _ _ _ us hl => match us, hl with | [_, _, _], _ => rfl⟩

def kw_look_far : List (Str × V) := []
def N_look_far : List Str := ["number"]
theorem sc_look_far : FnScope N_look_far ["number"] (defScope (top 33)) := ⟨rfl, rfl, rfl, by decide +kernel, rfl, by decide +kernel, by decide +kernel⟩
def m_look_far : MS :=
  (mRet (mDef mf_look_number (mCons (mV 0) (mCons (mNeg (mC (.int 10000000000000000000000000000000000000000))) (mCons (mC (.int 10000000000000000000000000000000000000000)) mNil)))))
def mf_look_far : MF := mfn .val N_look_far.length m_look_far
theorem fn_look_far (F : Ft P K mg) : ∃ fd, FunD K "look_far" "look_far" (defArgs (top 33)) (defBody (top 33)) (defScope (top 33)) [] kw_look_far (He.ga K "look_far") fd ∧ FnOk P w K mg base (L2N.CX P w) 2 (He.ga K "look_far") fd ["number"] (spF ⟨K, mg⟩ .val 1 mf_look_far) := by
  obtain ⟨t_FAR, h_FAR⟩ := F.c_FAR
  obtain ⟨fd, FD⟩ := F.d_look_far
  refine ⟨fd, FD, fx_fn (k := 1) FD sc_look_far fun cdv A outer s H E hr => ?_⟩
  have nd : N_look_far.Nodup := sc_look_far.nd
  have tk := takesF (P := P) (w := w) (K := K) (mg := mg) (base := base) (N := N_look_far) (qual := "look_far") (scope := defScope (top 33)) (f := He.ga K "look_far") (cd := cdv) (A := A) (outer := outer) (s := s) (H := H) (E := E)
  have ps := passesF (P := P) (w := w) (K := K) (mg := mg) (base := base) (N := N_look_far) (qual := "look_far") (scope := defScope (top 33)) (f := He.ga K "look_far") (cd := cdv) (A := A) (outer := outer) (s := s) (H := H) (E := E)
  exact (rss_one (rs_ret (re_def (ok_look_number F) hr (by decide) rfl tk (ra_cons (re_v 0) (ra_cons (re_neg (re_gint rfl h_FAR)) (ra_cons (re_gint rfl h_FAR) ra_nil))))))
theorem ok_look_far (F : Ft P K mg) : Cl P w K mg base 2 "look_far" .val 1 mf_look_far := by
  obtain ⟨fd, FD, h⟩ := fn_look_far (w := w) (base := base) F
  exact ⟨_, fd, _, h, F.g_look_far, FD.kp, FD.bindsN fun _ _ _ _ _ _ us hl => match us, hl with | [_], _ => rfl⟩

def kw_look_list : List (Str × V) := []
def N_look_list : List Str := ["entries", "least", "most", "kept"]
theorem sc_look_list : FnScope N_look_list ["entries", "least", "most"] (defScope (top 34)) := ⟨rfl, rfl, rfl, by decide +kernel, rfl, by decide +kernel, by decide +kernel⟩
def m_look_list : MS :=
  (mSeq (mSet 3 (mCall gList (mCons (mV 0) mNil)))
  (mSeq (mIte (mOr (mBool (mBin (gI (kBl fun i j => decide (i < j))) (mCall gLen (mCons (mV 3) mNil)) (mV 1))) (mBool (mBin (gI (kBl fun i j => decide (j < i))) (mCall gLen (mCons (mV 3) mNil)) (mV 2)))) (mRaise (mErr "SizeError" ["count"] (mCons (mCall gLen (mCons (mV 3) mNil)) mNil))) mNext)
  (mRet (mV 3))))
def mf_look_list : MF := mfn .val N_look_list.length m_look_list
theorem fn_look_list (F : Ft P K mg) : ∃ fd, FunD K "look_list" "look_list" (defArgs (top 34)) (defBody (top 34)) (defScope (top 34)) [] kw_look_list (He.ga K "look_list") fd ∧ FnOk P w K mg base (L2N.CX P w) 1 (He.ga K "look_list") fd ["entries", "least", "most"] (spF ⟨K, mg⟩ .val 3 mf_look_list) := by
  obtain ⟨C_SizeError, I_SizeError, T_SizeError⟩ := F.e_SizeError
  obtain ⟨fd, FD⟩ := F.d_look_list
  refine ⟨fd, FD, fx_fn (k := 0) FD sc_look_list fun cdv A outer s H E hr => ?_⟩
  have nd : N_look_list.Nodup := sc_look_list.nd
  have tk := takesF (P := P) (w := w) (K := K) (mg := mg) (base := base) (N := N_look_list) (qual := "look_list") (scope := defScope (top 34)) (f := He.ga K "look_list") (cd := cdv) (A := A) (outer := outer) (s := s) (H := H) (E := E)
  have ps := passesF (P := P) (w := w) (K := K) (mg := mg) (base := base) (N := N_look_list) (qual := "look_list") (scope := defScope (top 34)) (f := He.ga K "look_list") (cd := cdv) (A := A) (outer := outer) (s := s) (H := H) (E := E)
  exact (rss_cons (rs_set nd rfl (by first | exact Or.inl rfl | exact Or.inr rfl) (RF.re (rf_list rfl F.n_list (ra_cons (re_v 0) ra_nil))))
    (rss_cons (rs_if (RW.rt (rw_or (rt_cmp opd_lt (re_len rfl F.n_len (ra_cons (re_v 3) ra_nil)) (re_v 1) rfl) (rw_or1 (rt_cmp opd_gt (re_len rfl F.n_len (ra_cons (re_v 3) ra_nil)) (re_v 2) rfl)))) (rss_one (rs_raise rfl tk (rx_err T_SizeError hr rfl (ra_cons (re_len rfl F.n_len (ra_cons (re_v 3) ra_nil)) ra_nil)))) rss_nil)
    (rss_one (rs_ret (re_v 3)))))
theorem ok_look_list (F : Ft P K mg) : Cl P w K mg base 1 "look_list" .val 3 mf_look_list := by
  obtain ⟨fd, FD, h⟩ := fn_look_list (w := w) (base := base) F
  exact ⟨_, fd, _, h, F.g_look_list, FD.kp, FD.bindsN fun _ _ _ _ _ _ us hl => match us, hl with | [_, _, _], _ => rfl⟩

def kw_look_numbers : List (Str × V) := []
def N_look_numbers : List Str := ["entries", "least", "most", "low", "high", "kept", "number"]
theorem sc_look_numbers : FnScope N_look_numbers ["entries", "least", "most", "low", "high"] (defScope (top 35)) := ⟨rfl, rfl, rfl, by decide +kernel, rfl, by decide +kernel, by decide +kernel⟩
def m_look_numbers : MS :=
  (mSeq (mSet 5 (mDef mf_look_list (mCons (mV 0) (mCons (mV 1) (mCons (mV 2) mNil)))))
  (mSeq (mFor (mItems (mV 5)) (gSet 6) (mDrop (mDef mf_look_number (mCons (mV 6) (mCons (mV 3) (mCons (mV 4) mNil))))))
  (mRet (mV 5))))
def mf_look_numbers : MF := mfn .val N_look_numbers.length m_look_numbers
theorem fn_look_numbers (F : Ft P K mg) : ∃ fd, FunD K "look_numbers" "look_numbers" (defArgs (top 35)) (defBody (top 35)) (defScope (top 35)) [] kw_look_numbers (He.ga K "look_numbers") fd ∧ FnOk P w K mg base (L2N.CX P w) 2 (He.ga K "look_numbers") fd ["entries", "least", "most", "low", "high"] (spF ⟨K, mg⟩ .val 5 mf_look_numbers) := by
  obtain ⟨fd, FD⟩ := F.d_look_numbers
  refine ⟨fd, FD, fx_fn (k := 1) FD sc_look_numbers fun cdv A outer s H E hr => ?_⟩
  have nd : N_look_numbers.Nodup := sc_look_numbers.nd
  have tk := takesF (P := P) (w := w) (K := K) (mg := mg) (base := base) (N := N_look_numbers) (qual := "look_numbers") (scope := defScope (top 35)) (f := He.ga K "look_numbers") (cd := cdv) (A := A) (outer := outer) (s := s) (H := H) (E := E)
  have ps := passesF (P := P) (w := w) (K := K) (mg := mg) (base := base) (N := N_look_numbers) (qual := "look_numbers") (scope := defScope (top 35)) (f := He.ga K "look_numbers") (cd := cdv) (A := A) (outer := outer) (s := s) (H := H) (E := E)
  exact (rss_cons (rs_set nd rfl (by first | exact Or.inl rfl | exact Or.inr rfl) (re_def (ok_look_list F) hr (by decide) rfl tk (ra_cons (re_v 0) (ra_cons (re_v 1) (ra_cons (re_v 2) ra_nil)))))
    (rss_cons (rs_for ps rfl (ri_list (re_v 5)) (rg_name nd rfl (by first | exact Or.inl rfl | exact Or.inr rfl)) (rss_one (rs_expr (re_def (ok_look_number F) hr (by decide) rfl tk (ra_cons (re_v 6) (ra_cons (re_v 3) (ra_cons (re_v 4) ra_nil)))))))
    (rss_one (rs_ret (re_v 5)))))
theorem ok_look_numbers (F : Ft P K mg) : Cl P w K mg base 2 "look_numbers" .val 5 mf_look_numbers := by
  obtain ⟨fd, FD, h⟩ := fn_look_numbers (w := w) (base := base) F
  exact ⟨_, fd, _, h, F.g_look_numbers, FD.kp, FD.bindsN fun _ _ _ _ _ _ us hl => match us, hl with | [_, _, _, _, _], _ => rfl⟩

def N_Lot_has : List Str := ["self", "number"]
theorem sc_Lot_has : FnScope N_Lot_has ["self", "number"] (defScope (mth 43 2)) := ⟨rfl, rfl, rfl, by decide +kernel, rfl, by decide +kernel, by decide +kernel⟩
def m_Lot_has : MS :=
  (mSeq (mDrop (mDef mf_look_far (mCons (mV 1) mNil)))
  (mRet (mDef mf_in_table (mCons (mFd ["Lot"] "_table" (mV 0)) (mCons (mV 1) mNil)))))
def mf_Lot_has : MF := mfn .val N_Lot_has.length m_Lot_has
theorem fn_Lot_has (F : Ft P K mg) : ∃ fd, FunD K "has" "Lot.has" (defArgs (mth 43 2)) (defBody (mth 43 2)) (defScope (mth 43 2)) [] [] (He.ma K (He.ga K "Lot") "has") fd ∧ FnOk P w K mg base (L2N.CX P w) 3 (He.ma K (He.ga K "Lot") "has") fd ["self", "number"] (spF ⟨K, mg⟩ .val 2 mf_Lot_has) := by
  obtain ⟨fd, FD⟩ := F.d_Lot_has
  refine ⟨fd, FD, fx_fn (k := 2) FD sc_Lot_has fun cdv A outer s H E hr => ?_⟩
  have nd : N_Lot_has.Nodup := sc_Lot_has.nd
  have tk := takesF (P := P) (w := w) (K := K) (mg := mg) (base := base) (N := N_Lot_has) (qual := "Lot.has") (scope := defScope (mth 43 2)) (f := (He.ma K (He.ga K "Lot") "has")) (cd := cdv) (A := A) (outer := outer) (s := s) (H := H) (E := E)
  have ps := passesF (P := P) (w := w) (K := K) (mg := mg) (base := base) (N := N_Lot_has) (qual := "Lot.has") (scope := defScope (mth 43 2)) (f := (He.ma K (He.ga K "Lot") "has")) (cd := cdv) (A := A) (outer := outer) (s := s) (H := H) (E := E)
  exact (rss_cons (rs_expr (re_def (ok_look_far F) hr (by decide) rfl tk (ra_cons (re_v 1) ra_nil)))
    (rss_one (rs_ret (re_def (ok_in_table F) hr (by decide) rfl tk (ra_cons (re_fd F.na_u_table (re_v 0)) (ra_cons (re_v 1) ra_nil))))))
theorem okM_Lot_has (F : Ft P K mg) : ClM P w K mg base 3 "Lot" "has" .val 2 mf_Lot_has := by
  obtain ⟨fd, FD, h⟩ := fn_Lot_has (w := w) (base := base) F
  exact ⟨_, _, fd, _, F.g_Lot, F.cl_Lot, F.me_Lot_has, h, FD.bindsN fun _ _ _ _ _ _ us hl => match us, hl with | [_, _], _ => rfl⟩

def kw_rest_table : List (Str × V) := []
def N_rest_table : List Str := ["lot", "modulus"]
theorem sc_rest_table : FnScope N_rest_table ["lot", "modulus"] (defScope (top 37)) := ⟨rfl, rfl, rfl, by decide +kernel, rfl, by decide +kernel, by decide +kernel⟩
def m_rest_table : MS :=
  (mSeq (mDrop (mDef mf_look_number (mCons (mV 1) (mCons (mC (.int 1)) (mCons (mC (.int 400)) mNil)))))
  (mSeq (mIte (mNot (mTru (mMth "Lot" "has" mf_Lot_has (mV 0) (mCons (mV 1) mNil)))) (mRaise (mErr "NotMade" ["number"] (mCons (mV 1) mNil))) mNext)
  (mRet (mCall gTuple (mCons (mDef mf_table_of (mCons (mFd ["Lot"] "coins" (mV 0)) (mCons (mV 1) mNil))) mNil)))))
def mf_rest_table : MF := mfn .val N_rest_table.length m_rest_table
theorem fn_rest_table (F : Ft P K mg) : ∃ fd, FunD K "rest_table" "rest_table" (defArgs (top 37)) (defBody (top 37)) (defScope (top 37)) [] kw_rest_table (He.ga K "rest_table") fd ∧ FnOk P w K mg base (L2N.CX P w) 4 (He.ga K "rest_table") fd ["lot", "modulus"] (spF ⟨K, mg⟩ .val 2 mf_rest_table) := by
  obtain ⟨C_NotMade, I_NotMade, T_NotMade⟩ := F.e_NotMade
  obtain ⟨fd, FD⟩ := F.d_rest_table
  refine ⟨fd, FD, fx_fn (k := 3) FD sc_rest_table fun cdv A outer s H E hr => ?_⟩
  have nd : N_rest_table.Nodup := sc_rest_table.nd
  have tk := takesF (P := P) (w := w) (K := K) (mg := mg) (base := base) (N := N_rest_table) (qual := "rest_table") (scope := defScope (top 37)) (f := He.ga K "rest_table") (cd := cdv) (A := A) (outer := outer) (s := s) (H := H) (E := E)
  have ps := passesF (P := P) (w := w) (K := K) (mg := mg) (base := base) (N := N_rest_table) (qual := "rest_table") (scope := defScope (top 37)) (f := He.ga K "rest_table") (cd := cdv) (A := A) (outer := outer) (s := s) (H := H) (E := E)
  exact (rss_cons (rs_expr (re_def (ok_look_number F) hr (by decide) rfl tk (ra_cons (re_v 1) (ra_cons re_int (ra_cons re_int ra_nil)))))
    (rss_cons (rs_if (rt_not (rt_tru (re_mth (pl := _) (okM_Lot_has F) hr (by decide) tk (re_v 0) (ra_cons (re_v 1) ra_nil)))) (rss_one (rs_raise rfl tk (rx_err T_NotMade hr rfl (ra_cons (re_v 1) ra_nil)))) rss_nil)
    (rss_one (rs_ret (re_tuple rfl F.n_tuple (ra_cons (re_def (ok_table_of F) hr (by decide) rfl tk (ra_cons (re_fd F.na_coins (re_v 0)) (ra_cons (re_v 1) ra_nil))) ra_nil))))))
theorem ok_rest_table (F : Ft P K mg) : Cl P w K mg base 4 "rest_table" .val 2 mf_rest_table := by
  obtain ⟨fd, FD, h⟩ := fn_rest_table (w := w) (base := base) F
  exact ⟨_, fd, _, h, F.g_rest_table, FD.kp, FD.bindsN fun _ _ _ _ _ _ us hl => match us, hl with | [_, _], _ => rfl⟩

def kw_gcd_of : List (Str × V) := []
def N_gcd_of : List Str := ["numbers", "found", "number"]
theorem sc_gcd_of : FnScope N_gcd_of ["numbers"] (defScope (top 41)) := ⟨rfl, rfl, rfl, by decide +kernel, rfl, by decide +kernel, by decide +kernel⟩
def m_gcd_of : MS :=
  (mSeq (mSet 1 (mC (.int 0)))
  (mSeq (mFor (mItems (mV 0)) (gSet 2) (mSet 1 (mCall (gII fGcd) (mCons (mV 1) (mCons (mV 2) mNil)))))
  (mRet (mV 1))))
def mf_gcd_of : MF := mfn .val N_gcd_of.length m_gcd_of
theorem fn_gcd_of (F : Ft P K mg) : ∃ fd, FunD K "gcd_of" "gcd_of" (defArgs (top 41)) (defBody (top 41)) (defScope (top 41)) [] kw_gcd_of (He.ga K "gcd_of") fd ∧ FnOk P w K mg base (L2N.CX P w) 1 (He.ga K "gcd_of") fd ["numbers"] (spF ⟨K, mg⟩ .val 1 mf_gcd_of) := by
  obtain ⟨fd, FD⟩ := F.d_gcd_of
  refine ⟨fd, FD, fx_fn (k := 0) FD sc_gcd_of fun cdv A outer s H E hr => ?_⟩
  have nd : N_gcd_of.Nodup := sc_gcd_of.nd
  have tk := takesF (P := P) (w := w) (K := K) (mg := mg) (base := base) (N := N_gcd_of) (qual := "gcd_of") (scope := defScope (top 41)) (f := He.ga K "gcd_of") (cd := cdv) (A := A) (outer := outer) (s := s) (H := H) (E := E)
  have ps := passesF (P := P) (w := w) (K := K) (mg := mg) (base := base) (N := N_gcd_of) (qual := "gcd_of") (scope := defScope (top 41)) (f := He.ga K "gcd_of") (cd := cdv) (A := A) (outer := outer) (s := s) (H := H) (E := E)
  exact (rss_cons (rs_set nd rfl (by first | exact Or.inl rfl | exact Or.inr rfl) re_int)
    (rss_cons (rs_for ps rfl (ri_list (re_v 0)) (rg_name nd rfl (by first | exact Or.inl rfl | exact Or.inr rfl)) (rss_one (rs_set nd rfl (by first | exact Or.inl rfl | exact Or.inr rfl) (re_gcd rfl F.gcd (ra_cons (re_v 1) (ra_cons (re_v 2) ra_nil))))))
    (rss_one (rs_ret (re_v 1)))))
theorem ok_gcd_of (F : Ft P K mg) : Cl P w K mg base 1 "gcd_of" .val 1 mf_gcd_of := by
  obtain ⟨fd, FD, h⟩ := fn_gcd_of (w := w) (base := base) F
  exact ⟨_, fd, _, h, F.g_gcd_of, FD.kp, FD.bindsN fun _ _ _ _ _ _ us hl => match us, hl with | [_], _ => rfl⟩

def N_Lot___init__ : List Str := ["self", "coins", "unlike"]
theorem sc_Lot___init__ : FnScope N_Lot___init__ ["self", "coins"] (defScope (mth 43 0)) := ⟨rfl, rfl, rfl, by decide +kernel, rfl, by decide +kernel, by decide +kernel⟩
def m_Lot___init__ : MS :=
  (mSeq (mSet 2 (mSset (mDef mf_look_numbers (mCons (mV 1) (mCons (mC (.int 1)) (mCons (mC (.int 64)) (mCons (mC (.int 1)) (mCons (mC (.int 1000000000000)) mNil))))))))
  (mSeq (mIte (mBool (mBin (gI (kBl fun i j => decide (j < i))) (mBin gIx (mV 2) (mC (.int 0))) (mC (.int 64)))) (mRaise (mErr "WideError" ["number"] (mCons (mBin gIx (mV 2) (mC (.int 0))) mNil))) mNext)
  (mSeq (mFdS ["Lot"] 0 "coins" (mCall gTuple (mCons (mV 2) mNil)))
  (mSeq (mFdS ["Lot"] 0 "size" (mCall gLen (mCons (mV 2) mNil)))
  (mSeq (mFdS ["Lot"] 0 "grain" (mDef mf_gcd_of (mCons (mV 2) mNil)))
  (mSeq (mFdS ["Lot"] 0 "least" (mBin gIx (mV 2) (mC (.int 0))))
  (mSeq (mFdS ["Lot"] 0 "greatest" (mBin gIx (mV 2) (mNeg (mC (.int 1)))))
  (mFdS ["Lot"] 0 "_table" (mCall gTuple (mCons (mDef mf_table_of (mCons (mV 2) (mCons (mBin gIx (mV 2) (mC (.int 0))) mNil))) mNil))))))))))
def mi_Lot : MIn := mini N_Lot___init__.length "Lot" m_Lot___init__
theorem fn_Lot___init__ (F : Ft P K mg) : ∃ fd, FunD K "__init__" "Lot.__init__" (defArgs (mth 43 0)) (defBody (mth 43 0)) (defScope (mth 43 0)) [] [] (He.ma K (He.ga K "Lot") "__init__") fd ∧ FnOk P w K mg base (L2N.CX P w) 3 (He.ma K (He.ga K "Lot") "__init__") fd ["self", "coins"] (spI ⟨K, mg⟩ "Lot" 1 mi_Lot) := by
  obtain ⟨t_COIN, h_COIN⟩ := F.c_COIN
  obtain ⟨C_WideError, I_WideError, T_WideError⟩ := F.e_WideError
  obtain ⟨fd, FD⟩ := F.d_Lot___init__
  refine ⟨fd, FD, fx_init (k := 2) FD sc_Lot___init__ (by decide) rfl fun cdv A outer s H E hr => ?_⟩
  have nd : N_Lot___init__.Nodup := sc_Lot___init__.nd
  have tk := takesF (P := P) (w := w) (K := K) (mg := mg) (base := base) (N := N_Lot___init__) (qual := "Lot.__init__") (scope := defScope (mth 43 0)) (f := (He.ma K (He.ga K "Lot") "__init__")) (cd := cdv) (A := A) (outer := outer) (s := s) (H := H) (E := E)
  have ps := passesF (P := P) (w := w) (K := K) (mg := mg) (base := base) (N := N_Lot___init__) (qual := "Lot.__init__") (scope := defScope (mth 43 0)) (f := (He.ma K (He.ga K "Lot") "__init__")) (cd := cdv) (A := A) (outer := outer) (s := s) (H := H) (E := E)
  exact (rss_cons (rs_set nd rfl (by first | exact Or.inl rfl | exact Or.inr rfl) (RF.re (rf_sset rfl rfl F.n_sorted rfl F.n_set (re_def (ok_look_numbers F) hr (by decide) rfl tk (ra_cons (re_v 1) (ra_cons re_int (ra_cons re_int (ra_cons re_int (ra_cons (re_gint rfl h_COIN) ra_nil)))))))))
    (rss_cons (rs_if (rt_cmp opd_gt (re_ix (re_v 2) re_int) re_int rfl) (rss_one (rs_raise rfl tk (rx_err T_WideError hr rfl (ra_cons (re_ix (re_v 2) re_int) ra_nil)))) rss_nil)
    (rss_cons (rs_fdS F.na_coins (pv 0) (re_tuple rfl F.n_tuple (ra_cons (re_v 2) ra_nil)))
    (rss_cons (rs_fdS F.na_size (pv 0) (re_len rfl F.n_len (ra_cons (re_v 2) ra_nil)))
    (rss_cons (rs_fdS F.na_grain (pv 0) (re_def (ok_gcd_of F) hr (by decide) rfl tk (ra_cons (re_v 2) ra_nil)))
    (rss_cons (rs_fdS F.na_least (pv 0) (re_ix (re_v 2) re_int))
    (rss_cons (rs_fdS F.na_greatest (pv 0) (re_ix (re_v 2) (re_neg re_int)))
    (rss_one (rs_fdS F.na_u_table (pv 0) (re_tuple rfl F.n_tuple (ra_cons (re_def (ok_table_of F) hr (by decide) rfl tk (ra_cons (re_v 2) (ra_cons (re_ix (re_v 2) re_int) ra_nil))) ra_nil)))))))))))
theorem okI_Lot (F : Ft P K mg) : ClI P w K mg base 3 "Lot" 1 mi_Lot := by
  obtain ⟨fd, FD, h⟩ := fn_Lot___init__ (w := w) (base := base) F
  exact ⟨_, _, fd, _, F.g_Lot, F.cl_Lot, F.mk_Lot, h, FD.bindsN fun _ _ _ _ _ _ us hl => match us, hl with | [_, _], _ => rfl⟩

def kw_u_law_int : List (Str × V) := []
def N_u_law_int : List Str := ["x"]
theorem sc_u_law_int : FnScope N_u_law_int ["x"] (defScope (top 45)) := ⟨rfl, rfl, rfl, by decide +kernel, rfl, by decide +kernel, by decide +kernel⟩
def m_u_law_int : MS :=
  (mRet (mAndV (mIsi "int" (mV 0)) (mNotV (mIsi "bool" (mV 0)))))
def mf_u_law_int : MF := mfn .val N_u_law_int.length m_u_law_int
theorem fn_u_law_int (F : Ft P K mg) : ∃ fd, FunD K "_law_int" "_law_int" (defArgs (top 45)) (defBody (top 45)) (defScope (top 45)) [] kw_u_law_int (He.ga K "_law_int") fd ∧ FnOk P w K mg base (L2N.CX P w) 1 (He.ga K "_law_int") fd ["x"] (spF ⟨K, mg⟩ .val 1 mf_u_law_int) := by
  obtain ⟨fd, FD⟩ := F.d_u_law_int
  refine ⟨fd, FD, fx_fn (k := 0) FD sc_u_law_int fun cdv A outer s H E hr => ?_⟩
  have nd : N_u_law_int.Nodup := sc_u_law_int.nd
  have tk := takesF (P := P) (w := w) (K := K) (mg := mg) (base := base) (N := N_u_law_int) (qual := "_law_int") (scope := defScope (top 45)) (f := He.ga K "_law_int") (cd := cdv) (A := A) (outer := outer) (s := s) (H := H) (E := E)
  have ps := passesF (P := P) (w := w) (K := K) (mg := mg) (base := base) (N := N_u_law_int) (qual := "_law_int") (scope := defScope (top 45)) (f := He.ga K "_law_int") (cd := cdv) (A := A) (outer := outer) (s := s) (H := H) (E := E)
  exact (rss_one (rs_ret (re_and (re_isi rfl F.n_isinstance rfl F.n_int PyProof.Rows.Boot.int (by decide) (re_v 0)) (re_one (re_not (re_isi rfl F.n_isinstance rfl F.n_bool PyProof.Rows.Boot.bool (by decide) (re_v 0)))))))
theorem ok_u_law_int (F : Ft P K mg) : Cl P w K mg base 1 "_law_int" .val 1 mf_u_law_int := by
  obtain ⟨fd, FD, h⟩ := fn_u_law_int (w := w) (base := base) F
  exact ⟨_, fd, _, h, F.g_u_law_int, FD.kp, FD.bindsN fun _ _ _ _ _ _ us hl => match us, hl with | [_], _ => rfl⟩

def N_u_law_draw : List Str := ["pool", "many", "cells", "at", "rest", "digit"]
theorem sc_u_law_draw : FnScope N_u_law_draw ["pool", "many"] (defScope (top 46)) := ⟨rfl, rfl, rfl, by decide +kernel, rfl, by decide +kernel, by decide +kernel⟩
theorem ok_u_law_draw (F : Ft P K mg) : ClD1 P w K mg base 1 "_law_draw" := by
  obtain ⟨fd, FD⟩ := F.d_u_law_draw
  have nd : N_u_law_draw.Nodup := sc_u_law_draw.nd
  refine ⟨_, fd, ["pool", "many"], draw_ext rfl (FD.ok sc_u_law_draw (fun vs H Q E h => ?_) (fun cdv A outer s H vs Q E hr h => ⟨tDraw K 2, ?_, draw_read rfl rfl h⟩)), F.g_u_law_draw, FD.kp, FD.bindsN fun _ _ _ _ _ _ us hl => match us, hl with | [_, _], _ => rfl⟩
  · obtain ⟨q, c, ns, k, m, rfl, _⟩ := h
    rfl
  · exact pss_cons (ps_set nd rfl (Or.inl rfl) (pe_ix ix_seq (pv 0) pe_int (fun _ _ => rfl)))
      (pss_cons (ps_set nd rfl (Or.inl rfl) (pe_ix ix_seq (pv 0) pe_int (fun _ _ => rfl)))
      (pss_cons (ps_if (pt_cmpR op_ge (pv 3) (pe_callB call_len_seq rfl F.n_len PyProof.Rows.Boot.len (pa_cons (pv 2) pa_nil)) rfl) (pss_cons (ps_ret pe_int) pss_nil) pss_nil)
      (pss_cons (ps_asg (pe_callB call_dm rfl F.n_divmod PyProof.Rows.Boot.divmod (pa_cons (pe_ix ix_seq (pv 2) (pv 3) (fun _ _ => rfl)) (pa_cons (pv 1) pa_nil))) (pg_tup rfl (pgs_cons (pg_name nd rfl (Or.inl rfl)) (pgs_cons (pg_name nd rfl (Or.inl rfl)) pgs_nil))))
      (pss_cons (ps_asg (pv 4) (pg_sub (pv 2) (pv 3) set_list (fun _ => rfl)))
      (pss_cons (ps_if (PW.pt (pw_or (pt_cmpR op_eq (pv 4) pe_int rfl) (pw_or1 (pt_cmpR op_eq (pv 4) (pe_un un_neg pe_int) rfl)))) (pss_cons (ps_asg (pe_op op_add (pv 3) pe_int) (pg_sub (pv 0) pe_int set_list (fun _ => rfl))) pss_nil) pss_nil)
      (pss_cons (ps_ret (pv 5)) pss_nil))))))

def N_u_law_error : List Str := ["e", "flags", "held", "k"]
theorem sc_u_law_error : FnScope N_u_law_error ["e"] (defScope (top 47)) := ⟨rfl, rfl, rfl, by decide +kernel, rfl, by decide +kernel, by decide +kernel⟩
def m_u_law_error : MS :=
  (mSeq (mSet 1 (mLst (mCons (mX nms 0 fun x => .ok (.bl (x.c == "CoprimeError"))) (mCons (mX nms 0 fun x => .ok (.bl (x.c == "CrossError"))) (mCons (mX nms 0 fun x => .ok (.bl (x.c == "EditError"))) mNil)))))
  (mSeq (mSet 1 (mBin gAdd (mV 1) (mLst (mCons (mX nms 0 fun x => .ok (.bl (x.c == "FewCoins"))) (mCons (mX nms 0 fun x => .ok (.bl (x.c == "FlatError"))) mNil)))))
  (mSeq (mSet 1 (mBin gAdd (mV 1) (mLst (mCons (mX nms 0 fun x => .ok (.bl (x.c == "GrainError"))) (mCons (mX nms 0 fun x => .ok (.bl (x.c == "HistoryError"))) mNil)))))
  (mSeq (mSet 1 (mBin gAdd (mV 1) (mLst (mCons (mX nms 0 fun x => .ok (.bl (x.c == "HoleError"))) (mCons (mX nms 0 fun x => .ok (.bl (x.c == "NoCoin"))) mNil)))))
  (mSeq (mSet 1 (mBin gAdd (mV 1) (mLst (mCons (mX nms 0 fun x => .ok (.bl (x.c == "NotMade"))) (mCons (mX nms 0 fun x => .ok (.bl (x.c == "NumberError"))) mNil)))))
  (mSeq (mSet 1 (mBin gAdd (mV 1) (mLst (mCons (mX nms 0 fun x => .ok (.bl (x.c == "OtherLot"))) (mCons (mX nms 0 fun x => .ok (.bl (x.c == "PlaceError"))) mNil)))))
  (mSeq (mSet 1 (mBin gAdd (mV 1) (mLst (mCons (mX nms 0 fun x => .ok (.bl (x.c == "PointError"))) (mCons (mX nms 0 fun x => .ok (.bl (x.c == "RowError"))) mNil)))))
  (mSeq (mSet 1 (mBin gAdd (mV 1) (mLst (mCons (mX nms 0 fun x => .ok (.bl (x.c == "SizeError"))) (mCons (mX nms 0 fun x => .ok (.bl (x.c == "TextError"))) mNil)))))
  (mSeq (mSet 1 (mBin gAdd (mV 1) (mLst (mCons (mX nms 0 fun x => .ok (.bl (x.c == "TooMany"))) (mCons (mX nms 0 fun x => .ok (.bl (x.c == "TradeError"))) mNil)))))
  (mSeq (mSet 1 (mBin gAdd (mV 1) (mLst (mCons (mX nms 0 fun x => .ok (.bl (x.c == "WayError"))) (mCons (mX nms 0 fun x => .ok (.bl (x.c == "WideError"))) mNil)))))
  (mSeq (mSet 2 (mLc 3 (mRange1 (mC (.int 21))) (mTru (mBin gIx (mV 1) (mV 3))) (mV 3)))
  (mSeq (mIte (mOr (mNot (mTru (mX nms 0 fun x => .ok (.bl true)))) (mBool (mBin gNe (mCall gLen (mCons (mV 2) mNil)) (mC (.int 1))))) (mRet (mTup (mCons (mC (.str "odd")) (mCons (mC (.int 0)) mNil)))) mNext)
  (mSeq (mIte (mBool (mBin gEq (mBin gIx (mV 2) (mC (.int 0))) (mC (.int 10)))) (mRet (mTup (mCons (mC (.str "number")) (mCons (mX nms 0 fun x => R.of (x.fs.lookup ("number" : Str))) mNil)))) mNext)
  (mSeq (mIte (mBool (mBin gEq (mBin gIx (mV 2) (mC (.int 0))) (mC (.int 9)))) (mRet (mTup (mCons (mC (.str "not made")) (mCons (mX nms 0 fun x => R.of (x.fs.lookup ("number" : Str))) mNil)))) mNext)
  (mRet (mTup (mCons (mC (.str "other")) (mCons (mBin gIx (mV 2) (mC (.int 0))) mNil))))))))))))))))))
def mx_u_law_error : Exn → R D := mfnX N_u_law_error.length m_u_law_error
theorem ok_u_law_error (F : Ft P K mg) : ClX P w K mg base 1 "_law_error" mx_u_law_error := by
  obtain ⟨fd, FD⟩ := F.d_u_law_error
  refine ⟨_, fd, _, fx_fnX (k := 0) FD sc_u_law_error fun cdv A outer s H E p hot hr => ?_, F.g_u_law_error, FD.kp, FD.bindsN fun _ _ _ _ _ _ us hl => match us, hl with | [_], _ => rfl⟩
  have nd : N_u_law_error.Nodup := sc_u_law_error.nd
  have hu : (A.deeper (envOfC "_law_error" (defScope (top 47)) s.heap.objs.size (He.ga K "_law_error") cdv)).units + 64 < cLine := by have := hr.un; omega
  exact (rss_cons (rs_set nd rfl (by first | exact Or.inl rfl | exact Or.inr rfl) (RF.re (rf_lst (ra_cons (re_isE (T := "CoprimeError") F.ek (by decide) rfl rfl F.n_isinstance (pv 0)) (ra_cons (re_isE (T := "CrossError") F.ek (by decide) rfl rfl F.n_isinstance (pv 0)) (ra_cons (re_isE (T := "EditError") F.ek (by decide) rfl rfl F.n_isinstance (pv 0)) ra_nil))))))
    (rss_cons (rs_set nd rfl (by first | exact Or.inl rfl | exact Or.inr rfl) (re_bin opd_add (re_v 1) (RF.re (rf_lst (ra_cons (re_isE (T := "FewCoins") F.ek (by decide) rfl rfl F.n_isinstance (pv 0)) (ra_cons (re_isE (T := "FlatError") F.ek (by decide) rfl rfl F.n_isinstance (pv 0)) ra_nil))))))
    (rss_cons (rs_set nd rfl (by first | exact Or.inl rfl | exact Or.inr rfl) (re_bin opd_add (re_v 1) (RF.re (rf_lst (ra_cons (re_isE (T := "GrainError") F.ek (by decide) rfl rfl F.n_isinstance (pv 0)) (ra_cons (re_isE (T := "HistoryError") F.ek (by decide) rfl rfl F.n_isinstance (pv 0)) ra_nil))))))
    (rss_cons (rs_set nd rfl (by first | exact Or.inl rfl | exact Or.inr rfl) (re_bin opd_add (re_v 1) (RF.re (rf_lst (ra_cons (re_isE (T := "HoleError") F.ek (by decide) rfl rfl F.n_isinstance (pv 0)) (ra_cons (re_isE (T := "NoCoin") F.ek (by decide) rfl rfl F.n_isinstance (pv 0)) ra_nil))))))
    (rss_cons (rs_set nd rfl (by first | exact Or.inl rfl | exact Or.inr rfl) (re_bin opd_add (re_v 1) (RF.re (rf_lst (ra_cons (re_isE (T := "NotMade") F.ek (by decide) rfl rfl F.n_isinstance (pv 0)) (ra_cons (re_isE (T := "NumberError") F.ek (by decide) rfl rfl F.n_isinstance (pv 0)) ra_nil))))))
    (rss_cons (rs_set nd rfl (by first | exact Or.inl rfl | exact Or.inr rfl) (re_bin opd_add (re_v 1) (RF.re (rf_lst (ra_cons (re_isE (T := "OtherLot") F.ek (by decide) rfl rfl F.n_isinstance (pv 0)) (ra_cons (re_isE (T := "PlaceError") F.ek (by decide) rfl rfl F.n_isinstance (pv 0)) ra_nil))))))
    (rss_cons (rs_set nd rfl (by first | exact Or.inl rfl | exact Or.inr rfl) (re_bin opd_add (re_v 1) (RF.re (rf_lst (ra_cons (re_isE (T := "PointError") F.ek (by decide) rfl rfl F.n_isinstance (pv 0)) (ra_cons (re_isE (T := "RowError") F.ek (by decide) rfl rfl F.n_isinstance (pv 0)) ra_nil))))))
    (rss_cons (rs_set nd rfl (by first | exact Or.inl rfl | exact Or.inr rfl) (re_bin opd_add (re_v 1) (RF.re (rf_lst (ra_cons (re_isE (T := "SizeError") F.ek (by decide) rfl rfl F.n_isinstance (pv 0)) (ra_cons (re_isE (T := "TextError") F.ek (by decide) rfl rfl F.n_isinstance (pv 0)) ra_nil))))))
    (rss_cons (rs_set nd rfl (by first | exact Or.inl rfl | exact Or.inr rfl) (re_bin opd_add (re_v 1) (RF.re (rf_lst (ra_cons (re_isE (T := "TooMany") F.ek (by decide) rfl rfl F.n_isinstance (pv 0)) (ra_cons (re_isE (T := "TradeError") F.ek (by decide) rfl rfl F.n_isinstance (pv 0)) ra_nil))))))
    (rss_cons (rs_set nd rfl (by first | exact Or.inl rfl | exact Or.inr rfl) (re_bin opd_add (re_v 1) (RF.re (rf_lst (ra_cons (re_isE (T := "WayError") F.ek (by decide) rfl rfl F.n_isinstance (pv 0)) (ra_cons (re_isE (T := "WideError") F.ek (by decide) rfl rfl F.n_isinstance (pv 0)) ra_nil))))))
    (rss_cons (rs_setLcVh (hotC_def hot) nd rfl rfl (sw_true rfl rfl rfl rfl) (ri_range1h rfl F.n_range re_int) (blkOk_by (N := N_u_law_error) (sc := (defScope (top 47))) (by kernel_rfl)) (fun _ _ _ _ _ => pg_name nd rfl (by first | exact Or.inl rfl | exact Or.inr rfl)) (fun _ _ _ _ _ => (rts_one (rt_tru (re_ix (re_v 1) (re_v 3))))) (fun _ _ _ _ _ => (re_v 3)))
    (rss_cons (rs_if (RW.rt (rw_or (rt_not (rt_tru (re_isV F.ek rfl F.n_ValueError rfl F.n_isinstance (pv 0)))) (rw_or1 (rt_cmp (opd_ne hu) (re_len rfl F.n_len (ra_cons (re_v 2) ra_nil)) re_int rfl)))) (rss_one (rs_ret (re_tup (ra_cons re_str (ra_cons re_int ra_nil))))) rss_nil)
    (rss_cons (rs_if (rt_cmp (opd_eq hu) (re_ix (re_v 2) re_int) re_int rfl) (rss_one (rs_ret (re_tup (ra_cons re_str (ra_cons (re_fld F.ek F.f_number (pv 0)) ra_nil))))) rss_nil)
    (rss_cons (rs_if (rt_cmp (opd_eq hu) (re_ix (re_v 2) re_int) re_int rfl) (rss_one (rs_ret (re_tup (ra_cons re_str (ra_cons (re_fld F.ek F.f_number (pv 0)) ra_nil))))) rss_nil)
    (rss_one (rs_ret (re_tup (ra_cons re_str (ra_cons (re_ix (re_v 2) re_int) ra_nil)))))))))))))))))))

def kw_u_law_told : List (Str × V) := []
def N_u_law_told : List Str := ["got", "due"]
theorem sc_u_law_told : FnScope N_u_law_told ["got", "due"] (defScope (top 48)) := ⟨rfl, rfl, rfl, by decide +kernel, rfl, by decide +kernel, by decide +kernel⟩
def m_u_law_told : MS :=
  (mSeq (mIte (mOr (mBool (mBin gIsN (mV 0) (mC .non))) (mBool (mBin gNe (mBin gIx (mV 0) (mC (.int 0))) (mBin gIx (mV 1) (mC (.int 0)))))) (mRet (mC (.bl false))) mNext)
  (mRet (mAndV (mDef mf_u_law_int (mCons (mBin gIx (mV 0) (mC (.int 1))) mNil)) (mBin gEq (mBin gIx (mV 0) (mC (.int 1))) (mBin gIx (mV 1) (mC (.int 1)))))))
def mf_u_law_told : MF := mfn .val N_u_law_told.length m_u_law_told
theorem fn_u_law_told (F : Ft P K mg) : ∃ fd, FunD K "_law_told" "_law_told" (defArgs (top 48)) (defBody (top 48)) (defScope (top 48)) [] kw_u_law_told (He.ga K "_law_told") fd ∧ FnOk P w K mg base (L2N.CX P w) 2 (He.ga K "_law_told") fd ["got", "due"] (spF ⟨K, mg⟩ .val 2 mf_u_law_told) := by
  obtain ⟨fd, FD⟩ := F.d_u_law_told
  refine ⟨fd, FD, fx_fn (k := 1) FD sc_u_law_told fun cdv A outer s H E hr => ?_⟩
  have nd : N_u_law_told.Nodup := sc_u_law_told.nd
  have tk := takesF (P := P) (w := w) (K := K) (mg := mg) (base := base) (N := N_u_law_told) (qual := "_law_told") (scope := defScope (top 48)) (f := He.ga K "_law_told") (cd := cdv) (A := A) (outer := outer) (s := s) (H := H) (E := E)
  have ps := passesF (P := P) (w := w) (K := K) (mg := mg) (base := base) (N := N_u_law_told) (qual := "_law_told") (scope := defScope (top 48)) (f := He.ga K "_law_told") (cd := cdv) (A := A) (outer := outer) (s := s) (H := H) (E := E)
  exact (rss_cons (rs_if (RW.rt (rw_or (rt_cmp opd_isN (re_v 0) re_non rfl) (rw_or1 (rt_cmp (opd_ne hr.units) (re_ix (re_v 0) re_int) (re_ix (re_v 1) re_int) rfl)))) (rss_one (rs_ret re_bl)) rss_nil)
    (rss_one (rs_ret (re_and (re_def (ok_u_law_int F) hr (by decide) rfl tk (ra_cons (re_ix (re_v 0) re_int) ra_nil)) (re_one (re_cmp (opd_eq hr.units) (re_ix (re_v 0) re_int) (re_ix (re_v 1) re_int) rfl))))))
theorem ok_u_law_told (F : Ft P K mg) : Cl P w K mg base 2 "_law_told" .val 2 mf_u_law_told := by
  obtain ⟨fd, FD, h⟩ := fn_u_law_told (w := w) (base := base) F
  exact ⟨_, fd, _, h, F.g_u_law_told, FD.kp, FD.bindsN fun _ _ _ _ _ _ us hl => match us, hl with | [_, _], _ => rfl⟩

def kw_u_law_unlike : List (Str × V) := []
def N_u_law_unlike : List Str := ["coins", "row", "coin"]
theorem sc_u_law_unlike : FnScope N_u_law_unlike ["coins"] (defScope (top 49)) := ⟨rfl, rfl, rfl, by decide +kernel, rfl, by decide +kernel, by decide +kernel⟩
def m_u_law_unlike : MS :=
  (mSeq (mSetO 1 (mLst mNil))
  (mSeq (mFor (mItems (mCall gSorted (mCons (mV 0) mNil))) (gSet 2) (mIte (mBool (mBin gNotInI (mV 2) (mO 1))) (mApp 1 (mV 2)) mNext))
  (mRetO 1)))
def mf_u_law_unlike : MF := mfn .val N_u_law_unlike.length m_u_law_unlike
theorem fn_u_law_unlike (F : Ft P K mg) : ∃ fd, FunD K "_law_unlike" "_law_unlike" (defArgs (top 49)) (defBody (top 49)) (defScope (top 49)) [] kw_u_law_unlike (He.ga K "_law_unlike") fd ∧ FnOk P w K mg base (L2N.CX P w) 1 (He.ga K "_law_unlike") fd ["coins"] (spF ⟨K, mg⟩ .val 1 mf_u_law_unlike) := by
  obtain ⟨fd, FD⟩ := F.d_u_law_unlike
  refine ⟨fd, FD, fx_fn (k := 0) FD sc_u_law_unlike fun cdv A outer s H E hr => ?_⟩
  have nd : N_u_law_unlike.Nodup := sc_u_law_unlike.nd
  have tk := takesF (P := P) (w := w) (K := K) (mg := mg) (base := base) (N := N_u_law_unlike) (qual := "_law_unlike") (scope := defScope (top 49)) (f := He.ga K "_law_unlike") (cd := cdv) (A := A) (outer := outer) (s := s) (H := H) (E := E)
  have ps := passesF (P := P) (w := w) (K := K) (mg := mg) (base := base) (N := N_u_law_unlike) (qual := "_law_unlike") (scope := defScope (top 49)) (f := He.ga K "_law_unlike") (cd := cdv) (A := A) (outer := outer) (s := s) (H := H) (E := E)
  exact (rss_cons (rs_setO nd rfl (by first | exact Or.inl rfl | exact Or.inr rfl) (rf_lst ra_nil))
    (rss_cons (rs_for ps rfl (ri_list (RF.re (rf_sorted rfl F.n_sorted (ra_cons (re_v 0) ra_nil)))) (rg_name nd rfl (by first | exact Or.inl rfl | exact Or.inr rfl)) (rss_one (rs_if (rt_cmp opd_notInI (re_v 2) (re_o 1) rfl) (rss_one (rs_app (pv 1) (re_v 2))) rss_nil)))
    (rss_one (rs_retO (pv 1)))))
theorem ok_u_law_unlike (F : Ft P K mg) : Cl P w K mg base 1 "_law_unlike" .val 1 mf_u_law_unlike := by
  obtain ⟨fd, FD, h⟩ := fn_u_law_unlike (w := w) (base := base) F
  exact ⟨_, fd, _, h, F.g_u_law_unlike, FD.kp, FD.bindsN fun _ _ _ _ _ _ us hl => match us, hl with | [_], _ => rfl⟩

def kw_u_law_table : List (Str × V) := []
def N_u_law_table : List Str := ["coins", "modulus", "sums", "left", "turn", "known", "best", "r", "coin", "there"]
theorem sc_u_law_table : FnScope N_u_law_table ["coins", "modulus"] (defScope (top 50)) := ⟨rfl, rfl, rfl, by decide +kernel, rfl, by decide +kernel, by decide +kernel⟩
def m_u_law_table : MS :=
  (mSeq (mSetO 2 (mBin gRep (mLst (mCons (mC .non) mNil)) (mV 1)))
  (mSeq (mPutL 2 (mC (.int 0)) (mC (.int 0)))
  (mSeq (mSetO 3 (mLrg1 (mV 1)))
  (mSeq (mFor (mRange1 (mV 1)) (gSet 4) (mSeq (mSet 5 (mLc 7 (mItemsO 3) (mBool (mBin gNotN (mBin gIx (mO 2) (mV 7)) (mC .non))) (mV 7)))
  (mSeq (mIte (mBool (mBin gEq (mV 5) (mLst mNil))) mBreak mNext)
  (mSeq (mSet 6 (mBin gIx (mV 5) (mC (.int 0))))
  (mSeq (mFor (mItems (mV 5)) (gSet 7) (mIte (mBool (mBin (gI (kBl fun i j => decide (i < j))) (mBin gIx (mO 2) (mV 7)) (mBin gIx (mO 2) (mV 6)))) (mSet 6 (mV 7)) mNext))
  (mSeq (mRem 3 (mV 6))
  (mFor (mItems (mV 0)) (gSet 8) (mSeq (mSet 9 (mBin (gI kMod) (mBin gAdd (mV 6) (mV 8)) (mV 1)))
  (mIte (mOr (mBool (mBin gIsN (mBin gIx (mO 2) (mV 9)) (mC .non))) (mBool (mBin (gI (kBl fun i j => decide (j < i))) (mBin gIx (mO 2) (mV 9)) (mBin gAdd (mBin gIx (mO 2) (mV 6)) (mV 8))))) (mPutL 2 (mV 9) (mBin gAdd (mBin gIx (mO 2) (mV 6)) (mV 8))) mNext)))))))))
  (mRetO 2)))))
def mf_u_law_table : MF := mfn .val N_u_law_table.length m_u_law_table
theorem fn_u_law_table (F : Ft P K mg) : ∃ fd, FunD K "_law_table" "_law_table" (defArgs (top 50)) (defBody (top 50)) (defScope (top 50)) [] kw_u_law_table (He.ga K "_law_table") fd ∧ FnOk P w K mg base (L2N.CX P w) 1 (He.ga K "_law_table") fd ["coins", "modulus"] (spF ⟨K, mg⟩ .val 2 mf_u_law_table) := by
  obtain ⟨fd, FD⟩ := F.d_u_law_table
  refine ⟨fd, FD, fx_fn (k := 0) FD sc_u_law_table fun cdv A outer s H E hr => ?_⟩
  have nd : N_u_law_table.Nodup := sc_u_law_table.nd
  have tk := takesF (P := P) (w := w) (K := K) (mg := mg) (base := base) (N := N_u_law_table) (qual := "_law_table") (scope := defScope (top 50)) (f := He.ga K "_law_table") (cd := cdv) (A := A) (outer := outer) (s := s) (H := H) (E := E)
  have ps := passesF (P := P) (w := w) (K := K) (mg := mg) (base := base) (N := N_u_law_table) (qual := "_law_table") (scope := defScope (top 50)) (f := He.ga K "_law_table") (cd := cdv) (A := A) (outer := outer) (s := s) (H := H) (E := E)
  exact (rss_cons (rs_setO nd rfl (by first | exact Or.inl rfl | exact Or.inr rfl) (rf_rep (rf_lst (ra_cons re_non ra_nil)) (re_v 1)))
    (rss_cons (rs_putL (pv 2) re_int re_int)
    (rss_cons (rs_setO nd rfl (by first | exact Or.inl rfl | exact Or.inr rfl) (rf_lrg1 rfl rfl F.n_list rfl F.n_range (re_v 1)))
    (rss_cons (rs_for ps rfl (ri_range1 rfl F.n_range (re_v 1)) (rg_name nd rfl (by first | exact Or.inl rfl | exact Or.inr rfl)) (rss_cons (rs_setLcVE rfl nd rfl rfl (sw_true rfl rfl rfl rfl) (ri_own (pv 3)) (blkOk_by (N := N_u_law_table) (sc := (defScope (top 50))) (by kernel_rfl)) (fun _ _ _ _ _ => pg_name nd rfl (by first | exact Or.inl rfl | exact Or.inr rfl)) (fun _ _ _ _ _ => (rts_one (rt_cmp opd_notN (re_ix (re_o 2) (re_v 7)) re_non rfl))) (fun _ _ _ _ _ => (re_v 7)))
    (rss_cons (rs_if (rt_cmp (opd_eq hr.units) (re_v 5) (RF.re (rf_lst ra_nil)) rfl) (rss_one rs_break) rss_nil)
    (rss_cons (rs_set nd rfl (by first | exact Or.inl rfl | exact Or.inr rfl) (re_ix (re_v 5) re_int))
    (rss_cons (rs_for ps rfl (ri_list (re_v 5)) (rg_name nd rfl (by first | exact Or.inl rfl | exact Or.inr rfl)) (rss_one (rs_if (rt_cmp opd_lt (re_ix (re_o 2) (re_v 7)) (re_ix (re_o 2) (re_v 6)) rfl) (rss_one (rs_set nd rfl (by first | exact Or.inl rfl | exact Or.inr rfl) (re_v 7))) rss_nil)))
    (rss_cons (rs_rem (pv 3) (re_v 6))
    (rss_one (rs_for ps rfl (ri_list (re_v 0)) (rg_name nd rfl (by first | exact Or.inl rfl | exact Or.inr rfl)) (rss_cons (rs_set nd rfl (by first | exact Or.inl rfl | exact Or.inr rfl) (re_bin opd_mod (re_bin opd_add (re_v 6) (re_v 8)) (re_v 1)))
    (rss_one (rs_if (RW.rt (rw_or (rt_cmp opd_isN (re_ix (re_o 2) (re_v 9)) re_non rfl) (rw_or1 (rt_cmp opd_gt (re_ix (re_o 2) (re_v 9)) (re_bin opd_add (re_ix (re_o 2) (re_v 6)) (re_v 8)) rfl)))) (rss_one (rs_putL (pv 2) (re_v 9) (re_bin opd_add (re_ix (re_o 2) (re_v 6)) (re_v 8)))) rss_nil)))))))))))
    (rss_one (rs_retO (pv 2)))))))
theorem ok_u_law_table (F : Ft P K mg) : Cl P w K mg base 1 "_law_table" .val 2 mf_u_law_table := by
  obtain ⟨fd, FD, h⟩ := fn_u_law_table (w := w) (base := base) F
  exact ⟨_, fd, _, h, F.g_u_law_table, FD.kp, FD.bindsN fun _ _ _ _ _ _ us hl => match us, hl with | [_, _], _ => rfl⟩

def kw_u_law_sieve : List (Str × V) := []
def N_u_law_sieve : List Str := ["coins", "last", "flags", "number", "coin"]
theorem sc_u_law_sieve : FnScope N_u_law_sieve ["coins", "last"] (defScope (top 51)) := ⟨rfl, rfl, rfl, by decide +kernel, rfl, by decide +kernel, by decide +kernel⟩
def m_u_law_sieve : MS :=
  (mSeq (mSetO 2 (mBin gCat (mLst (mCons (mC (.bl true)) mNil)) (mBin gRep (mLst (mCons (mC (.bl false)) mNil)) (mV 1))))
  (mSeq (mFor (mRange2 (mC (.int 1)) (mBin gAdd (mV 1) (mC (.int 1)))) (gSet 3) (mFor (mItems (mV 0)) (gSet 4) (mIte (mAnd (mBool (mBin (gI (kBl fun i j => decide (i ≤ j))) (mV 4) (mV 3))) (mTru (mBin gIx (mO 2) (mBin (gI (kInt fun i j => i - j)) (mV 3) (mV 4))))) (mPutL 2 (mV 3) (mC (.bl true))) mNext)))
  (mRetO 2)))
def mf_u_law_sieve : MF := mfn .val N_u_law_sieve.length m_u_law_sieve
theorem fn_u_law_sieve (F : Ft P K mg) : ∃ fd, FunD K "_law_sieve" "_law_sieve" (defArgs (top 51)) (defBody (top 51)) (defScope (top 51)) [] kw_u_law_sieve (He.ga K "_law_sieve") fd ∧ FnOk P w K mg base (L2N.CX P w) 1 (He.ga K "_law_sieve") fd ["coins", "last"] (spF ⟨K, mg⟩ .val 2 mf_u_law_sieve) := by
  obtain ⟨fd, FD⟩ := F.d_u_law_sieve
  refine ⟨fd, FD, fx_fn (k := 0) FD sc_u_law_sieve fun cdv A outer s H E hr => ?_⟩
  have nd : N_u_law_sieve.Nodup := sc_u_law_sieve.nd
  have tk := takesF (P := P) (w := w) (K := K) (mg := mg) (base := base) (N := N_u_law_sieve) (qual := "_law_sieve") (scope := defScope (top 51)) (f := He.ga K "_law_sieve") (cd := cdv) (A := A) (outer := outer) (s := s) (H := H) (E := E)
  have ps := passesF (P := P) (w := w) (K := K) (mg := mg) (base := base) (N := N_u_law_sieve) (qual := "_law_sieve") (scope := defScope (top 51)) (f := He.ga K "_law_sieve") (cd := cdv) (A := A) (outer := outer) (s := s) (H := H) (E := E)
  exact (rss_cons (rs_setO nd rfl (by first | exact Or.inl rfl | exact Or.inr rfl) (rf_cat (RF.re (rf_lst (ra_cons re_bl ra_nil))) (RF.re (rf_rep (rf_lst (ra_cons re_bl ra_nil)) (re_v 1)))))
    (rss_cons (rs_for ps rfl (ri_range2 rfl F.n_range re_int (re_bin opd_add (re_v 1) re_int)) (rg_name nd rfl (by first | exact Or.inl rfl | exact Or.inr rfl)) (rss_one (rs_for ps rfl (ri_list (re_v 0)) (rg_name nd rfl (by first | exact Or.inl rfl | exact Or.inr rfl)) (rss_one (rs_if (RW.rt (rw_and (rt_cmp opd_le (re_v 4) (re_v 3) rfl) (rw_and1 (rt_tru (re_ix (re_o 2) (re_bin opd_sub (re_v 3) (re_v 4))))))) (rss_one (rs_putL (pv 2) (re_v 3) re_bl)) rss_nil)))))
    (rss_one (rs_retO (pv 2)))))
theorem ok_u_law_sieve (F : Ft P K mg) : Cl P w K mg base 1 "_law_sieve" .val 2 mf_u_law_sieve := by
  obtain ⟨fd, FD, h⟩ := fn_u_law_sieve (w := w) (base := base) F
  exact ⟨_, fd, _, h, F.g_u_law_sieve, FD.kp, FD.bindsN fun _ _ _ _ _ _ us hl => match us, hl with | [_, _], _ => rfl⟩

def N_u_law_list : List Str := ["pool", "shift", "base", "size", "coins", "k"]
theorem sc_u_law_list : FnScope N_u_law_list ["pool", "shift"] (defScope (top 52)) := ⟨rfl, rfl, rfl, by decide +kernel, rfl, by decide +kernel, by decide +kernel⟩
def m_u_law_list : MSw :=
  (wSeq (wS (mSet 2 (mLst (mCons (mC (.int 3)) (mCons (mC (.int 5)) (mCons (mC (.int 8)) (mCons (mC (.int 11)) (mCons (mC (.int 1)) mNil))))))))
  (wSeq (wSet 3 (wBin gAdd (wE (mC (.int 1))) (wBin (gI kMod) (wBin gAdd (wDraw (mV 0) (mC (.int 5))) (wE (mC (.int 2)))) (wE (mC (.int 5))))))
  (wSeq (wS (mSetO 4 (mLst mNil)))
  (wSeq (wFor (mRange1 (mV 3)) (gSet 5) (wApp 4 (wBin gAdd (wE (mC (.int 1))) (wBin (gI kMod) (wBin gAdd (wBin gAdd (wDraw (mV 0) (mC (.int 14))) (wE (mBin gIx (mV 2) (mV 5)))) (wE (mV 1))) (wE (mC (.int 14)))))))
  (wS (mRetO 4))))))
def mw_u_law_list : MFw := mfnW .val N_u_law_list.length m_u_law_list
theorem bd_u_law_list (F : Ft P K mg) (cdv : Value) (A : Around) (outer : List PySem.Env) (s : Shared) (H : Hp) (E : XK) (hr : Room 1 (A.deeper (envOfC "_law_list" (defScope (top 52)) s.heap.objs.size (He.ga K "_law_list") cdv))) : RSsw (cxOf (L2N.CX P w) P w K mg base N_u_law_list "_law_list" (defScope (top 52)) (He.ga K "_law_list") cdv A outer s H E) (fun cls d _ H => E cls d H) .val (defBody (top 52)) m_u_law_list := by
  have nd : N_u_law_list.Nodup := sc_u_law_list.nd
  have tk := takesF (P := P) (w := w) (K := K) (mg := mg) (base := base) (N := N_u_law_list) (qual := "_law_list") (scope := defScope (top 52)) (f := (He.ga K "_law_list")) (cd := cdv) (A := A) (outer := outer) (s := s) (H := H) (E := E)
  have ps := passesF (P := P) (w := w) (K := K) (mg := mg) (base := base) (N := N_u_law_list) (qual := "_law_list") (scope := defScope (top 52)) (f := (He.ga K "_law_list")) (cd := cdv) (A := A) (outer := outer) (s := s) (H := H) (E := E)
  exact (rssw_cons (RS.w (rs_set nd rfl (by first | exact Or.inl rfl | exact Or.inr rfl) (RF.re (rf_lst (ra_cons re_int (ra_cons re_int (ra_cons re_int (ra_cons re_int (ra_cons re_int ra_nil)))))))))
    (rssw_cons (rsw_set nd rfl (by first | exact Or.inl rfl | exact Or.inr rfl) (rew_bin opd_add (RE.w re_int) (rew_bin opd_mod (rew_bin opd_add (rew_draw (ok_u_law_draw F) hr (by decide) rfl tk (re_v 0) re_int) (RE.w re_int)) (RE.w re_int))))
    (rssw_cons (RS.w (rs_setO nd rfl (by first | exact Or.inl rfl | exact Or.inr rfl) (rf_lst ra_nil)))
    (rssw_cons (rsw_for ps rfl (ri_range1 rfl F.n_range (re_v 3)) (rg_name nd rfl (by first | exact Or.inl rfl | exact Or.inr rfl)) (rssw_one (rsw_app (pv 4) (rew_bin opd_add (RE.w re_int) (rew_bin opd_mod (rew_bin opd_add (rew_bin opd_add (rew_draw (ok_u_law_draw F) hr (by decide) rfl tk (re_v 0) re_int) (RE.w (re_ix (re_v 2) (re_v 5)))) (RE.w (re_v 1))) (RE.w re_int))))))
    (rssw_one (RS.w (rs_retO (pv 4))))))))
theorem mo_u_law_list : Mono m_u_law_list := (mono_seq mono_S (mono_seq (mono_set (mono_bin mono_E (mono_bin (mono_bin mono_draw mono_E) mono_E))) (mono_seq mono_S (mono_seq (mono_for (mono_app (mono_bin mono_E (mono_bin (mono_bin (mono_bin mono_draw mono_E) mono_E) mono_E)))) mono_S))))
theorem fn_u_law_list (F : Ft P K mg) : ∃ fd, FunD K "_law_list" "_law_list" (defArgs (top 52)) (defBody (top 52)) (defScope (top 52)) [] [] (He.ga K "_law_list") fd ∧ FnOk P w K mg base (L2N.CX P w) 2 (He.ga K "_law_list") fd ["pool", "shift"] (spW ⟨K, mg⟩ 2 mw_u_law_list) := by
  obtain ⟨fd, FD⟩ := F.d_u_law_list
  exact ⟨fd, FD, fx_fnW (k := 1) FD sc_u_law_list mo_u_law_list rfl fun cdv A outer s H E hr => bd_u_law_list F cdv A outer s H E hr⟩
theorem ok_u_law_list (F : Ft P K mg) : ClW P w K mg base 2 "_law_list" 2 mw_u_law_list := by
  obtain ⟨fd, FD, h⟩ := fn_u_law_list (w := w) (base := base) F
  exact ⟨mono_fn mo_u_law_list, _, fd, _, h, F.g_u_law_list, FD.kp, FD.bindsN fun _ _ _ _ _ _ us hl => match us, hl with | [_, _], _ => rfl⟩

def N_u_law_great : List Str := ["pool", "factor", "high", "size", "coins", "k", "coin"]
theorem sc_u_law_great : FnScope N_u_law_great ["pool"] (defScope (top 53)) := ⟨rfl, rfl, rfl, by decide +kernel, rfl, by decide +kernel, by decide +kernel⟩
def m_u_law_great : MSw :=
  (wSeq (wSet 1 (wBin gAdd (wE (mC (.int 1))) (wDraw (mV 0) (mC (.int 4)))))
  (wSeq (wS (mSet 2 (mBin (gI kDiv) (mBin (gI kPow) (mC (.int 10)) (mC (.int 12))) (mV 1))))
  (wSeq (wSet 3 (wBin gAdd (wE (mC (.int 2))) (wDraw (mV 0) (mC (.int 5)))))
  (wSeq (wSetO 4 (wLst (wCons (wBin (gI kMul) (wE (mV 1)) (wBin gAdd (wE (mC (.int 1))) (wBin (gI kMod) (wBin gAdd (wDraw (mV 0) (mC (.int 16))) (wE (mC (.int 10)))) (wE (mC (.int 16)))))) wNil)))
  (wSeq (wApp 4 (wBin (gI kMul) (wE (mV 1)) (wBin gAdd (wE (mC (.int 1))) (wBin (gI kMod) (wBin gAdd (wDraw (mV 0) (mC (.int 100))) (wE (mC (.int 46)))) (wE (mC (.int 100)))))))
  (wSeq (wFor (mRange1 (mBin (gI (kInt fun i j => i - j)) (mV 3) (mC (.int 2)))) (gSet 5) (wSeq (wSet 6 (wBin gAdd (wBin gAdd (wDraw (mV 0) (mV 2)) (wE (mBin (gI kPow) (mC (.int 10)) (mC (.int 6))))) (wE (mBin (gI kMul) (mC (.int 7919)) (mV 5)))))
  (wS (mApp 4 (mBin (gI kMul) (mV 1) (mBin gAdd (mC (.int 1)) (mBin (gI kMod) (mV 6) (mV 2))))))))
  (wS (mRetO 4))))))))
def mw_u_law_great : MFw := mfnW .val N_u_law_great.length m_u_law_great
theorem bd_u_law_great (F : Ft P K mg) (cdv : Value) (A : Around) (outer : List PySem.Env) (s : Shared) (H : Hp) (E : XK) (hr : Room 1 (A.deeper (envOfC "_law_great" (defScope (top 53)) s.heap.objs.size (He.ga K "_law_great") cdv))) : RSsw (cxOf (L2N.CX P w) P w K mg base N_u_law_great "_law_great" (defScope (top 53)) (He.ga K "_law_great") cdv A outer s H E) (fun cls d _ H => E cls d H) .val (defBody (top 53)) m_u_law_great := by
  have nd : N_u_law_great.Nodup := sc_u_law_great.nd
  have tk := takesF (P := P) (w := w) (K := K) (mg := mg) (base := base) (N := N_u_law_great) (qual := "_law_great") (scope := defScope (top 53)) (f := (He.ga K "_law_great")) (cd := cdv) (A := A) (outer := outer) (s := s) (H := H) (E := E)
  have ps := passesF (P := P) (w := w) (K := K) (mg := mg) (base := base) (N := N_u_law_great) (qual := "_law_great") (scope := defScope (top 53)) (f := (He.ga K "_law_great")) (cd := cdv) (A := A) (outer := outer) (s := s) (H := H) (E := E)
  exact (rssw_cons (rsw_set nd rfl (by first | exact Or.inl rfl | exact Or.inr rfl) (rew_bin opd_add (RE.w re_int) (rew_draw (ok_u_law_draw F) hr (by decide) rfl tk (re_v 0) re_int)))
    (rssw_cons (RS.w (rs_set nd rfl (by first | exact Or.inl rfl | exact Or.inr rfl) (re_bin opd_div (re_bin opd_pow re_int re_int) (re_v 1))))
    (rssw_cons (rsw_set nd rfl (by first | exact Or.inl rfl | exact Or.inr rfl) (rew_bin opd_add (RE.w re_int) (rew_draw (ok_u_law_draw F) hr (by decide) rfl tk (re_v 0) re_int)))
    (rssw_cons (rsw_setO nd rfl (by first | exact Or.inl rfl | exact Or.inr rfl) (rfw_lst (raw_cons (rew_bin opd_mul (RE.w (re_v 1)) (rew_bin opd_add (RE.w re_int) (rew_bin opd_mod (rew_bin opd_add (rew_draw (ok_u_law_draw F) hr (by decide) rfl tk (re_v 0) re_int) (RE.w re_int)) (RE.w re_int)))) raw_nil)))
    (rssw_cons (rsw_app (pv 4) (rew_bin opd_mul (RE.w (re_v 1)) (rew_bin opd_add (RE.w re_int) (rew_bin opd_mod (rew_bin opd_add (rew_draw (ok_u_law_draw F) hr (by decide) rfl tk (re_v 0) re_int) (RE.w re_int)) (RE.w re_int)))))
    (rssw_cons (rsw_for ps rfl (ri_range1 rfl F.n_range (re_bin opd_sub (re_v 3) re_int)) (rg_name nd rfl (by first | exact Or.inl rfl | exact Or.inr rfl)) (rssw_cons (rsw_set nd rfl (by first | exact Or.inl rfl | exact Or.inr rfl) (rew_bin opd_add (rew_bin opd_add (rew_draw (ok_u_law_draw F) hr (by decide) rfl tk (re_v 0) (re_v 2)) (RE.w (re_bin opd_pow re_int re_int))) (RE.w (re_bin opd_mul re_int (re_v 5)))))
    (rssw_one (RS.w (rs_app (pv 4) (re_bin opd_mul (re_v 1) (re_bin opd_add re_int (re_bin opd_mod (re_v 6) (re_v 2)))))))))
    (rssw_one (RS.w (rs_retO (pv 4))))))))))
theorem mo_u_law_great : Mono m_u_law_great := (mono_seq (mono_set (mono_bin mono_E mono_draw)) (mono_seq mono_S (mono_seq (mono_set (mono_bin mono_E mono_draw)) (mono_seq (mono_setO (mono_lst (mono_cons (mono_bin mono_E (mono_bin mono_E (mono_bin (mono_bin mono_draw mono_E) mono_E))) mono_nil))) (mono_seq (mono_app (mono_bin mono_E (mono_bin mono_E (mono_bin (mono_bin mono_draw mono_E) mono_E)))) (mono_seq (mono_for (mono_seq (mono_set (mono_bin (mono_bin mono_draw mono_E) mono_E)) mono_S)) mono_S))))))
theorem fn_u_law_great (F : Ft P K mg) : ∃ fd, FunD K "_law_great" "_law_great" (defArgs (top 53)) (defBody (top 53)) (defScope (top 53)) [] [] (He.ga K "_law_great") fd ∧ FnOk P w K mg base (L2N.CX P w) 2 (He.ga K "_law_great") fd ["pool"] (spW ⟨K, mg⟩ 1 mw_u_law_great) := by
  obtain ⟨fd, FD⟩ := F.d_u_law_great
  exact ⟨fd, FD, fx_fnW (k := 1) FD sc_u_law_great mo_u_law_great rfl fun cdv A outer s H E hr => bd_u_law_great F cdv A outer s H E hr⟩
theorem ok_u_law_great (F : Ft P K mg) : ClW P w K mg base 2 "_law_great" 1 mw_u_law_great := by
  obtain ⟨fd, FD, h⟩ := fn_u_law_great (w := w) (base := base) F
  exact ⟨mono_fn mo_u_law_great, _, fd, _, h, F.g_u_law_great, FD.kp, FD.bindsN fun _ _ _ _ _ _ us hl => match us, hl with | [_], _ => rfl⟩

def kw_u_law_refusal : List (Str × V) := []
def N_u_law_refusal : List Str := ["coins", "modulus", "least", "entry"]
theorem sc_u_law_refusal : FnScope N_u_law_refusal ["coins", "modulus"] (defScope (top 54)) := ⟨rfl, rfl, rfl, by decide +kernel, rfl, by decide +kernel, by decide +kernel⟩
def m_u_law_refusal : MS :=
  (mSeq (mIte (mOr (mBool (mBin (gI (kBl fun i j => decide (i < j))) (mV 1) (mC (.int 1)))) (mBool (mBin (gI (kBl fun i j => decide (j < i))) (mV 1) (mC (.int 400))))) (mRet (mTup (mCons (mC (.str "number")) (mCons (mV 1) mNil)))) mNext)
  (mSeq (mSet 2 (mCall gMinL (mCons (mV 0) mNil)))
  (mSeq (mSet 3 (mBin gIx (mDef mf_u_law_table (mCons (mV 0) (mCons (mV 2) mNil))) (mBin (gI kMod) (mV 1) (mV 2))))
  (mSeq (mIte (mOr (mBool (mBin gIsN (mV 3) (mC .non))) (mBool (mBin (gI (kBl fun i j => decide (j < i))) (mV 3) (mV 1)))) (mRet (mTup (mCons (mC (.str "not made")) (mCons (mV 1) mNil)))) mNext)
  (mRet (mC .non))))))
def mf_u_law_refusal : MF := mfn .val N_u_law_refusal.length m_u_law_refusal
theorem fn_u_law_refusal (F : Ft P K mg) : ∃ fd, FunD K "_law_refusal" "_law_refusal" (defArgs (top 54)) (defBody (top 54)) (defScope (top 54)) [] kw_u_law_refusal (He.ga K "_law_refusal") fd ∧ FnOk P w K mg base (L2N.CX P w) 2 (He.ga K "_law_refusal") fd ["coins", "modulus"] (spF ⟨K, mg⟩ .val 2 mf_u_law_refusal) := by
  obtain ⟨fd, FD⟩ := F.d_u_law_refusal
  refine ⟨fd, FD, fx_fn (k := 1) FD sc_u_law_refusal fun cdv A outer s H E hr => ?_⟩
  have nd : N_u_law_refusal.Nodup := sc_u_law_refusal.nd
  have tk := takesF (P := P) (w := w) (K := K) (mg := mg) (base := base) (N := N_u_law_refusal) (qual := "_law_refusal") (scope := defScope (top 54)) (f := He.ga K "_law_refusal") (cd := cdv) (A := A) (outer := outer) (s := s) (H := H) (E := E)
  have ps := passesF (P := P) (w := w) (K := K) (mg := mg) (base := base) (N := N_u_law_refusal) (qual := "_law_refusal") (scope := defScope (top 54)) (f := He.ga K "_law_refusal") (cd := cdv) (A := A) (outer := outer) (s := s) (H := H) (E := E)
  exact (rss_cons (rs_if (RW.rt (rw_or (rt_cmp opd_lt (re_v 1) re_int rfl) (rw_or1 (rt_cmp opd_gt (re_v 1) re_int rfl)))) (rss_one (rs_ret (re_tup (ra_cons re_str (ra_cons (re_v 1) ra_nil))))) rss_nil)
    (rss_cons (rs_set nd rfl (by first | exact Or.inl rfl | exact Or.inr rfl) (re_minL rfl rfl F.n_min (ra_cons (re_v 0) ra_nil)))
    (rss_cons (rs_set nd rfl (by first | exact Or.inl rfl | exact Or.inr rfl) (re_ix (re_def (ok_u_law_table F) hr (by decide) rfl tk (ra_cons (re_v 0) (ra_cons (re_v 2) ra_nil))) (re_bin opd_mod (re_v 1) (re_v 2))))
    (rss_cons (rs_if (RW.rt (rw_or (rt_cmp opd_isN (re_v 3) re_non rfl) (rw_or1 (rt_cmp opd_gt (re_v 3) (re_v 1) rfl)))) (rss_one (rs_ret (re_tup (ra_cons re_str (ra_cons (re_v 1) ra_nil))))) rss_nil)
    (rss_one (rs_ret re_non))))))
theorem ok_u_law_refusal (F : Ft P K mg) : Cl P w K mg base 2 "_law_refusal" .val 2 mf_u_law_refusal := by
  obtain ⟨fd, FD, h⟩ := fn_u_law_refusal (w := w) (base := base) F
  exact ⟨_, fd, _, h, F.g_u_law_refusal, FD.kp, FD.bindsN fun _ _ _ _ _ _ us hl => match us, hl with | [_, _], _ => rfl⟩

def kw_u_law_rests : List (Str × V) := []
def N_u_law_rests : List Str := ["coins", "modulus", "great", "last", "made", "entries", "number"]
theorem sc_u_law_rests : FnScope N_u_law_rests ["coins", "modulus", "great"] (defScope (top 55)) := ⟨rfl, rfl, rfl, by decide +kernel, rfl, by decide +kernel, by decide +kernel⟩
def m_u_law_rests : MS :=
  (mSeq (mIte (mTru (mV 2)) (mRet (mDef mf_u_law_table (mCons (mV 0) (mCons (mV 1) mNil)))) mNext)
  (mSeq (mSet 3 (mBin gAdd (mBin (gI kMul) (mCall gMinL (mCons (mV 0) mNil)) (mCall gMaxL (mCons (mV 0) mNil))) (mV 1)))
  (mSeq (mSet 4 (mDef mf_u_law_sieve (mCons (mV 0) (mCons (mV 3) mNil))))
  (mSeq (mSetO 5 (mBin gRep (mLst (mCons (mC .non) mNil)) (mV 1)))
  (mSeq (mFor (mRange1 (mBin gAdd (mV 3) (mC (.int 1)))) (gSet 6) (mIte (mAnd (mTru (mBin gIx (mV 4) (mV 6))) (mBool (mBin gIsN (mBin gIx (mO 5) (mBin (gI kMod) (mV 6) (mV 1))) (mC .non)))) (mPutL 5 (mBin (gI kMod) (mV 6) (mV 1)) (mV 6)) mNext))
  (mRetO 5))))))
def mf_u_law_rests : MF := mfn .val N_u_law_rests.length m_u_law_rests
theorem fn_u_law_rests (F : Ft P K mg) : ∃ fd, FunD K "_law_rests" "_law_rests" (defArgs (top 55)) (defBody (top 55)) (defScope (top 55)) [] kw_u_law_rests (He.ga K "_law_rests") fd ∧ FnOk P w K mg base (L2N.CX P w) 2 (He.ga K "_law_rests") fd ["coins", "modulus", "great"] (spF ⟨K, mg⟩ .val 3 mf_u_law_rests) := by
  obtain ⟨fd, FD⟩ := F.d_u_law_rests
  refine ⟨fd, FD, fx_fn (k := 1) FD sc_u_law_rests fun cdv A outer s H E hr => ?_⟩
  have nd : N_u_law_rests.Nodup := sc_u_law_rests.nd
  have tk := takesF (P := P) (w := w) (K := K) (mg := mg) (base := base) (N := N_u_law_rests) (qual := "_law_rests") (scope := defScope (top 55)) (f := He.ga K "_law_rests") (cd := cdv) (A := A) (outer := outer) (s := s) (H := H) (E := E)
  have ps := passesF (P := P) (w := w) (K := K) (mg := mg) (base := base) (N := N_u_law_rests) (qual := "_law_rests") (scope := defScope (top 55)) (f := He.ga K "_law_rests") (cd := cdv) (A := A) (outer := outer) (s := s) (H := H) (E := E)
  exact (rss_cons (rs_if (rt_tru (re_v 2)) (rss_one (rs_ret (re_def (ok_u_law_table F) hr (by decide) rfl tk (ra_cons (re_v 0) (ra_cons (re_v 1) ra_nil))))) rss_nil)
    (rss_cons (rs_set nd rfl (by first | exact Or.inl rfl | exact Or.inr rfl) (re_bin opd_add (re_bin opd_mul (re_minL rfl rfl F.n_min (ra_cons (re_v 0) ra_nil)) (re_maxL rfl rfl F.n_max (ra_cons (re_v 0) ra_nil))) (re_v 1)))
    (rss_cons (rs_set nd rfl (by first | exact Or.inl rfl | exact Or.inr rfl) (re_def (ok_u_law_sieve F) hr (by decide) rfl tk (ra_cons (re_v 0) (ra_cons (re_v 3) ra_nil))))
    (rss_cons (rs_setO nd rfl (by first | exact Or.inl rfl | exact Or.inr rfl) (rf_rep (rf_lst (ra_cons re_non ra_nil)) (re_v 1)))
    (rss_cons (rs_for ps rfl (ri_range1 rfl F.n_range (re_bin opd_add (re_v 3) re_int)) (rg_name nd rfl (by first | exact Or.inl rfl | exact Or.inr rfl)) (rss_one (rs_if (RW.rt (rw_and (rt_tru (re_ix (re_v 4) (re_v 6))) (rw_and1 (rt_cmp opd_isN (re_ix (re_o 5) (re_bin opd_mod (re_v 6) (re_v 1))) re_non rfl)))) (rss_one (rs_putL (pv 5) (re_bin opd_mod (re_v 6) (re_v 1)) (re_v 6))) rss_nil)))
    (rss_one (rs_retO (pv 5))))))))
theorem ok_u_law_rests (F : Ft P K mg) : Cl P w K mg base 2 "_law_rests" .val 3 mf_u_law_rests := by
  obtain ⟨fd, FD, h⟩ := fn_u_law_rests (w := w) (base := base) F
  exact ⟨_, fd, _, h, F.g_u_law_rests, FD.kp, FD.bindsN fun _ _ _ _ _ _ us hl => match us, hl with | [_, _, _], _ => rfl⟩

def kw_u_law_ask : List (Str × V) := []
def N_u_law_ask : List Str := ["lot", "modulus", "e"]
theorem sc_u_law_ask : FnScope N_u_law_ask ["lot", "modulus"] (defScope (top 56)) := ⟨rfl, rfl, rfl, by decide +kernel, rfl, by decide +kernel, by decide +kernel⟩
def m_u_law_ask : MS :=
  (mTry nms 2 (mRet (mLst (mCons (mLf (mDef mf_rest_table (mCons (mV 0) (mCons (mV 1) mNil)))) (mCons (mLf (mC .non)) mNil)))) (mRet (mLst (mCons (mLf (mC .non)) (mCons (mLf (mDefX 2 mx_u_law_error)) mNil)))))
def mf_u_law_ask : MF := mfn .new N_u_law_ask.length m_u_law_ask
theorem fn_u_law_ask (F : Ft P K mg) : ∃ fd, FunD K "_law_ask" "_law_ask" (defArgs (top 56)) (defBody (top 56)) (defScope (top 56)) [] kw_u_law_ask (He.ga K "_law_ask") fd ∧ FnOk P w K mg base (L2N.CX P w) 5 (He.ga K "_law_ask") fd ["lot", "modulus"] (spF ⟨K, mg⟩ .new 2 mf_u_law_ask) := by
  obtain ⟨fd, FD⟩ := F.d_u_law_ask
  refine ⟨fd, FD, fx_fn (k := 4) FD sc_u_law_ask fun cdv A outer s H E hr => ?_⟩
  have nd : N_u_law_ask.Nodup := sc_u_law_ask.nd
  have tk := takesF (P := P) (w := w) (K := K) (mg := mg) (base := base) (N := N_u_law_ask) (qual := "_law_ask") (scope := defScope (top 56)) (f := He.ga K "_law_ask") (cd := cdv) (A := A) (outer := outer) (s := s) (H := H) (E := E)
  have ps := passesF (P := P) (w := w) (K := K) (mg := mg) (base := base) (N := N_u_law_ask) (qual := "_law_ask") (scope := defScope (top 56)) (f := He.ga K "_law_ask") (cd := cdv) (A := A) (outer := outer) (s := s) (H := H) (E := E)
  exact (rss_one (rs_try rfl rfl nd rfl rfl ⟨rfl, by decide, .inl (F.coinV)⟩ tk F.coin (fun W _ _ tk ps => (rss_one (rs_retW (rn_lst (rns_cons (rn_lf (re_def (ok_rest_table F) hr (by decide) rfl tk (ra_cons (re_v 0) (ra_cons (re_v 1) ra_nil)))) (rns_cons (rn_lf re_non) rns_nil)))))) (fun _ _ _ _ _ hz hv => (rss_one (rs_retW (rn_lst (rns_cons (rn_lf re_non) (rns_cons (rn_lf (re_defX (ok_u_law_error F) (room_suite hr) (by decide) (hot_suite hz hv) rfl rfl takes_suite (pv 2))) rns_nil))))))))
theorem ok_u_law_ask (F : Ft P K mg) : Cl P w K mg base 5 "_law_ask" .new 2 mf_u_law_ask := by
  obtain ⟨fd, FD, h⟩ := fn_u_law_ask (w := w) (base := base) F
  exact ⟨_, fd, _, h, F.g_u_law_ask, FD.kp, FD.bindsN fun _ _ _ _ _ _ us hl => match us, hl with | [_, _], _ => rfl⟩

def kw_u_law_entry : List (Str × V) := []
def N_u_law_entry : List Str := ["got", "due"]
theorem sc_u_law_entry : FnScope N_u_law_entry ["got", "due"] (defScope (top 57)) := ⟨rfl, rfl, rfl, by decide +kernel, rfl, by decide +kernel, by decide +kernel⟩
def m_u_law_entry : MS :=
  (mSeq (mIte (mBool (mBin gIsN (mV 1) (mC .non))) (mRet (mBin gIsN (mV 0) (mC .non))) mNext)
  (mRet (mAndV (mDef mf_u_law_int (mCons (mV 0) mNil)) (mBin gEq (mV 0) (mV 1)))))
def mf_u_law_entry : MF := mfn .val N_u_law_entry.length m_u_law_entry
theorem fn_u_law_entry (F : Ft P K mg) : ∃ fd, FunD K "_law_entry" "_law_entry" (defArgs (top 57)) (defBody (top 57)) (defScope (top 57)) [] kw_u_law_entry (He.ga K "_law_entry") fd ∧ FnOk P w K mg base (L2N.CX P w) 2 (He.ga K "_law_entry") fd ["got", "due"] (spF ⟨K, mg⟩ .val 2 mf_u_law_entry) := by
  obtain ⟨fd, FD⟩ := F.d_u_law_entry
  refine ⟨fd, FD, fx_fn (k := 1) FD sc_u_law_entry fun cdv A outer s H E hr => ?_⟩
  have nd : N_u_law_entry.Nodup := sc_u_law_entry.nd
  have tk := takesF (P := P) (w := w) (K := K) (mg := mg) (base := base) (N := N_u_law_entry) (qual := "_law_entry") (scope := defScope (top 57)) (f := He.ga K "_law_entry") (cd := cdv) (A := A) (outer := outer) (s := s) (H := H) (E := E)
  have ps := passesF (P := P) (w := w) (K := K) (mg := mg) (base := base) (N := N_u_law_entry) (qual := "_law_entry") (scope := defScope (top 57)) (f := He.ga K "_law_entry") (cd := cdv) (A := A) (outer := outer) (s := s) (H := H) (E := E)
  exact (rss_cons (rs_if (rt_cmp opd_isN (re_v 1) re_non rfl) (rss_one (rs_ret (re_cmp opd_isN (re_v 0) re_non rfl))) rss_nil)
    (rss_one (rs_ret (re_and (re_def (ok_u_law_int F) hr (by decide) rfl tk (ra_cons (re_v 0) ra_nil)) (re_one (re_cmp (opd_eq hr.units) (re_v 0) (re_v 1) rfl))))))
theorem ok_u_law_entry (F : Ft P K mg) : Cl P w K mg base 2 "_law_entry" .val 2 mf_u_law_entry := by
  obtain ⟨fd, FD, h⟩ := fn_u_law_entry (w := w) (base := base) F
  exact ⟨_, fd, _, h, F.g_u_law_entry, FD.kp, FD.bindsN fun _ _ _ _ _ _ us hl => match us, hl with | [_, _], _ => rfl⟩

def kw_u_law_right : List (Str × V) := []
def N_u_law_right : List Str := ["lot", "coins", "modulus", "great", "told", "due", "got", "entries", "r"]
theorem sc_u_law_right : FnScope N_u_law_right ["lot", "coins", "modulus", "great"] (defScope (top 58)) := ⟨rfl, rfl, rfl, by decide +kernel, rfl, by decide +kernel, by decide +kernel⟩
def m_u_law_right : MS :=
  (mSeq (mSet 4 (mDefN mf_u_law_ask (mCons (mV 0) (mCons (mV 2) mNil))))
  (mSeq (mSet 5 (mDef mf_u_law_refusal (mCons (mV 1) (mCons (mV 2) mNil))))
  (mSeq (mIte (mBool (mBin gNotN (mV 5) (mC .non))) (mRet (mDef mf_u_law_told (mCons (mBin gIx (mV 4) (mC (.int 1))) (mCons (mV 5) mNil)))) mNext)
  (mSeq (mSet 6 (mBin gIx (mV 4) (mC (.int 0))))
  (mSeq (mIte (mOr (mBool (mBin gNotN (mBin gIx (mV 4) (mC (.int 1))) (mC .non))) (mOr (mNot (mTru (mIsi "tuple" (mV 6)))) (mBool (mBin gNe (mCall gLen (mCons (mV 6) mNil)) (mV 2))))) (mRet (mC (.bl false))) mNext)
  (mSeq (mSet 7 (mDef mf_u_law_rests (mCons (mV 1) (mCons (mV 2) (mCons (mV 3) mNil)))))
  (mSeq (mFor (mRange1 (mV 2)) (gSet 8) (mIte (mNot (mTru (mDef mf_u_law_entry (mCons (mBin gIx (mV 6) (mV 8)) (mCons (mBin gIx (mV 7) (mV 8)) mNil))))) (mRet (mC (.bl false))) mNext))
  (mRet (mC (.bl true))))))))))
def mf_u_law_right : MF := mfn .val N_u_law_right.length m_u_law_right
theorem fn_u_law_right (F : Ft P K mg) : ∃ fd, FunD K "_law_right" "_law_right" (defArgs (top 58)) (defBody (top 58)) (defScope (top 58)) [] kw_u_law_right (He.ga K "_law_right") fd ∧ FnOk P w K mg base (L2N.CX P w) 6 (He.ga K "_law_right") fd ["lot", "coins", "modulus", "great"] (spF ⟨K, mg⟩ .val 4 mf_u_law_right) := by
  obtain ⟨fd, FD⟩ := F.d_u_law_right
  refine ⟨fd, FD, fx_fn (k := 5) FD sc_u_law_right fun cdv A outer s H E hr => ?_⟩
  have nd : N_u_law_right.Nodup := sc_u_law_right.nd
  have tk := takesF (P := P) (w := w) (K := K) (mg := mg) (base := base) (N := N_u_law_right) (qual := "_law_right") (scope := defScope (top 58)) (f := He.ga K "_law_right") (cd := cdv) (A := A) (outer := outer) (s := s) (H := H) (E := E)
  have ps := passesF (P := P) (w := w) (K := K) (mg := mg) (base := base) (N := N_u_law_right) (qual := "_law_right") (scope := defScope (top 58)) (f := He.ga K "_law_right") (cd := cdv) (A := A) (outer := outer) (s := s) (H := H) (E := E)
  exact (rss_cons (rs_set nd rfl (by first | exact Or.inl rfl | exact Or.inr rfl) (RN.re (rn_def (ok_u_law_ask F) hr (by decide) rfl tk (ra_cons (RE.weak (re_v 0)) (ra_cons (RE.weak (re_v 2)) ra_nil)))))
    (rss_cons (rs_set nd rfl (by first | exact Or.inl rfl | exact Or.inr rfl) (re_def (ok_u_law_refusal F) hr (by decide) rfl tk (ra_cons (re_v 1) (ra_cons (re_v 2) ra_nil))))
    (rss_cons (rs_if (rt_cmp opd_notN (re_v 5) re_non rfl) (rss_one (rs_ret (re_def (ok_u_law_told F) hr (by decide) rfl tk (ra_cons (re_ix (re_v 4) re_int) (ra_cons (re_v 5) ra_nil))))) rss_nil)
    (rss_cons (rs_set nd rfl (by first | exact Or.inl rfl | exact Or.inr rfl) (re_ix (re_v 4) re_int))
    (rss_cons (rs_if (RW.rt (rw_or (rt_cmp opd_notN (re_ix (re_v 4) re_int) re_non rfl) (rw_or (rt_not (rt_tru (re_isi rfl F.n_isinstance rfl F.n_tuple PyProof.Rows.Boot.tuple (by decide) (re_v 6)))) (rw_or1 (rt_cmp (opd_ne hr.units) (re_len rfl F.n_len (ra_cons (re_v 6) ra_nil)) (re_v 2) rfl))))) (rss_one (rs_ret re_bl)) rss_nil)
    (rss_cons (rs_set nd rfl (by first | exact Or.inl rfl | exact Or.inr rfl) (re_def (ok_u_law_rests F) hr (by decide) rfl tk (ra_cons (re_v 1) (ra_cons (re_v 2) (ra_cons (re_v 3) ra_nil)))))
    (rss_cons (rs_for ps rfl (ri_range1 rfl F.n_range (re_v 2)) (rg_name nd rfl (by first | exact Or.inl rfl | exact Or.inr rfl)) (rss_one (rs_if (rt_not (rt_tru (re_def (ok_u_law_entry F) hr (by decide) rfl tk (ra_cons (re_ix (re_v 6) (re_v 8)) (ra_cons (re_ix (re_v 7) (re_v 8)) ra_nil))))) (rss_one (rs_ret re_bl)) rss_nil)))
    (rss_one (rs_ret re_bl)))))))))
theorem ok_u_law_right (F : Ft P K mg) : Cl P w K mg base 6 "_law_right" .val 4 mf_u_law_right := by
  obtain ⟨fd, FD, h⟩ := fn_u_law_right (w := w) (base := base) F
  exact ⟨_, fd, _, h, F.g_u_law_right, FD.kp, FD.bindsN fun _ _ _ _ _ _ us hl => match us, hl with | [_, _, _, _], _ => rfl⟩

def N_u_law_moduli : List Str := ["pool", "coins", "row", "total", "coin", "moduli", "count"]
theorem sc_u_law_moduli : FnScope N_u_law_moduli ["pool", "coins"] (defScope (top 59)) := ⟨rfl, rfl, rfl, by decide +kernel, rfl, by decide +kernel, by decide +kernel⟩
def m_u_law_moduli : MSw :=
  (wSeq (wS (mSet 2 (mDef mf_u_law_unlike (mCons (mV 1) mNil))))
  (wSeq (wS (mSet 3 (mC (.int 0))))
  (wSeq (wFor (mItems (mV 2)) (gSet 4) (wSeq (wSet 6 (wBin (gI kMod) (wBin gAdd (wDraw (mV 0) (mC (.int 4))) (wE (mC (.int 1)))) (wE (mC (.int 4)))))
  (wS (mIte (mBool (mBin (gI (kBl fun i j => decide (i ≤ j))) (mV 4) (mC (.int 100)))) (mSet 3 (mBin gAdd (mV 3) (mBin (gI kMul) (mV 6) (mV 4)))) mNext))))
  (wSeq (wS (mSet 5 (mLc 4 (mItems (mV 2)) (mBool (mBin (gI (kBl fun i j => decide (i ≤ j))) (mV 4) (mC (.int 400)))) (mV 4))))
  (wRet (wBin gAdd (wE (mV 5)) (wLst (wCons (wE (mV 3)) (wCons (wBin gAdd (wE (mC (.int 1))) (wDraw (mV 0) (mC (.int 400)))) (wCons (wE (mBin (gI (kInt fun i j => i - j)) (mBin gIx (mV 2) (mC (.int 0))) (mC (.int 1)))) (wCons (wE (mBin gAdd (mBin gIx (mV 2) (mC (.int 0))) (mC (.int 1)))) wNil)))))))))))
def mw_u_law_moduli : MFw := mfnW .val N_u_law_moduli.length m_u_law_moduli
theorem bd_u_law_moduli (F : Ft P K mg) (cdv : Value) (A : Around) (outer : List PySem.Env) (s : Shared) (H : Hp) (E : XK) (hr : Room 1 (A.deeper (envOfC "_law_moduli" (defScope (top 59)) s.heap.objs.size (He.ga K "_law_moduli") cdv))) : RSsw (cxOf (L2N.CX P w) P w K mg base N_u_law_moduli "_law_moduli" (defScope (top 59)) (He.ga K "_law_moduli") cdv A outer s H E) (fun cls d _ H => E cls d H) .val (defBody (top 59)) m_u_law_moduli := by
  have nd : N_u_law_moduli.Nodup := sc_u_law_moduli.nd
  have tk := takesF (P := P) (w := w) (K := K) (mg := mg) (base := base) (N := N_u_law_moduli) (qual := "_law_moduli") (scope := defScope (top 59)) (f := (He.ga K "_law_moduli")) (cd := cdv) (A := A) (outer := outer) (s := s) (H := H) (E := E)
  have ps := passesF (P := P) (w := w) (K := K) (mg := mg) (base := base) (N := N_u_law_moduli) (qual := "_law_moduli") (scope := defScope (top 59)) (f := (He.ga K "_law_moduli")) (cd := cdv) (A := A) (outer := outer) (s := s) (H := H) (E := E)
  exact (rssw_cons (RS.w (rs_set nd rfl (by first | exact Or.inl rfl | exact Or.inr rfl) (re_def (ok_u_law_unlike F) hr (by decide) rfl tk (ra_cons (re_v 1) ra_nil))))
    (rssw_cons (RS.w (rs_set nd rfl (by first | exact Or.inl rfl | exact Or.inr rfl) re_int))
    (rssw_cons (rsw_for ps rfl (ri_list (re_v 2)) (rg_name nd rfl (by first | exact Or.inl rfl | exact Or.inr rfl)) (rssw_cons (rsw_set nd rfl (by first | exact Or.inl rfl | exact Or.inr rfl) (rew_bin opd_mod (rew_bin opd_add (rew_draw (ok_u_law_draw F) hr (by decide) rfl tk (re_v 0) re_int) (RE.w re_int)) (RE.w re_int)))
    (rssw_one (RS.w (rs_if (rt_cmp opd_le (re_v 4) re_int rfl) (rss_one (rs_set nd rfl (by first | exact Or.inl rfl | exact Or.inr rfl) (re_bin opd_add (re_v 3) (re_bin opd_mul (re_v 6) (re_v 4))))) rss_nil)))))
    (rssw_cons (RS.w (rs_setLcV rfl nd rfl rfl (sw_true rfl rfl rfl rfl) (ri_list (re_v 2)) (blkOk_by (N := N_u_law_moduli) (sc := (defScope (top 59))) (by kernel_rfl)) (fun _ _ _ _ _ => pg_name nd rfl (by first | exact Or.inl rfl | exact Or.inr rfl)) (fun _ _ _ _ _ => (rts_one (rt_cmp opd_le (re_v 4) re_int rfl))) (fun _ _ _ _ _ => (re_v 4))))
    (rssw_one (rsw_ret (rew_bin opd_add (RE.w (re_v 5)) (RFw.re (rfw_lst (raw_cons (RE.w (re_v 3)) (raw_cons (rew_bin opd_add (RE.w re_int) (rew_draw (ok_u_law_draw F) hr (by decide) rfl tk (re_v 0) re_int)) (raw_cons (RE.w (re_bin opd_sub (re_ix (re_v 2) re_int) re_int)) (raw_cons (RE.w (re_bin opd_add (re_ix (re_v 2) re_int) re_int)) raw_nil)))))))))))))
theorem mo_u_law_moduli : Mono m_u_law_moduli := (mono_seq mono_S (mono_seq mono_S (mono_seq (mono_for (mono_seq (mono_set (mono_bin (mono_bin mono_draw mono_E) mono_E)) mono_S)) (mono_seq mono_S (mono_ret (mono_bin mono_E (mono_lst (mono_cons mono_E (mono_cons (mono_bin mono_E mono_draw) (mono_cons mono_E (mono_cons mono_E mono_nil)))))))))))
theorem fn_u_law_moduli (F : Ft P K mg) : ∃ fd, FunD K "_law_moduli" "_law_moduli" (defArgs (top 59)) (defBody (top 59)) (defScope (top 59)) [] [] (He.ga K "_law_moduli") fd ∧ FnOk P w K mg base (L2N.CX P w) 2 (He.ga K "_law_moduli") fd ["pool", "coins"] (spW ⟨K, mg⟩ 2 mw_u_law_moduli) := by
  obtain ⟨fd, FD⟩ := F.d_u_law_moduli
  exact ⟨fd, FD, fx_fnW (k := 1) FD sc_u_law_moduli mo_u_law_moduli rfl fun cdv A outer s H E hr => bd_u_law_moduli F cdv A outer s H E hr⟩
theorem ok_u_law_moduli (F : Ft P K mg) : ClW P w K mg base 2 "_law_moduli" 2 mw_u_law_moduli := by
  obtain ⟨fd, FD, h⟩ := fn_u_law_moduli (w := w) (base := base) F
  exact ⟨mono_fn mo_u_law_moduli, _, fd, _, h, F.g_u_law_moduli, FD.kp, FD.bindsN fun _ _ _ _ _ _ us hl => match us, hl with | [_, _], _ => rfl⟩

def N_law : List Str := ["script", "pool", "great", "lot", "moduli", "modulus", "others", "other", "evens", "even", "far", "coins"]
theorem sc_law : FnScope N_law ["script"] (defScope (top 60)) := ⟨rfl, rfl, rfl, by decide +kernel, rfl, by decide +kernel, by decide +kernel⟩
def m_law : MSw :=
  (wSeq (wS (mSet 1 (mPool (mSl (mV 0) mNo (mPart (mC (.int 63)))))))
  (wSeq (wSet 2 (wBin gEq (wDraw (mV 1) (mC (.int 8))) (wE (mC (.int 5)))))
  (wSeq (wIte (mTru (mV 2)) (wSet 11 (wDef mw_u_law_great (wCons (wE (mV 1)) wNil))) (wSet 11 (wDef mw_u_law_list (wCons (wE (mV 1)) (wCons (wE (mC (.int 0))) wNil)))))
  (wSeq (wS (mSet 3 (mMk "Lot" mi_Lot (mCons (mCall gList (mCons (mV 11) mNil)) mNil))))
  (wSeq (wSet 4 (wDef mw_u_law_moduli (wCons (wE (mV 1)) (wCons (wE (mV 11)) wNil))))
  (wSeq (wS (mFor (mItems (mV 4)) (gSet 5) (mIte (mNot (mTru (mDef mf_u_law_right (mCons (mV 3) (mCons (mV 11) (mCons (mV 5) (mCons (mV 2) mNil))))))) (mRet (mC (.bl false))) mNext)))
  (wSeq (wSet 6 (wDef mw_u_law_list (wCons (wE (mV 1)) (wCons (wE (mC (.int 2))) wNil))))
  (wSeq (wS (mSet 7 (mMk "Lot" mi_Lot (mCons (mCall gTuple (mCons (mV 6) mNil)) mNil))))
  (wSeq (wForW (wItems (wDef mw_u_law_moduli (wCons (wE (mV 1)) (wCons (wE (mV 6)) wNil)))) (gSet 5) (wS (mIte (mNot (mTru (mDef mf_u_law_right (mCons (mV 7) (mCons (mV 6) (mCons (mV 5) (mCons (mC (.bl false)) mNil))))))) (mRet (mC (.bl false))) mNext)))
  (wSeq (wSet 8 (wLst (wCons (wBin gIx (wE (mLst (mCons (mC (.int 2)) (mCons (mC (.int 4)) (mCons (mC (.int 8)) (mCons (mC (.int 10)) mNil)))))) (wDraw (mV 1) (mC (.int 4)))) (wCons (wBin gAdd (wE (mC (.int 4))) (wBin (gI kMul) (wE (mC (.int 2))) (wDraw (mV 1) (mC (.int 5))))) wNil))))
  (wSeq (wS (mSet 9 (mMk "Lot" mi_Lot (mCons (mV 8) mNil))))
  (wSeq (wSet 10 (wLst (wCons (wBin (gI (kInt fun i j => i - j)) (wE (mNeg (mC (.int 1)))) (wDraw (mV 1) (mC (.int 500)))) (wCons (wBin gAdd (wE (mC (.int 403))) (wDraw (mV 1) (mC (.int 500)))) wNil))))
  (wSeq (wS (mFor (mItems (mBin gAdd (mLst (mCons (mC (.int 399)) (mCons (mC (.int 400)) (mCons (mC (.int 401)) (mCons (mC (.int 402)) (mCons (mC (.int 0)) mNil)))))) (mV 10))) (gSet 5) (mIte (mNot (mTru (mDef mf_u_law_right (mCons (mV 9) (mCons (mV 8) (mCons (mV 5) (mCons (mC (.bl false)) mNil))))))) (mRet (mC (.bl false))) mNext)))
  (wS (mRet (mDef mf_u_law_right (mCons (mV 3) (mCons (mV 11) (mCons (mBin gIx (mV 4) (mC (.int 0))) (mCons (mV 2) mNil))))))))))))))))))))
def mw_law : MFw := mfnW .val N_law.length m_law
theorem bd_law (F : Ft P K mg) (cdv : Value) (A : Around) (outer : List PySem.Env) (s : Shared) (H : Hp) (E : XK) (hr : Room 6 (A.deeper (envOfC "law" (defScope (top 60)) s.heap.objs.size (He.ga K "law") cdv))) : RSsw (cxOf (L2N.CX P w) P w K mg base N_law "law" (defScope (top 60)) (He.ga K "law") cdv A outer s H E) (fun cls d _ H => E cls d H) .val (defBody (top 60)) m_law := by
  have nd : N_law.Nodup := sc_law.nd
  have tk := takesF (P := P) (w := w) (K := K) (mg := mg) (base := base) (N := N_law) (qual := "law") (scope := defScope (top 60)) (f := (He.ga K "law")) (cd := cdv) (A := A) (outer := outer) (s := s) (H := H) (E := E)
  have ps := passesF (P := P) (w := w) (K := K) (mg := mg) (base := base) (N := N_law) (qual := "law") (scope := defScope (top 60)) (f := (He.ga K "law")) (cd := cdv) (A := A) (outer := outer) (s := s) (H := H) (E := E)
  exact (rssw_cons (RS.w (rs_set nd rfl (by first | exact Or.inl rfl | exact Or.inr rfl) (re_pool (rf_sl (re_v 0) ro_no (ro_part re_int)))))
    (rssw_cons (rsw_set nd rfl (by first | exact Or.inl rfl | exact Or.inr rfl) (rew_cmp (opd_eq hr.units) (rew_draw (ok_u_law_draw F) hr (by decide) rfl tk (re_v 1) re_int) (RE.w re_int) rfl))
    (rssw_cons (rsw_if (rt_tru (re_v 2)) (rssw_one (rsw_set nd rfl (by first | exact Or.inl rfl | exact Or.inr rfl) (rew_def (ok_u_law_great F) hr (by decide) rfl tk (raw_cons (RE.w (re_v 1)) raw_nil)))) (rssw_one (rsw_set nd rfl (by first | exact Or.inl rfl | exact Or.inr rfl) (rew_def (ok_u_law_list F) hr (by decide) rfl tk (raw_cons (RE.w (re_v 1)) (raw_cons (RE.w re_int) raw_nil))))))
    (rssw_cons (RS.w (rs_set nd rfl (by first | exact Or.inl rfl | exact Or.inr rfl) (re_mk (okI_Lot F) hr (by decide) rfl tk (ra_cons (RF.re (rf_list rfl F.n_list (ra_cons (re_v 11) ra_nil))) ra_nil))))
    (rssw_cons (rsw_set nd rfl (by first | exact Or.inl rfl | exact Or.inr rfl) (rew_def (ok_u_law_moduli F) hr (by decide) rfl tk (raw_cons (RE.w (re_v 1)) (raw_cons (RE.w (re_v 11)) raw_nil))))
    (rssw_cons (RS.w (rs_for ps rfl (ri_list (re_v 4)) (rg_name nd rfl (by first | exact Or.inl rfl | exact Or.inr rfl)) (rss_one (rs_if (rt_not (rt_tru (re_def (ok_u_law_right F) hr (by decide) rfl tk (ra_cons (re_v 3) (ra_cons (re_v 11) (ra_cons (re_v 5) (ra_cons (re_v 2) ra_nil))))))) (rss_one (rs_ret re_bl)) rss_nil))))
    (rssw_cons (rsw_set nd rfl (by first | exact Or.inl rfl | exact Or.inr rfl) (rew_def (ok_u_law_list F) hr (by decide) rfl tk (raw_cons (RE.w (re_v 1)) (raw_cons (RE.w re_int) raw_nil))))
    (rssw_cons (RS.w (rs_set nd rfl (by first | exact Or.inl rfl | exact Or.inr rfl) (re_mk (okI_Lot F) hr (by decide) rfl tk (ra_cons (re_tuple rfl F.n_tuple (ra_cons (re_v 6) ra_nil)) ra_nil))))
    (rssw_cons (rsw_forW ps rfl (riw_list (rew_def (ok_u_law_moduli F) hr (by decide) rfl tk (raw_cons (RE.w (re_v 1)) (raw_cons (RE.w (re_v 6)) raw_nil)))) (rg_name nd rfl (by first | exact Or.inl rfl | exact Or.inr rfl)) (rssw_one (RS.w (rs_if (rt_not (rt_tru (re_def (ok_u_law_right F) hr (by decide) rfl tk (ra_cons (re_v 7) (ra_cons (re_v 6) (ra_cons (re_v 5) (ra_cons re_bl ra_nil))))))) (rss_one (rs_ret re_bl)) rss_nil))))
    (rssw_cons (rsw_set nd rfl (by first | exact Or.inl rfl | exact Or.inr rfl) (RFw.re (rfw_lst (raw_cons (rew_ix (RE.w (RF.re (rf_lst (ra_cons re_int (ra_cons re_int (ra_cons re_int (ra_cons re_int ra_nil))))))) (rew_draw (ok_u_law_draw F) hr (by decide) rfl tk (re_v 1) re_int)) (raw_cons (rew_bin opd_add (RE.w re_int) (rew_bin opd_mul (RE.w re_int) (rew_draw (ok_u_law_draw F) hr (by decide) rfl tk (re_v 1) re_int))) raw_nil)))))
    (rssw_cons (RS.w (rs_set nd rfl (by first | exact Or.inl rfl | exact Or.inr rfl) (re_mk (okI_Lot F) hr (by decide) rfl tk (ra_cons (re_v 8) ra_nil))))
    (rssw_cons (rsw_set nd rfl (by first | exact Or.inl rfl | exact Or.inr rfl) (RFw.re (rfw_lst (raw_cons (rew_bin opd_sub (RE.w (re_neg re_int)) (rew_draw (ok_u_law_draw F) hr (by decide) rfl tk (re_v 1) re_int)) (raw_cons (rew_bin opd_add (RE.w re_int) (rew_draw (ok_u_law_draw F) hr (by decide) rfl tk (re_v 1) re_int)) raw_nil)))))
    (rssw_cons (RS.w (rs_for ps rfl (ri_list (re_bin opd_add (RF.re (rf_lst (ra_cons re_int (ra_cons re_int (ra_cons re_int (ra_cons re_int (ra_cons re_int ra_nil))))))) (re_v 10))) (rg_name nd rfl (by first | exact Or.inl rfl | exact Or.inr rfl)) (rss_one (rs_if (rt_not (rt_tru (re_def (ok_u_law_right F) hr (by decide) rfl tk (ra_cons (re_v 9) (ra_cons (re_v 8) (ra_cons (re_v 5) (ra_cons re_bl ra_nil))))))) (rss_one (rs_ret re_bl)) rss_nil))))
    (rssw_one (RS.w (rs_ret (re_def (ok_u_law_right F) hr (by decide) rfl tk (ra_cons (re_v 3) (ra_cons (re_v 11) (ra_cons (re_ix (re_v 4) re_int) (ra_cons (re_v 2) ra_nil)))))))))))))))))))))
theorem mo_law : Mono m_law := (mono_seq mono_S (mono_seq (mono_set (mono_bin mono_draw mono_E)) (mono_seq (mono_ite (mono_set (mono_def (mono_fn mo_u_law_great) (mono_cons mono_E mono_nil))) (mono_set (mono_def (mono_fn mo_u_law_list) (mono_cons mono_E (mono_cons mono_E mono_nil))))) (mono_seq mono_S (mono_seq (mono_set (mono_def (mono_fn mo_u_law_moduli) (mono_cons mono_E (mono_cons mono_E mono_nil)))) (mono_seq mono_S (mono_seq (mono_set (mono_def (mono_fn mo_u_law_list) (mono_cons mono_E (mono_cons mono_E mono_nil)))) (mono_seq mono_S (mono_seq (mono_forW (mono_items (mono_def (mono_fn mo_u_law_moduli) (mono_cons mono_E (mono_cons mono_E mono_nil)))) mono_S) (mono_seq (mono_set (mono_lst (mono_cons (mono_bin mono_E mono_draw) (mono_cons (mono_bin mono_E (mono_bin mono_E mono_draw)) mono_nil)))) (mono_seq mono_S (mono_seq (mono_set (mono_lst (mono_cons (mono_bin mono_E mono_draw) (mono_cons (mono_bin mono_E mono_draw) mono_nil)))) (mono_seq mono_S mono_S)))))))))))))
theorem fn_law (F : Ft P K mg) : ∃ fd, FunD K "law" "law" (defArgs (top 60)) (defBody (top 60)) (defScope (top 60)) [] [] (He.ga K "law") fd ∧ FnOk P w K mg base (L2N.CX P w) 7 (He.ga K "law") fd ["script"] (spW ⟨K, mg⟩ 1 mw_law) := by
  obtain ⟨fd, FD⟩ := F.d_law
  exact ⟨fd, FD, fx_fnW (k := 6) FD sc_law mo_law rfl fun cdv A outer s H E hr => bd_law F cdv A outer s H E hr⟩
theorem ok_law (F : Ft P K mg) : ClW P w K mg base 7 "law" 1 mw_law := by
  obtain ⟨fd, FD, h⟩ := fn_law (w := w) (base := base) F
  exact ⟨mono_fn mo_law, _, fd, _, h, F.g_law, FD.kp, FD.bindsN fun _ _ _ _ _ _ us hl => match us, hl with | [_], _ => rfl⟩

end
end G

-- Hk02
set_option Elab.async false
set_option linter.all false
set_option maxRecDepth 100000
set_option maxHeartbeats 0
namespace G
open PySem PySem.Spec PyProof.Rows L2 Fx
theorem it_NotMade : FxHd.InitT er_NotMade := ⟨.b1 _ _ _ _ _ _ _ _ _ _ _ _ _ (fun _ _ _ _ => ⟨_, rfl⟩), ⟨_, rfl, rfl⟩, by decide +kernel, rfl, rfl, rfl, rfl, rfl, rfl, by decide +kernel, fun _ _ _ _ _ _ _ us hl => match us, hl with | [_, _], _ => rfl⟩
theorem it_NumberError : FxHd.InitT er_NumberError := ⟨.b1 _ _ _ _ _ _ _ _ _ _ _ _ _ (fun _ _ _ _ => ⟨_, rfl⟩), ⟨_, rfl, rfl⟩, by decide +kernel, rfl, rfl, rfl, rfl, rfl, rfl, by decide +kernel, fun _ _ _ _ _ _ _ us hl => match us, hl with | [_, _], _ => rfl⟩
theorem it_SizeError : FxHd.InitT er_SizeError := ⟨.b1 _ _ _ _ _ _ _ _ _ _ _ _ _ (fun _ _ _ _ => ⟨_, rfl⟩), ⟨_, rfl, rfl⟩, by decide +kernel, rfl, rfl, rfl, rfl, rfl, rfl, by decide +kernel, fun _ _ _ _ _ _ _ us hl => match us, hl with | [_, _], _ => rfl⟩
theorem it_WideError : FxHd.InitT er_WideError := ⟨.b1 _ _ _ _ _ _ _ _ _ _ _ _ _ (fun _ _ _ _ => ⟨_, rfl⟩), ⟨_, rfl, rfl⟩, by decide +kernel, rfl, rfl, rfl, rfl, rfl, rfl, by decide +kernel, fun _ _ _ _ _ _ _ us hl => match us, hl with | [_, _], _ => rfl⟩
theorem ft {K : PySem.W.Frag} {h : Heap} {mg : Str → Option Value} (X : K.In h) (G : h.Ns mainGlobals mg) (c : FxHd.SaysX plan K) : Ft PySem.Challenge.pw_coinholes_k02_rests_are_least K mg := by
  obtain ⟨a1, a2, a3⟩ := c.all X G
  exact {
    d_u_wall := c.def_ 0 (d := dd_u_wall_) rfl
    g_u_wall := He.glo_ok X G (c.fact 0 (f := .glo "_wall") rfl)
    d_in_table := c.def_ 1 (d := dd_in_table_) rfl
    g_in_table := He.glo_ok X G (c.fact 1 (f := .glo "in_table") rfl)
    d_put_coin := c.def_ 2 (d := dd_put_coin_) rfl
    g_put_coin := He.glo_ok X G (c.fact 2 (f := .glo "put_coin") rfl)
    d_table_of := c.def_ 3 (d := dd_table_of_) rfl
    g_table_of := He.glo_ok X G (c.fact 3 (f := .glo "table_of") rfl)
    d_look_number := c.def_ 4 (d := dd_look_number_) rfl
    g_look_number := He.glo_ok X G (c.fact 4 (f := .glo "look_number") rfl)
    d_look_far := c.def_ 5 (d := dd_look_far_) rfl
    g_look_far := He.glo_ok X G (c.fact 5 (f := .glo "look_far") rfl)
    d_look_list := c.def_ 6 (d := dd_look_list_) rfl
    g_look_list := He.glo_ok X G (c.fact 6 (f := .glo "look_list") rfl)
    d_look_numbers := c.def_ 7 (d := dd_look_numbers_) rfl
    g_look_numbers := He.glo_ok X G (c.fact 7 (f := .glo "look_numbers") rfl)
    d_Lot_has := c.def_ 8 (d := dd_Lot_has_) rfl
    d_rest_table := c.def_ 9 (d := dd_rest_table_) rfl
    g_rest_table := He.glo_ok X G (c.fact 9 (f := .glo "rest_table") rfl)
    d_gcd_of := c.def_ 10 (d := dd_gcd_of_) rfl
    g_gcd_of := He.glo_ok X G (c.fact 10 (f := .glo "gcd_of") rfl)
    d_Lot___init__ := c.def_ 11 (d := dd_Lot___init___) rfl
    d_u_law_int := c.def_ 12 (d := dd_u_law_int_) rfl
    g_u_law_int := He.glo_ok X G (c.fact 12 (f := .glo "_law_int") rfl)
    d_u_law_draw := c.def_ 13 (d := dd_u_law_draw_) rfl
    g_u_law_draw := He.glo_ok X G (c.fact 13 (f := .glo "_law_draw") rfl)
    d_u_law_error := c.def_ 14 (d := dd_u_law_error_) rfl
    g_u_law_error := He.glo_ok X G (c.fact 14 (f := .glo "_law_error") rfl)
    d_u_law_told := c.def_ 15 (d := dd_u_law_told_) rfl
    g_u_law_told := He.glo_ok X G (c.fact 15 (f := .glo "_law_told") rfl)
    d_u_law_unlike := c.def_ 16 (d := dd_u_law_unlike_) rfl
    g_u_law_unlike := He.glo_ok X G (c.fact 16 (f := .glo "_law_unlike") rfl)
    d_u_law_table := c.def_ 17 (d := dd_u_law_table_) rfl
    g_u_law_table := He.glo_ok X G (c.fact 17 (f := .glo "_law_table") rfl)
    d_u_law_sieve := c.def_ 18 (d := dd_u_law_sieve_) rfl
    g_u_law_sieve := He.glo_ok X G (c.fact 18 (f := .glo "_law_sieve") rfl)
    d_u_law_list := c.def_ 19 (d := dd_u_law_list_) rfl
    g_u_law_list := He.glo_ok X G (c.fact 19 (f := .glo "_law_list") rfl)
    d_u_law_great := c.def_ 20 (d := dd_u_law_great_) rfl
    g_u_law_great := He.glo_ok X G (c.fact 20 (f := .glo "_law_great") rfl)
    d_u_law_refusal := c.def_ 21 (d := dd_u_law_refusal_) rfl
    g_u_law_refusal := He.glo_ok X G (c.fact 21 (f := .glo "_law_refusal") rfl)
    d_u_law_rests := c.def_ 22 (d := dd_u_law_rests_) rfl
    g_u_law_rests := He.glo_ok X G (c.fact 22 (f := .glo "_law_rests") rfl)
    d_u_law_ask := c.def_ 23 (d := dd_u_law_ask_) rfl
    g_u_law_ask := He.glo_ok X G (c.fact 23 (f := .glo "_law_ask") rfl)
    d_u_law_entry := c.def_ 24 (d := dd_u_law_entry_) rfl
    g_u_law_entry := He.glo_ok X G (c.fact 24 (f := .glo "_law_entry") rfl)
    d_u_law_right := c.def_ 25 (d := dd_u_law_right_) rfl
    g_u_law_right := He.glo_ok X G (c.fact 25 (f := .glo "_law_right") rfl)
    d_u_law_moduli := c.def_ 26 (d := dd_u_law_moduli_) rfl
    g_u_law_moduli := He.glo_ok X G (c.fact 26 (f := .glo "_law_moduli") rfl)
    d_law := c.def_ 27 (d := dd_law_) rfl
    g_law := He.glo_ok X G (c.fact 27 (f := .glo "law") rfl)
    n_ValueError := He.free_ok X G (c.fact 28 (f := .free "ValueError") rfl)
    n_bool := He.free_ok X G (c.fact 29 (f := .free "bool") rfl)
    n_divmod := He.free_ok X G (c.fact 30 (f := .free "divmod") rfl)
    n_int := He.free_ok X G (c.fact 31 (f := .free "int") rfl)
    n_isinstance := He.free_ok X G (c.fact 32 (f := .free "isinstance") rfl)
    n_len := He.free_ok X G (c.fact 33 (f := .free "len") rfl)
    n_list := He.free_ok X G (c.fact 34 (f := .free "list") rfl)
    n_max := He.free_ok X G (c.fact 35 (f := .free "max") rfl)
    n_min := He.free_ok X G (c.fact 36 (f := .free "min") rfl)
    n_range := He.free_ok X G (c.fact 37 (f := .free "range") rfl)
    n_set := He.free_ok X G (c.fact 38 (f := .free "set") rfl)
    n_sorted := He.free_ok X G (c.fact 39 (f := .free "sorted") rfl)
    n_tuple := He.free_ok X G (c.fact 40 (f := .free "tuple") rfl)
    c_FAR := He.int_ok X G (c.fact 41 (f := .int "FAR" 10000000000000000000000000000000000000000) rfl)
    c_COIN := He.int_ok X G (c.fact 42 (f := .int "COIN" 1000000000000) rfl)
    gcd := c.blt X G 0 (b := ("gcd", "math.gcd")) rfl
    e_NotMade := ⟨_, _, c.err X G rfl (by kernel_rfl) 0 it_NotMade rfl⟩
    e_NumberError := ⟨_, _, c.err X G rfl (by kernel_rfl) 1 it_NumberError rfl⟩
    e_SizeError := ⟨_, _, c.err X G rfl (by kernel_rfl) 2 it_SizeError rfl⟩
    e_WideError := ⟨_, _, c.err X G rfl (by kernel_rfl) 3 it_WideError rfl⟩
    ek := a1
    f_at := a2 "at" (by decide)
    f_count := a2 "count" (by decide)
    f_first := a2 "first" (by decide)
    f_grain := a2 "grain" (by decide)
    f_limit := a2 "limit" (by decide)
    f_line := a2 "line" (by decide)
    f_number := a2 "number" (by decide)
    f_second := a2 "second" (by decide)
    coinV := He.glo_ok X G (c.fact 43 (f := .glo "CoinError") rfl)
    g_Lot := He.glo_ok X G (c.fact 44 (f := .glo "Lot") rfl)
    cl_Lot := He.cls_ok (c.fact 45 (f := .cls "Lot") rfl)
    mk_Lot := He.mkr_ok (c.fact 46 (f := .mkr "Lot") rfl)
    me_Lot_has := He.meth_ok (c.fact 47 (f := .meth "Lot" "has") rfl)
    na_coins := (FxHd.na_cons (He.glo_ok X G (c.fact 44 (f := .glo "Lot") rfl)) (He.noat_ok (c.fact 48 (f := .noat "Lot" "coins") rfl)) (fun cc hc => absurd hc List.not_mem_nil))
    na_size := (FxHd.na_cons (He.glo_ok X G (c.fact 44 (f := .glo "Lot") rfl)) (He.noat_ok (c.fact 49 (f := .noat "Lot" "size") rfl)) (fun cc hc => absurd hc List.not_mem_nil))
    na_grain := (FxHd.na_cons (He.glo_ok X G (c.fact 44 (f := .glo "Lot") rfl)) (He.noat_ok (c.fact 50 (f := .noat "Lot" "grain") rfl)) (fun cc hc => absurd hc List.not_mem_nil))
    na_least := (FxHd.na_cons (He.glo_ok X G (c.fact 44 (f := .glo "Lot") rfl)) (He.noat_ok (c.fact 51 (f := .noat "Lot" "least") rfl)) (fun cc hc => absurd hc List.not_mem_nil))
    na_greatest := (FxHd.na_cons (He.glo_ok X G (c.fact 44 (f := .glo "Lot") rfl)) (He.noat_ok (c.fact 52 (f := .noat "Lot" "greatest") rfl)) (fun cc hc => absurd hc List.not_mem_nil))
    na_u_table := (FxHd.na_cons (He.glo_ok X G (c.fact 44 (f := .glo "Lot") rfl)) (He.noat_ok (c.fact 53 (f := .noat "Lot" "_table") rfl)) (fun cc hc => absurd hc List.not_mem_nil))
    coin := a3 }
end G

-- FxS2
set_option Elab.async false
set_option linter.all false
set_option maxRecDepth 100000
set_option maxHeartbeats 2000000
/-! FxS2: how the newer mirrors compute; comprehensions by maps and filters. -/
namespace Fx
open PySem PySem.Spec PyProof.Rows L2
section
variable {ρ : Env} {i j n : Nat} {m ma mb mk me mo : ME} {t : MT} {a : MA} {s : MS} {d : D} {ds : List D} {f : MF} {c x : Str} {cs : List Str} {mi : MIn} {it : MI}
@[simp] theorem x_fd : mFd cs x m ρ = (m ρ).bind fun d => (match d with | .ins c fs => if cs.contains c = true then R.of (fs.lookup x) else .bad | _ => .bad) := rfl
@[simp] theorem x_fdS : mFdS cs i x m ρ = (m ρ).out ρ fun d => (match ρ[i]? with | some (.ins c fs) => if cs.contains c && ((fs.lookup x).isNone && decide (fs.length < 900)) then .nx (ρ.set i (.ins c (fs ++ [(x, d)]))) else .bad | _ => .bad) := rfl
@[simp] theorem x_mMk : mMk c mi a ρ = (a ρ).bind fun ds => (mi ds).bind fun fs => .ok (.ins c fs) := rfl
@[simp] theorem x_mMkL : mMkL c mi a ρ = (a ρ).bind fun ds => (match mi ds with | .ok fs => if lff fs = true then .ok (.ins c fs) else .bad | .err x => if lff x.fs = true then .err x else .bad | .bad => .bad) := rfl
@[simp] theorem x_mMth : mMth c x f mo a ρ = (mo ρ).bind fun d => (match d with | .ins y fs => if (y == c && (fs.lookup x).isNone) = true then (a ρ).bind fun ds => f (.ins y fs :: ds) else .bad | _ => .bad) := rfl
@[simp] theorem x_putL : mPutL i mk me ρ = (me ρ).out ρ fun d => (match ρ[i]? with
  | some (.lst ds) => (mk ρ).out ρ fun k => (match k with
    | .int j => (match ixS ds.length j with
      | some n => .nx (ρ.set i (.lst (ds.set n d)))
      | none => .bad)
    | _ => .bad)
  | _ => .bad) := rfl
@[simp] theorem x_sset : mSset m ρ = (m ρ).bind fun d => (match d with
  | .lst es => (match intsOf es with
    | some ns => if ns.length < 64 then .ok (.lst ((usort ns).map D.int)) else .bad
    | none => .bad)
  | _ => .bad) := rfl
@[simp] theorem x_enumT : mEnumT m ρ = (m ρ).bind fun d => (match d with
  | .tup ds => .ok ((List.range ds.length).map fun i => .tup [.int (i : Nat), ds.getD i .non])
  | _ => .bad) := rfl
@[simp] theorem x_lc2 : mLc2 i j it t m ρ = (it ρ).bind fun ds => szM (szOk ds.length) ((lcL2 i j t m ds (((noExc ρ).set j .no).set i .no)).bind fun ys => .ok (.lst ys)) := by unfold mLc2; cases it ρ <;> rfl
end
/-! ### comprehensions -/
theorem lcL_eq {i : Nat} {t : MT} {e : ME} {ρ : Env} {p : D → Bool} {f : D → D} : ∀ {ds : List D}, (∀ d ∈ ds, t (ρ.set i (.val d)) = .ok (p d) ∧ (p d = true → e (ρ.set i (.val d)) = .ok (f d))) → lcL i t e ds ρ = .ok ((ds.filter p).map f)
  | [], _ => rfl
  | d :: ds, h => by
    obtain ⟨h1, h2⟩ := h d (List.mem_cons_self ..)
    have ih := lcL_eq (ds := ds) fun x hx => h x (List.mem_cons_of_mem _ hx)
    unfold lcL
    rw [h1]
    cases q : p d with
    | true => dsimp only; rw [h2 q]; dsimp only; rw [ih, List.filter_cons_of_pos q]; rfl
    | false => dsimp only; rw [ih, List.filter_cons_of_neg (by rw [q]; exact Bool.false_ne_true)]
/-- over data that are told by a list of things -/
theorem lcL_on {α : Type} {i : Nat} {t : MT} {e : ME} {ρ : Env} {g : α → D} {p : α → Bool} {f : α → D} : ∀ {xs : List α}, (∀ x ∈ xs, t (ρ.set i (.val (g x))) = .ok (p x) ∧ (p x = true → e (ρ.set i (.val (g x))) = .ok (f x))) → lcL i t e (xs.map g) ρ = .ok ((xs.filter p).map f)
  | [], _ => rfl
  | d :: ds, h => by
    obtain ⟨h1, h2⟩ := h d (List.mem_cons_self ..)
    have ih := lcL_on (xs := ds) fun x hx => h x (List.mem_cons_of_mem _ hx)
    rw [List.map_cons]
    unfold lcL
    rw [h1]
    cases q : p d with
    | true => dsimp only; rw [h2 q]; dsimp only; rw [ih, List.filter_cons_of_pos q]; rfl
    | false => dsimp only; rw [ih, List.filter_cons_of_neg (by rw [q]; exact Bool.false_ne_true)]
theorem lcL2_on {α : Type} {i j : Nat} {t : MT} {e : ME} {ρ : Env} {g h : α → D} {p : α → Bool} {f : α → D} : ∀ {xs : List α}, (∀ x ∈ xs, t ((ρ.set i (.val (g x))).set j (.val (h x))) = .ok (p x) ∧ (p x = true → e ((ρ.set i (.val (g x))).set j (.val (h x))) = .ok (f x))) →
    lcL2 i j t e (xs.map fun x => .tup [g x, h x]) ρ = .ok ((xs.filter p).map f)
  | [], _ => rfl
  | d :: ds, hh => by
    obtain ⟨h1, h2⟩ := hh d (List.mem_cons_self ..)
    have ih := lcL2_on (xs := ds) fun x hx => hh x (List.mem_cons_of_mem _ hx)
    rw [List.map_cons]
    unfold lcL2
    show (match t ((ρ.set i (.val (g d))).set j (.val (h d))) with | _ => _) = _
    dsimp only [pr2]
    rw [h1]
    cases q : p d with
    | true => dsimp only; rw [h2 q]; dsimp only; rw [ih, List.filter_cons_of_pos q]; rfl
    | false => dsimp only; rw [ih, List.filter_cons_of_neg (by rw [q]; exact Bool.false_ne_true)]
theorem filter_tt {α : Type} (xs : List α) : xs.filter (fun _ => true) = xs := List.filter_eq_self.mpr fun _ _ => rfl
/-! ### small facts -/
theorem s_for {mi : MI} {g : MG} {b : MS} {ρ : Env} {ds : List D} (h : mi ρ = .ok ds) : mFor mi g b ρ = forL g b ds ρ := by unfold mFor; rw [h]; rfl
theorem e_range1 {m : ME} {ρ : Env} {n : Int} (h : m ρ = .ok (.int n)) (hf : farOk n = true) : mRange1 m ρ = .ok (rangeD 0 n) := by unfold mRange1; rw [h, R.bind_ok]; dsimp only; rw [if_pos hf]
theorem e_range2 {m m2 : ME} {ρ : Env} {i j : Int} (h : m ρ = .ok (.int i)) (h2 : m2 ρ = .ok (.int j)) (hf : farOk i = true) (hf2 : farOk j = true) : mRange2 m m2 ρ = .ok (rangeD i j) := by
  unfold mRange2
  rw [h, R.bind_ok, h2, R.bind_ok]
  dsimp only
  rw [hf, hf2]
  rfl
theorem e_lc {i : Nat} {mi : MI} {t : MT} {e : ME} {ρ : Env} {ds ys : List D} (h : mi ρ = .ok ds) (hz : ds.length ≤ 16000000) (h2 : lcL i t e ds ((noExc ρ).set i .no) = .ok ys) : mLc i mi t e ρ = .ok (.lst ys) := by
  have hz : szOk ds.length = true := decide_eq_true hz
  unfold mLc
  rw [h, R.bind_ok, if_pos hz, h2]
  rfl
theorem e_lc2 {i j : Nat} {mi : MI} {t : MT} {e : ME} {ρ : Env} {ds ys : List D} (h : mi ρ = .ok ds) (hz : ds.length ≤ 16000000) (h2 : lcL2 i j t e ds (((noExc ρ).set j .no).set i .no) = .ok ys) : mLc2 i j mi t e ρ = .ok (.lst ys) := by
  have hz : szOk ds.length = true := decide_eq_true hz
  unfold mLc2
  rw [h, R.bind_ok, if_pos hz, h2]
  rfl
theorem e_items {m : ME} {ρ : Env} {ds : List D} (h : m ρ = .ok (.lst ds)) : mItems m ρ = .ok ds := by unfold mItems; rw [h]; rfl
theorem e_itemsT {m : ME} {ρ : Env} {ds : List D} (h : m ρ = .ok (.tup ds)) : mItemsT m ρ = .ok ds := by unfold mItemsT; rw [h]; rfl
@[simp] theorem gAdd_i {i j : Int} : gAdd (.int i) (.int j) = some (.int (i + j)) := rfl
/-- (not by rfl: else the kernel unfolds f) -/
@[simp] theorem gI_i {f : Int → Int → Option D} {i j : Int} : gI f (.int i) (.int j) = f i j := by
  have h : ∀ x y, x = D.int i → y = D.int j → gI f x y = f i j := by rintro _ _ rfl rfl; rfl
  exact h _ _ rfl rfl
@[simp] theorem kBl_i {f : Int → Int → Bool} {i j : Int} : kBl f i j = some (.bl (f i j)) := rfl
@[simp] theorem kInt_i {f : Int → Int → Int} {i j : Int} : kInt f i j = some (.int (f i j)) := rfl
theorem gEq_ii {a b : Int} : gEq (.int a) (.int b) = some (.bl (a == b)) := by simp [gEq, okE, deq]
theorem gNe_ii {a b : Int} : gNe (.int a) (.int b) = some (.bl (!(a == b))) := by simp [gNe, okE, deq]
@[simp] theorem gIx_l {ds : List D} {i : Int} : gIx (.lst ds) (.int i) = ixL ds i := rfl
@[simp] theorem gIx_t {ds : List D} {i : Int} : gIx (.tup ds) (.int i) = ixL ds i := rfl
theorem ixL_nn {ds : List D} {i : Int} (h : 0 ≤ i) : ixL ds i = ds[i.toNat]? := by unfold ixL; rw [if_pos h]
@[simp] theorem ixL_nat {ds : List D} {i : Nat} : ixL ds (i : Int) = ds[i]? := by rw [ixL_nn (by omega), Int.toNat_natCast]
@[simp] theorem ixL_0 {ds : List D} : ixL ds 0 = ds[0]? := rfl
@[simp] theorem ixL_1 {ds : List D} : ixL ds 1 = ds[1]? := rfl
theorem ixL_last {ds : List D} {d : D} : ixL (ds ++ [d]) (-1) = some d := by
  unfold ixL
  rw [if_neg (by omega), if_pos (by rw [List.length_append]; simp; omega)]
  have : ((-1 : Int) + ((ds ++ [d]).length : Int)).toNat = ds.length := by rw [List.length_append]; simp; omega
  rw [this, List.getElem?_append_right (Nat.le_refl _), Nat.sub_self]
  rfl
theorem ixS_nat {n k : Nat} (h : k < n) : ixS n (k : Int) = some k := by
  unfold ixS
  rw [if_pos (by omega), Int.toNat_natCast, if_pos h]
/-- a list of ints, of ints and None -/
def od : Option Int → D
  | none => .non
  | some v => .int v
theorem kMul_s {i j : Int} (h1 : -(10 ^ 60) ≤ i) (h2 : i ≤ 10 ^ 60) (h3 : -(10 ^ 60) ≤ j) (h4 : j ≤ 10 ^ 60) : kMul i j = some (.int (i * j)) := kMul_ok (Sm.ok ⟨by omega, by omega⟩) (Sm.ok ⟨by omega, by omega⟩)
theorem kDiv_s {i j : Int} (h1 : 0 < j) (h2 : j ≤ 10 ^ 60) : kDiv i j = some (.int (i / j)) := kDiv_ok h1 (Sm.ok ⟨by omega, by omega⟩)
theorem farOk_s {n : Int} (h1 : -(10 ^ 18) ≤ n) (h2 : n ≤ 10 ^ 18) : farOk n = true := by
  unfold farOk
  rw [decide_eq_true (by omega), decide_eq_true (by omega)]
  rfl
theorem szOk_s {n : Nat} (h : n ≤ 16000000) : szOk n = true := decide_eq_true h
theorem rangeD_nat (n : Nat) : rangeD 0 n = (List.range n).map fun i : Nat => .int (i : Int) := by
  unfold rangeD
  rw [Int.sub_zero, Int.toNat_natCast]
  refine List.map_congr_left fun i _ => ?_
  rw [Int.zero_add]
/-! ### loops that may hand back -/
theorem for_or {g : MG} {body : MS} {ds : List D} {I : Nat → Env → Prop} {Q : D → Prop} (h : ∀ i ρ d, I i ρ → ds[i]? = some d → ∃ ρ1, g d ρ = some ρ1 ∧ ((∃ r, body ρ1 = .rt r ∧ Q r) ∨ ∃ ρ2, body ρ1 = .nx ρ2 ∧ I (i + 1) ρ2)) :
    ∀ (m i : Nat) (ρ : Env), m = ds.length - i → i ≤ ds.length → I i ρ → (∃ r, forL g body (ds.drop i) ρ = .rt r ∧ Q r) ∨ ∃ ρ', forL g body (ds.drop i) ρ = .nx ρ' ∧ I ds.length ρ'
  | 0, i, ρ, hm, hl, hi => by
    have e : i = ds.length := by omega
    subst e
    rw [List.drop_length]
    exact .inr ⟨ρ, rfl, hi⟩
  | m + 1, i, ρ, hm, hl, hi => by
    have hlt : i < ds.length := by omega
    rw [List.drop_eq_getElem_cons hlt]
    obtain ⟨ρ1, e1, h1⟩ := h i ρ _ hi (List.getElem?_eq_getElem hlt)
    rcases h1 with ⟨r, e2, q⟩ | ⟨ρ2, e2, i2⟩
    · exact .inl ⟨r, by unfold forL; rw [e1]; dsimp only; rw [e2], q⟩
    · rcases for_or h m (i + 1) ρ2 (by omega) (by omega) i2 with ⟨r, e3, q⟩ | ⟨ρ3, e3, q⟩
      · exact .inl ⟨r, by unfold forL; rw [e1]; dsimp only; rw [e2]; exact e3, q⟩
      · exact .inr ⟨ρ3, by unfold forL; rw [e1]; dsimp only; rw [e2]; exact e3, q⟩
theorem for_or0 {g : MG} {body : MS} {ds : List D} {ρ : Env} {I : Nat → Env → Prop} {Q : D → Prop} (h : ∀ i ρ d, I i ρ → ds[i]? = some d → ∃ ρ1, g d ρ = some ρ1 ∧ ((∃ r, body ρ1 = .rt r ∧ Q r) ∨ ∃ ρ2, body ρ1 = .nx ρ2 ∧ I (i + 1) ρ2)) (h0 : I 0 ρ) :
    (∃ r, forL g body ds ρ = .rt r ∧ Q r) ∨ ∃ ρ', forL g body ds ρ = .nx ρ' ∧ I ds.length ρ' := by
  have z := for_or h ds.length 0 ρ (by omega) (Nat.zero_le _) h0
  rw [List.drop_zero] at z
  exact z
/-- own lists -/
theorem s_app {i : Nat} {m : ME} {ρ : Env} {d : D} {ds : List D} (h : m ρ = .ok d) (h2 : ρ[i]? = some (.lst ds)) (h3 : ds.length ≤ 16000000) : mApp i m ρ = .nx (ρ.set i (.lst (ds ++ [d]))) := by
  have h3 : szOk ds.length = true := decide_eq_true h3
  unfold mApp
  rw [h2]
  dsimp only
  rw [h, R.out_ok, if_pos h3]
theorem s_frz {i : Nat} {ρ : Env} {ds : List D} (h2 : ρ[i]? = some (.lst ds)) : mFrz i ρ = .nx (ρ.set i (.val (.lst ds))) := by
  unfold mFrz
  rw [h2]
theorem s_retO {i : Nat} {ρ : Env} {ds : List D} (h2 : ρ[i]? = some (.lst ds)) : mRetO i ρ = .rt (.lst ds) := by
  unfold mRetO
  rw [h2]
/-- comparing lists of ints -/
theorem okEs_ints : ∀ (l : List Int) (n : Nat), okEs (l.map D.int) n = true
  | [], n => by unfold okEs; rfl
  | a :: l, n => by
    rw [List.map_cons]
    unfold okEs okE
    rw [okEs_ints l n]; rfl
theorem deqs_ints : ∀ (l k : List Int), deqs (l.map D.int) (k.map D.int) = (l == k)
  | [], [] => by unfold deqs; rfl
  | [], b :: k => by rw [List.map_cons, List.map_nil]; unfold deqs; rfl
  | a :: l, [] => by rw [List.map_cons, List.map_nil]; unfold deqs; rfl
  | a :: l, b :: k => by
    rw [List.map_cons, List.map_cons]
    unfold deqs deq
    rw [deqs_ints l k]
    rfl
theorem gEq_LI {l k : List Int} : gEq (.lst (l.map D.int)) (.lst (k.map D.int)) = some (.bl (l == k)) := by
  unfold gEq
  have a : okE (.lst (l.map D.int)) 60 = true := by unfold okE; exact okEs_ints l 59
  have b : okE (.lst (k.map D.int)) 60 = true := by unfold okE; exact okEs_ints k 59
  rw [a, b]
  show some (D.bl (deq (.lst (l.map D.int)) (.lst (k.map D.int)))) = _
  unfold deq
  rw [deqs_ints]
theorem e_mapNil : (D.lst []) = .lst (([] : List Int).map D.int) := rfl
end Fx

-- Sg1
set_option Elab.async false
set_option linter.all false
set_option maxRecDepth 100000
set_option maxHeartbeats 2000000
/-! Sg1: numbers that coins make; whole; common divisors; gluing. Plain Lean. -/
namespace Sg
inductive Made (cs : List Int) : Int → Prop
  | zero : Made cs 0
  | add {c n : Int} : c ∈ cs → Made cs n → Made cs (n + c)
abbrev Pos (cs : List Int) : Prop := ∀ c ∈ cs, 0 < c
variable {cs ds : List Int} {a b c n m z p q : Int}
theorem Made.plus (ha : Made cs a) (hb : Made cs b) : Made cs (a + b) := by
  induction hb with
  | zero => rw [Int.add_zero]; exact ha
  | add hc _ ih => rw [← Int.add_assoc]; exact .add hc ih
theorem Made.coin (h : c ∈ cs) : Made cs c := by
  have := Made.add h .zero
  rwa [Int.zero_add] at this
theorem Made.mul (ha : Made cs a) : ∀ k : Nat, Made cs ((k : Int) * a)
  | 0 => by rw [Int.natCast_zero, Int.zero_mul]; exact .zero
  | k + 1 => by
    have e : ((k + 1 : Nat) : Int) * a = (k : Int) * a + a := by rw [Int.natCast_succ, Int.add_mul, Int.one_mul]
    rw [e]
    exact (Made.mul ha k).plus ha
theorem Made.mulI (ha : Made cs a) {k : Int} (hk : 0 ≤ k) : Made cs (k * a) := by
  have := ha.mul k.toNat
  rwa [Int.toNat_of_nonneg hk] at this
theorem Made.nn (hp : Pos cs) (h : Made cs n) : 0 ≤ n := by
  induction h with
  | zero => exact Int.le_refl _
  | add hc _ ih => have := hp _ hc; omega
theorem Made.sub (h : ∀ x, x ∈ cs → Made ds x) (hn : Made cs n) : Made ds n := by
  induction hn with
  | zero => exact .zero
  | add hc _ ih => exact ih.plus (h _ hc)
theorem Made.mono (h : ∀ x, x ∈ cs → x ∈ ds) (hn : Made cs n) : Made ds n := hn.sub fun x hx => .coin (h x hx)
theorem Made.congr (h : ∀ x, x ∈ cs ↔ x ∈ ds) : Made cs n ↔ Made ds n := ⟨Made.mono fun x => (h x).mp, Made.mono fun x => (h x).mpr⟩
/-! ### whole -/
inductive Comb (cs : List Int) : Int → Prop
  | zero : Comb cs 0
  | add {c n : Int} : c ∈ cs → Comb cs n → Comb cs (n + c)
  | sub {c n : Int} : c ∈ cs → Comb cs n → Comb cs (n - c)
theorem Comb.plus (ha : Comb cs a) (hb : Comb cs b) : Comb cs (a + b) := by
  induction hb with
  | zero => rw [Int.add_zero]; exact ha
  | add hc _ ih => rw [← Int.add_assoc]; exact .add hc ih
  | sub hc _ ih =>
    rw [← Int.add_sub_assoc]; exact .sub hc ih
theorem Comb.neg (ha : Comb cs a) : Comb cs (-a) := by
  induction ha with
  | zero => exact .zero
  | @add c n hc _ ih => have : -(n + c) = -n - c := by omega
                        rw [this]; exact .sub hc ih
  | @sub c n hc _ ih => have : -(n - c) = -n + c := by omega
                        rw [this]; exact .add hc ih
theorem Comb.mulN (ha : Comb cs a) : ∀ k : Nat, Comb cs ((k : Int) * a)
  | 0 => by rw [Int.natCast_zero, Int.zero_mul]; exact .zero
  | k + 1 => by
    have e : ((k + 1 : Nat) : Int) * a = (k : Int) * a + a := by rw [Int.natCast_succ, Int.add_mul, Int.one_mul]
    rw [e]
    exact (Comb.mulN ha k).plus ha
theorem Comb.mul (ha : Comb cs a) (k : Int) : Comb cs (k * a) := by
  by_cases h : 0 ≤ k
  · have := ha.mulN k.toNat
    rwa [Int.toNat_of_nonneg h] at this
  · have := (ha.mulN (-k).toNat).neg
    rw [Int.toNat_of_nonneg (by omega)] at this
    have e : -(-k * a) = k * a := by rw [Int.neg_mul, Int.neg_neg]
    rwa [e] at this
theorem Comb.coin (h : c ∈ cs) : Comb cs c := by
  have := Comb.add h .zero
  rwa [Int.zero_add] at this
theorem Comb.dvd {d : Int} (h : ∀ c ∈ cs, d ∣ c) (hn : Comb cs n) : d ∣ n := by
  induction hn with
  | zero => exact Int.dvd_zero _
  | add hc _ ih => exact Int.dvd_add ih (h _ hc)
  | sub hc _ ih => exact Int.dvd_sub ih (h _ hc)
theorem Comb.made (hp : Pos cs) (hm : m ∈ cs) (hz : Comb cs z) : ∃ k : Int, Made cs (z + k * m) := by
  induction hz with
  | zero => exact ⟨0, by rw [Int.zero_mul, Int.add_zero]; exact .zero⟩
  | @add c n hc _ ih =>
    obtain ⟨k, h⟩ := ih
    exact ⟨k, by have := Made.add hc h; have e : n + c + k * m = n + k * m + c := by omega
                 rwa [e]⟩
  | @sub c n hc _ ih =>
    obtain ⟨k, h⟩ := ih
    have m0 := hp _ hm
    refine ⟨k + c, ?_⟩
    have := h.plus ((Made.coin hc).mulI (k := m - 1) (by omega))
    have e : n - c + (k + c) * m = n + k * m + (m - 1) * c := by grind
    rwa [e]
/-- every class has a made number -/
def Whole (cs : List Int) : Prop := ∀ m ∈ cs, ∀ z : Int, ∃ k : Int, Made cs (z + k * m)
theorem whole_of (hp : Pos cs) (h : Comb cs 1) : Whole cs := fun m hm z => by
  have := h.mul z
  rw [Int.mul_one] at this
  exact this.made hp hm
/-! ### common divisors -/
theorem bez : ∀ (a b : Nat), ∃ u v : Int, (Nat.gcd a b : Int) = u * a + v * b := by
  intro a
  induction a using Nat.strongRecOn with
  | _ a ih =>
    intro b
    by_cases h : a = 0
    · subst h
      exact ⟨0, 1, by rw [Nat.gcd_zero_left]; omega⟩
    · obtain ⟨u, v, e⟩ := ih (b % a) (Nat.mod_lt _ (by omega)) a
      rw [Nat.gcd_rec, e]
      refine ⟨v - u * (b / a : Nat), u, ?_⟩
      have h2 : ((b % a : Nat) : Int) = b - (a : Int) * (b / a : Nat) := by
        have := Nat.div_add_mod b a
        have h3 : ((a * (b / a) + b % a : Nat) : Int) = (b : Int) := by rw [this]
        rw [Int.natCast_add, Int.natCast_mul] at h3
        omega
      rw [h2]
      grind
theorem bezI (a b : Int) : ∃ u v : Int, ((Nat.gcd a.natAbs b.natAbs : Nat) : Int) = u * a + v * b := by
  obtain ⟨u, v, e⟩ := bez a.natAbs b.natAbs
  have s : ∀ x : Int, ∃ t : Int, (x.natAbs : Int) = t * x := fun x => by
    by_cases h : 0 ≤ x
    · exact ⟨1, by omega⟩
    · exact ⟨-1, by omega⟩
  obtain ⟨s1, e1⟩ := s a
  obtain ⟨s2, e2⟩ := s b
  refine ⟨u * s1, v * s2, ?_⟩
  rw [e, e1, e2]
  grind
def gcdl (g : Nat) : List Int → Nat
  | [] => g
  | c :: cs => gcdl (Nat.gcd g c.natAbs) cs
theorem gcdl_comb {g : Nat} : ∀ {cs : List Int} {ds : List Int} {g : Nat}, (∀ x ∈ cs, x ∈ ds) → Comb ds (g : Int) → Comb ds (gcdl g cs : Int)
  | [], _, _, _, h => h
  | c :: cs, ds, g, hs, h => by
    refine gcdl_comb (cs := cs) (g := Nat.gcd g c.natAbs) (fun x hx => hs x (List.mem_cons_of_mem _ hx)) ?_
    obtain ⟨u, v, e⟩ := bezI (g : Int) c
    rw [Int.natAbs_natCast] at e
    rw [e]
    exact (h.mul u).plus ((Comb.coin (hs c (List.mem_cons_self ..))).mul v)
theorem gcdl_comb0 (cs : List Int) : Comb cs (gcdl 0 cs : Int) := gcdl_comb (g := 0) (fun x hx => hx) .zero
theorem gcdl_dvd0 : ∀ (cs : List Int) (g : Nat), gcdl g cs ∣ g
  | [], g => Nat.dvd_refl g
  | c :: cs, g => Nat.dvd_trans (gcdl_dvd0 cs _) (Nat.gcd_dvd_left _ _)
theorem gcdl_dvd : ∀ {cs : List Int} {g : Nat} {c : Int}, c ∈ cs → (gcdl g cs : Int) ∣ c
  | b :: cs, g, c, h => by
    rcases List.mem_cons.mp h with rfl | h
    · have h1 : gcdl g (c :: cs) ∣ c.natAbs := Nat.dvd_trans (gcdl_dvd0 cs _) (Nat.gcd_dvd_right _ _)
      exact Int.ofNat_dvd_left.mpr h1
    · exact gcdl_dvd (cs := cs) h
theorem gcdl_one (h : Comb cs 1) : gcdl 0 cs = 1 := by
  have h1 : (gcdl 0 cs : Int) ∣ 1 := h.dvd fun c hc => gcdl_dvd hc
  have := Int.le_of_dvd (by omega) h1
  have h3 : gcdl 0 cs ∣ 1 := Int.ofNat_dvd_left.mp h1
  exact Nat.dvd_one.mp h3
theorem comb_one (h : gcdl 0 cs = 1) : Comb cs 1 := by
  have := gcdl_comb0 cs
  rwa [h] at this
theorem Comb.times {t : Int} (h : Comb cs n) : Comb (cs.map fun c => t * c) (t * n) := by
  induction h with
  | zero => rw [Int.mul_zero]; exact .zero
  | add hc _ ih => rw [Int.mul_add]; exact .add (List.mem_map.mpr ⟨_, hc, rfl⟩) ih
  | sub hc _ ih => rw [Int.mul_sub]; exact .sub (List.mem_map.mpr ⟨_, hc, rfl⟩) ih
theorem Comb.mono (h : ∀ x, x ∈ cs → x ∈ ds) (hn : Comb cs n) : Comb ds n := by
  induction hn with
  | zero => exact .zero
  | add hc _ ih => exact .add (h _ hc) ih
  | sub hc _ ih => exact .sub (h _ hc) ih
theorem gcdl_times {t : Int} (ht : 0 < t) (h : Comb cs 1) (hd : ∀ x, x ∈ ds ↔ x ∈ cs.map fun c => t * c) : gcdl 0 ds = t.toNat := by
  have h1 : Comb ds t := by
    have := h.times (t := t)
    rw [Int.mul_one] at this
    exact this.mono fun x => (hd x).mpr
  have h2 : (gcdl 0 ds : Int) ∣ t := h1.dvd fun c hc => gcdl_dvd hc
  have h3 : t ∣ (gcdl 0 ds : Int) := (gcdl_comb0 ds).dvd fun c hc => by
    obtain ⟨c', _, rfl⟩ := List.mem_map.mp ((hd c).mp hc)
    exact Int.dvd_mul_right _ _
  have h4 := Int.le_of_dvd ht h2
  have h5 : (gcdl 0 ds : Int) = t := Int.dvd_antisymm (by omega) (by omega) h2 h3
  omega
/-! ### least representatives -/
theorem least_ex {S : Int → Prop} {lo : Int} (hlo : ∀ t, S t → lo ≤ t) {t : Int} (ht : S t) : ∃ t0, S t0 ∧ ∀ t, S t → t0 ≤ t := by
  have key : ∀ (k : Nat) (t : Int), S t → t - lo ≤ k → ∃ t0, S t0 ∧ ∀ t, S t → t0 ≤ t := by
    intro k
    induction k with
    | zero =>
      intro t ht hk
      exact ⟨t, ht, fun u hu => by have := hlo u hu; have := hlo t ht; omega⟩
    | succ k ih =>
      intro t ht hk
      by_cases h : ∃ u, S u ∧ u < t
      · obtain ⟨u, hu, hl⟩ := h
        exact ih u hu (by omega)
      · exact ⟨t, ht, fun u hu => by
          false_or_by_contra
          exact h ⟨u, hu, by omega⟩⟩
  have := hlo t ht
  exact key (t - lo).toNat t ht (by omega)
/-! ### pseudo-holes -/
def PF (cs : List Int) (z : Int) : Prop := ¬ Made cs z ∧ ∀ c ∈ cs, Made cs (z + c)
theorem PF.plus (h : PF cs z) (hn : Made cs n) (h0 : n ≠ 0) : Made cs (z + n) := by
  induction hn with
  | zero => exact absurd rfl h0
  | @add c n hc hn ih =>
    have : z + (n + c) = z + c + n := by omega
    rw [this]
    exact (h.2 c hc).plus hn
/-! ### gluing -/
structure Glue (one two : List Int) (p q : Int) : Prop where
  p1 : Pos one
  p2 : Pos two
  w1 : Whole one
  w2 : Whole two
  n1 : one ≠ []
  n2 : two ≠ []
  p0 : 0 < p
  q0 : 0 < q
  g : Nat.gcd p.natAbs q.natAbs = 1
  mp : Made two p
  mq : Made one q
def glueC (one two : List Int) (p q : Int) : List Int := one.map (fun c => p * c) ++ two.map (fun c => q * c)
variable {one two : List Int}
theorem glue_made1 (h : Made one a) : Made (glueC one two p q) (p * a) := by
  induction h with
  | zero => rw [Int.mul_zero]; exact .zero
  | add hc _ ih => rw [Int.mul_add]; exact .add (List.mem_append.mpr (.inl (List.mem_map.mpr ⟨_, hc, rfl⟩))) ih
theorem glue_made2 (h : Made two a) : Made (glueC one two p q) (q * a) := by
  induction h with
  | zero => rw [Int.mul_zero]; exact .zero
  | add hc _ ih => rw [Int.mul_add]; exact .add (List.mem_append.mpr (.inr (List.mem_map.mpr ⟨_, hc, rfl⟩))) ih
theorem glue_split (h : Made (glueC one two p q) z) : ∃ a b, Made one a ∧ Made two b ∧ z = p * a + q * b := by
  induction h with
  | zero => exact ⟨0, 0, .zero, .zero, by omega⟩
  | @add c n hc _ ih =>
    obtain ⟨a, b, ha, hb, rfl⟩ := ih
    rcases List.mem_append.mp hc with hc | hc
    · obtain ⟨c', hc', rfl⟩ := List.mem_map.mp hc
      exact ⟨a + c', b, .add hc' ha, hb, by grind⟩
    · obtain ⟨c', hc', rfl⟩ := List.mem_map.mp hc
      exact ⟨a, b + c', ha, .add hc' hb, by grind⟩
/-- in the second lot, the least of its class -/
def Ap (two : List Int) (p b : Int) : Prop := Made two b ∧ ¬ Made two (b - p)
theorem Glue.cop (G : Glue one two p q) {x y : Int} (h : p * x = q * y) : ∃ t, y = p * t ∧ x = q * t := by
  obtain ⟨u, v, e⟩ := bezI p q
  rw [G.g] at e
  refine ⟨u * y + v * x, ?_, ?_⟩
  · have : y = (u * p + v * q) * y := by rw [← e]; omega
    grind
  · have : x = (u * p + v * q) * x := by rw [← e]; omega
    grind
theorem whole_any (hp : Pos cs) (w : Whole cs) (h : cs ≠ []) (hm : Made cs m) (h0 : 0 < m) (z : Int) : ∃ k : Int, Made cs (z + k * m) := by
  obtain ⟨c, hc⟩ := List.exists_mem_of_ne_nil cs h
  have c0 := hp c hc
  obtain ⟨k, hk⟩ := w c hc z
  by_cases k0 : 0 ≤ k
  · -- up to a multiple of c * m
    have h1 := hk.plus ((Made.coin hc).mulI (k := (m - 1) * k) (Int.mul_nonneg (by omega) k0))
    exact ⟨k * c, by have e : z + k * c * m = z + k * c + (m - 1) * k * c := by grind
                     rwa [e]⟩
  · -- k below 0: z is greater
    have h1 := hk.plus ((Made.coin hc).mulI (k := -k) (by omega))
    have e : z + k * c + -k * c = z := by grind
    rw [e] at h1
    exact ⟨0, by rw [Int.zero_mul, Int.add_zero]; exact h1⟩
theorem Glue.rep (G : Glue one two p q) (z : Int) : ∃ a b, Ap two p b ∧ z = p * a + q * b := by
  obtain ⟨u, v, e⟩ := bezI p q
  rw [G.g] at e
  have e : 1 = u * p + v * q := e
  obtain ⟨k, hk⟩ := whole_any G.p2 G.w2 G.n2 G.mp G.p0 (v * z)
  obtain ⟨t, ht, hl⟩ := least_ex (S := fun t => Made two (v * z + t * p)) (lo := -(v * z).natAbs) (fun t h => by
    have h1 := h.nn G.p2
    false_or_by_contra
    have p0 := G.p0
    have h2 : 0 ≤ (-t - 1) * (p - 1) := Int.mul_nonneg (by omega) (by omega)
    have h3 : (-t - 1) * (p - 1) = -(t * p) + t - p + 1 := by grind
    omega) hk
  refine ⟨u * z - q * t, v * z + t * p, ⟨ht, fun h => ?_⟩, ?_⟩
  · have := hl (t - 1) (by have e2 : v * z + (t - 1) * p = v * z + t * p - p := by grind
                           rw [e2]; exact h)
    omega
  · have : z = (u * p + v * q) * z := by rw [← e]; omega
    grind
theorem Glue.made (G : Glue one two p q) (h : Ap two p b) : Made (glueC one two p q) (p * a + q * b) ↔ Made one a := by
  constructor
  · intro hz
    obtain ⟨a', b', ha, hb, e⟩ := glue_split hz
    obtain ⟨t, e1, e2⟩ := G.cop (x := a - a') (y := b' - b) (by grind)
    by_cases t0 : 0 ≤ t
    · have : a = a' + t * q := by grind
      rw [this]
      exact ha.plus (G.mq.mulI t0)
    · exfalso
      refine h.2 ?_
      have : b - p = b' + (-t - 1) * p := by grind
      rw [this]
      exact hb.plus (G.mp.mulI (by omega))
  · intro ha
    exact (glue_made1 ha).plus (glue_made2 h.1)
theorem Glue.pf (G : Glue one two p q) (z : Int) : PF (glueC one two p q) z ↔ ∃ x y, PF one x ∧ PF two y ∧ z = p * x + q * y + p * q := by
  constructor
  · rintro ⟨h1, h2⟩
    obtain ⟨a, b, hb, rfl⟩ := G.rep z
    refine ⟨a, b - p, ⟨fun h => h1 ((G.made hb).mpr h), fun c hc => ?_⟩, ⟨hb.2, fun d hd => ?_⟩, by grind⟩
    · have h3 := h2 (p * c) (List.mem_append.mpr (.inl (List.mem_map.mpr ⟨c, hc, rfl⟩)))
      have e : p * a + q * b + p * c = p * (a + c) + q * b := by grind
      rw [e] at h3
      exact (G.made hb).mp h3
    · false_or_by_contra
      rename_i hn
      have h3 := h2 (q * d) (List.mem_append.mpr (.inr (List.mem_map.mpr ⟨d, hd, rfl⟩)))
      have e : p * a + q * b + q * d = p * a + q * (b + d) := by grind
      rw [e] at h3
      have hb2 : Ap two p (b + d) := ⟨.add hd hb.1, fun h => hn (by rw [show b - p + d = b + d - p from by omega]; exact h)⟩
      exact h1 ((G.made hb).mpr ((G.made hb2).mp h3))
  · rintro ⟨x, y, hx, hy, rfl⟩
    have hyp : Made two (y + p) := hy.plus G.mp (by have := G.p0; omega)
    have hb : Ap two p (y + p) := ⟨hyp, by have e : y + p - p = y := by omega
                                           rw [e]; exact hy.1⟩
    have e : p * x + q * y + p * q = p * x + q * (y + p) := by grind
    rw [e]
    refine ⟨fun h => hx.1 ((G.made hb).mp h), fun c hc => ?_⟩
    rcases List.mem_append.mp hc with hc | hc
    · obtain ⟨c', hc', rfl⟩ := List.mem_map.mp hc
      have e : p * x + q * (y + p) + p * c' = p * (x + c') + q * (y + p) := by grind
      rw [e]
      exact (G.made hb).mpr (hx.2 c' hc')
    · obtain ⟨d, hd, rfl⟩ := List.mem_map.mp hc
      have h3 : Made two (y + d) := hy.2 d hd
      have h4 : Made one (x + q) := hx.plus G.mq (by have := G.q0; omega)
      have e : p * x + q * (y + p) + q * d = p * (x + q) + q * (y + d) := by grind
      rw [e]
      exact (glue_made1 h4).plus (glue_made2 h3)
theorem Glue.inj (G : Glue one two p q) {x y x' y' : Int} (hy : PF two y) (hy' : PF two y') (h : p * x + q * y + p * q = p * x' + q * y' + p * q) : x = x' ∧ y = y' := by
  obtain ⟨t, e1, e2⟩ := G.cop (x := x - x') (y := y' - y) (by grind)
  have t0 : t = 0 := by
    false_or_by_contra
    rename_i hn
    by_cases h0 : 0 < t
    · refine hy'.1 ?_
      have : y' = y + t * p := by grind
      rw [this]
      exact hy.plus (G.mp.mulI (by omega)) (by have := Int.mul_pos h0 G.p0; omega)
    · refine hy.1 ?_
      have : y = y' + -t * p := by grind
      rw [this]
      exact hy'.plus (G.mp.mulI (by omega)) (by have := Int.mul_pos (show 0 < -t by omega) G.p0; omega)
  subst t0
  omega
theorem Glue.comb (G : Glue one two p q) (h1 : Comb one 1) (h2 : Comb two 1) : Comb (glueC one two p q) 1 := by
  have a1 : Comb (glueC one two p q) p := by
    have := (h1.times (t := p)).mono (ds := glueC one two p q) fun x hx => List.mem_append.mpr (.inl hx)
    rwa [Int.mul_one] at this
  have a2 : Comb (glueC one two p q) q := by
    have := (h2.times (t := q)).mono (ds := glueC one two p q) fun x hx => List.mem_append.mpr (.inr hx)
    rwa [Int.mul_one] at this
  obtain ⟨u, v, e⟩ := bezI p q
  rw [G.g] at e
  have e : 1 = u * p + v * q := e
  rw [e]
  exact (a1.mul u).plus (a2.mul v)
end Sg

-- Sg2
set_option Elab.async false
set_option linter.all false
set_option maxRecDepth 100000
set_option maxHeartbeats 2000000
/-! Sg2: tables of least made numbers: rings, rounds. Plain Lean. -/
namespace Sg
abbrev Tb := List (Option Int)
def Le (T : Tb) (i : Nat) (b : Int) : Prop := ∃ v, T[i]? = some (some v) ∧ v ≤ b
theorem Le.up {T : Tb} {i : Nat} {b c : Int} (h : Le T i b) (hc : b ≤ c) : Le T i c := let ⟨v, e, h⟩ := h; ⟨v, e, Int.le_trans h hc⟩
structure Down (T T' : Tb) : Prop where
  len : T'.length = T.length
  le : ∀ i b, Le T i b → Le T' i b
theorem Down.refl (T : Tb) : Down T T := ⟨rfl, fun _ _ h => h⟩
theorem Down.trans {T T1 T2 : Tb} (a : Down T T1) (b : Down T1 T2) : Down T T2 := ⟨b.len.trans a.len, fun i x h => b.le i x (a.le i x h)⟩
/-- the step of both walks -/
def relax (T : Tb) (h w : Nat) (c : Int) : Tb := match T[h]? with
  | some (some a) => (match T[w]? with
    | some none => T.set w (some (a + c))
    | some (some b) => if b > a + c then T.set w (some (a + c)) else T
    | none => T)
  | _ => T
theorem set_le {T : Tb} {w : Nat} {v : Int} (hw : w < T.length) : Le (T.set w (some v)) w v := ⟨v, by rw [List.getElem?_set_self hw], Int.le_refl _⟩
theorem lt_of_get {T : Tb} {w : Nat} {o : Option Int} (h : T[w]? = some o) : w < T.length := (List.getElem?_eq_some_iff.mp h).1
theorem relax_len {T : Tb} {h w : Nat} {c : Int} : (relax T h w c).length = T.length := by
  unfold relax
  split
  · split
    · rw [List.length_set]
    · split
      · rw [List.length_set]
      · rfl
    · rfl
  · rfl
theorem relax_down (T : Tb) (h w : Nat) (c : Int) : Down T (relax T h w c) := by
  refine ⟨relax_len, fun i b hb => ?_⟩
  unfold relax
  split
  · rename_i a ea
    split
    · rename_i ew
      by_cases z : w = i
      · subst z
        obtain ⟨v, ev, _⟩ := hb
        rw [ew] at ev; cases ev
      · obtain ⟨v, ev, hv⟩ := hb
        exact ⟨v, by rw [List.getElem?_set_ne z]; exact ev, hv⟩
    · rename_i b' ew
      split
      · rename_i hlt
        by_cases z : w = i
        · subst z
          obtain ⟨v, ev, hv⟩ := hb
          rw [ew] at ev; cases ev
          exact (set_le (lt_of_get ew)).up (by omega)
        · obtain ⟨v, ev, hv⟩ := hb
          exact ⟨v, by rw [List.getElem?_set_ne z]; exact ev, hv⟩
      · exact hb
    · exact hb
  · exact hb
theorem relax_edge {T : Tb} {h w : Nat} {c b : Int} (hb : Le T h b) (hw : w < T.length) : Le (relax T h w c) w (b + c) := by
  obtain ⟨a, ea, ha⟩ := hb
  unfold relax
  rw [ea]
  dsimp only
  cases q : T[w]? with
  | none => rw [List.getElem?_eq_none_iff] at q; omega
  | some o =>
    cases o with
    | none => exact (set_le hw).up (by omega)
    | some b' =>
      dsimp only
      split
      · exact (set_le hw).up (by omega)
      · exact ⟨b', q, by omega⟩
/-- what all entries are -/
def Src (P : Nat → Int → Prop) (T : Tb) : Prop := ∀ i v, T[i]? = some (some v) → P i v
theorem relax_src {P : Nat → Int → Prop} {T : Tb} {h w : Nat} {c : Int} (hs : Src P T) (hp : ∀ a, P h a → P w (a + c)) : Src P (relax T h w c) := by
  intro i v hv
  have key : ∀ a, T[h]? = some (some a) → (T.set w (some (a + c)))[i]? = some (some v) → P i v := fun a ea e => by
    by_cases z : w = i
    · subst z
      by_cases hw : w < T.length
      · rw [List.getElem?_set_self hw] at e
        cases e
        exact hp a (hs h a ea)
      · rw [List.set_eq_of_length_le (by omega)] at e
        exact hs _ _ e
    · rw [List.getElem?_set_ne z] at e
      exact hs i v e
  unfold relax at hv
  split at hv
  · rename_i a ea
    split at hv
    · exact key a ea hv
    · split at hv
      · exact key a ea hv
      · exact hs i v hv
    · exact hs i v hv
  · exact hs i v hv
/-! ### places on a ring -/
def pos (m : Nat) (c : Int) (s i : Nat) : Nat := ((s + i * c) % m).toNat
theorem pos_int {m : Nat} {c : Int} {s i : Nat} (hm : 0 < m) : (pos m c s i : Int) = (s + i * c) % m := by
  unfold pos
  exact Int.toNat_of_nonneg (Int.emod_nonneg _ (by omega))
theorem pos_lt {m : Nat} {c : Int} {s i : Nat} (hm : 0 < m) : pos m c s i < m := by
  have h1 := pos_int (c := c) (s := s) (i := i) hm
  have h2 := Int.emod_lt_of_pos (s + i * c) (show (0 : Int) < m by omega)
  omega
theorem pos_succ {m : Nat} {c : Int} {s i : Nat} (hm : 0 < m) : (((pos m c s i : Int) + c) % m).toNat = pos m c s (i + 1) := by
  have h1 := pos_int (c := c) (s := s) (i := i) hm
  have h2 := pos_int (c := c) (s := s) (i := i + 1) hm
  have h3 : ((pos m c s i : Int) + c) % m = (s + ((i + 1 : Nat) : Int) * c) % m := by
    rw [h1, Int.emod_add_emod]
    congr 1
    rw [Int.natCast_succ]; grind
  rw [h3, ← h2]
  exact Int.toNat_natCast _
theorem pos_zero {m : Nat} {c : Int} {s : Nat} (hs : s < m) : pos m c s 0 = s := by
  have h1 := pos_int (c := c) (s := s) (i := 0) (show 0 < m by omega)
  rw [Int.natCast_zero, Int.zero_mul, Int.add_zero, Int.emod_eq_of_lt (by omega) (by omega)] at h1
  omega
structure Ring (T0 T : Tb) (m : Nat) (c : Int) (s n : Nat) : Prop where
  len : T.length = m
  dn : Down T0 T
  w : ∀ i, i ≤ n → ∀ k, k ≤ i → ∀ b, Le T0 (pos m c s (i - k)) b → Le T (pos m c s i) (b + k * c)
theorem Ring.start {T0 T : Tb} {m : Nat} {c : Int} {s : Nat} (h : T.length = m) (d : Down T0 T) : Ring T0 T m c s 0 := ⟨h, d, fun i hi k hk b hb => by
  have e1 : i = 0 := by omega
  subst e1
  have e2 : k = 0 := by omega
  subst e2
  rw [Int.natCast_zero, Int.zero_mul, Int.add_zero]
  exact d.le _ _ hb⟩
theorem Ring.step {T0 T : Tb} {m : Nat} {c : Int} {s n : Nat} (hm : 0 < m) (R : Ring T0 T m c s n) : Ring T0 (relax T (pos m c s n) (pos m c s (n + 1)) c) m c s (n + 1) := by
  have d := relax_down T (pos m c s n) (pos m c s (n + 1)) c
  refine ⟨relax_len.trans R.len, R.dn.trans d, fun i hi k hk b hb => ?_⟩
  by_cases z : i ≤ n
  · exact d.le _ _ (R.w i z k hk b hb)
  · have e : i = n + 1 := by omega
    subst e
    cases k with
    | zero =>
      rw [Int.natCast_zero, Int.zero_mul, Int.add_zero]
      exact (R.dn.trans d).le _ _ hb
    | succ k =>
      have h1 := R.w n (Nat.le_refl _) k (by omega) b (by rw [show n + 1 - (k + 1) = n - k from by omega] at hb; exact hb)
      have h2 := relax_edge (w := pos m c s (n + 1)) (c := c) h1 (by rw [R.len]; exact pos_lt hm)
      have e3 : b + ((k + 1 : Nat) : Int) * c = b + k * c + c := by rw [Int.natCast_succ]; grind
      rw [e3]; exact h2
structure Rings (T0 T : Tb) (m : Nat) (c : Int) (N r : Nat) : Prop where
  len : T.length = m
  dn : Down T0 T
  w : ∀ s, s < r → ∀ i, i ≤ N → ∀ k, k ≤ i → ∀ b, Le T0 (pos m c s (i - k)) b → Le T (pos m c s i) (b + k * c)
theorem Rings.start {T0 : Tb} {m : Nat} {c : Int} {N : Nat} (h : T0.length = m) : Rings T0 T0 m c N 0 := ⟨h, .refl _, fun s hs => absurd hs (Nat.not_lt_zero _)⟩
theorem Rings.step {T0 T T' : Tb} {m : Nat} {c : Int} {N r : Nat} (R : Rings T0 T m c N r) (Q : Ring T T' m c r N) : Rings T0 T' m c N (r + 1) := by
  refine ⟨Q.len, R.dn.trans Q.dn, fun s hs i hi k hk b hb => ?_⟩
  by_cases z : s < r
  · exact Q.dn.le _ _ (R.w s z i hi k hk b hb)
  · have e : s = r := by omega
    subst e
    exact Q.w i hi k hk b (R.dn.le _ _ hb)
theorem Rings.cl {T0 T : Tb} {m g L : Nat} {c : Int} (hm : 0 < m) (hc : 0 < c) (hg : g = Nat.gcd m c.natAbs) (hL : m = g * L) (R : Rings T0 T m c (2 * L) g) {j k : Nat} {b : Int} (hj : j < m) (h : Le T0 j b) : Le T (((j : Int) + k * c) % m).toNat (b + k * c) := by
  have g0 : 0 < g := by rw [hg]; exact Nat.gcd_pos_of_pos_left _ hm
  have L0 : 0 < L := by
    rcases Nat.eq_zero_or_pos L with z | z
    · subst z; omega
    · exact z
  obtain ⟨u, v, e⟩ := bezI (m : Int) c
  rw [Int.natAbs_natCast, ← hg] at e
  -- L c is a multiple of m
  obtain ⟨c', hc'⟩ : ∃ c' : Int, c = g * c' := by
    have h1 : g ∣ c.natAbs := by rw [hg]; exact Nat.gcd_dvd_right _ _
    exact Int.ofNat_dvd_left.mpr h1
  have hLc : (L : Int) * c = m * c' := by
    have e2 : (m : Int) = g * L := by rw [hL, Int.natCast_mul]
    rw [hc', e2]; grind
  generalize hτ : (((j : Int) + k * c) % m).toNat = τ
  have hτi : (τ : Int) = ((j : Int) + k * c) % m := by rw [← hτ]; exact Int.toNat_of_nonneg (Int.emod_nonneg _ (by omega))
  have hτm : τ < m := by
    have h2 := Int.emod_lt_of_pos ((j : Int) + k * c) (show (0 : Int) < m by omega)
    omega
  -- the ring and the place
  have hdm := Nat.div_add_mod τ g
  generalize hs : τ % g = s at hdm
  generalize hq : τ / g = q at hdm
  have sg : s < g := by rw [← hs]; exact Nat.mod_lt _ g0
  have L0i : (0 : Int) < L := by omega
  have hi0 := Int.emod_nonneg ((q : Int) * v) (show (L : Int) ≠ 0 by omega)
  have hi1 := Int.emod_lt_of_pos ((q : Int) * v) L0i
  have hie := Int.mul_ediv_add_emod ((q : Int) * v) L
  generalize hii : ((q : Int) * v) % L = i at hi0 hi1 hie
  generalize hit : ((q : Int) * v) / L = t at hie
  have him : i = ((i.toNat : Nat) : Int) := (Int.toNat_of_nonneg hi0).symm
  generalize hin : i.toNat = n at him
  have hnL : n < L := by omega
  -- pos s n = τ
  have e4 : (τ : Int) = s + i * c + m * (q * u + t * c') := by
    have h1 : (τ : Int) = g * q + s := by
      have : ((g * q + s : Nat) : Int) = (τ : Int) := by rw [hdm]
      rw [Int.natCast_add, Int.natCast_mul] at this
      exact this.symm
    rw [h1, e]
    have : i = q * v - L * t := by omega
    rw [this]
    grind
  have p1 : ∀ x : Nat, x = n ∨ x = n + L → pos m c s x = τ := fun x hx => by
    have h1 := pos_int (c := c) (s := s) (i := x) hm
    have h2 : ((s : Int) + x * c) % m = τ := by
      have h3 : (s : Int) + x * c = τ + m * (-(q * u + t * c') + (if x = n then 0 else c')) := by
        rcases hx with rfl | rfl
        · rw [if_pos rfl, e4, him]; grind
        · rw [if_neg (by omega), e4, him, Int.natCast_add]
          have : ((n : Int) + L) * c = n * c + m * c' := by rw [Int.add_mul, hLc]
          rw [this]; grind
      rw [h3, Int.add_mul_emod_self_left]
      exact Int.emod_eq_of_lt (by omega) (by omega)
    omega
  -- k mod L
  have hk := Nat.div_add_mod k L
  generalize hk1 : k % L = k' at hk
  generalize hk2 : k / L = t2 at hk
  have kL : k' < L := by rw [← hk1]; exact Nat.mod_lt _ L0
  have hki : (k : Int) = L * t2 + k' := by
    have : ((L * t2 + k' : Nat) : Int) = (k : Int) := by rw [hk]
    rw [Int.natCast_add, Int.natCast_mul] at this
    exact this.symm
  have p2 : pos m c s (n + L - k') = j := by
    have h1 := pos_int (c := c) (s := s) (i := n + L - k') hm
    have h2 : ((s : Int) + ((n + L - k' : Nat) : Int) * c) % m = j := by
      have e5 : ((n + L - k' : Nat) : Int) = n + L - k' := by omega
      have e6 : (j : Int) + k * c = τ + m * (((j : Int) + k * c) / m) := by
        have := Int.mul_ediv_add_emod ((j : Int) + k * c) m
        rw [hτi]; omega
      have h3 : (s : Int) + ((n + L - k' : Nat) : Int) * c = j + m * (-(q * u + t * c') + c' + c' * t2 - ((j : Int) + k * c) / m) := by
        rw [e5]
        generalize ((j : Int) + k * c) / m = w at *
        have e7 : (s : Int) = τ - i * c - m * (q * u + t * c') := by omega
        have e8 : ((n : Int) + L - k') * c = n * c + m * c' - k' * c := by rw [Int.sub_mul, Int.add_mul, hLc]
        have e9 : (k : Int) * c = m * c' * t2 + k' * c := by
          rw [hki, Int.add_mul]
          have : (L : Int) * t2 * c = L * c * t2 := by grind
          rw [this, hLc]
        rw [e7, e8, ← him]
        rw [e9] at e6
        grind
      rw [h3, Int.add_mul_emod_self_left]
      exact Int.emod_eq_of_lt (by omega) (by omega)
    omega
  have h5 := R.w s sg (n + L) (by omega) k' (by omega) b (by rw [p2]; exact h)
  rw [p1 (n + L) (.inr rfl)] at h5
  refine h5.up ?_
  have : (k' : Int) * c ≤ k * c := Int.mul_le_mul_of_nonneg_right (by omega) (by omega)
  omega
/-! ### least made numbers -/
structure LeastT (cs : List Int) (m : Nat) (T : Tb) : Prop where
  len : T.length = m
  lo : Src (fun i v => Made cs v ∧ v % m = (i : Int)) T
  hi : ∀ n, Made cs n → Le T (n % m).toNat n
theorem made_cons {c n : Int} {cs : List Int} (h : Made (c :: cs) n) : ∃ (k : Nat) (n0 : Int), Made cs n0 ∧ n = n0 + k * c := by
  induction h with
  | zero => exact ⟨0, 0, .zero, by omega⟩
  | @add d n hd _ ih =>
    obtain ⟨k, n0, h0, rfl⟩ := ih
    rcases List.mem_cons.mp hd with rfl | hd
    · exact ⟨k + 1, n0, h0, by rw [Int.natCast_succ]; grind⟩
    · exact ⟨k, n0 + d, .add hd h0, by omega⟩
theorem LeastT.put {cs : List Int} {m : Nat} {T T' : Tb} {c : Int} (hm : 0 < m) (I : LeastT cs m T) (hl : T'.length = m) (hs : Src (fun i v => Made (c :: cs) v ∧ v % m = (i : Int)) T') (h : ∀ (j k : Nat) (b : Int), j < m → Le T j b → Le T' (((j : Int) + k * c) % m).toNat (b + k * c)) : LeastT (c :: cs) m T' := by
  refine ⟨hl, hs, fun n hn => ?_⟩
  obtain ⟨k, n0, h0, rfl⟩ := made_cons hn
  have h1 := I.hi n0 h0
  have r0 := Int.emod_nonneg n0 (show (m : Int) ≠ 0 by omega)
  have r1 := Int.emod_lt_of_pos n0 (show (0 : Int) < m by omega)
  have h2 := h _ k _ (by omega) h1
  rw [Int.toNat_of_nonneg r0, Int.emod_add_emod] at h2
  exact h2
theorem src_weak {cs : List Int} {m : Nat} {T : Tb} {c : Int} (h : Src (fun i v => Made cs v ∧ v % m = (i : Int)) T) : Src (fun i v => Made (c :: cs) v ∧ v % m = (i : Int)) T := fun i v e => ⟨(h i v e).1.mono fun x hx => List.mem_cons_of_mem _ hx, (h i v e).2⟩
theorem src_relax {cs : List Int} {m : Nat} {T : Tb} {c : Int} {h w : Nat} (hm : 0 < m) (hc : c ∈ cs) (hs : Src (fun i v => Made cs v ∧ v % m = (i : Int)) T) (hw : w = (((h : Int) + c) % m).toNat) : Src (fun i v => Made cs v ∧ v % m = (i : Int)) (relax T h w c) :=
  relax_src hs fun a ⟨h1, h2⟩ => ⟨.add hc h1, by
    rw [hw, Int.toNat_of_nonneg (Int.emod_nonneg _ (by omega)), ← h2, Int.emod_add_emod]⟩
/-- the first table: [0, None, ..] -/
def tb0 (m : Nat) : Tb := some 0 :: List.replicate (m - 1) none
theorem tb0_len {m : Nat} (hm : 0 < m) : (tb0 m).length = m := by unfold tb0; rw [List.length_cons, List.length_replicate]; omega
theorem tb0_get {m i : Nat} {v : Int} (h : (tb0 m)[i]? = some (some v)) : i = 0 ∧ v = 0 := by
  unfold tb0 at h
  cases i with
  | zero => cases h; exact ⟨rfl, rfl⟩
  | succ i =>
    rw [List.getElem?_cons_succ] at h
    rw [List.getElem?_replicate] at h
    split at h <;> cases h
theorem tb0_least {m : Nat} (hm : 0 < m) : LeastT [(m : Int)] m (tb0 m) := by
  refine ⟨tb0_len hm, fun i v h => ?_, fun n hn => ?_⟩
  · obtain ⟨rfl, rfl⟩ := tb0_get h
    exact ⟨.zero, by rw [Int.zero_emod]; rfl⟩
  · obtain ⟨k, n0, h0, rfl⟩ := made_cons hn
    have e : n0 = 0 := by
      cases h0 with
      | zero => rfl
      | add h _ => cases h
    subst e
    have e2 : ((0 : Int) + k * m) % m = 0 := by rw [Int.zero_add, Int.mul_emod_left]
    rw [e2]
    refine ⟨0, rfl, ?_⟩
    have := Int.mul_nonneg (show (0 : Int) ≤ k by omega) (show (0 : Int) ≤ m by omega)
    omega
theorem LeastT.congr {cs ds : List Int} {m : Nat} {T : Tb} (h : ∀ x, x ∈ cs ↔ x ∈ ds) (I : LeastT cs m T) : LeastT ds m T :=
  ⟨I.len, fun i v e => ⟨(Made.congr h).mp (I.lo i v e).1, (I.lo i v e).2⟩, fun n hn => I.hi n ((Made.congr h).mpr hn)⟩
/-! ### rounds -/
/-- sums of at most t coins are told -/
def Bd (cs : List Int) (m : Nat) (t : Nat) (T : Tb) : Prop := ∀ l : List Int, (∀ c ∈ l, c ∈ cs) → l.length ≤ t → Le T (l.sum % m).toNat l.sum
/-- the edges of xs from x -/
def Edg (m : Nat) (T0 T : Tb) (x : Nat) (xs : List Int) : Prop := ∀ c ∈ xs, ∀ b, Le T0 x b → Le T (((x : Int) + c) % m).toNat (b + c)
theorem Edg.down {m : Nat} {T0 T T' : Tb} {x : Nat} {xs : List Int} (h : Edg m T0 T x xs) (d : Down T T') : Edg m T0 T' x xs := fun c hc b hb => d.le _ _ (h c hc b hb)
theorem Bd.round {cs : List Int} {m t : Nat} {T0 T : Tb} (hm : 0 < m) (B : Bd cs m t T0) (d : Down T0 T) (h : ∀ x, x < m → Edg m T0 T x cs) : Bd cs m (t + 1) T := by
  intro l hl ht
  cases l with
  | nil => exact d.le _ _ (B [] hl (Nat.zero_le _))
  | cons c l =>
    have h1 := B l (fun x hx => hl x (List.mem_cons_of_mem _ hx)) (by simpa using ht)
    have r0 := Int.emod_nonneg l.sum (show (m : Int) ≠ 0 by omega)
    have r1 := Int.emod_lt_of_pos l.sum (show (0 : Int) < m by omega)
    have h2 := h _ (by omega) c (hl c (List.mem_cons_self ..)) _ h1
    rw [Int.toNat_of_nonneg r0, Int.emod_add_emod] at h2
    rw [List.sum_cons, Int.add_comm c]
    exact h2
theorem Bd.start {cs : List Int} {m : Nat} : Bd cs m 0 (tb0 m) := by
  intro l hl h0
  have : l = [] := List.eq_nil_of_length_eq_zero (by omega)
  subst this
  exact ⟨0, by show (tb0 m)[((0 : Int) % m).toNat]? = _; rw [Int.zero_emod]; rfl, Int.le_refl _⟩
theorem made_list {cs : List Int} {n : Int} (h : Made cs n) : ∃ l : List Int, (∀ c ∈ l, c ∈ cs) ∧ l.sum = n := by
  induction h with
  | zero => exact ⟨[], (fun c h => by cases h), rfl⟩
  | @add c n hc _ ih =>
    obtain ⟨l, h1, rfl⟩ := ih
    exact ⟨c :: l, fun x hx => by
      rcases List.mem_cons.mp hx with rfl | hx
      · exact hc
      · exact h1 x hx, by rw [List.sum_cons]; omega⟩
theorem pigeon : ∀ (m : Nat) (l : List Nat), (∀ x ∈ l, x < m) → m < l.length → ¬ l.Nodup
  | 0, l, h, hl, _ => by
    cases l with
    | nil => simp at hl
    | cons a l => exact absurd (h a (List.mem_cons_self ..)) (Nat.not_lt_zero _)
  | m + 1, l, h, hl, nd => by
    refine pigeon m (l.erase m) (fun x hx => ?_) ?_ (nd.erase m)
    · have h1 := h x (List.mem_of_mem_erase hx)
      have h2 : x ≠ m := fun e => by
        rw [e] at hx
        exact (List.Nodup.not_mem_erase nd) hx
      omega
    · rw [List.length_erase]
      split <;> omega
theorem repeat_ex {α : Type} {f : α → Nat} : ∀ {l : List α}, ¬ (l.map f).Nodup → ∃ (i j : Nat) (x y : α), i < j ∧ l[i]? = some x ∧ l[j]? = some y ∧ f x = f y
  | [], h => absurd List.nodup_nil h
  | a :: l, h => by
    rw [List.map_cons, List.nodup_cons] at h
    by_cases z : f a ∈ l.map f
    · obtain ⟨y, hy, e⟩ := List.mem_map.mp z
      obtain ⟨j, hj⟩ := List.mem_iff_getElem?.mp hy
      exact ⟨0, j + 1, a, y, Nat.succ_pos _, rfl, by rw [List.getElem?_cons_succ]; exact hj, e.symm⟩
    · obtain ⟨i, j, x, y, h1, h2, h3, h4⟩ := repeat_ex (l := l) (fun n => h ⟨z, n⟩)
      exact ⟨i + 1, j + 1, x, y, by omega, by rw [List.getElem?_cons_succ]; exact h2, by rw [List.getElem?_cons_succ]; exact h3, h4⟩
/-- no more than m coins are wanted -/
theorem short {cs : List Int} {m : Nat} (hp : Pos cs) (hm : 0 < m) : ∀ (k : Nat) (l : List Int), l.length ≤ k → (∀ c ∈ l, c ∈ cs) → ∃ l' : List Int, (∀ c ∈ l', c ∈ cs) ∧ l'.length ≤ m ∧ l'.sum ≤ l.sum ∧ l'.sum % m = l.sum % m := by
  intro k
  induction k with
  | zero => intro l h1 h2; exact ⟨l, h2, by omega, Int.le_refl _, rfl⟩
  | succ k ih =>
    intro l h1 h2
    by_cases hl : l.length ≤ m
    · exact ⟨l, h2, hl, Int.le_refl _, rfl⟩
    · have nd := pigeon m ((List.range (l.length + 1)).map fun i => ((l.take i).sum % m).toNat) (fun x hx => by
        obtain ⟨i, _, rfl⟩ := List.mem_map.mp hx
        have r0 := Int.emod_nonneg (l.take i).sum (show (m : Int) ≠ 0 by omega)
        have r1 := Int.emod_lt_of_pos (l.take i).sum (show (0 : Int) < m by omega)
        omega) (by rw [List.length_map, List.length_range]; omega)
      obtain ⟨i, j, x, y, hij, hx, hy, e⟩ := repeat_ex nd
      obtain ⟨hx1, hx2⟩ := List.getElem?_eq_some_iff.mp hx
      obtain ⟨hy1, hy2⟩ := List.getElem?_eq_some_iff.mp hy
      rw [List.getElem_range] at hx2 hy2
      subst hx2 hy2
      rw [List.length_range] at hy1
      have r0 := Int.emod_nonneg (l.take i).sum (show (m : Int) ≠ 0 by omega)
      have r1 := Int.emod_nonneg (l.take j).sum (show (m : Int) ≠ 0 by omega)
      have e : (l.take i).sum % m = (l.take j).sum % m := by omega
      have s0 : l.sum = (l.take j).sum + (l.drop j).sum := by
        have := congrArg List.sum (List.take_append_drop j l)
        rw [List.sum_append] at this
        exact this.symm
      have hm1 : ∀ c ∈ l.take i ++ l.drop j, c ∈ cs := fun c hc => by
        rcases List.mem_append.mp hc with hc | hc
        · exact h2 c (List.mem_of_mem_take hc)
        · exact h2 c (List.mem_of_mem_drop hc)
      have s1 : (l.take i).sum ≤ (l.take j).sum := by
        have e3 : l.take i = (l.take j).take i := by rw [List.take_take, Nat.min_eq_left (by omega)]
        have e4 := congrArg List.sum (List.take_append_drop i (l.take j))
        rw [List.sum_append, ← e3] at e4
        have nn : ∀ xs : List Int, (∀ c ∈ xs, c ∈ cs) → 0 ≤ xs.sum := by
          intro xs
          induction xs with
          | nil => intro _; exact Int.le_refl _
          | cons a xs ih =>
            intro h
            have := ih fun c hc => h c (List.mem_cons_of_mem _ hc)
            have := hp a (h a (List.mem_cons_self ..))
            rw [List.sum_cons]; omega
        have := nn ((l.take j).drop i) fun c hc => h2 c (List.mem_of_mem_take (List.mem_of_mem_drop hc))
        omega
      obtain ⟨l', k1, k2, k3, k4⟩ := ih (l.take i ++ l.drop j) (by
        rw [List.length_append, List.length_take, List.length_drop]
        omega) hm1
      rw [List.sum_append] at k3 k4
      refine ⟨l', k1, k2, by omega, ?_⟩
      rw [k4, s0]
      rw [Int.add_emod, e, ← Int.add_emod]
theorem Bd.hi {cs : List Int} {m : Nat} {T : Tb} (hp : Pos cs) (hm : 0 < m) (B : Bd cs m m T) {n : Int} (hn : Made cs n) : Le T (n % m).toNat n := by
  obtain ⟨l, h1, rfl⟩ := made_list hn
  obtain ⟨l', k1, k2, k3, k4⟩ := short hp hm l.length l (Nat.le_refl _) h1
  have := B l' k1 k2
  rw [k4] at this
  exact this.up k3
/-- nothing changes any more -/
theorem closed_hi {cs : List Int} {m t : Nat} {T : Tb} (hm : 0 < m) (B : Bd cs m t T) (h : ∀ x, x < m → Edg m T T x cs) {n : Int} (hn : Made cs n) : Le T (n % m).toNat n := by
  induction hn with
  | zero => exact B [] (fun c h => by cases h) (Nat.zero_le _)
  | @add c n hc _ ih =>
    have r0 := Int.emod_nonneg n (show (m : Int) ≠ 0 by omega)
    have r1 := Int.emod_lt_of_pos n (show (0 : Int) < m by omega)
    have h2 := h _ (by omega) c hc _ ih
    rw [Int.toNat_of_nonneg r0, Int.emod_add_emod] at h2
    exact h2
end Sg

-- Sg3
set_option Elab.async false
set_option linter.all false
set_option maxRecDepth 100000
set_option maxHeartbeats 2000000
/-! Sg3: whole tables, lists of pseudo-holes, symmetry. Plain Lean (over FxJ2's sorting). -/
namespace Sg
open Fx (ssort ssort_perm ssort_srt usrt_uniq maxI maxI_spec)
structure LeastE (cs : List Int) (m : Nat) (E : List Int) : Prop where
  hp : Pos cs
  m0 : 0 < m
  mem : (m : Int) ∈ cs
  len : E.length = m
  at_ : ∀ (i : Nat) (e : Int), E[i]? = some e → Made cs e ∧ e % m = (i : Int)
  le : ∀ n, Made cs n → E.getD (n % m).toNat 0 ≤ n
theorem LeastT.whole {cs : List Int} {m : Nat} {T : Tb} (I : LeastT cs m T) (hp : Pos cs) (m0 : 0 < m) (mem : (m : Int) ∈ cs) (w : Whole cs) : ∃ E : List Int, T = E.map some ∧ LeastE cs m E := by
  have all : ∀ i, i < m → ∃ v, T[i]? = some (some v) := fun i hi => by
    obtain ⟨k, hk⟩ := w m mem i
    obtain ⟨v, hv, _⟩ := I.hi _ hk
    rw [Int.add_mul_emod_self_right, Int.emod_eq_of_lt (by omega) (by omega), Int.toNat_natCast] at hv
    exact ⟨v, hv⟩
  have e1 : T = (T.map fun o => o.getD 0).map some := by
    rw [List.map_map]
    refine List.ext_getElem? fun i => ?_
    rw [List.getElem?_map]
    by_cases hi : i < m
    · obtain ⟨v, hv⟩ := all i hi
      rw [hv]; rfl
    · rw [List.getElem?_eq_none (by rw [I.len]; omega)]; rfl
  refine ⟨T.map fun o => o.getD 0, e1, hp, m0, mem, by rw [List.length_map, I.len], fun i e h => ?_, fun n hn => ?_⟩
  · rw [List.getElem?_map] at h
    cases q : T[i]? with
    | none => rw [q] at h; cases h
    | some o =>
      have hi : i < m := by rw [← I.len]; exact lt_of_get q
      obtain ⟨v, hv⟩ := all i hi
      rw [q] at hv
      cases hv
      rw [q] at h
      cases h
      exact I.lo i v q
  · obtain ⟨v, hv, hl⟩ := I.hi n hn
    rw [List.getD_eq_getElem?_getD, List.getElem?_map, hv]
    exact hl
def mkd (E : List Int) (m : Nat) (n : Int) : Bool := decide (E.getD (n % m).toNat 0 ≤ n)
theorem LeastE.ix {cs : List Int} {m : Nat} {E : List Int} (I : LeastE cs m E) (n : Int) : ∃ e, E[(n % m).toNat]? = some e ∧ E.getD (n % m).toNat 0 = e ∧ Made cs e ∧ e % m = n % m := by
  have r0 := Int.emod_nonneg n (show (m : Int) ≠ 0 by have := I.m0; omega)
  have r1 := Int.emod_lt_of_pos n (show (0 : Int) < m by have := I.m0; omega)
  have hl : (n % m).toNat < E.length := by rw [I.len]; omega
  have hg := List.getElem?_eq_getElem hl
  obtain ⟨h1, h2⟩ := I.at_ _ _ hg
  refine ⟨_, hg, by rw [List.getD_eq_getElem?_getD, hg]; rfl, h1, by rw [h2]; exact Int.toNat_of_nonneg r0⟩
theorem same_mod {m : Nat} {a b : Int} (h : a % m = b % m) : ∃ t, a = b + t * m := by
  have h1 := Int.mul_ediv_add_emod a m
  have h2 := Int.mul_ediv_add_emod b m
  refine ⟨a / m - b / m, ?_⟩
  rw [Int.sub_mul]
  have e1 := Int.mul_comm (m : Int) (a / m)
  have e2 := Int.mul_comm (m : Int) (b / m)
  omega
theorem LeastE.made {cs : List Int} {m : Nat} {E : List Int} (I : LeastE cs m E) (n : Int) : Made cs n ↔ mkd E m n = true := by
  unfold mkd
  rw [decide_eq_true_iff]
  refine ⟨I.le n, fun h => ?_⟩
  obtain ⟨e, _, e2, h1, h2⟩ := I.ix n
  rw [e2] at h
  obtain ⟨t, ht⟩ := same_mod h2
  have m0 := I.m0
  have t0 : t ≤ 0 := by
    false_or_by_contra
    have : 0 < t * m := Int.mul_pos (by omega) (by omega)
    omega
  have := h1.plus ((Made.coin I.mem).mulI (k := -t) (by omega))
  have e3 : e + -t * m = n := by rw [Int.neg_mul]; omega
  rwa [e3] at this
theorem LeastE.notMade {cs : List Int} {m : Nat} {E : List Int} (I : LeastE cs m E) (n : Int) : ¬ Made cs n ↔ mkd E m n = false := by
  rw [I.made n]; simp
/-! ### lists of pseudo-holes -/
structure IsPF (cs : List Int) (l : List Int) : Prop where
  asc : l.Pairwise (· < ·)
  mem : ∀ z, z ∈ l ↔ PF cs z
theorem IsPF.uniq {cs l l' : List Int} (a : IsPF cs l) (b : IsPF cs l') : l = l' := usrt_uniq (fun x => (a.mem x).trans (b.mem x).symm) a.asc b.asc
theorem strict_of {l : List Int} (h : l.Pairwise (· ≤ ·)) (nd : l.Nodup) : l.Pairwise (· < ·) :=
  (h.and nd).imp fun h => by omega
theorem LeastE.nodup {cs : List Int} {m : Nat} {E : List Int} (I : LeastE cs m E) : (E.map fun e => e - (m : Int)).Nodup := by
  rw [List.nodup_iff_pairwise_ne, List.pairwise_map, List.pairwise_iff_getElem]
  intro i j hi hj hij e
  have h1 := (I.at_ i _ (List.getElem?_eq_getElem hi)).2
  have h2 := (I.at_ j _ (List.getElem?_eq_getElem hj)).2
  have e : E[i] = E[j] := by omega
  rw [e, h2] at h1
  omega
def pfl (cs E : List Int) (m : Nat) : List Int := (ssort (E.map fun e => e - (m : Int))).filter fun z => cs.all fun c => mkd E m (z + c)
theorem LeastE.pfl {cs : List Int} {m : Nat} {E : List Int} (I : LeastE cs m E) : IsPF cs (pfl cs E m) := by
  have st : (ssort (E.map fun e => e - (m : Int))).Pairwise (· < ·) := strict_of (ssort_srt _) ((ssort_perm _).nodup_iff.mpr I.nodup)
  refine ⟨st.filter _, fun z => ?_⟩
  unfold Sg.pfl
  rw [List.mem_filter, (ssort_perm _).mem_iff, List.all_eq_true, List.mem_map]
  have m0 := I.m0
  constructor
  · rintro ⟨⟨e, he, rfl⟩, h⟩
    refine ⟨fun hm => ?_, fun c hc => (I.made _).mpr (h c hc)⟩
    have h1 := I.le _ hm
    obtain ⟨i, hi⟩ := List.mem_iff_getElem?.mp he
    have h2 := (I.at_ i e hi).2
    have e3 : (e - (m : Int)) % m = i := by rw [Int.sub_emod, Int.emod_self, Int.sub_zero, Int.emod_emod, h2]
    rw [e3, Int.toNat_natCast, List.getD_eq_getElem?_getD, hi] at h1
    have h1 : e ≤ e - m := h1
    omega
  · rintro ⟨h1, h2⟩
    refine ⟨?_, fun c hc => (I.made _).mp (h2 c hc)⟩
    have h3 := h2 m I.mem
    obtain ⟨e, g1, g2, g3, g4⟩ := I.ix z
    have h4 := I.le _ h3
    rw [Int.add_emod_right, g2] at h4
    have h5 : ¬ e ≤ z := fun hl => h1 ((I.made z).mpr (by unfold mkd; rw [g2]; exact decide_eq_true hl))
    obtain ⟨t, ht⟩ := same_mod g4
    have t1 : t = 1 := by
      have a1 : 0 < t := by
        false_or_by_contra
        have : t * (m : Int) ≤ 0 := Int.mul_nonpos_of_nonpos_of_nonneg (by omega) (by omega)
        omega
      have a2 : t ≤ 1 := by
        false_or_by_contra
        have : 2 * (m : Int) ≤ t * m := Int.mul_le_mul_of_nonneg_right (by omega) (by omega)
        omega
      omega
    subst t1
    exact ⟨e, List.mem_iff_getElem?.mpr ⟨_, g1⟩, by omega⟩
/-! ### the greatest hole -/
structure Frob (cs : List Int) (F : Int) : Prop where
  no : ¬ Made cs F
  yes : ∀ n, F < n → Made cs n
  lo : -1 ≤ F
theorem LeastE.frob {cs : List Int} {m : Nat} {E : List Int} {M : Int} (I : LeastE cs m E) (h : maxI E = some M) : Frob cs (M - m) := by
  obtain ⟨h1, h2⟩ := maxI_spec h
  have m0 := I.m0
  obtain ⟨i, hi⟩ := List.mem_iff_getElem?.mp h1
  have a1 := (I.at_ i M hi).2
  have e3 : (M - (m : Int)) % m = i := by rw [Int.sub_emod, Int.emod_self, Int.sub_zero, Int.emod_emod, a1]
  refine ⟨fun hm => ?_, fun n hn => ?_, ?_⟩
  · have h3 := I.le _ hm
    rw [e3, Int.toNat_natCast, List.getD_eq_getElem?_getD, hi] at h3
    have h3 : M ≤ M - m := h3
    omega
  · refine (I.made n).mpr ?_
    unfold mkd
    obtain ⟨e, g1, g2, g3, g4⟩ := I.ix n
    rw [g2, decide_eq_true_iff]
    have h4 := h2 e (List.mem_iff_getElem?.mpr ⟨_, g1⟩)
    obtain ⟨t, ht⟩ := same_mod g4
    have a2 : t ≤ 0 := by
      false_or_by_contra
      have : 1 * (m : Int) ≤ t * m := Int.mul_le_mul_of_nonneg_right (by omega) (by omega)
      omega
    have : t * (m : Int) ≤ 0 := Int.mul_nonpos_of_nonpos_of_nonneg (by omega) (by omega)
    omega
  · have hl : m - 1 < E.length := by rw [I.len]; omega
    have hg := List.getElem?_eq_getElem hl
    obtain ⟨b1, b2⟩ := I.at_ _ _ hg
    have b3 := h2 _ (List.getElem_mem hl)
    have b4 := b1.nn I.hp
    have b5 : E[m - 1] % (m : Int) ≤ E[m - 1] := Int.emod_le b4 m0
    omega
where
  Int.emod_le {a : Int} {m : Nat} (h : 0 ≤ a) (hm : 0 < m) : a % m ≤ a := by
    have h1 := Int.mul_ediv_add_emod a m
    have h2 : 0 ≤ a / m := Int.ediv_nonneg h (by omega)
    have h3 : 0 ≤ (m : Int) * (a / m) := Int.mul_nonneg (by omega) h2
    omega
variable {cs : List Int} {F z : Int}
theorem Frob.le (f : Frob cs F) (h : ¬ Made cs z) : z ≤ F := by
  false_or_by_contra
  exact h (f.yes z (by omega))
theorem Frob.pf (f : Frob cs F) (hp : Pos cs) : PF cs F := ⟨f.no, fun c hc => f.yes _ (by have := hp c hc; omega)⟩
theorem Frob.ge (f : Frob cs F) (h : PF cs z) (h0 : 0 ≤ F) : 0 ≤ z := by
  false_or_by_contra
  have h1 := f.yes (F - z) (by omega)
  have h2 := h.plus h1 (by omega)
  rw [show z + (F - z) = F from by omega] at h2
  exact f.no h2
theorem Frob.ones (f : Frob cs F) (hp : Pos cs) (h0 : F < 0) : IsPF cs [-1] := by
  have e : F = -1 := by have := f.lo; omega
  subst e
  refine ⟨List.pairwise_singleton _ _, fun z => ?_⟩
  rw [List.mem_singleton]
  constructor
  · rintro rfl; exact f.pf hp
  · intro h
    have h1 := f.le h.1
    false_or_by_contra
    have h2 := f.yes (-1 - z) (by omega)
    have h3 := h.plus h2 (by omega)
    rw [show z + (-1 - z) = -1 from by omega] at h3
    exact f.no h3
/-! ### symmetry -/
def Sym (cs : List Int) (F : Int) : Prop := ∀ z, 0 ≤ z → z ≤ F → (Made cs z ↔ ¬ Made cs (F - z))
theorem Frob.two (f : Frob cs F) (h1 : Made cs z) (h2 : Made cs (F - z)) : False := by
  have := h1.plus h2
  rw [show z + (F - z) = F from by omega] at this
  exact f.no this
theorem Frob.sym_pf (f : Frob cs F) (hp : Pos cs) : Sym cs F ↔ ∀ z, PF cs z → z = F := by
  constructor
  · intro s z hz
    have h1 := f.le hz.1
    by_cases h0 : 0 ≤ F
    · have h2 := f.ge hz h0
      false_or_by_contra
      have h3 : Made cs (F - z) := by
        false_or_by_contra
        rename_i hn
        exact hz.1 ((s z h2 h1).mpr hn)
      have h4 := hz.plus h3 (by omega)
      rw [show z + (F - z) = F from by omega] at h4
      exact f.no h4
    · have h5 := (f.ones hp (by omega)).mem z
      have h6 := h5.mpr hz
      have h7 := List.mem_singleton.mp h6
      have := f.lo
      omega
  · intro u z h0 h1
    refine ⟨fun h2 h3 => f.two h2 h3, fun hn => ?_⟩
    -- a hole leads to F
    have key : ∀ (k : Nat) (y : Int), ¬ Made cs y → F - y ≤ k → Made cs (F - y) := by
      intro k
      induction k with
      | zero =>
        intro y hy hk
        have := f.le hy
        rw [show F - y = 0 from by omega]
        exact .zero
      | succ k ih =>
        intro y hy hk
        by_cases hpf : PF cs y
        · rw [u y hpf, show F - F = 0 from by omega]
          exact .zero
        · have : ∃ c ∈ cs, ¬ Made cs (y + c) := by
            false_or_by_contra
            rename_i hx
            exact hpf ⟨hy, fun c hc => by
              false_or_by_contra
              rename_i hy2
              exact hx ⟨c, hc, hy2⟩⟩
          obtain ⟨c, hc, hy2⟩ := this
          have := hp c hc
          have h5 := ih (y + c) hy2 (by omega)
          have h6 := Made.add hc h5
          rwa [show F - (y + c) + c = F - y from by omega] at h6
    false_or_by_contra
    rename_i hz
    exact hn (key (F - z).toNat z hz (by omega))
theorem sum_pair {K : Int} : ∀ (a b : List Int), a.length = b.length → (∀ (i : Nat) (x y : Int), a[i]? = some x → b[i]? = some y → K ≤ x + y) →
    a.length * K ≤ a.sum + b.sum ∧ (a.sum + b.sum = a.length * K ↔ ∀ (i : Nat) (x y : Int), a[i]? = some x → b[i]? = some y → x + y = K)
  | [], [], _, _ => ⟨by simp, ⟨(fun _ i x y h => by simp at h), fun _ => by simp⟩⟩
  | [], _ :: _, h, _ => by simp at h
  | _ :: _, [], h, _ => by simp at h
  | x :: a, y :: b, hl, h => by
    obtain ⟨h1, h2⟩ := sum_pair (K := K) a b (by simpa using hl) (fun i u v hu hv => h (i + 1) u v (by rw [List.getElem?_cons_succ]; exact hu) (by rw [List.getElem?_cons_succ]; exact hv))
    have h3 := h 0 x y rfl rfl
    have e : ((x :: a).length : Int) * K = a.length * K + K := by rw [List.length_cons, Int.natCast_succ]; grind
    rw [e, List.sum_cons, List.sum_cons]
    refine ⟨by omega, ⟨fun hs i u v hu hv => ?_, fun hs => ?_⟩⟩
    · cases i with
      | zero => cases hu; cases hv; omega
      | succ i =>
        rw [List.getElem?_cons_succ] at hu hv
        exact h2.mp (by omega) i u v hu hv
    · have h4 := hs 0 x y rfl rfl
      have h5 := h2.mpr fun i u v hu hv => hs (i + 1) u v (by rw [List.getElem?_cons_succ]; exact hu) (by rw [List.getElem?_cons_succ]; exact hv)
      omega
/-- the partners -/
def prt (E : List Int) (f : Nat) : List Int := (E.take (f + 1)).reverse ++ (E.drop (f + 1)).reverse
theorem sum_rev (l : List Int) : l.reverse.sum = l.sum := by
  induction l with
  | nil => rfl
  | cons a l ih => rw [List.reverse_cons, List.sum_append, ih, List.sum_cons, List.sum_cons, List.sum_nil]; omega
theorem prt_sum (E : List Int) (f : Nat) : (prt E f).sum = E.sum := by
  unfold prt
  rw [List.sum_append, sum_rev, sum_rev, ← List.sum_append, List.take_append_drop]
theorem prt_len (E : List Int) (f : Nat) : (prt E f).length = E.length := by
  unfold prt
  rw [List.length_append, List.length_reverse, List.length_reverse, List.length_take, List.length_drop]; omega
theorem prt_get {E : List Int} {f i : Nat} (hf : f < E.length) (hi : i < E.length) : (prt E f)[i]? = E[if i ≤ f then f - i else E.length + f - i]? := by
  unfold prt
  have l1 : (E.take (f + 1)).reverse.length = f + 1 := by rw [List.length_reverse, List.length_take]; omega
  by_cases h : i ≤ f
  · rw [if_pos h, List.getElem?_append_left (by omega), List.getElem?_reverse (by rw [List.length_take]; omega), List.length_take, List.getElem?_take]
    rw [if_pos (by omega)]
    congr 1
    omega
  · rw [if_neg h, List.getElem?_append_right (by omega), l1, List.getElem?_reverse (by rw [List.length_drop]; omega), List.length_drop, List.getElem?_drop]
    congr 1
    omega
theorem sum_idx (n : Nat) : 2 * ((List.range n).map fun i : Nat => (i : Int)).sum = n * (n - 1) := by
  induction n with
  | zero => rfl
  | succ n ih =>
    rw [List.range_succ, List.map_append, List.sum_append, Int.mul_add, ih, Int.natCast_succ]
    simp only [List.map_cons, List.map_nil, List.sum_cons, List.sum_nil]
    grind
theorem sum_split (m : Int) (l : List Nat) (f g h : Nat → Int) (e : ∀ i ∈ l, f i = g i + m * h i) : (l.map f).sum = (l.map g).sum + m * (l.map h).sum := by
  induction l with
  | nil => simp
  | cons a l ih =>
    rw [List.map_cons, List.map_cons, List.map_cons, List.sum_cons, List.sum_cons, List.sum_cons, ih fun i hi => e i (List.mem_cons_of_mem _ hi), e a (List.mem_cons_self ..)]
    grind
theorem range_getD (E : List Int) : (List.range E.length).map (fun i => E.getD i 0) = E := by
  refine List.ext_getElem? fun i => ?_
  rw [List.getElem?_map]
  by_cases h : i < E.length
  · rw [List.getElem?_eq_getElem (by rw [List.length_range]; exact h), List.getElem_range, List.getElem?_eq_getElem h]
    show some (E.getD i 0) = some E[i]
    rw [List.getD_eq_getElem?_getD, List.getElem?_eq_getElem h]
    rfl
  · rw [List.getElem?_eq_none (by rw [List.length_range]; omega), List.getElem?_eq_none (by omega)]
    rfl
/-- how many holes -/
def hc (E : List Int) (m : Nat) : Int := ((List.range m).map fun i => (E.getD i 0 - (i : Int)) / m).sum
theorem LeastE.sym {m : Nat} {E : List Int} (I : LeastE cs m E) (f : Frob cs F) : Sym cs F ↔ 2 * hc E m = F + 1 := by
  have m0 := I.m0
  have mi : (0 : Int) < m := by omega
  have f0 := Int.emod_nonneg F (show (m : Int) ≠ 0 by omega)
  have f1 := Int.emod_lt_of_pos F mi
  have fe := Int.mul_ediv_add_emod F m
  generalize hφ : (F % m).toNat = φ
  have hφi : F % m = (φ : Int) := by rw [← hφ]; exact (Int.toNat_of_nonneg f0).symm
  have hφm : φ < E.length := by rw [I.len]; omega
  -- the partner of i
  have pr : ∀ (i : Nat) (e : Int), E[i]? = some e → ∃ e', (prt E φ)[i]? = some e' ∧ E.getD ((F - e) % m).toNat 0 = e' ∧ Made cs e' ∧ e' % m = (F - e) % m := fun i e he => by
    have hi : i < E.length := (List.getElem?_eq_some_iff.mp he).1
    have h1 := (I.at_ i e he).2
    have h2 : (F - e) % m = ((if i ≤ φ then φ - i else E.length + φ - i : Nat) : Int) := by
      rw [Int.sub_emod, hφi, h1]
      rw [I.len] at hi hφm ⊢
      by_cases h : i ≤ φ
      · rw [if_pos h, Int.emod_eq_of_lt (by omega) (by omega)]; omega
      · rw [if_neg h, ← Int.add_emod_right, Int.emod_eq_of_lt (by omega) (by omega)]; omega
    obtain ⟨e', g1, g2, g3, g4⟩ := I.ix (F - e)
    refine ⟨e', ?_, g2, g3, g4⟩
    rw [prt_get hφm hi, ← g1, h2, Int.toNat_natCast]
  have ge : ∀ (i : Nat) (x y : Int), E[i]? = some x → (prt E φ)[i]? = some y → F + m ≤ x + y := fun i x y hx hy => by
    obtain ⟨e', g1, g2, g3, g4⟩ := pr i x hx
    rw [hy] at g1
    cases g1
    have h1 := (I.at_ i x hx).1
    obtain ⟨t, ht⟩ := same_mod g4
    false_or_by_contra
    have t0 : t ≤ 0 := by
      false_or_by_contra
      have : 1 * (m : Int) ≤ t * m := Int.mul_le_mul_of_nonneg_right (by omega) (by omega)
      omega
    have h2 := (h1.plus g3).plus ((Made.coin I.mem).mulI (k := -t) (by omega))
    rw [Int.neg_mul, show x + y + -(t * m) = F from by omega] at h2
    exact f.no h2
  obtain ⟨_, s2⟩ := sum_pair (K := F + m) E (prt E φ) (prt_len E φ).symm ge
  rw [prt_sum, I.len] at s2
  -- the sum by holes
  have hs : E.sum = ((List.range m).map fun i : Nat => (i : Int)).sum + m * hc E m := by
    have := sum_split (m : Int) (List.range m) (fun i => E.getD i 0) (fun i : Nat => (i : Int)) (fun i => (E.getD i 0 - (i : Int)) / m) (fun i hi => by
      have hi : i < E.length := by rw [I.len]; exact List.mem_range.mp hi
      have hg := List.getElem?_eq_getElem hi
      have h2 := (I.at_ i _ hg).2
      have e : E.getD i 0 = E[i] := by rw [List.getD_eq_getElem?_getD, hg]; rfl
      rw [e]
      have h3 := Int.mul_ediv_add_emod E[i] m
      have h4 : E[i] - (i : Int) = m * (E[i] / m) := by omega
      rw [h4, Int.mul_ediv_cancel_left _ (by omega)]
      omega)
    rw [← I.len, range_getD] at this
    rw [this, I.len]; rfl
  have hx := sum_idx m
  have key : (E.sum + E.sum = (m : Int) * (F + m)) ↔ 2 * hc E m = F + 1 := by
    have e1 : E.sum + E.sum = m * (m - 1 + 2 * hc E m) := by grind
    rw [e1]
    constructor
    · intro h
      have := Int.eq_of_mul_eq_mul_left (show (m : Int) ≠ 0 by omega) h
      omega
    · intro h
      congr 1
      omega
  rw [← key, s2]
  constructor
  · intro s i x y hx hy
    obtain ⟨e', g1, g2, g3, g4⟩ := pr i x hx
    rw [hy] at g1
    cases g1
    have h0 := ge i x y hx hy
    obtain ⟨h1, h2⟩ := I.at_ i x hx
    have e3 : (x - (m : Int)) % m = i := by rw [Int.sub_emod, Int.emod_self, Int.sub_zero, Int.emod_emod, h2]
    have hn : ¬ Made cs (x - m) := fun hm => by
      have h3 := I.le _ hm
      rw [e3, Int.toNat_natCast, List.getD_eq_getElem?_getD, hx] at h3
      have h3 : x ≤ x - m := h3
      omega
    have hm : Made cs (F + m - x) := by
      by_cases z : 0 ≤ x - m
      · have := s (x - m) z (f.le hn)
        false_or_by_contra
        rename_i hq
        exact hn (this.mpr (by rw [show F - (x - m) = F + m - x from by omega]; exact hq))
      · exact f.yes _ (by omega)
    have h4 := I.le _ hm
    rw [show F + m - x = (F - x) + m from by omega, Int.add_emod_right, g2] at h4
    omega
  · intro s z h0 h1
    refine ⟨fun h2 h3 => f.two h2 h3, fun hn => ?_⟩
    false_or_by_contra
    rename_i hz
    obtain ⟨e, g1, g2, g3, g4⟩ := I.ix z
    obtain ⟨e', k1, k2, k3, k4⟩ := pr _ e g1
    have h5 := s _ e e' g1 k1
    have h6 : ¬ e ≤ z := fun hl => hz ((I.made z).mpr (by unfold mkd; rw [g2]; exact decide_eq_true hl))
    obtain ⟨t, ht⟩ := same_mod g4
    have t1 : 1 ≤ t := by
      false_or_by_contra
      have : t * (m : Int) ≤ 0 := Int.mul_nonpos_of_nonpos_of_nonneg (by omega) (by omega)
      omega
    have h7 : 1 * (m : Int) ≤ t * m := Int.mul_le_mul_of_nonneg_right t1 (by omega)
    refine hn ((I.made _).mpr ?_)
    unfold mkd
    have e5 : (F - z) % m = (F - e) % m := by rw [Int.sub_emod, ← g4, ← Int.sub_emod]
    rw [e5, k2, decide_eq_true_iff]
    omega
end Sg

-- SL1_k02
set_option Elab.async false
set_option linter.all false
set_option maxRecDepth 100000
set_option maxHeartbeats 4000000
/-! SL1: looks, tables (in_table, put_coin, table_of) of a Lot law. -/
namespace SL
open Fx G Sg
abbrev LI (ns : List Int) : D := .lst (ns.map D.int)
abbrev TI (ns : List Int) : D := .tup (ns.map D.int)
abbrev LO (T : Tb) : D := .lst (T.map od)
abbrev TO (T : Tb) : D := .tup (T.map od)
def seqD : D → Option (List D)
  | .tup ds => some ds
  | .lst ds => some ds
  | _ => none
theorem look_number_ok {n lo hi : Int} (h1 : lo ≤ n) (h2 : n ≤ hi) : mf_look_number [.int n, .int lo, .int hi] = .ok (.int n) := by
  have h1' : ¬ n < lo := by omega
  have h2' : ¬ hi < n := by omega
  simp [mf_look_number, m_look_number, N_look_number, h1', h2']
theorem look_far_ok {n : Int} (h1 : -(10 ^ 40) ≤ n) (h2 : n ≤ 10 ^ 40) : mf_look_far [.int n] = .ok (.int n) := by
  have h := look_number_ok (n := n) (lo := -10000000000000000000000000000000000000000) (hi := 10000000000000000000000000000000000000000) (by omega) (by omega)
  simp [mf_look_far, m_look_far, N_look_far, h]
theorem look_list_ok {e : D} {ds : List D} {a b : Int} (he : seqD e = some ds) (h1 : a ≤ ds.length) (h2 : ds.length ≤ b) : mf_look_list [e, .int a, .int b] = .ok (.lst ds) := by
  have h1' : ¬ (ds.length : Int) < a := by omega
  have h2' : ¬ b < (ds.length : Int) := by omega
  cases e <;> cases he <;> simp [mf_look_list, m_look_list, N_look_list, gList, gLen, h1', h2']
theorem look_numbers_ok {e : D} {ns : List Int} {a b lo hi : Int} (he : seqD e = some (ns.map .int)) (h1 : a ≤ ns.length) (h2 : ns.length ≤ b) (hb : ∀ n ∈ ns, lo ≤ n ∧ n ≤ hi) :
    mf_look_numbers [e, .int a, .int b, .int lo, .int hi] = .ok (LI ns) := by
  have h := look_list_ok (a := a) (b := b) he (by rw [List.length_map]; exact h1) (by rw [List.length_map]; exact h2)
  obtain ⟨ρ', e1, s6, rfl⟩ := for_all0 (g := gSet 6) (body := mDrop (mDef mf_look_number (mCons (mV 6) (mCons (mV 3) (mCons (mV 4) mNil))))) (ds := ns.map .int) (ρ := [.val e, .val (.int a), .val (.int b), .val (.int lo), .val (.int hi), .val (LI ns), .no])
    (I := fun _ ρ => ∃ s6, ρ = [.val e, .val (.int a), .val (.int b), .val (.int lo), .val (.int hi), .val (LI ns), s6]) (by
      rintro i ρ d ⟨s6, rfl⟩ hd
      rw [List.getElem?_map] at hd
      obtain ⟨n, hn, rfl⟩ := Option.map_eq_some_iff.mp hd
      obtain ⟨b1, b2⟩ := hb n (List.mem_iff_getElem?.mpr ⟨_, hn⟩)
      exact ⟨_, rfl, _, by simp [look_number_ok b1 b2]; rfl, _, rfl⟩) ⟨.no, rfl⟩
  simp [mf_look_numbers, m_look_numbers, N_look_numbers, h, e1]
/-! ### tables -/
theorem in_table_ok {e : D} {T : Tb} {m : Nat} {n : Int} {o : Option Int} (he : seqD e = some (T.map od)) (hl : T.length = m) (hm : 0 < m) (ho : T[(n % m).toNat]? = some o) :
    mf_in_table [e, .int n] = .ok (.bl (match o with | none => false | some v => decide (v ≤ n))) := by
  have hmi : (0 : Int) < m := by omega
  have r0 := Int.emod_nonneg n (show (m : Int) ≠ 0 by omega)
  have hx : ixL (T.map od) (n % m) = some (od o) := by rw [ixL_nn r0, List.getElem?_map, ho]; rfl
  subst hl
  cases o with
  | none => cases e <;> cases he <;> simp [mf_in_table, m_in_table, N_in_table, gLen, kMod_ok hmi, hx, od, gNotN, isNon]
  | some v => cases e <;> cases he <;> simp [mf_in_table, m_in_table, N_in_table, gLen, kMod_ok hmi, hx, od, gNotN, isNon]
def bPut : MS := mSeq (mSet 8 (mBin (gI kMod) (mBin gAdd (mV 6) (mV 1)) (mV 2)))
  (mSeq (mIte (mAnd (mBool (mBin gNotN (mBin gIx (mO 3) (mV 6)) (mC .non))) (mOr (mBool (mBin gIsN (mBin gIx (mO 3) (mV 8)) (mC .non))) (mBool (mBin (gI (kBl fun i j => decide (j < i))) (mBin gIx (mO 3) (mV 8)) (mBin gAdd (mBin gIx (mO 3) (mV 6)) (mV 1)))))) (mPutL 3 (mV 8) (mBin gAdd (mBin gIx (mO 3) (mV 6)) (mV 1))) mNext)
  (mSet 6 (mV 8)))
theorem bPut_ok {e : D} {T : Tb} {m h w : Nat} {c : Int} {s4 s5 s7 s8 : Sl} (hm : 0 < m) (hl : T.length = m) (hh : h < m) (hw : ((h : Int) + c) % m = (w : Int)) (hwm : w < m) :
    bPut [.val e, .val (.int c), .val (.int m), .lst (T.map od), s4, s5, .val (.int h), s7, s8] = .nx [.val e, .val (.int c), .val (.int m), .lst ((relax T h w c).map od), s4, s5, .val (.int w), s7, .val (.int w)] := by
  have hmi : (0 : Int) < m := by omega
  have eh := List.getElem?_eq_getElem (show h < T.length by omega)
  have ew := List.getElem?_eq_getElem (show w < T.length by omega)
  have hS : ixS (T.length) (w : Int) = some w := ixS_nat (by omega)
  generalize T[h] = a at eh
  generalize T[w] = b at ew
  cases a with
  | none => simp [bPut, kMod_ok hmi, hw, eh, ew, od, gNotN, isNon, relax]
  | some a =>
    cases b with
    | none => simp [bPut, kMod_ok hmi, hw, eh, ew, od, gNotN, gIsN, isNon, relax, hS, List.map_set]
    | some b =>
      by_cases z : a + c < b
      · simp [bPut, kMod_ok hmi, hw, eh, ew, od, gNotN, gIsN, isNon, relax, hS, List.map_set, z]
      · simp [bPut, kMod_ok hmi, hw, eh, ew, od, gNotN, gIsN, isNon, relax, z]
/-- what is made of the entries -/
def Gen (m : Nat) (c : Int) (T T' : Tb) : Prop := ∀ P : Nat → Int → Prop, (∀ (h : Nat) (a : Int), P h a → P (((h : Int) + c) % m).toNat (a + c)) → Src P T → Src P T'
theorem Gen.refl {m : Nat} {c : Int} {T : Tb} : Gen m c T T := fun _ _ h => h
theorem Gen.step {m : Nat} {c : Int} {T T' : Tb} {h : Nat} (g : Gen m c T T') : Gen m c T (relax T' h (((h : Int) + c) % m).toNat c) := fun P hp hs => relax_src (g P hp hs) fun a ha => hp h a ha
theorem ring_ok {e : D} {T T1 : Tb} {m r L : Nat} {c : Int} {s4 s7 s8 : Sl} (hm : 0 < m) (hr : r < m) (hl : T1.length = m) (Gn : Gen m c T T1) :
    ∃ ρ', forL (gSet 7) bPut (rangeD 0 (L : Int)) [.val e, .val (.int c), .val (.int m), .lst (T1.map od), s4, .val (.int r), .val (.int r), s7, s8] = .nx ρ' ∧
      ∃ T2 s6 s7 s8, ρ' = [.val e, .val (.int c), .val (.int m), .lst (T2.map od), s4, .val (.int r), s6, s7, s8] ∧ Ring T1 T2 m c r L ∧ Gen m c T T2 := by
  have inner := for_all0 (g := gSet 7) (body := bPut) (ds := rangeD 0 (L : Int)) (ρ := [.val e, .val (.int c), .val (.int m), .lst (T1.map od), s4, .val (.int r), .val (.int r), s7, s8])
    (I := fun n ρ => ∃ T2 s7 s8, ρ = [.val e, .val (.int c), .val (.int m), .lst (T2.map od), s4, .val (.int r), .val (.int (pos m c r n : Nat)), s7, s8] ∧ Ring T1 T2 m c r n ∧ Gen m c T T2) (by
      rintro n ρ d ⟨T2, s7, s8, rfl, Q, G2⟩ hd
      have hw : ((pos m c r n : Int) + c) % m = (pos m c r (n + 1) : Int) := by
        have h1 := pos_succ (c := c) (s := r) (i := n) hm
        rw [← h1]
        exact (Int.toNat_of_nonneg (Int.emod_nonneg _ (by omega))).symm
      refine ⟨_, rfl, _, bPut_ok hm Q.len (pos_lt hm) hw (pos_lt hm), _, _, _, rfl, Q.step hm, ?_⟩
      have := G2.step (h := pos m c r n)
      rwa [pos_succ hm] at this)
    ⟨T1, s7, s8, by rw [pos_zero hr], .start hl (.refl _), Gn⟩
  obtain ⟨ρ', e1, T2, s7', s8', hρ, Q, G2⟩ := inner
  rw [rangeD_len, Int.sub_zero, Int.toNat_natCast] at Q hρ
  exact ⟨ρ', e1, T2, _, _, _, hρ, Q, G2⟩
def bRing : MS := mSeq (mSet 6 (mV 5)) (mFor (mRange1 (mBin (gI kDiv) (mBin (gI kMul) (mC (.int 2)) (mV 2)) (mV 4))) (gSet 7) bPut)
theorem bRing_eq {e : D} {T1 : Tb} {m r g L : Nat} {c : Int} {s6 s7 s8 : Sl} (h1 : kMul 2 (m : Int) = some (.int (2 * (m : Int)))) (h2 : kDiv (2 * (m : Int)) (g : Int) = some (.int (L : Int))) (h3 : farOk (L : Int) = true) :
    bRing [.val e, .val (.int c), .val (.int m), .lst (T1.map od), .val (.int g), .val (.int r), s6, s7, s8] = forL (gSet 7) bPut (rangeD 0 (L : Int)) [.val e, .val (.int c), .val (.int m), .lst (T1.map od), .val (.int g), .val (.int r), .val (.int r), s7, s8] := by
  unfold bRing
  exact (s_seq (s_set (e_V rfl))).trans (s_for (e_range1 (e_bin (e_bin e_C (e_V rfl) (gI_i.trans h1)) (e_V rfl) (gI_i.trans h2)) h3))
theorem div_ok {m g L : Nat} (hL : m = g * L) (g0 : 0 < g) (hg : g ≤ m) (h : m ≤ 1000) : kDiv (2 * (m : Int)) (g : Int) = some (.int ((2 * L : Nat) : Int)) ∧ 2 * L ≤ 2000 := by
  have L1 : 1 * L ≤ g * L := Nat.mul_le_mul_right L g0
  have hdiv : (2 * (m : Int)) / (g : Int) = ((2 * L : Nat) : Int) := by
    have : 2 * (m : Int) = (g : Int) * ((2 * L : Nat) : Int) := by rw [hL]; simp only [Int.natCast_mul]; grind
    rw [this, Int.mul_ediv_cancel_left _ (by omega)]
  exact ⟨by rw [kDiv_s (by omega) (by omega), hdiv], by omega⟩
theorem put_coin_ok {e : D} {T : Tb} {m : Nat} {c : Int} (he : seqD e = some (T.map od)) (hl : T.length = m) (hm : 0 < m) (hm2 : m ≤ 1000) (hc : 0 < c) :
    ∃ T', mf_put_coin [e, .int c] = .ok (LO T') ∧ T'.length = m ∧ Gen m c T T' ∧ ∀ (j k : Nat) (b : Int), j < m → Le T j b → Le T' (((j : Int) + k * c) % m).toNat (b + k * c) := by
  generalize hg : Nat.gcd m c.natAbs = g
  have g0 : 0 < g := by rw [← hg]; exact Nat.gcd_pos_of_pos_left _ hm
  have gm : g ∣ m := by rw [← hg]; exact Nat.gcd_dvd_left _ _
  obtain ⟨L, hL⟩ := gm
  have gle : g ≤ m := by rw [← hg]; exact Nat.gcd_le_left _ hm
  obtain ⟨k1, k2⟩ := div_ok hL g0 gle hm2
  have k3 : farOk ((2 * L : Nat) : Int) = true := farOk_s (by omega) (by omega)
  have k4 : kMul 2 (m : Int) = some (.int (2 * (m : Int))) := kMul_s (by omega) (by omega) (by omega) (by omega)
  have hf : farOk (g : Int) = true := farOk_s (by omega) (by omega)
  generalize hN : 2 * L = N at *
  have outer := for_all0 (g := gSet 5) (body := bRing) (ds := rangeD 0 (g : Int))
    (ρ := [.val e, .val (.int c), .val (.int m), .lst (T.map od), .val (.int g), .no, .no, .no, .no])
    (I := fun r ρ => ∃ T1 s5 s6 s7 s8, ρ = [.val e, .val (.int c), .val (.int m), .lst (T1.map od), .val (.int g), s5, s6, s7, s8] ∧ Rings T T1 m c N r ∧ Gen m c T T1) (by
      rintro r ρ d ⟨T1, s5, s6, s7, s8, rfl, Q, Gn⟩ hd
      have hr : r < g := by
        have := (List.getElem?_eq_some_iff.mp hd).1
        rw [rangeD_len] at this
        omega
      have ed : d = .int (r : Int) := by rw [rangeD_get hd, Int.zero_add]
      subst ed
      obtain ⟨ρ', e1, T2, s6', s7', s8', hρ, Q2, G2⟩ := ring_ok (e := e) (L := N) (s4 := .val (.int g)) (s7 := s7) (s8 := s8) hm (show r < m by omega) Q.len Gn
      exact ⟨_, rfl, ρ', (bRing_eq k4 k1 k3).trans e1, T2, _, _, _, _, hρ, Q.step Q2, G2⟩)
    ⟨T, _, _, _, _, rfl, .start hl, .refl⟩
  obtain ⟨ρ', e1, T', s5, s6, s7, s8, hρ, Q, Gn⟩ := outer
  rw [rangeD_len, Int.sub_zero, Int.toNat_natCast] at Q
  subst hN
  refine ⟨T', ?_, Q.len, Gn, fun j k b hj hb => Q.cl hm hc hg.symm hL hj hb⟩
  have hG : fGcd (m : Int) c = (g : Int) := by unfold fGcd; rw [Int.natAbs_natCast, hg]
  unfold bRing bPut at e1
  subst hl hρ
  have e2 : mFor (mRange1 (mV 4)) (gSet 5) (mSeq (mSet 6 (mV 5)) (mFor (mRange1 (mBin (gI kDiv) (mBin (gI kMul) (mC (.int 2)) (mV 2)) (mV 4))) (gSet 7)
    (mSeq (mSet 8 (mBin (gI kMod) (mBin gAdd (mV 6) (mV 1)) (mV 2))) (mSeq (mIte (mAnd (mBool (mBin gNotN (mBin gIx (mO 3) (mV 6)) (mC .non))) (mOr (mBool (mBin gIsN (mBin gIx (mO 3) (mV 8)) (mC .non))) (mBool (mBin (gI (kBl fun i j => decide (j < i))) (mBin gIx (mO 3) (mV 8)) (mBin gAdd (mBin gIx (mO 3) (mV 6)) (mV 1)))))) (mPutL 3 (mV 8) (mBin gAdd (mBin gIx (mO 3) (mV 6)) (mV 1))) mNext) (mSet 6 (mV 8))))))
    [.val e, .val (.int c), .val (.int T.length), .lst (T.map od), .val (.int g), .no, .no, .no, .no] = .nx _ := (s_for (e_range1 (e_V rfl) hf)).trans e1
  have a1 : mCall gLen (mCons (mV 0) mNil) [.val e, .val (.int c), .no, .no, .no, .no, .no, .no, .no] = .ok (.int T.length) := by cases e <;> cases he <;> simp [gLen]
  have a2 : mCall gList (mCons (mV 0) mNil) [.val e, .val (.int c), .val (.int T.length), .no, .no, .no, .no, .no, .no] = .ok (.lst (T.map od)) := by cases e <;> cases he <;> simp [gList]
  have a3 : mCall (gII fGcd) (mCons (mV 2) (mCons (mV 1) mNil)) [.val e, .val (.int c), .val (.int T.length), .lst (T.map od), .no, .no, .no, .no, .no] = .ok (.int g) := by simp [gII, hG]
  have key : m_put_coin [.val e, .val (.int c), .no, .no, .no, .no, .no, .no, .no] = .rt (LO T') := (s_seq (s_set a1)).trans ((s_seq (s_setO a2)).trans ((s_seq (s_set a3)).trans ((s_seq e2).trans rfl)))
  show (m_put_coin [.val e, .val (.int c), .no, .no, .no, .no, .no, .no, .no]).res .val = _
  rw [key]
  rfl
end SL

-- SL2_k02
set_option Elab.async false
set_option linter.all false
set_option maxRecDepth 100000
set_option maxHeartbeats 4000000
/-! SL2: table_of, gcd_of, a new Lot, has. -/
namespace SL
open Fx G Sg
open PySem (Str)
theorem flat_rep (k : Nat) (d : D) : (List.replicate k [d]).flatten = List.replicate k d := by
  induction k with
  | zero => rfl
  | succ k ih => rw [List.replicate_succ, List.flatten_cons, ih]; rfl
theorem rep_ok {k : Int} (h1 : 0 ≤ k) (h2 : k ≤ 1000) : gRep (.lst [.non]) (.int k) = some (.lst (List.replicate k.toNat .non)) := by
  have z : szOk (1 * k.toNat) = true := szOk_s (by omega)
  unfold gRep
  show (if _ then _ else _) = _
  rw [show ([D.non] : List D).length = 1 from rfl, z, decide_eq_true (by omega), decide_eq_true (by omega)]
  rw [flat_rep]
  rfl
theorem tb0_map {m : Nat} : (tb0 m).map od = .int 0 :: List.replicate (m - 1) .non := by
  unfold tb0
  rw [List.map_cons, List.map_replicate]
  rfl
theorem tb0_ok {m : Nat} (hm : 0 < m) (hm2 : m ≤ 1000) {ρ : Env} {i : Nat} (h : mV i ρ = .ok (.int m)) : mBin gAdd (mLst (mCons (mC (.int 0)) mNil)) (mBin gRep (mLst (mCons (mC .non) mNil)) (mBin (gI (kInt fun i j => i - j)) (mV i) (mC (.int 1)))) ρ = .ok (LO (tb0 m)) ∧
    mBin gCat (mLst (mCons (mC (.int 0)) mNil)) (mBin gRep (mLst (mCons (mC .non) mNil)) (mBin (gI (kInt fun i j => i - j)) (mV i) (mC (.int 1)))) ρ = .ok (LO (tb0 m)) := by
  have r := rep_ok (k := (m : Int) - 1) (by omega) (by omega)
  have e : ((m : Int) - 1).toNat = m - 1 := by omega
  rw [e] at r
  have z : szOk (1 + (List.replicate (m - 1) D.non).length) = true := szOk_s (by rw [List.length_replicate]; omega)
  have b := e_bin (g := gRep) (d := .lst (List.replicate (m - 1) .non)) (e_lst (e_cons (e_C (d := .non) (ρ := ρ)) e_Nil)) (e_bin (g := gI (kInt fun i j => i - j)) h (e_C (d := .int 1) (ρ := ρ)) (gI_i.trans rfl)) r
  have a := e_lst (e_cons (e_C (d := .int 0) (ρ := ρ)) e_Nil)
  rw [LO, tb0_map]
  exact ⟨e_bin a b (by unfold gAdd; exact if_pos z), e_bin a b (by unfold gCat; exact if_pos z)⟩
theorem src_gen {cs : List Int} {m : Nat} {T T' : Tb} {c : Int} (hm : 0 < m) (g : Gen m c T T') (hs : Src (fun i v => Made cs v ∧ v % m = (i : Int)) T) : Src (fun i v => Made (c :: cs) v ∧ v % m = (i : Int)) T' :=
  g _ (fun h a ⟨h1, h2⟩ => ⟨.add (List.mem_cons_self ..) h1, by rw [Int.toNat_of_nonneg (Int.emod_nonneg _ (by omega)), ← h2, Int.emod_add_emod]⟩) (src_weak hs)
theorem _root_.Sg.LeastT.congrM {cs ds : List Int} {m : Nat} {T : Tb} (h : ∀ n, Made cs n ↔ Made ds n) (I : LeastT cs m T) : LeastT ds m T :=
  ⟨I.len, fun i v e => ⟨(h v).mp (I.lo i v e).1, (I.lo i v e).2⟩, fun n hn => I.hi n ((h n).mpr hn)⟩
theorem table_of_any {e : D} {cs : List Int} {m : Nat} (he : seqD e = some (cs.map .int)) (hp : Pos cs) (hm : 0 < m) (hm2 : m ≤ 1000) (hc : Made cs (m : Int)) : ∃ T, mf_table_of [e, .int m] = .ok (LO T) ∧ LeastT cs m T := by
  have lp := for_all0 (g := gSet 3) (body := mSet 2 (mDef mf_put_coin (mCons (mV 2) (mCons (mV 3) mNil)))) (ds := cs.map .int) (ρ := [.val e, .val (.int m), .val (LO (tb0 m)), .no])
    (I := fun i ρ => ∃ T s3, ρ = [.val e, .val (.int m), .val (LO T), s3] ∧ LeastT ((cs.take i).reverse ++ [(m : Int)]) m T) (by
      rintro i ρ d ⟨T, s3, rfl, I⟩ hd
      rw [List.getElem?_map] at hd
      obtain ⟨c, hc, rfl⟩ := Option.map_eq_some_iff.mp hd
      have c0 := hp c (List.mem_iff_getElem?.mpr ⟨_, hc⟩)
      obtain ⟨T', e1, l1, g1, k1⟩ := put_coin_ok (e := LO T) (c := c) rfl I.len hm hm2 c0
      have J := I.put hm l1 (src_gen hm g1 I.lo) k1
      refine ⟨_, rfl, _, s_set (e_def (e_cons (e_V rfl) (e_cons (e_V rfl) e_Nil)) e1), T', _, rfl, ?_⟩
      rw [List.take_add_one, hc]
      rw [List.reverse_append]
      exact J)
    ⟨_, _, rfl, tb0_least hm⟩
  obtain ⟨ρ', e1, T, s3, rfl, I⟩ := lp
  rw [List.length_map, List.take_length] at I
  refine ⟨T, ?_, I.congrM fun n => ⟨fun h => h.sub fun x hx => ?_, fun h => h.mono fun x hx => List.mem_append_left _ (List.mem_reverse.mpr hx)⟩⟩
  · have it : mItemsS (mV 0) [.val e, .val (.int m), .val (LO (tb0 m)), .no] = .ok (cs.map .int) := by
      cases e <;> cases he
      · exact e_itemsS' (e_V rfl)
      · exact e_itemsS (e_V rfl)
    have key : m_table_of [.val e, .val (.int m), .no, .no] = .rt (LO T) :=
      (s_seq (s_set (tb0_ok hm hm2 (e_V rfl)).1)).trans ((s_seq ((s_for it).trans e1)).trans (s_ret (e_V rfl)))
    show (m_table_of [.val e, .val (.int m), .no, .no]).res .val = _
    rw [key]
    rfl
  · rcases List.mem_append.mp hx with q | q
    · exact .coin (List.mem_reverse.mp q)
    · rw [List.mem_singleton.mp q]; exact hc
theorem table_of_ok {cs : List Int} {m : Nat} (hp : Pos cs) (hm : 0 < m) (hm2 : m ≤ 1000) (hc : (m : Int) ∈ cs) : ∃ T, mf_table_of [LI cs, .int m] = .ok (LO T) ∧ LeastT cs m T := table_of_any rfl hp hm hm2 (.coin hc)
theorem gcdl_snoc : ∀ (l : List Int) (g : Nat) (c : Int), gcdl g (l ++ [c]) = Nat.gcd (gcdl g l) c.natAbs
  | [], g, c => rfl
  | a :: l, g, c => gcdl_snoc l (Nat.gcd g a.natAbs) c
theorem gcd_of_ok {cs : List Int} : mf_gcd_of [LI cs] = .ok (.int (gcdl 0 cs : Nat)) := by
  have lp := for_all0 (g := gSet 2) (body := mSet 1 (mCall (gII fGcd) (mCons (mV 1) (mCons (mV 2) mNil)))) (ds := cs.map .int) (ρ := [.val (LI cs), .val (.int 0), .no])
    (I := fun i ρ => ∃ s2, ρ = [.val (LI cs), .val (.int (gcdl 0 (cs.take i) : Nat)), s2]) (by
      rintro i ρ d ⟨s2, rfl⟩ hd
      rw [List.getElem?_map] at hd
      obtain ⟨c, hc, rfl⟩ := Option.map_eq_some_iff.mp hd
      refine ⟨_, rfl, _, s_set (e_call (g := gII fGcd) (d := .int (gcdl 0 (cs.take (i + 1)) : Nat)) (e_cons (e_V rfl) (e_cons (e_V rfl) e_Nil)) ?_), _, rfl⟩
      rw [List.take_add_one, hc]
      show some (D.int (fGcd (gcdl 0 (cs.take i) : Nat) c)) = some (.int (gcdl 0 (cs.take i ++ [c]) : Nat))
      rw [gcdl_snoc]
      unfold fGcd
      rw [Int.natAbs_natCast])
    ⟨_, rfl⟩
  obtain ⟨ρ', e1, s2, rfl⟩ := lp
  rw [List.length_map, List.take_length] at e1
  have key : m_gcd_of [.val (LI cs), .no, .no] = .rt (.int (gcdl 0 cs : Nat)) :=
    (s_seq (s_set e_C)).trans ((s_seq ((s_for (e_items (e_V rfl))).trans e1)).trans (s_ret (e_V rfl)))
  show (m_gcd_of [.val (LI cs), .no, .no]).res .val = _
  rw [key]
  rfl
/-! ### a lot -/
theorem s_fdS {cs : List Str} {i : Nat} {x c : Str} {m : ME} {ρ : Env} {d : D} {fs : List (Str × D)} (h : m ρ = .ok d) (h2 : ρ[i]? = some (.ins c fs)) (h3 : (cs.contains c && ((fs.lookup x).isNone && decide (fs.length < 900))) = true) : mFdS cs i x m ρ = .nx (ρ.set i (.ins c (fs ++ [(x, d)]))) := by
  unfold mFdS
  rw [h, R.out_ok, h2]
  dsimp only
  rw [if_pos h3]
def lotF (cs : List Int) (m : Nat) (z : Int) (T : Tb) : List (Str × D) := [("coins", TI cs), ("size", .int (cs.length : Nat)), ("grain", .int (gcdl 0 cs : Nat)), ("least", .int m), ("greatest", .int z), ("_table", TO T)]
def lotD (cs : List Int) (m : Nat) (z : Int) (T : Tb) : D := .ins "Lot" (lotF cs m z T)
theorem e_sset {m : ME} {ρ : Env} {ns : List Int} (h : m ρ = .ok (LI ns)) (hl : ns.length < 64) : mSset m ρ = .ok (LI (usort ns)) := by
  unfold mSset
  rw [h, R.bind_ok]
  dsimp only
  rw [intsOf_map]
  dsimp only
  rw [if_pos hl]
theorem lot_ok {e : D} {ns cs : List Int} {m : Nat} (he : seqD e = some (ns.map .int)) (hs : usort ns = cs) (h0 : 1 ≤ ns.length) (hl : ns.length < 64) (hb : ∀ n ∈ ns, 1 ≤ n ∧ n ≤ 1000000000000) (hm : cs[0]? = some (m : Int)) (hm2 : m ≤ 64) :
    ∃ z T, mi_Lot [e] = .ok (lotF cs m z T) ∧ LeastT cs m T := by
  have hp : Pos cs := fun c hc => by
    rw [← hs] at hc
    have := (hb c (usort_mem.mp hc)).1
    omega
  have hmem : (m : Int) ∈ cs := List.mem_iff_getElem?.mpr ⟨0, hm⟩
  have m0 : 0 < m := by have := hp m hmem; omega
  obtain ⟨T, e1, L⟩ := table_of_ok hp m0 (by omega) hmem
  have e2 := look_numbers_ok (a := 1) (b := 64) (lo := 1) (hi := 1000000000000) he (by omega) (by omega) hb
  obtain ⟨cs', z, hz⟩ : ∃ cs' z, cs = cs' ++ [z] := by
    have : cs ≠ [] := fun q => by rw [q] at hm; cases hm
    exact ⟨cs.dropLast, cs.getLast this, (List.dropLast_concat_getLast this).symm⟩
  refine ⟨z, T, ?_, L⟩
  have x0 : gIx (LI cs) (.int 0) = some (.int m) := by
    show ixL (cs.map .int) 0 = _
    rw [ixL_0, List.getElem?_map, hm]; rfl
  have x1 : gIx (LI cs) (.int (-1)) = some (.int z) := by
    show ixL (cs.map .int) (-1) = _
    rw [hz, List.map_append]
    exact ixL_last
  have w : gI (kBl fun i j => decide (j < i)) (.int m) (.int 64) = some (.bl false) := by
    rw [gI_i]
    show some (D.bl (decide ((64 : Int) < m))) = _
    rw [decide_eq_false (by omega)]
  let ρ (fs : List (Str × D)) : Env := [.ins "Lot" fs, .val e, .val (LI cs)]
  have a1 : mDef mf_look_numbers (mCons (mV 1) (mCons (mC (.int 1)) (mCons (mC (.int 64)) (mCons (mC (.int 1)) (mCons (mC (.int 1000000000000)) mNil))))) [.ins "Lot" [], .val e, .no] = .ok (LI ns) :=
    e_def (e_cons (e_V rfl) (e_cons e_C (e_cons e_C (e_cons e_C (e_cons e_C e_Nil))))) e2
  have a2 : mSset (mDef mf_look_numbers (mCons (mV 1) (mCons (mC (.int 1)) (mCons (mC (.int 64)) (mCons (mC (.int 1)) (mCons (mC (.int 1000000000000)) mNil)))))) [.ins "Lot" [], .val e, .no] = .ok (LI cs) := by
    rw [← hs]; exact e_sset a1 hl
  have g0 : ∀ fs, mBin gIx (mV 2) (mC (.int 0)) (ρ fs) = .ok (.int m) := fun fs => e_bin (e_V rfl) e_C x0
  let f1 : List (Str × D) := [("coins", TI cs)]
  let f2 : List (Str × D) := [("coins", TI cs), ("size", .int (cs.length : Nat))]
  let f3 : List (Str × D) := [("coins", TI cs), ("size", .int (cs.length : Nat)), ("grain", .int (gcdl 0 cs : Nat))]
  let f4 : List (Str × D) := [("coins", TI cs), ("size", .int (cs.length : Nat)), ("grain", .int (gcdl 0 cs : Nat)), ("least", .int m)]
  let f5 : List (Str × D) := [("coins", TI cs), ("size", .int (cs.length : Nat)), ("grain", .int (gcdl 0 cs : Nat)), ("least", .int m), ("greatest", .int z)]
  have b1 : mFdS ["Lot"] 0 "coins" (mCall gTuple (mCons (mV 2) mNil)) (ρ []) = .nx (ρ f1) := s_fdS (d := TI cs) (fs := []) (e_call (e_cons (e_V rfl) e_Nil) rfl) rfl rfl
  have b2 : mFdS ["Lot"] 0 "size" (mCall gLen (mCons (mV 2) mNil)) (ρ f1) = .nx (ρ f2) := s_fdS (d := .int (cs.length : Nat)) (fs := f1) (e_call (e_cons (e_V rfl) e_Nil) (by show some (D.int ((cs.map D.int).length : Nat)) = _; rw [List.length_map])) rfl rfl
  have b3 : mFdS ["Lot"] 0 "grain" (mDef mf_gcd_of (mCons (mV 2) mNil)) (ρ f2) = .nx (ρ f3) := s_fdS (fs := f2) (e_def (e_cons (e_V rfl) e_Nil) gcd_of_ok) rfl rfl
  have b4 : mFdS ["Lot"] 0 "least" (mBin gIx (mV 2) (mC (.int 0))) (ρ f3) = .nx (ρ f4) := s_fdS (fs := f3) (g0 f3) rfl rfl
  have b5 : mFdS ["Lot"] 0 "greatest" (mBin gIx (mV 2) (mNeg (mC (.int 1)))) (ρ f4) = .nx (ρ f5) := s_fdS (d := .int z) (fs := f4) (e_bin (e_V rfl) (e_neg e_C) x1) rfl rfl
  have b6 : mFdS ["Lot"] 0 "_table" (mCall gTuple (mCons (mDef mf_table_of (mCons (mV 2) (mCons (mBin gIx (mV 2) (mC (.int 0))) mNil))) mNil)) (ρ f5) = .nx (ρ (lotF cs m z T)) := s_fdS (d := TO T) (fs := f5) (e_call (e_cons (e_def (e_cons (e_V rfl) (e_cons (g0 f5) e_Nil)) e1) e_Nil) rfl) rfl rfl
  have key : m_Lot___init__ [.ins "Lot" [], .val e, .no] = .nx (ρ (lotF cs m z T)) :=
    (s_seq (s_set a2)).trans ((s_seq (s_if0 (e_bool (e_bin (g0 []) e_C w)))).trans
    ((s_seq b1).trans ((s_seq b2).trans ((s_seq b3).trans ((s_seq b4).trans ((s_seq b5).trans b6))))))
  show mini 3 "Lot" m_Lot___init__ [e] = _
  unfold mini
  have e0 : entI 3 "Lot" [e] = [.ins "Lot" [], .val e, .no] := rfl
  rw [e0, key]
  rfl
end SL

-- LA_k02
set_option Elab.async false
set_option linter.all false
set_option maxRecDepth 100000
set_option maxHeartbeats 4000000
/-! LA: a lot, its fields; whether a number is made. -/
namespace SL
open Fx G Sg
open PySem (Str)
/-- a lot, its table -/
structure LotA (cs : List Int) (m : Nat) (T : Tb) (d : D) : Prop where
  eq : ∃ z, d = lotD cs m z T
  lt : LeastT cs m T
  hm : cs[0]? = some (m : Int)
  m0 : 0 < m
  ml : m ≤ 64
  cl : cs.length < 64
section
variable {cs : List Int} {m : Nat} {T : Tb} {d : D} {ρ : Env} {me : ME} {n : Int}
theorem lotA_coins (L : LotA cs m T d) (h : me ρ = .ok d) : mFd ["Lot"] "coins" me ρ = .ok (TI cs) := by
  obtain ⟨z, rfl⟩ := L.eq
  unfold mFd; rw [h]; rfl
theorem lotA_grain (L : LotA cs m T d) (h : me ρ = .ok d) : mFd ["Lot"] "grain" me ρ = .ok (.int (gcdl 0 cs : Nat)) := by
  obtain ⟨z, rfl⟩ := L.eq
  unfold mFd; rw [h]; rfl
theorem lotA_least (L : LotA cs m T d) (h : me ρ = .ok d) : mFd ["Lot"] "least" me ρ = .ok (.int m) := by
  obtain ⟨z, rfl⟩ := L.eq
  unfold mFd; rw [h]; rfl
theorem lotA_table (L : LotA cs m T d) (h : me ρ = .ok d) : mFd ["Lot"] "_table" me ρ = .ok (TO T) := by
  obtain ⟨z, rfl⟩ := L.eq
  unfold mFd; rw [h]; rfl
/-- is it made: by a table -/
def tmk (T : Tb) (m : Nat) (n : Int) : Bool := match T.getD (n % m).toNat none with
  | none => false
  | some v => decide (v ≤ n)
theorem tb_ix {T : Tb} (hl : T.length = m) (m0 : 0 < m) (n : Int) : T[(n % m).toNat]? = some (T.getD (n % m).toNat none) := by
  have r0 := Int.emod_nonneg n (show (m : Int) ≠ 0 by omega)
  have r1 := Int.emod_lt_of_pos n (show (0 : Int) < m by omega)
  rw [List.getD_eq_getElem?_getD, List.getElem?_eq_getElem (by omega)]
  rfl
theorem in_table_A {e : D} (he : seqD e = some (T.map od)) (hl : T.length = m) (m0 : 0 < m) : mf_in_table [e, .int n] = .ok (.bl (tmk T m n)) := by
  have h := tb_ix hl m0 n
  unfold tmk
  revert h
  generalize T.getD (n % m).toNat none = o
  intro h
  cases o with
  | none => exact in_table_ok he hl m0 h
  | some v => exact in_table_ok he hl m0 h
theorem least_made (I : LeastT cs m T) (hp : Pos cs) (hmc : (m : Int) ∈ cs) (m0 : 0 < m) (n : Int) : Made cs n ↔ tmk T m n = true := by
  have hx := tb_ix I.len m0 n
  have r0 := Int.emod_nonneg n (show (m : Int) ≠ 0 by omega)
  constructor
  · intro h
    obtain ⟨v, h1, h2⟩ := I.hi n h
    rw [hx] at h1
    unfold tmk
    rw [Option.some.inj h1]
    exact decide_eq_true h2
  · intro h
    unfold tmk at h
    cases q : T.getD (n % m).toNat none with
    | none => rw [q] at h; cases h
    | some v =>
      rw [q] at h hx
      have hv : v ≤ n := of_decide_eq_true h
      obtain ⟨h1, h2⟩ := I.lo _ v hx
      have e : n % m = v % m := by rw [h2, Int.toNat_of_nonneg r0]
      obtain ⟨t, ht⟩ : ∃ t, n = v + t * m := ⟨(n - v) / m, by
        have : (m : Int) ∣ n - v := Int.dvd_of_emod_eq_zero (by rw [Int.sub_emod, e, Int.sub_self]; rfl)
        rw [Int.ediv_mul_cancel this]; omega⟩
      have t0 : 0 ≤ t := by
        rcases Int.lt_or_le t 0 with h3 | h3
        · have : t * (m : Int) < 0 := Int.mul_neg_of_neg_of_pos h3 (by omega)
          omega
        · exact h3
      rw [ht]
      exact h1.plus ((Made.coin hmc).mulI t0)
theorem LotA.made (L : LotA cs m T d) (hp : Pos cs) (n : Int) : tmk T m n = true ↔ Made cs n := (least_made L.lt hp (List.mem_iff_getElem?.mpr ⟨0, L.hm⟩) L.m0 n).symm
end
end SL

-- LB_k02
set_option Elab.async false
set_option linter.all false
set_option maxRecDepth 100000
set_option maxHeartbeats 4000000
/-! LB: a lot of a list of coins, in any order. -/
namespace SL
open Fx G Sg
open PySem (Str)
theorem lot_of {e : D} {ns : List Int} (he : seqD e = some (ns.map .int)) (hl : ns.length < 64) (hb : ∀ n ∈ ns, 1 ≤ n ∧ n ≤ 10 ^ 12) (hc : ∃ c ∈ ns, c ≤ 64) :
    ∃ (m : Nat) (T : Tb) (fs : List (Str × D)), mi_Lot [e] = .ok fs ∧ LotA (usort ns) m T (.ins "Lot" fs) := by
  obtain ⟨c, c1, c2⟩ := hc
  have l0 : 1 ≤ ns.length := List.length_pos_of_mem c1
  have cm : c ∈ usort ns := usort_mem.mpr c1
  obtain ⟨a, l, hal⟩ : ∃ a l, usort ns = a :: l := by
    cases q : usort ns with
    | nil => rw [q] at cm; cases cm
    | cons a l => exact ⟨a, l, rfl⟩
  have am : a ∈ ns := usort_mem.mp (by rw [hal]; exact List.mem_cons_self ..)
  have a1 := (hb a am).1
  have a2 : a ≤ 64 := by
    have srt := usort_srt ns
    rw [hal] at srt cm
    rcases List.mem_cons.mp cm with rfl | h
    · exact c2
    · have := (List.pairwise_cons.mp srt).1 c h
      omega
  have hm : (usort ns)[0]? = some ((a.toNat : Nat) : Int) := by
    rw [hal, Int.toNat_of_nonneg (by omega)]; rfl
  obtain ⟨z, T, h1, h2⟩ := lot_ok (e := e) (ns := ns) (cs := usort ns) (m := a.toNat) he rfl l0 hl (fun n hn => by have := hb n hn; omega) hm (by omega)
  exact ⟨a.toNat, T, _, h1, ⟨z, rfl⟩, h2, hm, by omega, by omega, Nat.lt_of_le_of_lt (usort_len ns) hl⟩
theorem pos_usort {ns : List Int} (hb : ∀ n ∈ ns, 1 ≤ n) : Pos (usort ns) := fun c hc => by
  have := hb c (usort_mem.mp hc)
  omega
end SL

-- Mx
set_option Elab.async false
set_option linter.all false
set_option maxRecDepth 100000
set_option maxHeartbeats 2000000
/-! Mx: mirrors step by step, for the walk "st" (statements), "ev" (expressions), "op" (operations). -/
namespace Fx
open PySem PySem.Spec PyProof.Rows L2
section
variable {ρ ρ' : Env} {d : D} {i j k : Nat} {m n : ME} {t t2 : MT} {s s2 : MS} {b b2 : Bool} {e : Exn} {o : Out} {x : Str} {cs : List Str}
theorem q_set (h : m ρ = .ok d) (h2 : ρ.set i (.val d) = ρ') : mSet i m ρ = .nx ρ' := (s_set h).trans (congrArg Out.nx h2)
theorem q_setO (h : m ρ = .ok d) (h2 : ρ.set i (slOf d) = ρ') : mSetO i m ρ = .nx ρ' := (s_setO h).trans (congrArg Out.nx h2)
theorem q_app {ds : List D} (h : m ρ = .ok d) (h2 : ρ[i]? = some (.lst ds)) (h3 : ds.length ≤ 16000000) (h4 : ρ.set i (.lst (ds ++ [d])) = ρ') : mApp i m ρ = .nx ρ' := (s_app h h2 h3).trans (congrArg Out.nx h4)
theorem q_frz {ds : List D} (h2 : ρ[i]? = some (.lst ds)) (h4 : ρ.set i (.val (.lst ds)) = ρ') : mFrz i ρ = .nx ρ' := (s_frz h2).trans (congrArg Out.nx h4)
theorem q_seq (h : s ρ = .nx ρ') (h2 : s2 ρ' = o) : mSeq s s2 ρ = o := (s_seq h).trans h2
theorem q_ifT (h : t ρ = .ok b) (hb : b = true) (h2 : s ρ = o) : mIte t s s2 ρ = o := by subst hb; exact (s_if1 h).trans h2
theorem q_ifF (h : t ρ = .ok b) (hb : b = false) (h2 : s2 ρ = o) : mIte t s s2 ρ = o := by subst hb; exact (s_if0 h).trans h2
theorem q_ret {d' : D} (h : m ρ = .ok d) (h2 : d = d') : mRet m ρ = .rt d' := by subst h2; exact s_ret h
theorem q_next : mNext ρ = .nx ρ := rfl
theorem q_andT (h : t ρ = .ok b) (h2 : t2 ρ = .ok b2) : mAnd t t2 ρ = .ok (b && b2) := by
  cases b with
  | true => exact (e_and1 h).trans h2
  | false => exact e_and0 h
theorem q_orT (h : t ρ = .ok b) (h2 : t2 ρ = .ok b2) : mOr t t2 ρ = .ok (b || b2) := by
  cases b with
  | true => exact e_or1 h
  | false => exact (e_or0 h).trans h2
theorem q_andF (h : t ρ = .ok b) (hb : b = false) : mAnd t t2 ρ = .ok false := by subst hb; exact e_and0 h
theorem q_orF (h : t ρ = .ok b) (hb : b = true) : mOr t t2 ρ = .ok true := by subst hb; exact e_or1 h
theorem q_andV {c c2 : Bool} (h : m ρ = .ok (.bl c)) (h2 : n ρ = .ok (.bl c2)) : mAndV m n ρ = .ok (.bl (c && c2)) := by
  unfold mAndV
  rw [h]
  cases c with
  | true => exact h2
  | false => rfl
theorem q_andVF (h : m ρ = .ok (.bl false)) : mAndV m n ρ = .ok (.bl false) := by unfold mAndV; rw [h]; rfl
theorem q_orV {c c2 : Bool} (h : m ρ = .ok (.bl c)) (h2 : n ρ = .ok (.bl c2)) : mOrV m n ρ = .ok (.bl (c || c2)) := by
  unfold mOrV
  rw [h]
  cases c with
  | true => rfl
  | false => exact h2
theorem q_notV {c : Bool} (h : m ρ = .ok (.bl c)) : mNotV m ρ = .ok (.bl (!c)) := by unfold mNotV; rw [h]; rfl
theorem q_isi {T : String} {ty : String} (h : m ρ = .ok d) (h2 : tyD d = some ty) : mIsi T m ρ = .ok (.bl (isiB ty T)) := by unfold mIsi; rw [h]; show (match tyD d with | some t => R.ok (D.bl (isiB t T)) | none => R.bad) = _; rw [h2]
theorem q_ite {a : ME} (h : t ρ = .ok true) (h2 : m ρ = .ok d) : mIf t m a ρ = .ok d := by unfold mIf; rw [h, R.bind_ok, if_pos rfl, h2]
theorem q_itF {a : ME} (h : t ρ = .ok false) (h2 : a ρ = .ok d) : mIf t m a ρ = .ok d := by unfold mIf; rw [h, R.bind_ok, if_neg Bool.false_ne_true, h2]
theorem q_fd {fs : List (Str × D)} {c : Str} (h : m ρ = .ok (.ins c fs)) (h2 : cs.contains c = true) (h3 : fs.lookup x = some d) : mFd cs x m ρ = .ok d := by unfold mFd; rw [h]; show (if cs.contains c = true then R.of (fs.lookup x) else R.bad) = _; rw [if_pos h2, h3]; rfl
theorem q_slL {ds : List D} {l h : MO} {a c : Option Int} (h1 : m ρ = .ok (.lst ds)) (h2 : l ρ = .ok a) (h3 : h ρ = .ok c) : mSl m l h ρ = .ok (.lst (cutD ds a c)) := by unfold mSl; rw [h1, R.bind_ok, h2, R.bind_ok, h3]; rfl
theorem q_part {a : Int} (h1 : m ρ = .ok (.int a)) : mPart m ρ = .ok (some a) := by unfold mPart; rw [h1]; rfl
theorem q_no : mNo ρ = .ok none := rfl
theorem q_flat (h : m ρ = .ok d) (h2 : flat d = true) : mFlat m ρ = .ok d := by unfold mFlat; rw [h, R.bind_ok, if_pos h2]
theorem q_defN {f : MF} {a : MA} {ds : List D} (h : a ρ = .ok ds) (h2 : f ds = .ok d) : mDefN f a ρ = .ok d := by unfold mDefN; rw [h, R.bind_ok, h2]
theorem q_defL {f : MF} {a : MA} {ds : List D} (h : a ρ = .ok ds) (h2 : f ds = .ok d) (h3 : lf d = true) : mDefL f a ρ = .ok d := e_defL h (by rw [h2]; exact l_ok h3)
theorem q_def {f : MF} {a : MA} {ds : List D} (h : a ρ = .ok ds) (h2 : f ds = .ok d) : mDef f a ρ = .ok d := e_def h h2
theorem q_defE {f : MF} {a : MA} {ds : List D} (h : a ρ = .ok ds) (h2 : f ds = .err e) : mDef f a ρ = .err e := e_def h h2
theorem q_setN (h : m ρ = .ok d) (h2 : ρ.set i (.deep d) = ρ') : mSetN i m ρ = .nx ρ' := by unfold mSetN; rw [h]; exact congrArg Out.nx h2
theorem q_drop (h : m ρ = .ok d) : mDrop m ρ = .nx ρ := s_drop h
theorem q_mk {c : Str} {mi : MIn} {a : MA} {ds : List D} {fs : List (Str × D)} (h : a ρ = .ok ds) (h2 : mi ds = .ok fs) : mMk c mi a ρ = .ok (.ins c fs) := by unfold mMk; rw [h, R.bind_ok, h2]; rfl
theorem q_rangeD1 {n : Int} (h : m ρ = .ok (.int n)) (h1 : -(10 ^ 18) ≤ n) (h2 : n ≤ 10 ^ 18) : mRange1 m ρ = .ok (rangeD 0 n) := e_range1 h (farOk_s h1 h2)
theorem q_rangeD2 {n0 n1 : Int} (h : m ρ = .ok (.int n0)) (h' : n ρ = .ok (.int n1)) (h1 : -(10 ^ 18) ≤ n0) (h2 : n0 ≤ 10 ^ 18) (h3 : -(10 ^ 18) ≤ n1) (h4 : n1 ≤ 10 ^ 18) : mRange2 m n ρ = .ok (rangeD n0 n1) := e_range2 h h' (farOk_s h1 h2) (farOk_s h3 h4)
theorem q_for {mi : MI} {g : MG} {ds : List D} (h : mi ρ = .ok ds) (h2 : forL g s ds ρ = o) : mFor mi g s ρ = o := (s_for h).trans h2
theorem q_put {mk : ME} {ds : List D} {a : Int} {q : Nat} (h : m ρ = .ok d) (h2 : ρ[i]? = some (.lst ds)) (h3 : mk ρ = .ok (.int a)) (h4 : ixS ds.length a = some q) (h5 : ρ.set i (.lst (ds.set q d)) = ρ') : mPutL i mk m ρ = .nx ρ' := by
  unfold mPutL
  rw [h, R.out_ok, h2]
  dsimp only
  rw [h3, R.out_ok]
  dsimp only
  rw [h4]
  exact congrArg Out.nx h5
theorem q_mth {c : Str} {f : MF} {mo : ME} {a : MA} {fs : List (Str × D)} {ds : List D} {r : R D} (h : mo ρ = .ok (.ins c fs)) (h2 : (fs.lookup x).isNone = true) (h3 : a ρ = .ok ds) (h4 : f (.ins c fs :: ds) = r) : mMth c x f mo a ρ = r := by
  unfold mMth
  rw [h, R.bind_ok]
  dsimp only
  rw [if_pos (by rw [h2]; simp), h3, R.bind_ok, h4]
/-- deep slots -/
theorem q_dx {ds : List D} {a : Int} (h1 : ρ[i]? = some (.deep (.lst ds))) (h2 : n ρ = .ok (.int a)) (h3 : ixL ds a = some d) (h4 : (lf d || flat d) = true) : mDx i n ρ = .ok d := by
  unfold mDx
  rw [h1]
  dsimp only
  rw [h2, R.bind_ok]
  show (match ixL ds a with | some e => if (lf e || flat e) = true then R.ok e else .bad | none => .bad) = _
  rw [h3]
  dsimp only
  rw [if_pos h4]
theorem q_appD {dd : D} {a : Int} {q : Nat} {es : List D} (h1 : ρ[i]? = some (.deep dd)) (h2 : itemD a dd = some (q, es)) (h3 : m ρ = .ok d) (h4 : (lf d && szOk es.length) = true) (h5 : ρ.set i (.deep (withD q (es ++ [d]) dd)) = ρ') : mAppD i a m ρ = .nx ρ' := by
  unfold mAppD
  rw [h1]
  dsimp only
  rw [h2]
  dsimp only
  rw [h3, R.out_ok, if_pos h4]
  exact congrArg Out.nx h5
theorem q_putDp {dd : D} {a c : Int} {q r : Nat} {es : List D} (h3 : m ρ = .ok d) (h1 : ρ[i]? = some (.deep dd)) (h2 : itemD a dd = some (q, es)) (h6 : ixS es.length c = some r) (h4 : lf d = true) (h5 : ρ.set i (.deep (withD q (es.set r d) dd)) = ρ') : mPutDp i a c m ρ = .nx ρ' := by
  unfold mPutDp
  rw [h3, R.out_ok, h1]
  dsimp only
  rw [h2]
  dsimp only
  rw [h6]
  dsimp only
  rw [if_pos h4]
  exact congrArg Out.nx h5
/-- a def's result -/
theorem fn_rt {N : Nat} {ds : List D} {ρ : Env} (h : ent N ds = ρ) (h2 : s ρ = .rt d) : mfn .val N s ds = .ok d := by
  show (s (ent N ds)).res .val = _
  rw [h, h2]; rfl
theorem fn_rtO {N : Nat} {fr : Fk} {ds : List D} {ρ : Env} (h : ent N ds = ρ) (h2 : s ρ = .rt d) : mfn fr N s ds = .ok d := by
  show (s (ent N ds)).res fr = _
  rw [h, h2]; cases fr <;> rfl
theorem fn_err {N : Nat} {fr : Fk} {ds : List D} {ρ : Env} (h : ent N ds = ρ) (h2 : s ρ = .err e ρ') : mfn fr N s ds = .err e := by
  show (s (ent N ds)).res fr = _
  rw [h, h2]; cases fr <;> rfl
/-- try -/
theorem q_tryRt {nms : List Str} (h : s (noExc ρ) = .rt d) : mTry nms i s s2 ρ = .rt d := by unfold mTry; rw [h]
theorem q_tryNx {nms : List Str} (h : s (noExc ρ) = .nx ρ') : mTry nms i s s2 ρ = .nx (noExc ρ') := by unfold mTry; rw [h]
theorem q_tryX {nms : List Str} (h : s (noExc ρ) = .err e ρ') (h2 : nms.contains e.c = true) (h3 : s2 ((noExc ρ').set i (.exc e)) = .rt d) : mTry nms i s s2 ρ = .rt d := by
  unfold mTry
  rw [h]
  dsimp only
  rw [if_pos h2, h3]
end
/-! ### with draws -/
section
variable {ρ ρ' : Env} {d : D} {i : Nat} {m p : ME} {e : MEw} {a b : MSw} {s : MS} {K : Out → Prop} {KD : D → Prop} {t : MT} {g : D → D → Option D} {ea eb : MEw}
theorem w_S (h : s ρ = .nx ρ') (h2 : b ρ' K) : wSeq (wS s) b ρ K := by show (match s ρ with | .nx ρ' => b ρ' K | o => K o); rw [h]; exact h2
theorem w_Rt (h : s ρ = .rt d) (h2 : K (.rt d)) : wSeq (wS s) b ρ K := by show (match s ρ with | .nx ρ' => b ρ' K | o => K o); rw [h]; exact h2
theorem w_S1 (h : s ρ = .rt d) (h2 : K (.rt d)) : wS s ρ K := by show K (s ρ); rw [h]; exact h2
theorem w_S0 (h : s ρ = .nx ρ') (h2 : K (.nx ρ')) : wS s ρ K := by show K (s ρ); rw [h]; exact h2
theorem w_set (h : e ρ fun d => b (ρ.set i (.val d)) K) : wSeq (wSet i e) b ρ K := h
theorem w_setO (h : e ρ fun d => b (ρ.set i (slOf d)) K) : wSeq (wSetO i e) b ρ K := h
theorem w_set1 (h : e ρ fun d => K (.nx (ρ.set i (.val d)))) : wSet i e ρ K := h
theorem w_app1 {ds : List D} (h : ρ[i]? = some (.lst ds)) (h3 : ds.length ≤ 16000000) (h2 : e ρ fun d => K (.nx (ρ.set i (.lst (ds ++ [d]))))) (hm : Mono e) : wApp i e ρ K := by
  unfold wApp
  rw [h]
  exact hm ρ _ _ (fun d z => ⟨szOk_s h3, z⟩) h2
theorem w_app {ds : List D} (h : ρ[i]? = some (.lst ds)) (h3 : ds.length ≤ 16000000) (h2 : e ρ fun d => b (ρ.set i (.lst (ds ++ [d]))) K) (hm : Mono e) : wSeq (wApp i e) b ρ K := by
  show wApp i e ρ _
  exact w_app1 h h3 h2 hm
theorem w_E (h : m ρ = .ok d) (h2 : KD d) : wE m ρ KD := ⟨d, h, h2⟩
theorem w_bin (h : ea ρ fun x => eb ρ fun y => ∃ d, g x y = some d ∧ KD d) : wBin g ea eb ρ KD := h
theorem w_draw {n : Int} (h : p ρ = .ok .pool) (h2 : m ρ = .ok (.int n)) (h3 : 0 < n) (h4 : n ≤ 10 ^ 60) (h5 : ∀ d : Int, 0 ≤ d → d < n → KD (.int d)) : wDraw p m ρ KD := ⟨h, n, h2, h3, Sm.ok ⟨by omega, by omega⟩, h5⟩
theorem w_iteT (h : t ρ = .ok true) (h2 : a ρ K) : wIte t a b ρ K := ⟨true, h, by rw [if_pos rfl]; exact h2⟩
theorem w_iteF (h : t ρ = .ok false) (h2 : b ρ K) : wIte t a b ρ K := ⟨false, h, by rw [if_neg Bool.false_ne_true]; exact h2⟩
theorem w_seq (h : a ρ fun o => match o with | .nx ρ' => b ρ' K | o => K o) : wSeq a b ρ K := h
theorem w_op (h : g d d' = some d2) (h2 : KD d2) : ∃ x, g d d' = some x ∧ KD x := ⟨_, h, h2⟩
theorem w_def {mf : MFw} {r : MAw} (h : r ρ fun ds => mf ds fun z => match z with | .ok d => KD d | _ => False) : wDef mf r ρ KD := h
theorem w_cons {r : MAw} {KA : List D → Prop} (h : e ρ fun x => r ρ fun xs => KA (x :: xs)) : wCons e r ρ KA := h
theorem w_nil {KA : List D → Prop} (h : KA []) : wNil ρ KA := h
theorem w_for {mi : MI} {gg : MG} {ds : List D} (h : mi ρ = .ok ds) (h2 : forW gg a ds ρ K) : wFor mi gg a ρ K := ⟨ds, h, h2⟩
/-- a loop, each turn going on -/
theorem forW_all {gg : MG} {I : Nat → Env → Prop} {ds : List D} (hm : Mono a) (h : ∀ i ρ d, I i ρ → ds[i]? = some d → ∃ ρ1, gg d ρ = some ρ1 ∧ a ρ1 fun o => ∃ ρ2, o = .nx ρ2 ∧ I (i + 1) ρ2) : ∀ (n i : Nat) (ρ : Env), n = ds.length - i → i ≤ ds.length → I i ρ → (∀ ρ', I ds.length ρ' → K (.nx ρ')) → forW gg a (ds.drop i) ρ K
  | 0, i, ρ, hn, hl, hi, hK => by
    have e : i = ds.length := by omega
    subst e
    rw [List.drop_length]
    exact hK ρ hi
  | n + 1, i, ρ, hn, hl, hi, hK => by
    have hlt : i < ds.length := by omega
    rw [List.drop_eq_getElem_cons hlt]
    obtain ⟨ρ1, e1, h1⟩ := h i ρ _ hi (List.getElem?_eq_getElem hlt)
    refine ⟨ρ1, e1, hm _ _ _ (fun o ⟨ρ2, eo, i2⟩ => ?_) h1⟩
    subst eo
    exact forW_all hm h n (i + 1) ρ2 (by omega) (by omega) i2 hK
theorem forW_all0 {gg : MG} {I : Nat → Env → Prop} {ds : List D} (hm : Mono a) (h0 : I 0 ρ) (h : ∀ i ρ d, I i ρ → ds[i]? = some d → ∃ ρ1, gg d ρ = some ρ1 ∧ a ρ1 fun o => ∃ ρ2, o = .nx ρ2 ∧ I (i + 1) ρ2) (hK : ∀ ρ', I ds.length ρ' → K (.nx ρ')) : forW gg a ds ρ K := by
  have z := forW_all (K := K) hm h ds.length 0 ρ (by omega) (Nat.zero_le _) h0 hK
  rwa [List.drop_zero] at z
end
end Fx

-- Mx2
set_option Elab.async false
set_option linter.all false
set_option maxRecDepth 100000
set_option maxHeartbeats 2000000
/-! Mx2: comprehensions and loops over ranges and lists. -/
namespace Fx
open PySem PySem.Spec PyProof.Rows L2
section
variable {ρ ρ1 ρ2 : Env} {i : Nat} {m e : ME} {t : MT} {mi : MI} {b : MS} {ys : List D}
theorem q_lc {α : Type} {g f : α → D} {p : α → Bool} {xs : List α} (h : mi ρ = .ok (xs.map g)) (hz : xs.length ≤ 16000000) (h1 : (noExc ρ).set i .no = ρ1) (h2 : ∀ x ∈ xs, t (ρ1.set i (.val (g x))) = .ok (p x) ∧ (p x = true → e (ρ1.set i (.val (g x))) = .ok (f x))) : mLc i mi t e ρ = .ok (.lst ((xs.filter p).map f)) := by
  subst h1
  exact e_lc h (by rw [List.length_map]; exact hz) (lcL_on h2)
/-- no test -/
theorem q_lc1 {α : Type} {g f : α → D} {xs : List α} (h : mi ρ = .ok (xs.map g)) (hz : xs.length ≤ 16000000) (h1 : (noExc ρ).set i .no = ρ1) (h2 : ∀ x ∈ xs, e (ρ1.set i (.val (g x))) = .ok (f x)) : mLc i mi mYes e ρ = .ok (.lst (xs.map f)) := by
  have z := q_lc (t := mYes) (p := fun _ => true) h hz h1 fun x hx => ⟨rfl, fun _ => h2 x hx⟩
  rwa [filter_tt] at z
theorem rangeD_map (n : Int) : rangeD 0 n = (List.range n.toNat).map fun k : Nat => .int (k : Int) := by
  unfold rangeD
  rw [Int.sub_zero]
  refine List.map_congr_left fun k _ => ?_
  rw [Int.zero_add]
theorem q_range {n : Int} (h : m ρ = .ok (.int n)) (h1 : -(10 ^ 18) ≤ n) (h2 : n ≤ 10 ^ 18) : mRange1 m ρ = .ok ((List.range n.toNat).map fun k : Nat => .int (k : Int)) := by
  rw [← rangeD_map]
  exact q_rangeD1 h h1 h2
theorem q_range3 {a c : Int} {m2 m3 : ME} (h : m ρ = .ok (.int 0)) (h' : m2 ρ = .ok (.int a)) (h'' : m3 ρ = .ok (.int c)) (h1 : -(10 ^ 18) ≤ a) (h2 : a ≤ 10 ^ 18) (h3 : 0 < c) (h4 : c ≤ 10 ^ 9) : mRange3 m m2 m3 ρ = .ok ((List.range (rgN 0 a c)).map fun k : Nat => .int ((k : Int) * c)) := by
  unfold mRange3
  rw [h, R.bind_ok, h', R.bind_ok, h'', R.bind_ok]
  have z : (farOk 0 && (farOk a && stepOk c)) = true := by
    rw [farOk_s (by omega) (by omega), farOk_s h1 h2]
    unfold stepOk
    rw [decide_eq_true h3, decide_eq_true (by omega)]
    rfl
  show (if (farOk 0 && (farOk a && stepOk c)) = true then R.ok (rangeD3 0 a c) else .bad) = _
  rw [if_pos z]
  unfold rangeD3
  refine congrArg R.ok (List.map_congr_left fun k _ => ?_)
  rw [Int.zero_add]
theorem ixL_map {α : Type} {g : α → D} {xs : List α} {k : Nat} {x : α} (h : xs[k]? = some x) : ixL (xs.map g) (k : Int) = some (g x) := by
  rw [ixL_nat, List.getElem?_map, h]; rfl
theorem ixL_mapI {α : Type} {g : α → D} {xs : List α} {k : Int} {x : α} (h0 : 0 ≤ k) (h : xs[k.toNat]? = some x) : ixL (xs.map g) k = some (g x) := by
  rw [ixL_nn h0, List.getElem?_map, h]; rfl
/-- a loop over told things, each turn going on -/
theorem q_forE {α : Type} {g : α → D} {xs : List α} {gg : MG} {I : Nat → Env → Prop} {o : Out} (h0 : I 0 ρ) (h : ∀ (k : Nat) (ρ : Env) (x : α), I k ρ → xs[k]? = some x → ∃ ρ1, gg (g x) ρ = some ρ1 ∧ ∃ ρ2, b ρ1 = .nx ρ2 ∧ I (k + 1) ρ2) : ∃ ρ', forL gg b (xs.map g) ρ = .nx ρ' ∧ I xs.length ρ' := by
  have z := for_all0 (g := gg) (body := b) (ds := xs.map g) (ρ := ρ) (I := I) (fun k ρ d hi hd => by
    rw [List.getElem?_map] at hd
    obtain ⟨x, hx, rfl⟩ := Option.map_eq_some_iff.mp hd
    exact h k ρ x hi hx) h0
  rwa [List.length_map] at z
/-- .. the slots the same but one -/
theorem q_forU {α : Type} {g : α → D} {xs : List α} {gg : MG} {I : Env → Prop} (h0 : I ρ) (h : ∀ (ρ : Env) (x : α), I ρ → x ∈ xs → ∃ ρ1, gg (g x) ρ = some ρ1 ∧ ∃ ρ2, b ρ1 = .nx ρ2 ∧ I ρ2) : ∃ ρ', forL gg b (xs.map g) ρ = .nx ρ' ∧ I ρ' :=
  q_forE (o := .bad) (I := fun _ ρ => I ρ) h0 fun k ρ x hi hx => h ρ x hi (List.mem_iff_getElem?.mpr ⟨k, hx⟩)
theorem len_map {α : Type} {g : α → D} {xs : List α} : gLen [.lst (xs.map g)] = some (.int (xs.length : Nat)) := by
  show some (D.int ((xs.map g).length : Nat)) = _
  rw [List.length_map]
end
end Fx

-- Sg4
set_option Elab.async false
set_option linter.all false
set_option maxRecDepth 100000
set_option maxHeartbeats 2000000
/-! Sg4: Euclid's way down. Plain Lean. -/
namespace Sg
theorem halve {b h : Int} (h0 : 0 < h) (h1 : h ≤ b) : 2 * (h * (b % h)) < b * h ∨ b % h = 0 := by
  have e := Int.mul_ediv_add_emod b h
  have r0 := Int.emod_nonneg b (Int.ne_of_gt h0)
  have q1 : 1 ≤ b / h := by
    have := Int.ediv_le_ediv h0 h1
    rw [Int.ediv_self (Int.ne_of_gt h0)] at this
    exact this
  have r1 := Int.emod_lt_of_pos b h0
  have : h * 1 ≤ h * (b / h) := Int.mul_le_mul_of_nonneg_left q1 (Int.le_of_lt h0)
  have h2 : 2 * (b % h) < b := by omega
  left
  have : h * (2 * (b % h)) < h * b := Int.mul_lt_mul_of_pos_left h2 h0
  grind
theorem halve_pow {b h : Int} {k : Nat} (h0 : 0 < h) (h1 : h ≤ b) (hk : b * h < 2 ^ k) : ∃ k', k' < k ∧ h * (b % h) < 2 ^ k' := by
  cases k with
  | zero =>
    exfalso
    have : 1 * 1 ≤ b * h := Int.mul_le_mul (by omega) (by omega) (by omega) (by omega)
    simp at hk
    omega
  | succ k =>
    refine ⟨k, Nat.lt_succ_self k, ?_⟩
    have hp : (2 : Int) ^ (k + 1) = 2 ^ k * 2 := Int.pow_succ ..
    have hpos : (0 : Int) < 2 ^ k := Int.pow_pos (by omega)
    rcases halve h0 h1 with z | z
    · omega
    · rw [z, Int.mul_zero]; exact hpos
/-- a pair on its way down -/
structure Dwn (u v : Int) (k : Nat) : Prop where
  nu : 0 ≤ u
  nv : 0 ≤ v
  m : (v ≤ u ∧ u * v < 2 ^ k) ∨ (u < v ∧ ∃ k', k = k' + 1 ∧ u * v < 2 ^ k')
theorem Dwn.step {u v : Int} {k : Nat} (I : Dwn u v k) (h : 0 < v) : ∃ k', k' < k ∧ Dwn v (u % v) k' := by
  have r0 := Int.emod_nonneg u (Int.ne_of_gt h)
  have r1 := Int.emod_lt_of_pos u h
  rcases I.m with ⟨h1, h2⟩ | ⟨h1, k', rfl, h2⟩
  · obtain ⟨k', e, p⟩ := halve_pow h h1 h2
    exact ⟨k', e, I.nv, r0, .inl ⟨by omega, p⟩⟩
  · have e : u % v = u := Int.emod_eq_of_lt I.nu h1
    refine ⟨k', by omega, I.nv, r0, .inl ⟨by omega, ?_⟩⟩
    rw [e, Int.mul_comm]; exact h2
theorem Dwn.start {u v : Int} {k : Nat} (hu : 0 ≤ u) (hv : 0 ≤ v) (h : u * v < 2 ^ k) : Dwn u v (k + 1) := by
  refine ⟨hu, hv, ?_⟩
  by_cases z : v ≤ u
  · refine .inl ⟨z, ?_⟩
    have : (2 : Int) ^ (k + 1) = 2 ^ k * 2 := Int.pow_succ ..
    have : (0 : Int) < 2 ^ k := Int.pow_pos (by omega)
    omega
  · exact .inr ⟨by omega, k, rfl, h⟩
theorem gcd_turn {u v : Int} : Int.gcd v (u % v) = Int.gcd u v := by
  have : u % v = u - u / v * v := by have := Int.mul_ediv_add_emod u v; grind
  rw [this, Int.gcd_comm, Int.gcd_sub_mul_right_left]
theorem gcdl_pos : ∀ {cs : List Int} {g : Nat}, (0 < g ∨ ∃ c ∈ cs, 0 < c) → 0 < gcdl g cs
  | [], g, h => by
    rcases h with h | ⟨c, hc, _⟩
    · exact h
    · cases hc
  | c :: cs, g, h => by
    refine gcdl_pos (cs := cs) (g := Nat.gcd g c.natAbs) ?_
    rcases h with h | ⟨x, hx, h0⟩
    · exact .inl (Nat.gcd_pos_of_pos_left _ h)
    · rcases List.mem_cons.mp hx with rfl | hx
      · exact .inl (Nat.gcd_pos_of_pos_right _ (by omega))
      · exact .inr ⟨x, hx, h0⟩
theorem gcdl_le {cs : List Int} {c : Int} (hc : c ∈ cs) (h0 : 0 < c) : (gcdl 0 cs : Int) ≤ c := Int.le_of_dvd h0 (gcdl_dvd hc)
theorem gcdl_congr {cs ds : List Int} (h : ∀ x, x ∈ cs ↔ x ∈ ds) : gcdl 0 cs = gcdl 0 ds := by
  have a1 : (gcdl 0 cs : Int) ∣ gcdl 0 ds := (gcdl_comb0 ds).dvd fun c hc => gcdl_dvd ((h c).mpr hc)
  have a2 : (gcdl 0 ds : Int) ∣ gcdl 0 cs := (gcdl_comb0 cs).dvd fun c hc => gcdl_dvd ((h c).mp hc)
  exact Nat.dvd_antisymm (Int.ofNat_dvd.mp a1) (Int.ofNat_dvd.mp a2)
end Sg

-- P10m
set_option Elab.async false
set_option linter.all false
set_option maxHeartbeats 1000000
/-! P10m: counting pairs; which numbers are made, as a Bool. -/
namespace SL
open Sg
/-- is it made -/
noncomputable def mb (cs : List Int) (i : Nat) : Bool := @decide (Made cs i) (Classical.propDecidable _)
theorem mb_iff {cs : List Int} {i : Nat} : mb cs i = true ↔ Made cs i := by
  unfold mb
  exact @decide_eq_true_iff _ (Classical.propDecidable _)
theorem cnt_last {g : Nat} {r : Nat → Bool} (h : ∀ i, i < g → r i = false) : (List.range (g + 1)).countP r = if r g then 1 else 0 := by
  rw [List.range_succ, List.countP_append, List.countP_eq_zero.mpr (fun a ha => by rw [h a (List.mem_range.mp ha)]; exact Bool.false_ne_true)]
  cases q : r g <;> simp [q]
theorem cnt_mult {g : Nat} (g0 : 0 < g) {q : Nat → Bool} (hq : ∀ s, q s = true → g ∣ s) : ∀ k : Nat, (List.range (g * k + 1)).countP q = (List.range (k + 1)).countP fun j => q (g * j)
  | 0 => by simp
  | k + 1 => by
    have e : g * (k + 1) + 1 = (g * k + 1) + ((g - 1) + 1) := by rw [Nat.mul_add, Nat.mul_one]; omega
    have c1 : (List.range ((g - 1) + 1)).countP (q ∘ fun x => g * k + 1 + x) = if q (g * (k + 1)) then 1 else 0 := by
      rw [cnt_last (g := g - 1)]
      · have e2 : g * k + 1 + (g - 1) = g * (k + 1) := by rw [Nat.mul_add, Nat.mul_one]; omega
        rw [Function.comp_apply, e2]
      · intro i hi
        show q (g * k + 1 + i) = false
        cases z : q (g * k + 1 + i) with
        | false => rfl
        | true =>
          obtain ⟨t, ht⟩ := hq _ z
          exfalso
          have h1 : g * k < g * t := by omega
          have h2 : g * t < g * (k + 1) := by rw [Nat.mul_add, Nat.mul_one]; omega
          have h3 := Nat.lt_of_mul_lt_mul_left h1
          have h4 := Nat.lt_of_mul_lt_mul_left h2
          omega
    rw [e, List.range_add, List.countP_append, cnt_mult g0 hq k, List.countP_map, c1, List.range_succ (n := k + 1), List.countP_append]
    simp
theorem cnt_rev (N : Nat) (p : Nat → Bool) : (List.range (N + 1)).countP (fun i => p (N - i)) = (List.range (N + 1)).countP p := by
  have h : (List.range (N + 1)).map (fun i => N - i) = (List.range (N + 1)).reverse := by
    apply List.ext_getElem
    · simp
    · intro i h1 h2
      simp at h1
      simp [List.getElem_reverse]
  have z : (List.range (N + 1)).countP (fun i => p (N - i)) = ((List.range (N + 1)).map (fun i => N - i)).countP p := by rw [List.countP_map]; rfl
  rw [z, h, List.countP_reverse]
def b1 (b : Bool) : Nat := if b then 1 else 0
theorem cnt_lin {a b c d e : Nat → Bool} : ∀ {l : List Nat}, (∀ s ∈ l, b1 (a s) + b1 (b s) + b1 (c s) = b1 (d s) + b1 (e s)) → l.countP a + l.countP b + l.countP c = l.countP d + l.countP e
  | [], _ => rfl
  | s :: l, h => by
    have h1 := h s (List.mem_cons_self ..)
    have h2 := cnt_lin (l := l) fun x hx => h x (List.mem_cons_of_mem _ hx)
    simp only [List.countP_cons]
    unfold b1 at h1
    omega
/-- made with made, holes with holes -/
theorem cnt_pairs {g k N : Nat} (g0 : 0 < g) (hN : N = g * k) {M : Nat → Bool} (hM : ∀ s, M s = true → g ∣ s) :
    (List.range (N + 1)).countP (fun s => M s && M (N - s)) + 2 * (List.range (N + 1)).countP (fun h => decide (h % g = 0) && !M h) = (k + 1) + (List.range (N + 1)).countP (fun h => (decide (h % g = 0) && !M h) && !M (N - h)) := by
  have gN : N % g = 0 := by rw [hN]; exact Nat.mul_mod_right g k
  have r := cnt_rev N (fun h => decide (h % g = 0) && !M h)
  have dd : (List.range (N + 1)).countP (fun h => decide (h % g = 0)) = k + 1 := by
    rw [hN, cnt_mult g0 (fun s hs => Nat.dvd_of_mod_eq_zero (of_decide_eq_true hs)) k]
    have : (fun j => decide (g * j % g = 0)) = fun _ : Nat => true := by funext j; simp
    rw [this]
    simp
  have l := cnt_lin (l := List.range (N + 1)) (a := fun s => M s && M (N - s)) (b := fun h => decide (h % g = 0) && !M h) (c := fun h => decide ((N - h) % g = 0) && !M (N - h)) (d := fun h => decide (h % g = 0)) (e := fun h => (decide (h % g = 0) && !M h) && !M (N - h)) (fun s hs => by
    have hs := List.mem_range.mp hs
    have e : decide ((N - s) % g = 0) = decide (s % g = 0) := by
      have h1 : (N - s + s) % g = 0 := by rw [Nat.sub_add_cancel (by omega)]; exact gN
      rw [Nat.add_mod] at h1
      by_cases z : s % g = 0
      · rw [z, Nat.add_zero, Nat.mod_mod] at h1
        simp [z, h1]
      · by_cases y : (N - s) % g = 0
        · rw [y, Nat.zero_add, Nat.mod_mod] at h1
          exact absurd h1 z
        · simp [z, y]
    have m1 : M s = true → s % g = 0 := fun h => Nat.mod_eq_zero_of_dvd (hM _ h)
    have m2 : M (N - s) = true → (N - s) % g = 0 := fun h => Nat.mod_eq_zero_of_dvd (hM _ h)
    have e' : (N - s) % g = 0 ↔ s % g = 0 := by simpa using e
    cases h1 : M s <;> cases h2 : M (N - s) <;> by_cases z : s % g = 0 <;> simp_all [b1])
  have r' : (List.range (N + 1)).countP (fun h => decide ((N - h) % g = 0) && !M (N - h)) = (List.range (N + 1)).countP (fun h => decide (h % g = 0) && !M h) := r
  rw [r', dd] at l
  omega
theorem made_step {cs : List Int} (hp : Pos cs) {n : Int} (h0 : 0 < n) : Made cs n ↔ ∃ c ∈ cs, c ≤ n ∧ Made cs (n - c) := by
  constructor
  · intro h
    cases h with
    | zero => omega
    | @add d n hd h =>
      have := h.nn hp
      exact ⟨d, hd, by omega, by rwa [show n + d - d = n by omega]⟩
  · rintro ⟨c, hc, _, h⟩
    have := Made.add hc h
    rwa [show n - c + c = n by omega] at this
theorem made_dvd {cs : List Int} {g : Nat} (hg : gcdl 0 cs = g) {n : Int} (h : Made cs n) : (g : Int) ∣ n := by
  induction h with
  | zero => exact Int.dvd_zero _
  | @add d n hd _ ih => exact Int.dvd_add ih (by rw [← hg]; exact gcdl_dvd hd)
end SL

-- P10n
set_option Elab.async false
set_option linter.all false
set_option maxHeartbeats 1000000
/-! P10n: where holes end; one coin. -/
namespace SL
open Sg
theorem made_sum {cs : List Int} : ∀ (l : List Int), (∀ c ∈ l, c ∈ cs) → Made cs l.sum
  | [], _ => .zero
  | a :: l, h => by
    rw [List.sum_cons, Int.add_comm]
    exact .add (h a (List.mem_cons_self ..)) (made_sum l fun c hc => h c (List.mem_cons_of_mem _ hc))
theorem sum_le {B : Int} : ∀ (l : List Int), (∀ c ∈ l, c ≤ B) → l.sum ≤ l.length * B
  | [], _ => by simp
  | a :: l, h => by
    have h1 := h a (List.mem_cons_self ..)
    have h2 := sum_le l fun c hc => h c (List.mem_cons_of_mem _ hc)
    rw [List.sum_cons, List.length_cons, Int.natCast_add, Int.add_mul]
    omega
/-- from m * B on each multiple of the grain is made -/
theorem made_far {cs : List Int} {m : Nat} {B n : Int} (hp : Pos cs) (hm : (m : Int) ∈ cs) (hB : ∀ c ∈ cs, c ≤ B) (hg : (gcdl 0 cs : Int) ∣ n) (h : m * B ≤ n) : Made cs n := by
  have m0 : 0 < m := by have := hp _ hm; omega
  have B0 : 0 ≤ B := by have := hB _ hm; omega
  obtain ⟨t, ht⟩ := hg
  have cb : Comb cs n := by rw [ht, Int.mul_comm]; exact (gcdl_comb0 cs).mul t
  obtain ⟨k, hk⟩ := cb.made hp hm
  obtain ⟨l, l1, l2⟩ := made_list hk
  obtain ⟨l', s1, s2, s3, s4⟩ := short hp m0 l.length l (Nat.le_refl _) l1
  have v1 := made_sum l' s1
  have b1 := sum_le l' fun c hc => hB c (s1 c hc)
  have b2 : (l'.length : Int) * B ≤ m * B := Int.mul_le_mul_of_nonneg_right (by omega) B0
  have e : l'.sum % m = n % m := by rw [s4, l2, Int.add_mul_emod_self_right]
  obtain ⟨q, hq⟩ : ∃ q, n = l'.sum + q * m := ⟨(n - l'.sum) / m, by
    have : (m : Int) ∣ n - l'.sum := Int.dvd_of_emod_eq_zero (by rw [Int.sub_emod, e, Int.sub_self]; rfl)
    rw [Int.ediv_mul_cancel this]; omega⟩
  have q0 : 0 ≤ q := by
    rcases Int.lt_or_le q 0 with h3 | h3
    · have : q * (m : Int) < 0 := Int.mul_neg_of_neg_of_pos h3 (by omega)
      omega
    · exact h3
  rw [hq]
  exact v1.plus ((Made.coin hm).mulI q0)
theorem made_one {c : Nat} {n : Int} : Made [(c : Int)] n ↔ ∃ k : Nat, n = k * c := by
  constructor
  · intro h
    induction h with
    | zero => exact ⟨0, by simp⟩
    | @add d n hd _ ih =>
      obtain ⟨k, rfl⟩ := ih
      have : d = c := by simpa using hd
      subst this
      exact ⟨k + 1, by rw [Int.natCast_add, Int.add_mul]; omega⟩
  · rintro ⟨k, rfl⟩
    exact (Made.coin (List.mem_singleton.mpr rfl)).mul k
theorem mb_one {c i : Nat} : mb [(c : Int)] i = decide (i % c = 0) := by
  have h : mb [(c : Int)] i = true ↔ i % c = 0 := by
    rw [mb_iff, made_one]
    constructor
    · rintro ⟨k, hk⟩
      have : i = k * c := by
        have := hk
        rw [← Int.natCast_mul] at this
        exact Int.ofNat.inj this
      rw [this]; exact Nat.mul_mod_left k c
    · intro h
      obtain ⟨k, hk⟩ := Nat.dvd_of_mod_eq_zero h
      exact ⟨k, by rw [hk, Int.natCast_mul, Int.mul_comm]⟩
  cases x : mb [(c : Int)] i <;> by_cases z : i % c = 0 <;> simp_all
theorem filter_last {g : Nat} {r : Nat → Bool} (h : ∀ i, i < g → r i = false) : (List.range (g + 1)).filter r = if r g then [g] else [] := by
  rw [List.range_succ, List.filter_append, List.filter_eq_nil_iff.mpr (fun a ha => by rw [h a (List.mem_range.mp ha)]; exact Bool.false_ne_true)]
  cases q : r g <;> simp [q]
theorem filter_mult {g : Nat} (g0 : 0 < g) : ∀ k : Nat, (List.range (g * k + 1)).filter (fun s => decide (s % g = 0)) = (List.range (k + 1)).map fun j => j * g
  | 0 => by simp
  | k + 1 => by
    have e : g * (k + 1) + 1 = (g * k + 1) + ((g - 1) + 1) := by rw [Nat.mul_add, Nat.mul_one]; omega
    have e2 : g * k + 1 + (g - 1) = g * (k + 1) := by rw [Nat.mul_add, Nat.mul_one]; omega
    have c1 : (List.range ((g - 1) + 1)).filter ((fun s => decide (s % g = 0)) ∘ fun x => g * k + 1 + x) = [g - 1] := by
      rw [filter_last (g := g - 1)]
      · rw [Function.comp_apply, e2]
        simp
      · intro i hi
        rw [Function.comp_apply]
        refine decide_eq_false fun z => ?_
        obtain ⟨t, ht⟩ := Nat.dvd_of_mod_eq_zero z
        have h1 : g * k < g * t := by omega
        have h2 : g * t < g * (k + 1) := by rw [Nat.mul_add, Nat.mul_one]; omega
        have h3 := Nat.lt_of_mul_lt_mul_left h1
        have h4 := Nat.lt_of_mul_lt_mul_left h2
        omega
    rw [e, List.range_add, List.filter_append, filter_mult g0 k, List.filter_map, c1, List.range_succ (n := k + 1), List.map_append]
    simp [e2, Nat.mul_comm]
end SL

-- QA_k02
set_option Elab.async false
set_option linter.all false
set_option maxRecDepth 100000
set_option maxHeartbeats 4000000
/-! QA: small defs of the laws that draw from a pool -/
namespace SL
open Fx G Sg
open PySem (Str)
--MACROS
local macro_rules | `(tactic| walk_at "eq") => `(tactic| first | exact rfl | assumption | (simp [isNon, isiB]; done) | (simp [isNon, isiB, *]; done) | skip)
local macro_rules | `(tactic| walk_at "bt") => `(tactic| first | rfl | assumption | exact decide_eq_true (by omega) | exact decide_eq_false (by omega) | (simp only [Bool.and_eq_true, Bool.or_eq_true, Bool.not_eq_true', Bool.not_eq_false', Bool.and_eq_false_iff, Bool.or_eq_false_iff, Bool.not_true, Bool.not_false, decide_eq_true_eq, decide_eq_false_iff_not, beq_iff_eq, beq_eq_false_iff_ne, ne_eq, isNon, isiB]; omega) | (simp [isNon, isiB]; done) | (simp [isNon, isiB]; omega) | (simp [isNon, isiB, *]; done))
local macro_rules | `(tactic| walk_at "op") => `(tactic| first | assumption | (with_reducible exact gAdd_i) | exact gI_i.trans kInt_i | exact gI_i.trans kBl_i | exact gEq_ii | exact gNe_ii | exact gI_i.trans (kMod_ok (by omega)) | exact gI_i.trans (kDiv_s (by omega) (by omega)) | exact gI_i.trans (kMul_s (by omega) (by omega) (by omega) (by omega)) | exact gIx_l.trans (by assumption) | exact gIx_t.trans (by assumption) | exact gEq_LI | exact rfl)
local macro_rules | `(tactic| walk_at "fn") => `(tactic| first | assumption | (solve_by_elim (maxDepth := 2)))
local macro_rules | `(tactic| walk_at "mv") => `(tactic| first | (with_reducible exact q_no) | ((with_reducible apply q_part); walk_at "ev"))
local macro_rules | `(tactic| walk_at "ev") => `(tactic| first | assumption | (with_reducible exact e_C) | (with_reducible exact e_Nil) | ((with_reducible apply e_V); exact rfl) | ((with_reducible apply e_O); exact rfl) | ((with_reducible apply e_cons); (· walk_at "ev"); (· walk_at "ev")) | ((with_reducible apply e_tup); walk_at "ev") | ((with_reducible apply e_lst); walk_at "ev") | ((with_reducible apply e_bin); (· walk_at "ev"); (· walk_at "ev"); (· walk_at "op")) | ((with_reducible apply e_call); (· walk_at "ev"); (· walk_at "op")) | ((with_reducible apply q_def); (· walk_at "ev"); (· walk_at "fn")) | ((with_reducible apply q_defL); (· walk_at "ev"); (· walk_at "fn"); (· exact rfl)) | ((with_reducible apply e_neg); walk_at "ev") | ((with_reducible apply e_lf); (· walk_at "ev"); (· exact rfl)) | ((with_reducible apply q_andV); (· walk_at "ev"); (· walk_at "ev")) | ((with_reducible apply q_orV); (· walk_at "ev"); (· walk_at "ev")) | ((with_reducible apply q_notV); walk_at "ev") | ((with_reducible apply q_isi); (· walk_at "ev"); (· exact rfl)) | ((with_reducible apply q_slL); (· walk_at "ev"); (· walk_at "mv"); (· walk_at "mv")) | ((with_reducible apply q_flat); (· walk_at "ev"); (· walk_at "bt")) | ((with_reducible apply q_defN); (· walk_at "ev"); (· walk_at "fn")) | ((with_reducible apply q_dx); (· exact rfl); (· walk_at "ev"); (· exact rfl); (· walk_at "bt")) | ((with_reducible apply q_mk); (· walk_at "ev"); (· walk_at "fn")))
local macro_rules | `(tactic| walk_at "tv") => `(tactic| first | assumption | ((with_reducible apply e_bool); walk_at "ev") | ((with_reducible apply q_andT); (· walk_at "tv"); (· walk_at "tv")) | ((with_reducible apply q_andF); (· walk_at "tv"); (· walk_at "bt")) | ((with_reducible apply q_orT); (· walk_at "tv"); (· walk_at "tv")) | ((with_reducible apply q_orF); (· walk_at "tv"); (· walk_at "bt")) | ((with_reducible apply e_not); walk_at "tv") | ((with_reducible apply e_tru); (· walk_at "ev"); (· exact rfl)))
local macro_rules | `(tactic| walk_at "sx") => `(tactic| (simp only [List.set_cons_succ, List.set_cons_zero, slOf]; try rfl))
local macro_rules | `(tactic| walk_at "s1") => `(tactic| first | assumption | (with_reducible exact q_next) | ((with_reducible apply q_set); (· walk_at "ev"); (· walk_at "sx")) | ((with_reducible apply q_setO); (· walk_at "ev"); (· walk_at "sx")) | ((with_reducible apply q_setN); (· walk_at "ev"); (· walk_at "sx")) | ((with_reducible apply q_app); (· walk_at "ev"); (· exact rfl); (· (try simp only [List.length_map, List.length_append, List.length_cons, List.length_nil]); omega); (· walk_at "sx")) | ((with_reducible apply q_frz); (· exact rfl); (· walk_at "sx")) | ((with_reducible apply q_drop); walk_at "ev") | ((with_reducible apply q_ret); (· walk_at "ev"); (· walk_at "eq")) | ((with_reducible apply s_retO); exact rfl) | ((with_reducible apply q_ifT); (· walk_at "tv"); (· walk_at "bt"); (· walk_at "st")) | ((with_reducible apply q_ifF); (· walk_at "tv"); (· walk_at "bt"); (· walk_at "st")))
local macro_rules | `(tactic| walk_at "st") => `(tactic| first | ((with_reducible apply q_seq); (· walk_at "s1"); (walk_at "st")) | ((with_reducible apply s_seqR); (· walk_at "s1")) | walk_at "s1" | skip)
--END MACROS
section
variable {cs : List Int} {m : Nat} {T : Tb} {d : D} {ρ : Env} {me : ME} {n : Int}
abbrev flagsD (p : Nat → Bool) (k : Nat) : D := .lst ((List.range k).map fun i : Nat => .bl (p i))
theorem flag_at {p : Nat → Bool} {k : Nat} {i : Int} (h0 : 0 ≤ i) (h1 : i < k) : ixL ((List.range k).map fun i : Nat => D.bl (p i)) i = some (.bl (p i.toNat)) :=
  ixL_mapI h0 (by rw [List.getElem?_range (by omega)])
theorem look_number_err {lo hi : Int} (h : n < lo ∨ hi < n) : mf_look_number [.int n, .int lo, .int hi] = .err ⟨"NumberError", [("number", .int n)]⟩ := by
  refine fn_err rfl (ρ := [.val (.int n), .val (.int lo), .val (.int hi)]) (ρ' := [.val (.int n), .val (.int lo), .val (.int hi)]) ?_
  unfold m_look_number
  have t1 : mOr (mBool (mBin (gI (kBl fun i j => decide (i < j))) (mV 0) (mV 1))) (mBool (mBin (gI (kBl fun i j => decide (j < i))) (mV 0) (mV 2))) [.val (.int n), .val (.int lo), .val (.int hi)] = .ok (decide (n < lo) || decide (hi < n)) := by walk_at "tv"
  exact s_seqE ((q_ifT t1 (by simpa using h) rfl).trans (s_raise (e_err (e_cons (e_V rfl) e_Nil))))
theorem q_defX {i : Nat} {f : Exn → R D} {x : Exn} (h1 : ρ[i]? = some (.exc x)) (h2 : f x = .ok d) : mDefX i f ρ = .ok d := by
  unfold mDefX
  rw [h1]
  dsimp only
  rw [h2]
theorem law_int_i {a : Int} : mf_u_law_int [.int a] = .ok (.bl true) := by
  refine fn_rt rfl (ρ := [.val (.int a)]) ?_
  unfold m_u_law_int
  walk_at "st"
abbrev numX (n : Int) : Exn := ⟨"NumberError", [("number", .int n)]⟩
abbrev numT (n : Int) : D := .tup [.str "number", .int n]
theorem law_error_num : mx_u_law_error (numX n) = .ok (numT n) := by kernel_rfl
theorem gN_nn : gNe (.str "number") (.str "number") = some (.bl false) := by kernel_rfl
theorem law_told_num : mf_u_law_told [numT n, numT n] = .ok (.bl true) := by
  refine fn_rt rfl (ρ := [.val (numT n), .val (numT n)]) ?_
  unfold m_u_law_told
  have h := law_int_i (a := n)
  refine q_seq (q_ifF (b := (isNon (numT n) || false)) (q_orT (e_bool (e_bin (e_V rfl) e_C rfl)) (e_bool (e_bin (e_bin (e_V rfl) e_C rfl) (e_bin (e_V rfl) e_C rfl) gN_nn))) rfl q_next) ?_
  refine q_ret (q_andV (q_def (e_cons (e_bin (e_V rfl) e_C rfl) e_Nil) h) (e_bin (e_bin (e_V rfl) e_C rfl) (e_bin (e_V rfl) e_C rfl) gEq_ii)) ?_
  simp
abbrev okA (x : D) : D := .lst [x, .non]
abbrev noA (n : Int) : D := .lst [.non, numT n]
theorem nms_num : nms.contains (numX n).c = true := by kernel_rfl
theorem lfs_ints : ∀ (l : List Int), lfs (l.map D.int) = true
  | [] => rfl
  | a :: l => by
    show (lf (.int a) && lfs (l.map D.int)) = true
    rw [lfs_ints l]; rfl
end
theorem gNe_LI {l k : List Int} : gNe (LI l) (LI k) = some (.bl (!(l == k))) := by
  unfold gNe
  have a : okE (.lst (l.map D.int)) 60 = true := by unfold okE; exact okEs_ints l 59
  have b : okE (.lst (k.map D.int)) 60 = true := by unfold okE; exact okEs_ints k 59
  rw [a, b]
  show some (D.bl (!deq (.lst (l.map D.int)) (.lst (k.map D.int)))) = _
  unfold deq
  rw [deqs_ints]
theorem gAdd_LI {l k : List Int} (h : l.length + k.length ≤ 1000) : gAdd (LI l) (LI k) = some (LI (l ++ k)) := by
  unfold gAdd
  have z : szOk ((l.map D.int).length + (k.map D.int).length) = true := szOk_s (by simp; omega)
  show (if szOk ((l.map D.int).length + (k.map D.int).length) = true then some (D.lst (l.map D.int ++ k.map D.int)) else none) = _
  rw [if_pos z, LI, List.map_append]
theorem mb_congr {cs ds : List Int} (h : ∀ x, x ∈ cs ↔ x ∈ ds) : mb cs = mb ds := by
  funext i
  have a := mb_iff (cs := cs) (i := i)
  have b := mb_iff (cs := ds) (i := i)
  have c := Made.congr (n := (i : Int)) h
  cases x : mb cs i <;> cases y : mb ds i <;> simp_all
theorem w_lst {ρ : Env} {r : MAw} {KD : D → Prop} (h : r ρ fun ds => KD (.lst ds)) : wLst r ρ KD := h
def Law (o : Out) : Prop := o.res .val = .ok (.bl true)
theorem allInt_map : ∀ l : List Int, allInt (l.map D.int) = true
  | [] => rfl
  | a :: l => allInt_map l
theorem pool_ok {ns : List Int} {ρ : Env} (h : mV 0 ρ = .ok (LI ns)) : mPool (mSl (mV 0) mNo (mPart (mC (.int 63)))) ρ = .ok .pool := by
  have e : ∃ cells : List Int, mSl (mV 0) mNo (mPart (mC (.int 63))) ρ = .ok (LI cells) := by
    refine ⟨(ns.drop (HT.sIx (ns.map D.int).length 0 none)).take (HT.sIx (ns.map D.int).length (ns.map D.int).length (some 63) - HT.sIx (ns.map D.int).length 0 none), ?_⟩
    rw [q_slL h q_no (q_part e_C)]
    unfold cutD
    rw [LI, List.map_take, List.map_drop]
  obtain ⟨cells, e⟩ := e
  unfold mPool
  rw [e, R.bind_ok]
  show (if allInt (cells.map D.int) = true then R.ok D.pool else .bad) = _
  rw [if_pos (allInt_map cells)]
theorem w_iteB {ρ : Env} {t : MT} {a b : MSw} {K : Out → Prop} {k : Bool} (h : t ρ = .ok k) (h1 : k = true → a ρ K) (h2 : k = false → b ρ K) : wIte t a b ρ K := ⟨k, h, by
  cases k with
  | true => rw [if_pos rfl]; exact h1 rfl
  | false => rw [if_neg Bool.false_ne_true]; exact h2 rfl⟩
end SL

-- QR_k02
set_option Elab.async false
set_option linter.all false
set_option maxRecDepth 100000
set_option maxHeartbeats 4000000
/-! QR: has, rest_table, as the program has them. -/
namespace SL
open Fx G Sg
open PySem (Str)
--MACROS
local macro_rules | `(tactic| walk_at "eq") => `(tactic| first | exact rfl | assumption | (simp [isNon, isiB]; done) | (simp [isNon, isiB, *]; done) | skip)
local macro_rules | `(tactic| walk_at "bt") => `(tactic| first | rfl | assumption | exact decide_eq_true (by omega) | exact decide_eq_false (by omega) | (simp only [Bool.and_eq_true, Bool.or_eq_true, Bool.not_eq_true', Bool.not_eq_false', Bool.and_eq_false_iff, Bool.or_eq_false_iff, Bool.not_true, Bool.not_false, decide_eq_true_eq, decide_eq_false_iff_not, beq_iff_eq, beq_eq_false_iff_ne, ne_eq, isNon, isiB]; omega) | (simp [isNon, isiB]; done) | (simp [isNon, isiB]; omega) | (simp [isNon, isiB, *]; done))
local macro_rules | `(tactic| walk_at "op") => `(tactic| first | assumption | (with_reducible exact gAdd_i) | exact gI_i.trans kInt_i | exact gI_i.trans kBl_i | exact gEq_ii | exact gNe_ii | exact gI_i.trans (kMod_ok (by omega)) | exact gI_i.trans (kDiv_s (by omega) (by omega)) | exact gI_i.trans (kMul_s (by omega) (by omega) (by omega) (by omega)) | exact gIx_l.trans (by assumption) | exact gIx_t.trans (by assumption) | exact gEq_LI | exact rfl)
local macro_rules | `(tactic| walk_at "fn") => `(tactic| first | assumption | (solve_by_elim (maxDepth := 2)))
local macro_rules | `(tactic| walk_at "mv") => `(tactic| first | (with_reducible exact q_no) | ((with_reducible apply q_part); walk_at "ev"))
local macro_rules | `(tactic| walk_at "ev") => `(tactic| first | assumption | (with_reducible exact e_C) | (with_reducible exact e_Nil) | ((with_reducible apply e_V); exact rfl) | ((with_reducible apply e_O); exact rfl) | ((with_reducible apply e_cons); (· walk_at "ev"); (· walk_at "ev")) | ((with_reducible apply e_tup); walk_at "ev") | ((with_reducible apply e_lst); walk_at "ev") | ((with_reducible apply e_bin); (· walk_at "ev"); (· walk_at "ev"); (· walk_at "op")) | ((with_reducible apply e_call); (· walk_at "ev"); (· walk_at "op")) | ((with_reducible apply q_def); (· walk_at "ev"); (· walk_at "fn")) | ((with_reducible apply q_defL); (· walk_at "ev"); (· walk_at "fn"); (· exact rfl)) | ((with_reducible apply e_neg); walk_at "ev") | ((with_reducible apply e_lf); (· walk_at "ev"); (· exact rfl)) | ((with_reducible apply q_andV); (· walk_at "ev"); (· walk_at "ev")) | ((with_reducible apply q_orV); (· walk_at "ev"); (· walk_at "ev")) | ((with_reducible apply q_notV); walk_at "ev") | ((with_reducible apply q_isi); (· walk_at "ev"); (· exact rfl)) | ((with_reducible apply q_slL); (· walk_at "ev"); (· walk_at "mv"); (· walk_at "mv")) | ((with_reducible apply q_flat); (· walk_at "ev"); (· walk_at "bt")) | ((with_reducible apply q_defN); (· walk_at "ev"); (· walk_at "fn")) | ((with_reducible apply q_dx); (· exact rfl); (· walk_at "ev"); (· exact rfl); (· walk_at "bt")) | ((with_reducible apply q_mk); (· walk_at "ev"); (· walk_at "fn")))
local macro_rules | `(tactic| walk_at "tv") => `(tactic| first | assumption | ((with_reducible apply e_bool); walk_at "ev") | ((with_reducible apply q_andT); (· walk_at "tv"); (· walk_at "tv")) | ((with_reducible apply q_andF); (· walk_at "tv"); (· walk_at "bt")) | ((with_reducible apply q_orT); (· walk_at "tv"); (· walk_at "tv")) | ((with_reducible apply q_orF); (· walk_at "tv"); (· walk_at "bt")) | ((with_reducible apply e_not); walk_at "tv") | ((with_reducible apply e_tru); (· walk_at "ev"); (· exact rfl)))
local macro_rules | `(tactic| walk_at "sx") => `(tactic| (simp only [List.set_cons_succ, List.set_cons_zero, slOf]; try rfl))
local macro_rules | `(tactic| walk_at "s1") => `(tactic| first | assumption | (with_reducible exact q_next) | ((with_reducible apply q_set); (· walk_at "ev"); (· walk_at "sx")) | ((with_reducible apply q_setO); (· walk_at "ev"); (· walk_at "sx")) | ((with_reducible apply q_setN); (· walk_at "ev"); (· walk_at "sx")) | ((with_reducible apply q_app); (· walk_at "ev"); (· exact rfl); (· (try simp only [List.length_map, List.length_append, List.length_cons, List.length_nil]); omega); (· walk_at "sx")) | ((with_reducible apply q_frz); (· exact rfl); (· walk_at "sx")) | ((with_reducible apply q_drop); walk_at "ev") | ((with_reducible apply q_ret); (· walk_at "ev"); (· walk_at "eq")) | ((with_reducible apply s_retO); exact rfl) | ((with_reducible apply q_ifT); (· walk_at "tv"); (· walk_at "bt"); (· walk_at "st")) | ((with_reducible apply q_ifF); (· walk_at "tv"); (· walk_at "bt"); (· walk_at "st")))
local macro_rules | `(tactic| walk_at "st") => `(tactic| first | ((with_reducible apply q_seq); (· walk_at "s1"); (walk_at "st")) | ((with_reducible apply s_seqR); (· walk_at "s1")) | walk_at "s1" | skip)
--END MACROS
section
variable {cs : List Int} {m : Nat} {T : Tb} {d : D} {ρ : Env} {me : ME} {n : Int}
theorem has_A (L : LotA cs m T d) (h1 : -(10 ^ 40) ≤ n) (h2 : n ≤ 10 ^ 40) : mf_Lot_has [d, .int n] = .ok (.bl (tmk T m n)) := by
  refine fn_rt rfl (ρ := [.val d, .val (.int n)]) ?_
  unfold m_Lot_has
  exact (s_seq (s_drop (e_def (e_cons (e_V rfl) e_Nil) (look_far_ok h1 h2)))).trans (s_ret (e_def (e_cons (lotA_table L (e_V rfl)) (e_cons (e_V rfl) e_Nil)) (in_table_A rfl L.lt.len L.m0)))
theorem mth_hasA (L : LotA cs m T d) {ma : MA} (h : me ρ = .ok d) (ha : ma ρ = .ok [.int n]) (h1 : -(10 ^ 40) ≤ n) (h2 : n ≤ 10 ^ 40) : mMth "Lot" "has" mf_Lot_has me ma ρ = .ok (.bl (tmk T m n)) := by
  have e := has_A L h1 h2
  obtain ⟨z, rfl⟩ := L.eq
  exact q_mth h rfl ha e
abbrev nmX (n : Int) : Exn := ⟨"NotMade", [("number", .int n)]⟩
abbrev nmT (n : Int) : D := .tup [.str "not made", .int n]
theorem rest_ok {M : Nat} (L : LotA cs m T d) (hp : Pos cs) (h0 : 1 ≤ M) (h1 : M ≤ 400) (hM : Made cs (M : Int)) : ∃ T', mf_rest_table [d, .int M] = .ok (TO T') ∧ LeastT cs M T' := by
  obtain ⟨T', e1, I⟩ := table_of_any (e := TI cs) rfl hp (m := M) (by omega) (by omega) hM
  refine ⟨T', ?_, I⟩
  refine fn_rt rfl (ρ := [.val d, .val (.int M)]) ?_
  unfold m_rest_table
  have hk := look_number_ok (n := (M : Int)) (lo := 1) (hi := 400) (by omega) (by omega)
  have t := mth_hasA (ρ := [.val d, .val (.int M)]) (me := mV 0) (ma := mCons (mV 1) mNil) (n := (M : Int)) L (e_V rfl) (e_cons (e_V rfl) e_Nil) (by omega) (by omega)
  rw [(L.made hp _).mpr hM] at t
  refine q_seq (q_drop (q_def (e_cons (e_V rfl) (e_cons e_C (e_cons e_C e_Nil))) hk)) ?_
  refine q_seq (q_ifF (e_not (e_tru t rfl)) rfl q_next) ?_
  exact s_ret (e_call (e_cons (e_def (e_cons (lotA_coins L (e_V rfl)) (e_cons (e_V rfl) e_Nil)) e1) e_Nil) rfl)
theorem rest_num (h : n < 1 ∨ 400 < n) : mf_rest_table [d, .int n] = .err (numX n) := by
  refine fn_err rfl (ρ := [.val d, .val (.int n)]) (ρ' := [.val d, .val (.int n)]) ?_
  unfold m_rest_table
  refine s_seqE ?_
  unfold mDrop mDef
  show ((mf_look_number [.int n, .int 1, .int 400])).out _ _ = _
  rw [look_number_err h]
  rfl
theorem rest_not (L : LotA cs m T d) (hp : Pos cs) (h0 : 1 ≤ n) (h1 : n ≤ 400) (hM : ¬ Made cs n) : mf_rest_table [d, .int n] = .err (nmX n) := by
  refine fn_err rfl (ρ := [.val d, .val (.int n)]) (ρ' := [.val d, .val (.int n)]) ?_
  unfold m_rest_table
  have hk := look_number_ok (n := n) (lo := 1) (hi := 400) h0 h1
  have t := mth_hasA (ρ := [.val d, .val (.int n)]) (me := mV 0) (ma := mCons (mV 1) mNil) (n := n) L (e_V rfl) (e_cons (e_V rfl) e_Nil) (by omega) (by omega)
  have tf : tmk T m n = false := by
    cases q : tmk T m n with
    | false => rfl
    | true => exact absurd ((L.made hp _).mp q) hM
  rw [tf] at t
  refine q_seq (q_drop (q_def (e_cons (e_V rfl) (e_cons e_C (e_cons e_C e_Nil))) hk)) ?_
  exact s_seqE ((q_ifT (e_not (e_tru t rfl)) rfl rfl).trans (s_raise (e_err (e_cons (e_V rfl) e_Nil))))
end
end SL

-- QS_k02
set_option Elab.async false
set_option linter.all false
set_option maxRecDepth 100000
set_option maxHeartbeats 4000000
/-! QS: the sieve -/
namespace SL
open Fx G Sg
open PySem (Str)
--MACROS
local macro_rules | `(tactic| walk_at "eq") => `(tactic| first | exact rfl | assumption | (simp [isNon, isiB]; done) | (simp [isNon, isiB, *]; done) | skip)
local macro_rules | `(tactic| walk_at "bt") => `(tactic| first | rfl | assumption | exact decide_eq_true (by omega) | exact decide_eq_false (by omega) | (simp only [Bool.and_eq_true, Bool.or_eq_true, Bool.not_eq_true', Bool.not_eq_false', Bool.and_eq_false_iff, Bool.or_eq_false_iff, Bool.not_true, Bool.not_false, decide_eq_true_eq, decide_eq_false_iff_not, beq_iff_eq, beq_eq_false_iff_ne, ne_eq, isNon, isiB]; omega) | (simp [isNon, isiB]; done) | (simp [isNon, isiB]; omega) | (simp [isNon, isiB, *]; done))
local macro_rules | `(tactic| walk_at "op") => `(tactic| first | assumption | (with_reducible exact gAdd_i) | exact gI_i.trans kInt_i | exact gI_i.trans kBl_i | exact gEq_ii | exact gNe_ii | exact gI_i.trans (kMod_ok (by omega)) | exact gI_i.trans (kDiv_s (by omega) (by omega)) | exact gI_i.trans (kMul_s (by omega) (by omega) (by omega) (by omega)) | exact gIx_l.trans (by assumption) | exact gIx_t.trans (by assumption) | exact gEq_LI | exact rfl)
local macro_rules | `(tactic| walk_at "fn") => `(tactic| first | assumption | (solve_by_elim (maxDepth := 2)))
local macro_rules | `(tactic| walk_at "mv") => `(tactic| first | (with_reducible exact q_no) | ((with_reducible apply q_part); walk_at "ev"))
local macro_rules | `(tactic| walk_at "ev") => `(tactic| first | assumption | (with_reducible exact e_C) | (with_reducible exact e_Nil) | ((with_reducible apply e_V); exact rfl) | ((with_reducible apply e_O); exact rfl) | ((with_reducible apply e_cons); (· walk_at "ev"); (· walk_at "ev")) | ((with_reducible apply e_tup); walk_at "ev") | ((with_reducible apply e_lst); walk_at "ev") | ((with_reducible apply e_bin); (· walk_at "ev"); (· walk_at "ev"); (· walk_at "op")) | ((with_reducible apply e_call); (· walk_at "ev"); (· walk_at "op")) | ((with_reducible apply q_def); (· walk_at "ev"); (· walk_at "fn")) | ((with_reducible apply q_defL); (· walk_at "ev"); (· walk_at "fn"); (· exact rfl)) | ((with_reducible apply e_neg); walk_at "ev") | ((with_reducible apply e_lf); (· walk_at "ev"); (· exact rfl)) | ((with_reducible apply q_andV); (· walk_at "ev"); (· walk_at "ev")) | ((with_reducible apply q_orV); (· walk_at "ev"); (· walk_at "ev")) | ((with_reducible apply q_notV); walk_at "ev") | ((with_reducible apply q_isi); (· walk_at "ev"); (· exact rfl)) | ((with_reducible apply q_slL); (· walk_at "ev"); (· walk_at "mv"); (· walk_at "mv")) | ((with_reducible apply q_flat); (· walk_at "ev"); (· walk_at "bt")) | ((with_reducible apply q_defN); (· walk_at "ev"); (· walk_at "fn")) | ((with_reducible apply q_dx); (· exact rfl); (· walk_at "ev"); (· exact rfl); (· walk_at "bt")) | ((with_reducible apply q_mk); (· walk_at "ev"); (· walk_at "fn")))
local macro_rules | `(tactic| walk_at "tv") => `(tactic| first | assumption | ((with_reducible apply e_bool); walk_at "ev") | ((with_reducible apply q_andT); (· walk_at "tv"); (· walk_at "tv")) | ((with_reducible apply q_andF); (· walk_at "tv"); (· walk_at "bt")) | ((with_reducible apply q_orT); (· walk_at "tv"); (· walk_at "tv")) | ((with_reducible apply q_orF); (· walk_at "tv"); (· walk_at "bt")) | ((with_reducible apply e_not); walk_at "tv") | ((with_reducible apply e_tru); (· walk_at "ev"); (· exact rfl)))
local macro_rules | `(tactic| walk_at "sx") => `(tactic| (simp only [List.set_cons_succ, List.set_cons_zero, slOf]; try rfl))
local macro_rules | `(tactic| walk_at "s1") => `(tactic| first | assumption | (with_reducible exact q_next) | ((with_reducible apply q_set); (· walk_at "ev"); (· walk_at "sx")) | ((with_reducible apply q_setO); (· walk_at "ev"); (· walk_at "sx")) | ((with_reducible apply q_setN); (· walk_at "ev"); (· walk_at "sx")) | ((with_reducible apply q_app); (· walk_at "ev"); (· exact rfl); (· (try simp only [List.length_map, List.length_append, List.length_cons, List.length_nil]); omega); (· walk_at "sx")) | ((with_reducible apply q_frz); (· exact rfl); (· walk_at "sx")) | ((with_reducible apply q_drop); walk_at "ev") | ((with_reducible apply q_ret); (· walk_at "ev"); (· walk_at "eq")) | ((with_reducible apply s_retO); exact rfl) | ((with_reducible apply q_ifT); (· walk_at "tv"); (· walk_at "bt"); (· walk_at "st")) | ((with_reducible apply q_ifF); (· walk_at "tv"); (· walk_at "bt"); (· walk_at "st")))
local macro_rules | `(tactic| walk_at "st") => `(tactic| first | ((with_reducible apply q_seq); (· walk_at "s1"); (walk_at "st")) | ((with_reducible apply s_seqR); (· walk_at "s1")) | walk_at "s1" | skip)
--END MACROS
section
variable {cs : List Int} {m : Nat} {T : Tb} {d : D} {ρ : Env} {me : ME} {n : Int}
/-! ### the sieve -/
theorem set_rangeB {α : Type} {f : Nat → α} {N i : Nat} {v : α} : ((List.range N).map f).set i v = (List.range N).map fun j => if j = i then v else f j := by
  apply List.ext_getElem
  · simp
  · intro j h1 h2
    simp at h1
    rw [List.getElem_set]
    simp
    by_cases z : i = j
    · simp [z]
    · simp [z, Ne.symm z]
abbrev bSv : MS := mIte (mAnd (mBool (mBin (gI (kBl fun i j => decide (i ≤ j))) (mV 4) (mV 3))) (mTru (mBin gIx (mO 2) (mBin (gI (kInt fun i j => i - j)) (mV 3) (mV 4))))) (mPutL 2 (mV 3) (mC (.bl true))) mNext
abbrev FL (p : Nat → Bool) (N : Nat) : Sl := .lst ((List.range N).map fun i : Nat => .bl (p i))
/-- the flags while number k is looked at: j coins done -/
noncomputable def svp (cs : List Int) (k j : Nat) (i : Nat) : Bool := if i = k then (cs.take j).any fun c => decide (c ≤ k) && mb cs (k - c).toNat else mb cs i && decide (i < k)
theorem sieve_in {e : D} {N k : Nat} {last : Int} {s4 : Sl} (hp : Pos cs) (hN : (N : Int) = last + 1) (k0 : 0 < k) (hk : k < N) :
    ∃ s4', mFor (mItems (mV 0)) (gSet 4) bSv [.val (LI cs), .val (.int last), FL (svp cs k 0) N, .val (.int k), s4] = .nx [.val (LI cs), .val (.int last), FL (svp cs k cs.length) N, .val (.int k), s4'] := by
  obtain ⟨ρ', e1, s4', rfl⟩ := q_forE (o := .bad) (ρ := [.val (LI cs), .val (.int last), FL (svp cs k 0) N, .val (.int k), s4]) (xs := cs) (g := D.int) (gg := gSet 4) (b := bSv)
    (I := fun j ρ => ∃ s4, ρ = [.val (LI cs), .val (.int last), FL (svp cs k j) N, .val (.int k), s4]) ⟨_, rfl⟩ (by
      rintro j ρ c ⟨s4, rfl⟩ hc
      have c0 := hp c (List.mem_iff_getElem?.mpr ⟨_, hc⟩)
      refine ⟨_, rfl, [.val (LI cs), .val (.int last), FL (svp cs k (j + 1)) N, .val (.int k), .val (.int c)], ?_, _, rfl⟩
      have e1 : mBool (mBin (gI (kBl fun i j => decide (i ≤ j))) (mV 4) (mV 3)) [.val (LI cs), .val (.int last), FL (svp cs k j) N, .val (.int k), .val (.int c)] = .ok (decide (c ≤ (k : Int))) := e_bool (e_bin (e_V rfl) (e_V rfl) (gI_i.trans kBl_i))
      have tk : cs.take (j + 1) = cs.take j ++ [c] := by rw [List.take_add_one, hc]; rfl
      by_cases z : c ≤ (k : Int)
      · have hx : ixL ((List.range N).map fun i : Nat => D.bl (svp cs k j i)) ((k : Int) - c) = some (.bl (mb cs (k - c).toNat)) := by
          rw [flag_at (p := svp cs k j) (by omega) (by omega)]
          unfold svp
          rw [if_neg (by omega), decide_eq_true (by omega), Bool.and_true]
        have e2 : mTru (mBin gIx (mO 2) (mBin (gI (kInt fun i j => i - j)) (mV 3) (mV 4))) [.val (LI cs), .val (.int last), FL (svp cs k j) N, .val (.int k), .val (.int c)] = .ok (mb cs (k - c).toNat) :=
          e_tru (e_bin (e_O rfl) (e_bin (e_V rfl) (e_V rfl) (gI_i.trans kInt_i)) (gIx_l.trans hx)) rfl
        have e3 := q_andT e1 e2
        rw [decide_eq_true z, Bool.true_and] at e3
        cases y : mb cs (k - c).toNat with
        | true =>
          rw [y] at e3
          have hS : ixS ((List.range N).map fun i : Nat => D.bl (svp cs k j i)).length (k : Int) = some k := by rw [List.length_map, List.length_range]; exact ixS_nat hk
          refine q_ifT e3 rfl (q_put e_C rfl (e_V rfl) hS ?_)
          rw [set_rangeB]
          have ef : (fun i : Nat => if i = k then D.bl true else D.bl (svp cs k j i)) = fun i => D.bl (svp cs k (j + 1) i) := by
            funext i
            by_cases q : i = k
            · rw [if_pos q]
              unfold svp
              rw [if_pos q, tk, List.any_append]
              simp [z, y]
            · rw [if_neg q]
              unfold svp
              rw [if_neg q, if_neg q]
          rw [ef]
          rfl
        | false =>
          rw [y] at e3
          refine q_ifF e3 rfl ?_
          have ef : svp cs k j = svp cs k (j + 1) := by
            funext i
            unfold svp
            by_cases q : i = k
            · rw [if_pos q, if_pos q, tk, List.any_append]
              simp [z, y]
            · rw [if_neg q, if_neg q]
          rw [ef]
          rfl
      · have e3 : mAnd (mBool (mBin (gI (kBl fun i j => decide (i ≤ j))) (mV 4) (mV 3))) (mTru (mBin gIx (mO 2) (mBin (gI (kInt fun i j => i - j)) (mV 3) (mV 4)))) [.val (LI cs), .val (.int last), FL (svp cs k j) N, .val (.int k), .val (.int c)] = .ok false := q_andF e1 (decide_eq_false z)
        refine q_ifF e3 rfl ?_
        have ef : svp cs k j = svp cs k (j + 1) := by
          funext i
          unfold svp
          by_cases q : i = k
          · rw [if_pos q, if_pos q, tk, List.any_append]
            simp [z]
          · rw [if_neg q, if_neg q]
        rw [ef]
        rfl)
  exact ⟨s4', q_for (e_items (e_V rfl)) e1⟩
theorem svp_end (hp : Pos cs) {k : Nat} (k0 : 0 < k) : svp cs k cs.length = svp cs (k + 1) 0 := by
  funext i
  unfold svp
  rw [List.take_length]
  by_cases q : i = k
  · subst q
    rw [if_pos rfl, if_neg (by omega), decide_eq_true (by omega), Bool.and_true]
    have h1 : (cs.any fun c => decide (c ≤ (i : Int)) && mb cs (i - c).toNat) = true ↔ mb cs i = true := by
      rw [mb_iff, made_step hp (show (0 : Int) < i by omega), List.any_eq_true]
      constructor
      · rintro ⟨c, hc, h⟩
        obtain ⟨h1, h2⟩ := Bool.and_eq_true_iff.mp h
        have h1 := of_decide_eq_true h1
        have h2 := mb_iff.mp h2
        rw [Int.toNat_of_nonneg (by omega)] at h2
        exact ⟨c, hc, h1, h2⟩
      · rintro ⟨c, hc, h1, h2⟩
        refine ⟨c, hc, ?_⟩
        rw [decide_eq_true h1, Bool.true_and, mb_iff, Int.toNat_of_nonneg (by omega)]
        exact h2
    cases x : (cs.any fun c => decide (c ≤ (i : Int)) && mb cs (i - c).toNat) <;> cases y : mb cs i <;> simp_all
  · rw [if_neg q]
    by_cases q2 : i = k + 1
    · subst q2
      rw [if_pos rfl, decide_eq_false (by omega), Bool.and_false, List.take_zero]
      rfl
    · rw [if_neg q2]
      by_cases z : i < k
      · rw [decide_eq_true z, decide_eq_true (by omega)]
      · rw [decide_eq_false z, decide_eq_false (by omega)]
theorem rep_bl {k : Int} (h1 : 0 ≤ k) (h2 : k ≤ 100000) : gRep (.lst [.bl false]) (.int k) = some (.lst (List.replicate k.toNat (.bl false))) := by
  have z : szOk (1 * k.toNat) = true := szOk_s (by omega)
  unfold gRep
  show (if _ then _ else _) = _
  rw [show ([D.bl false] : List D).length = 1 from rfl, z, decide_eq_true (show k < 1000000 by omega), decide_eq_true (show -1000000 < k by omega)]
  rw [flat_rep]
  rfl
theorem sieve_ok {last : Int} (hp : Pos cs) (h0 : 0 ≤ last) (h1 : last ≤ 100000) : mf_u_law_sieve [LI cs, .int last] = .ok (flagsD (mb cs) (last + 1).toNat) := by
  obtain ⟨L, hL⟩ : ∃ L : Nat, last = L := ⟨last.toNat, by omega⟩
  have hN : ((last + 1).toNat : Int) = last + 1 := by omega
  have st : (List.range (last + 1).toNat).map (fun i : Nat => D.bl (svp cs 1 0 i)) = .bl true :: List.replicate last.toNat (.bl false) := by
    have e : (last + 1).toNat = last.toNat + 1 := by omega
    rw [e, List.range_succ_eq_map, List.map_cons, List.map_map]
    have e0 : svp cs 1 0 0 = true := by
      unfold svp
      rw [if_neg (by omega)]
      have : mb cs 0 = true := mb_iff.mpr .zero
      rw [this]; rfl
    rw [e0]
    congr 1
    apply List.ext_getElem
    · simp
    · intro j h1 h2
      simp
      unfold svp
      by_cases q : j + 1 = 1
      · rw [if_pos q, List.take_zero]; rfl
      · rw [if_neg q, decide_eq_false (by omega), Bool.and_false]
  have s0 : mBin gCat (mLst (mCons (mC (.bl true)) mNil)) (mBin gRep (mLst (mCons (mC (.bl false)) mNil)) (mV 1)) [.val (LI cs), .val (.int last), .no, .no, .no] = .ok (.lst ((List.range (last + 1).toNat).map (fun i : Nat => D.bl (svp cs 1 0 i)))) := by
    rw [st]
    refine e_bin (e_lst (e_cons e_C e_Nil)) (e_bin (e_lst (e_cons e_C e_Nil)) (e_V rfl) (rep_bl h0 h1)) ?_
    have z : szOk (1 + (List.replicate last.toNat (D.bl false)).length) = true := szOk_s (by rw [List.length_replicate]; omega)
    unfold gCat
    exact if_pos z
  obtain ⟨ρ', e1, s3, s4, rfl⟩ := for_all0 (g := gSet 3) (body := mFor (mItems (mV 0)) (gSet 4) bSv) (ds := rangeD 1 (last + 1)) (ρ := [.val (LI cs), .val (.int last), FL (svp cs 1 0) (last + 1).toNat, .no, .no])
    (I := fun i ρ => ∃ s3 s4, ρ = [.val (LI cs), .val (.int last), FL (svp cs (i + 1) 0) (last + 1).toNat, s3, s4]) (by
      rintro i ρ d ⟨s3, s4, rfl⟩ hd
      have hi : i < (last + 1 - 1).toNat := by rw [← rangeD_len]; exact (List.getElem?_eq_some_iff.mp hd).1
      rw [rangeD_get hd]
      have e : (1 : Int) + (i : Nat) = ((i + 1 : Nat) : Int) := by omega
      rw [e]
      obtain ⟨s4', e1⟩ := sieve_in (e := LI cs) (N := (last + 1).toNat) (k := i + 1) (last := last) (s4 := s4) hp hN (by omega) (by omega)
      rw [svp_end hp (by omega)] at e1
      exact ⟨_, rfl, _, e1, _, _, rfl⟩) ⟨_, _, rfl⟩
  rw [rangeD_len] at e1
  have fin : (List.range (last + 1).toNat).map (fun i : Nat => D.bl (svp cs ((last + 1 - 1).toNat + 1) 0 i)) = (List.range (last + 1).toNat).map fun i : Nat => .bl (mb cs i) := by
    refine List.map_congr_left fun i hi => ?_
    have hi := List.mem_range.mp hi
    unfold svp
    rw [if_neg (by omega), decide_eq_true (by omega), Bool.and_true]
  refine fn_rt rfl (ρ := [.val (LI cs), .val (.int last), .no, .no, .no]) ?_
  refine q_seq (q_setO s0 rfl) ?_
  refine q_seq (q_for (e_range2 e_C (by walk_at "ev") (farOk_s (by omega) (by omega)) (farOk_s (by omega) (by omega))) e1) ?_
  refine (s_retO rfl).trans ?_
  rw [fin]
end
end SL

-- Dj
set_option Elab.async false
set_option linter.all false
set_option maxHeartbeats 1000000
/-! Dj: least sums settled one after the other, the least one first. -/
namespace SL
open Sg
/-- what one relaxing changes: an entry gets less, and is the source's value and the coin -/
theorem relax_at {T : Tb} {h w : Nat} {c a : Int} (ea : T[h]? = some (some a)) (i : Nat) : (relax T h w c)[i]? = T[i]? ∨ ((relax T h w c)[i]? = some (some (a + c)) ∧ (T[i]? = some none ∨ ∃ b, T[i]? = some (some b) ∧ a + c < b)) := by
  unfold relax
  rw [ea]
  dsimp only
  cases q : T[w]? with
  | none => exact .inl rfl
  | some o =>
    have hw := lt_of_get q
    cases o with
    | none =>
      dsimp only
      by_cases z : w = i
      · subst z
        exact .inr ⟨by rw [List.getElem?_set_self hw], .inl q⟩
      · exact .inl (by rw [List.getElem?_set_ne z])
    | some b =>
      dsimp only
      split
      · rename_i hb
        by_cases z : w = i
        · subst z
          exact .inr ⟨by rw [List.getElem?_set_self hw], .inr ⟨b, q, by omega⟩⟩
        · exact .inl (by rw [List.getElem?_set_ne z])
      · exact .inl rfl
/-- the entries behind some relaxings from one place with the value d -/
structure Spr (T T' : Tb) (m h : Nat) (d : Int) (cs : List Int) : Prop where
  at_ : T'[h]? = some (some d)
  ch : ∀ i : Nat, T'[i]? = T[i]? ∨ ∃ v, T'[i]? = some (some v) ∧ d < v ∧ (T[i]? = some none ∨ ∃ b, T[i]? = some (some b) ∧ v < b)
  dn : Down T T'
  ed : ∀ c ∈ cs, Le T' (((h : Int) + c) % m).toNat (d + c)
theorem Spr.start {T : Tb} {m h : Nat} {d : Int} (e : T[h]? = some (some d)) : Spr T T m h d [] := ⟨e, fun i => .inl rfl, .refl T, fun c hc => absurd hc List.not_mem_nil⟩
theorem Spr.step {T T' : Tb} {m h : Nat} {d c : Int} {cs : List Int} (S : Spr T T' m h d cs) (c0 : 0 < c) (hw : (((h : Int) + c) % m).toNat < T'.length) : Spr T (relax T' h (((h : Int) + c) % m).toNat c) m h d (cs ++ [c]) := by
  have dn := relax_down T' h (((h : Int) + c) % m).toNat c
  refine ⟨?_, fun i => ?_, S.dn.trans dn, fun x hx => ?_⟩
  · rcases relax_at (w := (((h : Int) + c) % m).toNat) (c := c) S.at_ h with e | ⟨e, e2 | ⟨b, e2, lt⟩⟩
    · rw [e]; exact S.at_
    · rw [S.at_] at e2; cases e2
    · rw [S.at_] at e2; cases e2; omega
  · rcases relax_at (w := (((h : Int) + c) % m).toNat) (c := c) S.at_ i with e | ⟨e, h2⟩
    · rw [e]; exact S.ch i
    · refine .inr ⟨d + c, e, by omega, ?_⟩
      rcases S.ch i with k | ⟨v, k1, k2, k3⟩
      · rw [k] at h2; exact h2
      · rcases h2 with h2 | ⟨b, h2, lt⟩
        · rw [k1] at h2; cases h2
        · rw [k1] at h2
          cases h2
          rcases k3 with k3 | ⟨b', k3, k4⟩
          · exact .inl k3
          · exact .inr ⟨b', k3, by omega⟩
  · rcases List.mem_append.mp hx with hx | hx
    · exact dn.le _ _ (S.ed x hx)
    · rw [List.mem_singleton] at hx
      subst hx
      exact relax_edge ⟨d, S.at_, Int.le_refl _⟩ hw
/-- the state between two turns: lf what is left -/
structure Stl (cs : List Int) (m : Nat) (T : Tb) (lf : List Nat) : Prop where
  len : T.length = m
  src : Src (fun i v => Made cs v ∧ v % m = (i : Int)) T
  zero : Le T 0 0
  nd : lf.Nodup
  lt : ∀ u ∈ lf, u < m
  ed : ∀ s, s < m → s ∉ lf → ∃ d, T[s]? = some (some d) ∧ ∀ c ∈ cs, Le T (((s : Int) + c) % m).toNat (d + c)
  ord : ∀ s, s < m → s ∉ lf → ∀ d, T[s]? = some (some d) → ∀ u ∈ lf, ∀ v, T[u]? = some (some v) → d ≤ v
theorem tb0_zero {m : Nat} : Le (tb0 m) 0 0 := ⟨0, rfl, Int.le_refl _⟩
theorem Stl.start {cs : List Int} {m : Nat} (hm : 0 < m) : Stl cs m (tb0 m) (List.range m) := by
  refine ⟨tb0_len hm, fun i v h => ?_, tb0_zero, List.nodup_range, fun u hu => List.mem_range.mp hu, fun s hs hn => absurd (List.mem_range.mpr hs) hn, fun s hs hn => absurd (List.mem_range.mpr hs) hn⟩
  obtain ⟨rfl, rfl⟩ := tb0_get h
  exact ⟨.zero, by simp⟩
theorem Stl.turn {cs : List Int} {m : Nat} {T T' : Tb} {lf : List Nat} {b : Nat} {d : Int} (hp : Pos cs) (hm : 0 < m) (I : Stl cs m T lf) (hb : b ∈ lf) (hd : T[b]? = some (some d)) (least : ∀ u ∈ lf, ∀ v, T[u]? = some (some v) → d ≤ v) (S : Spr T T' m b d cs) (hs : Src (fun i v => Made cs v ∧ v % m = (i : Int)) T') : Stl cs m T' (lf.erase b) := by
  have mem : ∀ u, u ∈ lf.erase b ↔ u ≠ b ∧ u ∈ lf := fun u => I.nd.mem_erase_iff
  -- settled entries stay
  have keep : ∀ s, s < m → s ∉ lf → T'[s]? = T[s]? := by
    intro s h1 h2
    obtain ⟨e, he, _⟩ := I.ed s h1 h2
    have := I.ord s h1 h2 e he b hb d hd
    rcases S.ch s with k | ⟨v, k1, k2, k3⟩
    · exact k
    · rcases k3 with k3 | ⟨b', k3, k4⟩
      · rw [he] at k3; cases k3
      · rw [he] at k3; cases k3; omega
  have up : ∀ u ∈ lf.erase b, ∀ v, T'[u]? = some (some v) → d ≤ v := by
    intro u hu v hv
    have hu := ((mem u).mp hu).2
    rcases S.ch u with k | ⟨v', k1, k2, _⟩
    · rw [k] at hv; exact least u hu v hv
    · rw [k1] at hv; cases hv; omega
  refine ⟨S.dn.len.trans I.len, hs, S.dn.le _ _ I.zero, I.nd.erase b, fun u hu => I.lt u ((mem u).mp hu).2, fun s h1 h2 => ?_, fun s h1 h2 e he u hu v hv => ?_⟩
  · by_cases z : s = b
    · subst z
      exact ⟨d, S.at_, S.ed⟩
    · have h3 : s ∉ lf := fun q => h2 ((mem s).mpr ⟨z, q⟩)
      obtain ⟨e, he, h4⟩ := I.ed s h1 h3
      exact ⟨e, by rw [keep s h1 h3]; exact he, fun c hc => S.dn.le _ _ (h4 c hc)⟩
  · have d1 := up u hu v hv
    by_cases z : s = b
    · subst z
      rw [S.at_] at he
      cases he
      exact d1
    · have h3 : s ∉ lf := fun q => h2 ((mem s).mpr ⟨z, q⟩)
      rw [keep s h1 h3] at he
      have := I.ord s h1 h3 e he b hb d hd
      omega
/-- nothing is left that has an entry -/
theorem Stl.done {cs : List Int} {m : Nat} {T : Tb} {lf : List Nat} (hp : Pos cs) (hm : 0 < m) (I : Stl cs m T lf) (h : ∀ u ∈ lf, T[u]? = some none) : LeastT cs m T := by
  refine ⟨I.len, I.src, fun n hn => ?_⟩
  induction hn with
  | zero =>
    have e : ((0 : Int) % m).toNat = 0 := by simp
    rw [e]; exact I.zero
  | @add c n hc hn ih =>
    have r0 := Int.emod_nonneg n (show (m : Int) ≠ 0 by omega)
    have r1 := Int.emod_lt_of_pos n (show (0 : Int) < m by omega)
    obtain ⟨v, e, hv⟩ := ih
    have ns : (n % m).toNat ∉ lf := fun q => by rw [h _ q] at e; cases e
    obtain ⟨d, h1, h2⟩ := I.ed _ (by omega) ns
    rw [e] at h1
    cases h1
    have h3 := h2 c hc
    rw [Int.toNat_of_nonneg r0, Int.emod_add_emod] at h3
    exact h3.up (by omega)
/-- a table is told by what it says -/
theorem least_uniq {cs ds : List Int} {m : Nat} {T T' : Tb} (hm : 0 < m) (hc : ∀ n, Made cs n ↔ Made ds n) (I : LeastT cs m T) (J : LeastT ds m T') : T = T' := by
  apply List.ext_getElem?
  intro i
  by_cases hi : i < m
  · obtain ⟨a, e1⟩ : ∃ a, T[i]? = some a := ⟨_, List.getElem?_eq_getElem (show i < T.length by rw [I.len]; exact hi)⟩
    obtain ⟨b, e2⟩ : ∃ b, T'[i]? = some b := ⟨_, List.getElem?_eq_getElem (show i < T'.length by rw [J.len]; exact hi)⟩
    rw [e1, e2]
    have im : ∀ v : Int, v % m = (i : Int) → (v % m).toNat = i := fun v h => by rw [h]; simp
    have one : ∀ {cs ds : List Int} {T T' : Tb} {v : Int}, (∀ n, Made cs n → Made ds n) → LeastT cs m T → LeastT ds m T' → T[i]? = some (some v) → Le T' i v := fun h I J e => by
      obtain ⟨h1, h2⟩ := I.lo i _ e
      have := J.hi _ (h _ h1)
      rw [im _ h2] at this
      exact this
    cases a with
    | none =>
      cases b with
      | none => rfl
      | some v =>
        obtain ⟨w, ew, _⟩ := one (fun n => (hc n).mpr) J I e2
        rw [e1] at ew; cases ew
    | some u =>
      obtain ⟨w, ew, hw⟩ := one (fun n => (hc n).mp) I J e1
      rw [e2] at ew
      cases ew
      obtain ⟨x, ex, hx⟩ := one (fun n => (hc n).mpr) J I e2
      rw [e1] at ex
      cases ex
      rw [show u = w by omega]
  · rw [List.getElem?_eq_none (by rw [I.len]; omega), List.getElem?_eq_none (by rw [J.len]; omega)]
end SL

-- QT_k02
set_option Elab.async false
set_option linter.all false
set_option maxRecDepth 100000
set_option maxHeartbeats 4000000
/-! QT: the law's own table. -/
namespace SL
open Fx G Sg
open PySem (Str)
--MACROS
local macro_rules | `(tactic| walk_at "eq") => `(tactic| first | exact rfl | assumption | (simp [isNon, isiB]; done) | (simp [isNon, isiB, *]; done) | skip)
local macro_rules | `(tactic| walk_at "bt") => `(tactic| first | rfl | assumption | exact decide_eq_true (by omega) | exact decide_eq_false (by omega) | (simp only [Bool.and_eq_true, Bool.or_eq_true, Bool.not_eq_true', Bool.not_eq_false', Bool.and_eq_false_iff, Bool.or_eq_false_iff, Bool.not_true, Bool.not_false, decide_eq_true_eq, decide_eq_false_iff_not, beq_iff_eq, beq_eq_false_iff_ne, ne_eq, isNon, isiB]; omega) | (simp [isNon, isiB]; done) | (simp [isNon, isiB]; omega) | (simp [isNon, isiB, *]; done))
local macro_rules | `(tactic| walk_at "op") => `(tactic| first | assumption | (with_reducible exact gAdd_i) | exact gI_i.trans kInt_i | exact gI_i.trans kBl_i | exact gEq_ii | exact gNe_ii | exact gI_i.trans (kMod_ok (by omega)) | exact gI_i.trans (kDiv_s (by omega) (by omega)) | exact gI_i.trans (kMul_s (by omega) (by omega) (by omega) (by omega)) | exact gIx_l.trans (by assumption) | exact gIx_t.trans (by assumption) | exact gEq_LI | exact rfl)
local macro_rules | `(tactic| walk_at "fn") => `(tactic| first | assumption | (solve_by_elim (maxDepth := 2)))
local macro_rules | `(tactic| walk_at "mv") => `(tactic| first | (with_reducible exact q_no) | ((with_reducible apply q_part); walk_at "ev"))
local macro_rules | `(tactic| walk_at "ev") => `(tactic| first | assumption | (with_reducible exact e_C) | (with_reducible exact e_Nil) | ((with_reducible apply e_V); exact rfl) | ((with_reducible apply e_O); exact rfl) | ((with_reducible apply e_cons); (· walk_at "ev"); (· walk_at "ev")) | ((with_reducible apply e_tup); walk_at "ev") | ((with_reducible apply e_lst); walk_at "ev") | ((with_reducible apply e_bin); (· walk_at "ev"); (· walk_at "ev"); (· walk_at "op")) | ((with_reducible apply e_call); (· walk_at "ev"); (· walk_at "op")) | ((with_reducible apply q_def); (· walk_at "ev"); (· walk_at "fn")) | ((with_reducible apply q_defL); (· walk_at "ev"); (· walk_at "fn"); (· exact rfl)) | ((with_reducible apply e_neg); walk_at "ev") | ((with_reducible apply e_lf); (· walk_at "ev"); (· exact rfl)) | ((with_reducible apply q_andV); (· walk_at "ev"); (· walk_at "ev")) | ((with_reducible apply q_orV); (· walk_at "ev"); (· walk_at "ev")) | ((with_reducible apply q_notV); walk_at "ev") | ((with_reducible apply q_isi); (· walk_at "ev"); (· exact rfl)) | ((with_reducible apply q_slL); (· walk_at "ev"); (· walk_at "mv"); (· walk_at "mv")) | ((with_reducible apply q_flat); (· walk_at "ev"); (· walk_at "bt")) | ((with_reducible apply q_defN); (· walk_at "ev"); (· walk_at "fn")) | ((with_reducible apply q_dx); (· exact rfl); (· walk_at "ev"); (· exact rfl); (· walk_at "bt")) | ((with_reducible apply q_mk); (· walk_at "ev"); (· walk_at "fn")))
local macro_rules | `(tactic| walk_at "tv") => `(tactic| first | assumption | ((with_reducible apply e_bool); walk_at "ev") | ((with_reducible apply q_andT); (· walk_at "tv"); (· walk_at "tv")) | ((with_reducible apply q_andF); (· walk_at "tv"); (· walk_at "bt")) | ((with_reducible apply q_orT); (· walk_at "tv"); (· walk_at "tv")) | ((with_reducible apply q_orF); (· walk_at "tv"); (· walk_at "bt")) | ((with_reducible apply e_not); walk_at "tv") | ((with_reducible apply e_tru); (· walk_at "ev"); (· exact rfl)))
local macro_rules | `(tactic| walk_at "sx") => `(tactic| (simp only [List.set_cons_succ, List.set_cons_zero, slOf]; try rfl))
local macro_rules | `(tactic| walk_at "s1") => `(tactic| first | assumption | (with_reducible exact q_next) | ((with_reducible apply q_set); (· walk_at "ev"); (· walk_at "sx")) | ((with_reducible apply q_setO); (· walk_at "ev"); (· walk_at "sx")) | ((with_reducible apply q_setN); (· walk_at "ev"); (· walk_at "sx")) | ((with_reducible apply q_app); (· walk_at "ev"); (· exact rfl); (· (try simp only [List.length_map, List.length_append, List.length_cons, List.length_nil]); omega); (· walk_at "sx")) | ((with_reducible apply q_frz); (· exact rfl); (· walk_at "sx")) | ((with_reducible apply q_drop); walk_at "ev") | ((with_reducible apply q_ret); (· walk_at "ev"); (· walk_at "eq")) | ((with_reducible apply s_retO); exact rfl) | ((with_reducible apply q_ifT); (· walk_at "tv"); (· walk_at "bt"); (· walk_at "st")) | ((with_reducible apply q_ifF); (· walk_at "tv"); (· walk_at "bt"); (· walk_at "st")))
local macro_rules | `(tactic| walk_at "st") => `(tactic| first | ((with_reducible apply q_seq); (· walk_at "s1"); (walk_at "st")) | ((with_reducible apply s_seqR); (· walk_at "s1")) | walk_at "s1" | skip)
--END MACROS
section
variable {cs : List Int} {m : Nat} {T : Tb} {d : D} {ρ : Env} {me : ME} {n : Int}
/-- a loop that breaks or comes to its end -/
theorem for_bkE {g : MG} {body : MS} {I : Nat → Env → Prop} {Q : Env → Prop} {ds : List D} (h : ∀ i ρ d, I i ρ → ds[i]? = some d → ∃ ρ1, g d ρ = some ρ1 ∧ ((∃ ρ2, body ρ1 = .bk ρ2 ∧ Q ρ2) ∨ ∃ ρ2, body ρ1 = .nx ρ2 ∧ I (i + 1) ρ2)) :
    ∀ (n i : Nat) (ρ : Env), n = ds.length - i → i ≤ ds.length → I i ρ → ∃ ρ', forL g body (ds.drop i) ρ = .nx ρ' ∧ (Q ρ' ∨ I ds.length ρ')
  | 0, i, ρ, hn, hl, hi => by
    have e : i = ds.length := by omega
    subst e
    rw [List.drop_length]
    exact ⟨ρ, rfl, .inr hi⟩
  | n + 1, i, ρ, hn, hl, hi => by
    have hlt : i < ds.length := by omega
    rw [List.drop_eq_getElem_cons hlt]
    obtain ⟨ρ1, e1, h1⟩ := h i ρ _ hi (List.getElem?_eq_getElem hlt)
    rcases h1 with ⟨ρ2, e2, q⟩ | ⟨ρ2, e2, i2⟩
    · exact ⟨ρ2, by unfold forL; rw [e1]; dsimp only; rw [e2], .inl q⟩
    · obtain ⟨ρ3, e3, q⟩ := for_bkE h n (i + 1) ρ2 (by omega) (by omega) i2
      exact ⟨ρ3, by unfold forL; rw [e1]; dsimp only; rw [e2]; exact e3, q⟩
theorem idx_erase {k : Int} : ∀ {l : List Int}, k ∈ l → ∃ j, idxOf k l = some j ∧ l.eraseIdx j = l.erase k
  | [], h => absurd h List.not_mem_nil
  | a :: l, h => by
    by_cases z : a = k
    · subst z
      exact ⟨0, by unfold idxOf; rw [if_pos rfl], by simp⟩
    · have hk : k ∈ l := (List.mem_cons.mp h).resolve_left (Ne.symm z)
      obtain ⟨j, h1, h2⟩ := idx_erase hk
      refine ⟨j + 1, by unfold idxOf; rw [if_neg z, h1]; rfl, ?_⟩
      rw [List.eraseIdx_cons_succ, h2, List.erase_cons_tail (by simpa using z)]
theorem erase_cast {b : Nat} : ∀ l : List Nat, (l.map fun i : Nat => (i : Int)).erase (b : Int) = (l.erase b).map fun i : Nat => (i : Int)
  | [] => rfl
  | a :: l => by
    rw [List.map_cons]
    by_cases z : a = b
    · subst z; simp
    · rw [List.erase_cons_tail (by simp; omega), List.erase_cons_tail (by simpa using z), List.map_cons, erase_cast l]
abbrev NLs (l : List Nat) : List D := l.map fun i : Nat => .int (i : Int)
theorem q_rem {ρ' : Env} {i b : Nat} {m : ME} {lf : List Nat} (h : ρ[i]? = some (.lst (NLs lf))) (h2 : m ρ = .ok (.int (b : Int))) (hb : b ∈ lf) (h3 : ρ.set i (.lst (NLs (lf.erase b))) = ρ') : mRem i m ρ = .nx ρ' := by
  have e : NLs lf = (lf.map fun i : Nat => (i : Int)).map D.int := by rw [List.map_map]; rfl
  obtain ⟨j, h4, h5⟩ := idx_erase (k := (b : Int)) (l := lf.map fun i : Nat => (i : Int)) (List.mem_map.mpr ⟨b, hb, rfl⟩)
  unfold mRem
  rw [h]
  dsimp only
  rw [h2, R.out_ok]
  dsimp only
  rw [e, intsOf_map]
  dsimp only
  rw [h4]
  dsimp only
  rw [h5, erase_cast, List.map_map]
  exact congrArg Out.nx h3
theorem od_at {i : Int} {o : Option Int} (h0 : 0 ≤ i) (h : T[i.toNat]? = some o) : ixL (T.map od) i = some (od o) := ixL_mapI h0 h
abbrev bRel : MS := mSeq (mSet 9 (mBin (gI kMod) (mBin gAdd (mV 6) (mV 8)) (mV 1)))
  (mIte (mOr (mBool (mBin gIsN (mBin gIx (mO 2) (mV 9)) (mC .non))) (mBool (mBin (gI (kBl fun i j => decide (j < i))) (mBin gIx (mO 2) (mV 9)) (mBin gAdd (mBin gIx (mO 2) (mV 6)) (mV 8))))) (mPutL 2 (mV 9) (mBin gAdd (mBin gIx (mO 2) (mV 6)) (mV 8))) mNext)
abbrev DE (cs : List Int) (m : Nat) (T : Tb) (lf : List Nat) (s4 s5 s6 s7 s8 s9 : Sl) : Env := [.val (LI cs), .val (.int m), .lst (T.map od), .lst (NLs lf), s4, s5, s6, s7, s8, s9]
theorem rel_ok {lf : List Nat} {s4 s5 s7 s9 : Sl} {b : Nat} {c v : Int} (hm : 0 < m) (hl : T.length = m) (hb : T[b]? = some (some v)) :
    bRel (DE cs m T lf s4 s5 (.val (.int b)) s7 (.val (.int c)) s9) = .nx (DE cs m (relax T b (((b : Int) + c) % m).toNat c) lf s4 s5 (.val (.int b)) s7 (.val (.int c)) (.val (.int (((b : Int) + c) % m)))) := by
  have mi : (0 : Int) < m := by omega
  have r0 := Int.emod_nonneg ((b : Int) + c) (show (m : Int) ≠ 0 by omega)
  have r1 := Int.emod_lt_of_pos ((b : Int) + c) mi
  have eb : ixL (T.map od) (b : Int) = some (.int v) := od_at (o := some v) (by omega) (by rw [Int.toNat_natCast]; exact hb)
  obtain ⟨o, ho⟩ : ∃ o, T[(((b : Int) + c) % m).toNat]? = some o := ⟨_, List.getElem?_eq_getElem (by omega)⟩
  have eo := od_at (i := ((b : Int) + c) % m) r0 ho
  have hS : ixS (T.map od).length (((b : Int) + c) % m) = some (((b : Int) + c) % m).toNat := by
    unfold ixS
    rw [if_pos r0, if_pos (by rw [List.length_map]; omega)]
  refine q_seq (ρ' := DE cs m T lf s4 s5 (.val (.int b)) s7 (.val (.int c)) (.val (.int (((b : Int) + c) % m)))) (q_set (e_bin (e_bin (e_V rfl) (e_V rfl) gAdd_i) (e_V rfl) (gI_i.trans (kMod_ok mi))) rfl) ?_
  have sum : mBin gAdd (mBin gIx (mO 2) (mV 6)) (mV 8) (DE cs m T lf s4 s5 (.val (.int b)) s7 (.val (.int c)) (.val (.int (((b : Int) + c) % m)))) = .ok (.int (v + c)) := e_bin (e_bin (e_O rfl) (e_V rfl) (gIx_l.trans eb)) (e_V rfl) gAdd_i
  have put : T.set (((b : Int) + c) % m).toNat (some (v + c)) = relax T b (((b : Int) + c) % m).toNat c → mPutL 2 (mV 9) (mBin gAdd (mBin gIx (mO 2) (mV 6)) (mV 8)) (DE cs m T lf s4 s5 (.val (.int b)) s7 (.val (.int c)) (.val (.int (((b : Int) + c) % m)))) = .nx (DE cs m (relax T b (((b : Int) + c) % m).toNat c) lf s4 s5 (.val (.int b)) s7 (.val (.int c)) (.val (.int (((b : Int) + c) % m)))) := fun e => by
    refine q_put sum rfl (e_V rfl) hS ?_
    have em : (T.map od).set (((b : Int) + c) % m).toNat (.int (v + c)) = (T.set (((b : Int) + c) % m).toNat (some (v + c))).map od := by rw [List.map_set]; rfl
    rw [em, e]
    rfl
  cases o with
  | none =>
    refine q_ifT (q_orF (e_bool (e_bin (e_bin (e_O rfl) (e_V rfl) (gIx_l.trans eo)) e_C rfl)) rfl) rfl (put ?_)
    unfold relax
    rw [hb]; dsimp only; rw [ho]
  | some w =>
    have t1 : mOr (mBool (mBin gIsN (mBin gIx (mO 2) (mV 9)) (mC .non))) (mBool (mBin (gI (kBl fun i j => decide (j < i))) (mBin gIx (mO 2) (mV 9)) (mBin gAdd (mBin gIx (mO 2) (mV 6)) (mV 8)))) (DE cs m T lf s4 s5 (.val (.int b)) s7 (.val (.int c)) (.val (.int (((b : Int) + c) % m)))) = .ok (false || decide (v + c < w)) :=
      q_orT (e_bool (e_bin (e_bin (e_O rfl) (e_V rfl) (gIx_l.trans eo)) e_C rfl)) (e_bool (e_bin (e_bin (e_O rfl) (e_V rfl) (gIx_l.trans eo)) sum (gI_i.trans kBl_i)))
    by_cases z : v + c < w
    · refine q_ifT t1 (by simp [z]) (put ?_)
      unfold relax
      rw [hb]; dsimp only; rw [ho]; dsimp only; rw [if_pos z]
    · refine q_ifF t1 (by simp [z]) ?_
      have : relax T b (((b : Int) + c) % m).toNat c = T := by
        unfold relax
        rw [hb]; dsimp only; rw [ho]; dsimp only; rw [if_neg z]
      rw [this]
      rfl
theorem spread_ok {lf : List Nat} {s4 s5 s7 s8 s9 : Sl} {b : Nat} {v : Int} (hp : Pos cs) (hm : 0 < m) (hl : T.length = m) (hs : Src (fun i v => Made cs v ∧ v % m = (i : Int)) T) (hb : T[b]? = some (some v)) :
    ∃ T' t8 t9, mFor (mItems (mV 0)) (gSet 8) bRel (DE cs m T lf s4 s5 (.val (.int b)) s7 s8 s9) = .nx (DE cs m T' lf s4 s5 (.val (.int b)) s7 t8 t9) ∧ Spr T T' m b v cs ∧ Src (fun i v => Made cs v ∧ v % m = (i : Int)) T' := by
  obtain ⟨ρ', e1, T', s8', s9', rfl, S, S2⟩ := q_forE (o := .bad) (ρ := DE cs m T lf s4 s5 (.val (.int b)) s7 s8 s9) (xs := cs) (g := D.int) (gg := gSet 8) (b := bRel)
    (I := fun j ρ => ∃ T' s8 s9, ρ = DE cs m T' lf s4 s5 (.val (.int b)) s7 s8 s9 ∧ Spr T T' m b v (cs.take j) ∧ Src (fun i v => Made cs v ∧ v % m = (i : Int)) T') ⟨T, s8, s9, rfl, Spr.start hb, hs⟩ (by
      rintro j ρ c ⟨T', s8, s9, rfl, S, S2⟩ hc
      have cm := List.mem_iff_getElem?.mpr ⟨_, hc⟩
      have r0 := Int.emod_nonneg ((b : Int) + c) (show (m : Int) ≠ 0 by omega)
      have r1 := Int.emod_lt_of_pos ((b : Int) + c) (show (0 : Int) < m by omega)
      have tk : cs.take (j + 1) = cs.take j ++ [c] := by rw [List.take_add_one, hc]; rfl
      have hl' : T'.length = m := S.dn.len.trans hl
      refine ⟨_, rfl, _, rel_ok hm hl' S.at_, _, _, _, rfl, ?_, ?_⟩
      · rw [tk]
        exact S.step (hp c cm) (by omega)
      · exact src_relax hm cm S2 rfl)
  rw [List.take_length] at S
  exact ⟨T', s8', s9', q_for (e_items (e_V rfl)) e1, S, S2⟩
abbrev bMin : MS := mIte (mBool (mBin (gI (kBl fun i j => decide (i < j))) (mBin gIx (mO 2) (mV 7)) (mBin gIx (mO 2) (mV 6)))) (mSet 6 (mV 7)) mNext
theorem min_ok {lf kn : List Nat} {s4 s7 s8 s9 : Sl} {k0 : Nat} (h0 : kn[0]? = some k0) (hk : ∀ r ∈ kn, ∃ v, T[r]? = some (some v)) :
    ∃ (b : Nat) (v : Int) (s7' : Sl), mFor (mItems (mV 5)) (gSet 7) bMin (DE cs m T lf s4 (.val (.lst (NLs kn))) (.val (.int k0)) s7 s8 s9) = .nx (DE cs m T lf s4 (.val (.lst (NLs kn))) (.val (.int b)) s7' s8 s9) ∧ b ∈ kn ∧ T[b]? = some (some v) ∧ ∀ u ∈ kn, ∀ w, T[u]? = some (some w) → v ≤ w := by
  have k0m : k0 ∈ kn := List.mem_iff_getElem?.mpr ⟨0, h0⟩
  obtain ⟨v0, hv0⟩ := hk k0 k0m
  obtain ⟨ρ', e1, b, v, s7', rfl, b1, b2, b3⟩ := q_forE (o := .bad) (ρ := DE cs m T lf s4 (.val (.lst (NLs kn))) (.val (.int k0)) s7 s8 s9) (xs := kn) (g := fun i : Nat => .int (i : Int)) (gg := gSet 7) (b := bMin)
    (I := fun j ρ => ∃ b v s7, ρ = DE cs m T lf s4 (.val (.lst (NLs kn))) (.val (.int (b : Nat))) s7 s8 s9 ∧ b ∈ kn ∧ T[b]? = some (some v) ∧ ∀ u ∈ kn.take j, ∀ w, T[u]? = some (some w) → v ≤ w) ⟨k0, v0, s7, rfl, k0m, hv0, fun u hu => by simp at hu⟩ (by
      rintro j ρ r ⟨b, v, s7, rfl, b1, b2, b3⟩ hr
      have rm := List.mem_iff_getElem?.mpr ⟨_, hr⟩
      obtain ⟨w, hw⟩ := hk r rm
      have tk : kn.take (j + 1) = kn.take j ++ [r] := by rw [List.take_add_one, hr]; rfl
      have er : ixL (T.map od) (r : Int) = some (.int w) := od_at (o := some w) (by omega) (by rw [Int.toNat_natCast]; exact hw)
      have eb : ixL (T.map od) (b : Int) = some (.int v) := od_at (o := some v) (by omega) (by rw [Int.toNat_natCast]; exact b2)
      have t1 : mBool (mBin (gI (kBl fun i j => decide (i < j))) (mBin gIx (mO 2) (mV 7)) (mBin gIx (mO 2) (mV 6))) (DE cs m T lf s4 (.val (.lst (NLs kn))) (.val (.int b)) (.val (.int r)) s8 s9) = .ok (decide (w < v)) :=
        e_bool (e_bin (e_bin (e_O rfl) (e_V rfl) (gIx_l.trans er)) (e_bin (e_O rfl) (e_V rfl) (gIx_l.trans eb)) (gI_i.trans kBl_i))
      by_cases z : w < v
      · refine ⟨_, rfl, _, q_ifT t1 (decide_eq_true z) (q_set (e_V rfl) rfl), r, w, _, rfl, rm, hw, fun u hu x hx => ?_⟩
        rw [tk] at hu
        rcases List.mem_append.mp hu with hu | hu
        · have := b3 u hu x hx; omega
        · rw [List.mem_singleton] at hu
          subst hu
          rw [hw] at hx; cases hx; omega
      · refine ⟨_, rfl, _, q_ifF t1 (decide_eq_false z) q_next, b, v, _, rfl, b1, b2, fun u hu x hx => ?_⟩
        rw [tk] at hu
        rcases List.mem_append.mp hu with hu | hu
        · exact b3 u hu x hx
        · rw [List.mem_singleton] at hu
          subst hu
          rw [hw] at hx; cases hx; omega)
  rw [List.take_length] at b3
  exact ⟨b, v, s7', q_for (e_items (e_V rfl)) e1, b1, b2, b3⟩
theorem gEq_NL {l : List Nat} : gEq (.lst (NLs l)) (.lst []) = some (.bl (l == [])) := by
  have e : NLs l = (l.map fun i : Nat => (i : Int)).map D.int := by rw [List.map_map]; rfl
  rw [e]
  have := gEq_LI (l := l.map fun i : Nat => (i : Int)) (k := [])
  rw [List.map_nil] at this
  rw [this]
  cases l <;> rfl
theorem law_table_ok (hp : Pos cs) (hm : 0 < m) (hm2 : m ≤ 1000) : ∃ T, mf_u_law_table [LI cs, .int m] = .ok (LO T) ∧ LeastT cs m T := by
  let B : MS := mSeq (mSet 5 (mLc 7 (mItemsO 3) (mBool (mBin gNotN (mBin gIx (mO 2) (mV 7)) (mC .non))) (mV 7)))
    (mSeq (mIte (mBool (mBin gEq (mV 5) (mLst mNil))) mBreak mNext)
    (mSeq (mSet 6 (mBin gIx (mV 5) (mC (.int 0))))
    (mSeq (mFor (mItems (mV 5)) (gSet 7) bMin)
    (mSeq (mRem 3 (mV 6))
    (mFor (mItems (mV 0)) (gSet 8) bRel)))))
  have lp := for_bkE (g := gSet 4) (body := B) (ds := (List.range m).map fun k : Nat => .int (k : Int))
    (I := fun i ρ => ∃ T lf s4 s5 s6 s7 s8 s9, ρ = DE cs m T lf s4 s5 s6 s7 s8 s9 ∧ Stl cs m T lf ∧ lf.length + i = m)
    (Q := fun ρ => ∃ T lf s4 s5 s6 s7 s8 s9, ρ = DE cs m T lf s4 s5 s6 s7 s8 s9 ∧ LeastT cs m T) (by
      rintro i ρ d ⟨T, lf, s4, s5, s6, s7, s8, s9, rfl, I, hl⟩ hd
      refine ⟨_, rfl, ?_⟩
      let kn := lf.filter fun r => (T.getD r none).isSome
      have a1 : mLc 7 (mItemsO 3) (mBool (mBin gNotN (mBin gIx (mO 2) (mV 7)) (mC .non))) (mV 7) (DE cs m T lf (.val d) s5 s6 s7 s8 s9) = .ok (.lst (NLs kn)) := by
        refine q_lc (p := fun r => (T.getD r none).isSome) (f := fun i : Nat => .int (i : Int)) (g := fun i : Nat => .int (i : Int)) (xs := lf) (ρ1 := DE cs m T lf (.val d) (noE s5) (noE s6) .no (noE s8) (noE s9)) rfl (by omega) rfl fun r hr => ?_
        refine ⟨?_, fun _ => e_V rfl⟩
        have hx : T[r]? = some (T.getD r none) := by
          have := I.lt r hr
          rw [List.getD_eq_getElem?_getD, List.getElem?_eq_getElem (by rw [I.len]; omega)]; rfl
        have e := od_at (i := (r : Int)) (by omega) (by rw [Int.toNat_natCast]; exact hx)
        generalize T.getD r none = o at e
        cases o with
        | none => exact e_bool (e_bin (e_bin (e_O rfl) (e_V rfl) (gIx_l.trans e)) e_C rfl)
        | some v => exact e_bool (e_bin (e_bin (e_O rfl) (e_V rfl) (gIx_l.trans e)) e_C rfl)
      have kin : ∀ r ∈ kn, r ∈ lf ∧ ∃ v, T[r]? = some (some v) := by
        intro r hr
        obtain ⟨h1, h2⟩ := List.mem_filter.mp hr
        obtain ⟨v, hv⟩ := Option.isSome_iff_exists.mp h2
        refine ⟨h1, v, ?_⟩
        have := I.lt r h1
        rw [List.getD_eq_getElem?_getD, List.getElem?_eq_getElem (by rw [I.len]; omega)] at hv
        rw [List.getElem?_eq_getElem (by rw [I.len]; omega)]
        exact congrArg some hv
      have kout : ∀ u ∈ lf, ∀ v, T[u]? = some (some v) → u ∈ kn := by
        intro u hu v hv
        refine List.mem_filter.mpr ⟨hu, ?_⟩
        rw [List.getD_eq_getElem?_getD, hv]; rfl
      generalize kn = kn at a1 kin kout
      have t1 : mBool (mBin gEq (mV 5) (mLst mNil)) (DE cs m T lf (.val d) (.val (.lst (NLs kn))) s6 s7 s8 s9) = .ok (kn == []) := e_bool (e_bin (e_V rfl) (e_lst e_Nil) gEq_NL)
      cases kn with
      | nil =>
        refine .inl ⟨DE cs m T lf (.val d) (.val (.lst (NLs []))) s6 s7 s8 s9, ?_, T, lf, _, _, _, _, _, _, rfl, I.done hp hm fun u hu => ?_⟩
        · refine (s_seq (q_set a1 rfl)).trans (s_seqB (q_ifT t1 rfl rfl))
        · have := I.lt u hu
          obtain ⟨o, ho⟩ : ∃ o, T[u]? = some o := ⟨_, List.getElem?_eq_getElem (by rw [I.len]; omega)⟩
          cases o with
          | none => exact ho
          | some v => exact absurd (kout u hu v ho) List.not_mem_nil
      | cons k0 kn =>
        obtain ⟨b, v, s7', e1, b1, b2, b3⟩ := min_ok (cs := cs) (m := m) (T := T) (lf := lf) (kn := k0 :: kn) (s4 := .val d) (s7 := s7) (s8 := s8) (s9 := s9) (k0 := k0) rfl (fun r hr => (kin r hr).2)
        have bl := (kin b b1).1
        obtain ⟨T', s8', s9', e2, S, S2⟩ := spread_ok (lf := lf.erase b) (s4 := .val d) (s5 := .val (.lst (NLs (k0 :: kn)))) (s7 := s7') (s8 := s8) (s9 := s9) hp hm I.len I.src b2
        refine .inr ⟨DE cs m T' (lf.erase b) (.val d) (.val (.lst (NLs (k0 :: kn)))) (.val (.int b)) s7' s8' s9', ?_, T', lf.erase b, .val d, .val (.lst (NLs (k0 :: kn))), .val (.int b), s7', s8', s9', rfl, I.turn hp hm bl b2 (fun u hu w hw => b3 u (kout u hu w hw) w hw) S S2, ?_⟩
        · refine (s_seq (q_set a1 rfl)).trans ?_
          refine (s_seq (q_ifF t1 rfl q_next)).trans ?_
          refine (s_seq (q_set (e_bin (e_V rfl) e_C rfl) rfl)).trans ?_
          refine (s_seq e1).trans ?_
          refine (s_seq (q_rem rfl (e_V rfl) bl rfl)).trans ?_
          exact e2
        · rw [List.length_erase_of_mem bl]
          have := List.length_pos_of_mem bl
          omega)
  obtain ⟨ρ', e1, h⟩ := lp (List.range m).length 0 (DE cs m (tb0 m) (List.range m) .no .no .no .no .no .no) (by rw [List.length_map]; omega) (Nat.zero_le _) ⟨_, _, _, _, _, _, _, _, rfl, Stl.start hm, by simp⟩
  have fin : ∃ T lf s4 s5 s6 s7 s8 s9, ρ' = DE cs m T lf s4 s5 s6 s7 s8 s9 ∧ LeastT cs m T := by
    rcases h with h | ⟨T, lf, s4, s5, s6, s7, s8, s9, e, I, hl⟩
    · exact h
    · rw [List.length_map, List.length_range] at hl
      have : lf = [] := List.length_eq_zero_iff.mp (by omega)
      subst this
      exact ⟨T, [], s4, s5, s6, s7, s8, s9, e, I.done hp hm fun u hu => absurd hu List.not_mem_nil⟩
  obtain ⟨T, lf, s4, s5, s6, s7, s8, s9, rfl, L⟩ := fin
  rw [List.drop_zero] at e1
  refine ⟨T, ?_, L⟩
  refine fn_rt rfl (ρ := [.val (LI cs), .val (.int m), .no, .no, .no, .no, .no, .no, .no, .no]) ?_
  unfold m_u_law_table
  refine q_seq (ρ' := [.val (LI cs), .val (.int m), .lst (List.replicate m .non), .no, .no, .no, .no, .no, .no, .no]) (q_setO (e_bin (e_lst (e_cons e_C e_Nil)) (e_V rfl) (rep_ok (by omega) (by omega))) (by rw [Int.toNat_natCast]; rfl)) ?_
  have h0 : (List.replicate m D.non).set 0 (.int 0) = (tb0 m).map od := by
    rw [tb0_map]
    obtain ⟨k, rfl⟩ : ∃ k, m = k + 1 := ⟨m - 1, by omega⟩
    rfl
  have hS : ixS (List.replicate m D.non).length 0 = some 0 := by
    rw [List.length_replicate]
    exact ixS_nat (k := 0) hm
  refine q_seq (ρ' := [.val (LI cs), .val (.int m), .lst ((tb0 m).map od), .no, .no, .no, .no, .no, .no, .no]) (q_put e_C rfl e_C hS (by rw [h0]; rfl)) ?_
  have hr := q_range (ρ := [.val (LI cs), .val (.int m), .lst ((tb0 m).map od), .no, .no, .no, .no, .no, .no, .no]) (m := mV 1) (n := (m : Int)) (e_V rfl) (by omega) (by omega)
  rw [Int.toNat_natCast] at hr
  have hr2 : mLrg1 (mV 1) [.val (LI cs), .val (.int m), .lst ((tb0 m).map od), .no, .no, .no, .no, .no, .no, .no] = .ok (.lst (NLs (List.range m))) := by
    unfold mLrg1
    rw [hr, R.bind_ok, if_pos (szOk_s (by simp; omega))]
  refine q_seq (ρ' := DE cs m (tb0 m) (List.range m) .no .no .no .no .no .no) (q_setO hr2 rfl) ?_
  have hr3 := q_range (ρ := DE cs m (tb0 m) (List.range m) .no .no .no .no .no .no) (m := mV 1) (n := (m : Int)) (e_V rfl) (by omega) (by omega)
  rw [Int.toNat_natCast] at hr3
  exact q_seq (q_for hr3 e1) (s_retO rfl)
end
end SL

-- QD_k02
set_option Elab.async false
set_option linter.all false
set_option maxRecDepth 100000
set_option maxHeartbeats 4000000
/-! QD: drawn lists of coins -/
namespace SL
open Fx G Sg
open PySem (Str)
--MACROS
local macro_rules | `(tactic| walk_at "eq") => `(tactic| first | exact rfl | assumption | (simp [isNon, isiB]; done) | (simp [isNon, isiB, *]; done) | skip)
local macro_rules | `(tactic| walk_at "bt") => `(tactic| first | rfl | assumption | exact decide_eq_true (by omega) | exact decide_eq_false (by omega) | (simp only [Bool.and_eq_true, Bool.or_eq_true, Bool.not_eq_true', Bool.not_eq_false', Bool.and_eq_false_iff, Bool.or_eq_false_iff, Bool.not_true, Bool.not_false, decide_eq_true_eq, decide_eq_false_iff_not, beq_iff_eq, beq_eq_false_iff_ne, ne_eq, isNon, isiB]; omega) | (simp [isNon, isiB]; done) | (simp [isNon, isiB]; omega) | (simp [isNon, isiB, *]; done))
local macro_rules | `(tactic| walk_at "op") => `(tactic| first | assumption | (with_reducible exact gAdd_i) | exact gI_i.trans kInt_i | exact gI_i.trans kBl_i | exact gEq_ii | exact gNe_ii | exact gI_i.trans (kMod_ok (by omega)) | exact gI_i.trans (kDiv_s (by omega) (by omega)) | exact gI_i.trans (kMul_s (by omega) (by omega) (by omega) (by omega)) | exact gIx_l.trans (by assumption) | exact gIx_t.trans (by assumption) | exact gEq_LI | exact rfl)
local macro_rules | `(tactic| walk_at "fn") => `(tactic| first | assumption | (solve_by_elim (maxDepth := 2)))
local macro_rules | `(tactic| walk_at "mv") => `(tactic| first | (with_reducible exact q_no) | ((with_reducible apply q_part); walk_at "ev"))
local macro_rules | `(tactic| walk_at "ev") => `(tactic| first | assumption | (with_reducible exact e_C) | (with_reducible exact e_Nil) | ((with_reducible apply e_V); exact rfl) | ((with_reducible apply e_O); exact rfl) | ((with_reducible apply e_cons); (· walk_at "ev"); (· walk_at "ev")) | ((with_reducible apply e_tup); walk_at "ev") | ((with_reducible apply e_lst); walk_at "ev") | ((with_reducible apply e_bin); (· walk_at "ev"); (· walk_at "ev"); (· walk_at "op")) | ((with_reducible apply e_call); (· walk_at "ev"); (· walk_at "op")) | ((with_reducible apply q_def); (· walk_at "ev"); (· walk_at "fn")) | ((with_reducible apply q_defL); (· walk_at "ev"); (· walk_at "fn"); (· exact rfl)) | ((with_reducible apply e_neg); walk_at "ev") | ((with_reducible apply e_lf); (· walk_at "ev"); (· exact rfl)) | ((with_reducible apply q_andV); (· walk_at "ev"); (· walk_at "ev")) | ((with_reducible apply q_orV); (· walk_at "ev"); (· walk_at "ev")) | ((with_reducible apply q_notV); walk_at "ev") | ((with_reducible apply q_isi); (· walk_at "ev"); (· exact rfl)) | ((with_reducible apply q_slL); (· walk_at "ev"); (· walk_at "mv"); (· walk_at "mv")) | ((with_reducible apply q_flat); (· walk_at "ev"); (· walk_at "bt")) | ((with_reducible apply q_defN); (· walk_at "ev"); (· walk_at "fn")) | ((with_reducible apply q_dx); (· exact rfl); (· walk_at "ev"); (· exact rfl); (· walk_at "bt")) | ((with_reducible apply q_mk); (· walk_at "ev"); (· walk_at "fn")))
local macro_rules | `(tactic| walk_at "tv") => `(tactic| first | assumption | ((with_reducible apply e_bool); walk_at "ev") | ((with_reducible apply q_andT); (· walk_at "tv"); (· walk_at "tv")) | ((with_reducible apply q_andF); (· walk_at "tv"); (· walk_at "bt")) | ((with_reducible apply q_orT); (· walk_at "tv"); (· walk_at "tv")) | ((with_reducible apply q_orF); (· walk_at "tv"); (· walk_at "bt")) | ((with_reducible apply e_not); walk_at "tv") | ((with_reducible apply e_tru); (· walk_at "ev"); (· exact rfl)))
local macro_rules | `(tactic| walk_at "sx") => `(tactic| (simp only [List.set_cons_succ, List.set_cons_zero, slOf]; try rfl))
local macro_rules | `(tactic| walk_at "s1") => `(tactic| first | assumption | (with_reducible exact q_next) | ((with_reducible apply q_set); (· walk_at "ev"); (· walk_at "sx")) | ((with_reducible apply q_setO); (· walk_at "ev"); (· walk_at "sx")) | ((with_reducible apply q_setN); (· walk_at "ev"); (· walk_at "sx")) | ((with_reducible apply q_app); (· walk_at "ev"); (· exact rfl); (· (try simp only [List.length_map, List.length_append, List.length_cons, List.length_nil]); omega); (· walk_at "sx")) | ((with_reducible apply q_frz); (· exact rfl); (· walk_at "sx")) | ((with_reducible apply q_drop); walk_at "ev") | ((with_reducible apply q_ret); (· walk_at "ev"); (· walk_at "eq")) | ((with_reducible apply s_retO); exact rfl) | ((with_reducible apply q_ifT); (· walk_at "tv"); (· walk_at "bt"); (· walk_at "st")) | ((with_reducible apply q_ifF); (· walk_at "tv"); (· walk_at "bt"); (· walk_at "st")))
local macro_rules | `(tactic| walk_at "st") => `(tactic| first | ((with_reducible apply q_seq); (· walk_at "s1"); (walk_at "st")) | ((with_reducible apply s_seqR); (· walk_at "s1")) | walk_at "s1" | skip)
--END MACROS
section
variable {K : R D → Prop} {n : Int}
/-- a drawn list: coins from 1 to 14 -/
structure SmallL (l : List Int) : Prop where
  l0 : 1 ≤ l.length
  l1 : l.length ≤ 5
  b : ∀ c ∈ l, 1 ≤ c ∧ c ≤ 14
/-- a drawn list of great coins -/
structure GreatL (l : List Int) : Prop where
  l0 : 2 ≤ l.length
  l1 : l.length ≤ 6
  b : ∀ c ∈ l, 1 ≤ c ∧ c ≤ 10 ^ 12
  c0 : ∃ c, l[0]? = some c ∧ c ≤ 64
  c1 : ∃ c, l[1]? = some c ∧ c ≤ 400
abbrev baseD : D := .lst [.int 3, .int 5, .int 8, .int 11, .int 1]
theorem base_at {k : Nat} (h : k < 5) : ∃ v : Int, 0 ≤ v ∧ v ≤ 11 ∧ ixL [.int 3, .int 5, .int 8, .int 11, .int 1] (k : Int) = some (.int v) := by
  rw [ixL_nat]
  match k, h with
  | 0, _ => exact ⟨3, by omega, by omega, rfl⟩
  | 1, _ => exact ⟨5, by omega, by omega, rfl⟩
  | 2, _ => exact ⟨8, by omega, by omega, rfl⟩
  | 3, _ => exact ⟨11, by omega, by omega, rfl⟩
  | 4, _ => exact ⟨1, by omega, by omega, rfl⟩
  | k + 5, h => exact absurd h (by omega)
abbrev bList : MSw := wApp 4 (wBin gAdd (wE (mC (.int 1))) (wBin (gI kMod) (wBin gAdd (wBin gAdd (wDraw (mV 0) (mC (.int 14))) (wE (mBin gIx (mV 2) (mV 5)))) (wE (mV 1))) (wE (mC (.int 14)))))
theorem law_list_ok {sh : Int} (h : ∀ l, SmallL l → K (.ok (LI l))) : mw_u_law_list [.pool, .int sh] K := by
  show m_u_law_list [.val .pool, .val (.int sh), .no, .no, .no, .no] (fun o => K (o.res .val))
  unfold m_u_law_list
  refine w_S (ρ' := [.val .pool, .val (.int sh), .val baseD, .no, .no, .no]) (q_set (e_lst (e_cons e_C (e_cons e_C (e_cons e_C (e_cons e_C (e_cons e_C e_Nil)))))) rfl) ?_
  refine w_set (w_bin (w_E e_C (w_bin (w_bin (w_draw (e_V rfl) e_C (by omega) (by omega) fun x x0 x1 => w_E e_C ⟨_, gAdd_i, w_E e_C ⟨_, gI_i.trans (kMod_ok (by omega)), ⟨_, gAdd_i, ?_⟩⟩⟩)))))
  generalize hs : 1 + (x + 2) % 5 = size
  have s0 : 1 ≤ size := by omega
  have s1 : size ≤ 5 := by omega
  show (wSeq (wS (mSetO 4 (mLst mNil))) _) [.val .pool, .val (.int sh), .val baseD, .val (.int size), .no, .no] _
  refine w_S (ρ' := [.val .pool, .val (.int sh), .val baseD, .val (.int size), .lst [], .no]) (q_setO (e_lst e_Nil) rfl) ?_
  refine w_seq (w_for (q_range (n := size) (e_V rfl) (by omega) (by omega)) ?_)
  refine forW_all0 (I := fun k ρ => ∃ (l : List Int) (s5 : Sl), ρ = [.val .pool, .val (.int sh), .val baseD, .val (.int size), .lst (l.map .int), s5] ∧ l.length = k ∧ ∀ c ∈ l, 1 ≤ c ∧ c ≤ 14) (mono_app (mono_bin mono_E (mono_bin (mono_bin (mono_bin mono_draw mono_E) mono_E) mono_E))) ⟨[], .no, rfl, rfl, fun c hc => absurd hc List.not_mem_nil⟩ ?_ ?_
  · rintro k ρ d ⟨l, s5, rfl, hl, hb⟩ hd
    rw [List.getElem?_map] at hd
    obtain ⟨j, hj, rfl⟩ := Option.map_eq_some_iff.mp hd
    obtain ⟨hj1, hj2⟩ := List.getElem?_eq_some_iff.mp hj
    rw [List.getElem_range] at hj2
    rw [List.length_range] at hj1
    subst hj2
    obtain ⟨v, v0, v1, hv⟩ := base_at (k := k) (by omega)
    refine ⟨_, rfl, ?_⟩
    refine w_app1 (ds := l.map .int) rfl (by rw [List.length_map]; omega) ?_ (mono_bin mono_E (mono_bin (mono_bin (mono_bin mono_draw mono_E) mono_E) mono_E))
    refine w_bin (w_E e_C (w_bin (w_bin (w_bin (w_draw (e_V rfl) e_C (by omega) (by omega) fun x x0 x1 => w_E (e_bin (e_V rfl) (e_V rfl) (gIx_l.trans hv)) ⟨_, gAdd_i, w_E (e_V rfl) ⟨_, gAdd_i, w_E e_C ⟨_, gI_i.trans (kMod_ok (by omega)), ⟨_, gAdd_i, ?_⟩⟩⟩⟩)))))
    refine ⟨_, rfl, l ++ [1 + (x + v + sh) % 14], .val (.int k), ?_, by simp [hl], fun c hc => ?_⟩
    · rw [List.map_append]; rfl
    · rcases List.mem_append.mp hc with hc | hc
      · exact hb c hc
      · rw [List.mem_singleton] at hc
        omega
  · rintro ρ ⟨l, s5, rfl, hl, hb⟩
    rw [List.length_map, List.length_range] at hl
    exact h l ⟨by omega, by omega, hb⟩
theorem pow12 : gI kPow (.int 10) (.int 12) = some (.int 1000000000000) := by kernel_rfl
theorem pow6 : gI kPow (.int 10) (.int 6) = some (.int 1000000) := by kernel_rfl
theorem pow40 : gI kPow (.int 10) (.int 40) = some (.int 10000000000000000000000000000000000000000) := by kernel_rfl
abbrev bGreat : MSw := wSeq (wSet 6 (wBin gAdd (wBin gAdd (wDraw (mV 0) (mV 2)) (wE (mBin (gI kPow) (mC (.int 10)) (mC (.int 6))))) (wE (mBin (gI kMul) (mC (.int 7919)) (mV 5)))))
  (wS (mApp 4 (mBin (gI kMul) (mV 1) (mBin gAdd (mC (.int 1)) (mBin (gI kMod) (mV 6) (mV 2))))))
theorem law_great_ok (h : ∀ l, GreatL l → K (.ok (LI l))) : mw_u_law_great [.pool] K := by
  show m_u_law_great [.val .pool, .no, .no, .no, .no, .no, .no] (fun o => K (o.res .val))
  unfold m_u_law_great
  refine w_set (w_bin (w_E e_C (w_draw (e_V rfl) e_C (by omega) (by omega) fun x x0 x1 => ⟨_, gAdd_i, ?_⟩)))
  generalize hs : 1 + x = f
  have f0 : 1 ≤ f := by omega
  have f1 : f ≤ 4 := by omega
  show (wSeq (wS (mSet 2 (mBin (gI kDiv) (mBin (gI kPow) (mC (.int 10)) (mC (.int 12))) (mV 1)))) _) [.val .pool, .val (.int f), .no, .no, .no, .no, .no] _
  refine w_S (ρ' := [.val .pool, .val (.int f), .val (.int (1000000000000 / f)), .no, .no, .no, .no]) (q_set (e_bin (e_bin e_C e_C pow12) (e_V rfl) (gI_i.trans (kDiv_s (by omega) (by omega)))) rfl) ?_
  have hh1 : f * (1000000000000 / f) ≤ 1000000000000 := Int.mul_ediv_self_le (by omega)
  have hh0 : 250000000000 ≤ 1000000000000 / f := by
    rw [Int.le_ediv_iff_mul_le (by omega)]
    omega
  generalize hq : 1000000000000 / f = high at hh0 hh1
  refine w_set (w_bin (w_E e_C (w_draw (e_V rfl) e_C (by omega) (by omega) fun y y0 y1 => ⟨_, gAdd_i, ?_⟩)))
  generalize hz : 2 + y = size
  have z0 : 2 ≤ size := by omega
  have z1 : size ≤ 6 := by omega
  have high1 : high ≤ 10 ^ 12 := by
    have : 1 * high ≤ f * high := Int.mul_le_mul_of_nonneg_right f0 (by omega)
    omega
  refine w_setO ?_
  show wLst _ [.val .pool, .val (.int f), .val (.int high), .val (.int size), .no, .no, .no] _
  show wBin _ _ _ [.val .pool, .val (.int f), .val (.int high), .val (.int size), .no, .no, .no] _
  have m1 : ∀ r : Int, 0 ≤ r → r ≤ 10 ^ 13 → kMul f r = some (.int (f * r)) := fun r h1 h2 => kMul_s (by omega) (by omega) (by omega) (by omega)
  refine w_bin (w_E (e_V rfl) (w_bin (w_E e_C (w_bin (w_bin (w_draw (e_V rfl) e_C (by omega) (by omega) fun u u0 u1 => w_E e_C ⟨_, gAdd_i, w_E e_C ⟨_, gI_i.trans (kMod_ok (by omega)), ⟨_, gAdd_i, ⟨_, gI_i.trans (m1 _ (by omega) (by omega)), ?_⟩⟩⟩⟩))))))
  generalize hc0 : f * (1 + (u + 10) % 16) = a0
  have a0l : 1 ≤ a0 := by
    have : 1 * 1 ≤ f * (1 + (u + 10) % 16) := Int.mul_le_mul f0 (by omega) (by omega) (by omega)
    omega
  have a0h : a0 ≤ 64 := by
    have : f * (1 + (u + 10) % 16) ≤ 4 * 16 := Int.mul_le_mul f1 (by omega) (by omega) (by omega)
    omega
  show (wSeq (wApp 4 _) _) [.val .pool, .val (.int f), .val (.int high), .val (.int size), .lst [.int a0], .no, .no] _
  refine w_app (ds := [.int a0]) rfl (by simp) ?_ (mono_bin mono_E (mono_bin mono_E (mono_bin (mono_bin mono_draw mono_E) mono_E)))
  refine w_bin (w_E (e_V rfl) (w_bin (w_E e_C (w_bin (w_bin (w_draw (e_V rfl) e_C (by omega) (by omega) fun u u0 u1 => w_E e_C ⟨_, gAdd_i, w_E e_C ⟨_, gI_i.trans (kMod_ok (by omega)), ⟨_, gAdd_i, ⟨_, gI_i.trans (m1 _ (by omega) (by omega)), ?_⟩⟩⟩⟩))))))
  generalize hc1 : f * (1 + (u + 46) % 100) = a1
  have a1l : 1 ≤ a1 := by
    have : 1 * 1 ≤ f * (1 + (u + 46) % 100) := Int.mul_le_mul f0 (by omega) (by omega) (by omega)
    omega
  have a1h : a1 ≤ 400 := by
    have : f * (1 + (u + 46) % 100) ≤ 4 * 100 := Int.mul_le_mul f1 (by omega) (by omega) (by omega)
    omega
  show (wSeq (wFor _ _ bGreat) _) [.val .pool, .val (.int f), .val (.int high), .val (.int size), .lst [.int a0, .int a1], .no, .no] _
  refine w_seq (w_for (q_range (n := size - 2) (e_bin (e_V rfl) e_C (gI_i.trans kInt_i)) (by omega) (by omega)) ?_)
  refine forW_all0 (I := fun k ρ => ∃ (l : List Int) (s5 s6 : Sl), ρ = [.val .pool, .val (.int f), .val (.int high), .val (.int size), .lst ((a0 :: a1 :: l).map .int), s5, s6] ∧ l.length = k ∧ ∀ c ∈ l, 1 ≤ c ∧ c ≤ 10 ^ 12) (mono_seq (mono_set (mono_bin (mono_bin mono_draw mono_E) mono_E)) mono_S) ⟨[], .no, .no, rfl, rfl, fun c hc => absurd hc List.not_mem_nil⟩ ?_ ?_
  · rintro k ρ d ⟨l, s5, s6, rfl, hl, hb⟩ hd
    rw [List.getElem?_map] at hd
    obtain ⟨j, hj, rfl⟩ := Option.map_eq_some_iff.mp hd
    obtain ⟨hj1, hj2⟩ := List.getElem?_eq_some_iff.mp hj
    rw [List.getElem_range] at hj2
    rw [List.length_range] at hj1
    subst hj2
    refine ⟨_, rfl, ?_⟩
    refine w_set (w_bin (w_bin (w_draw (e_V rfl) (e_V rfl) (by omega) (by omega) fun u u0 u1 => w_E (e_bin e_C e_C pow6) ⟨_, gAdd_i, w_E (e_bin e_C (e_V rfl) (gI_i.trans (kMul_s (by omega) (by omega) (by omega) (by omega)))) ⟨_, gAdd_i, ?_⟩⟩)))
    generalize u + 1000000 + 7919 * (k : Int) = v
    have v0 := Int.emod_nonneg v (show high ≠ 0 by omega)
    have v1 := Int.emod_lt_of_pos v (show 0 < high by omega)
    have w0 : 1 * 1 ≤ f * (1 + v % high) := Int.mul_le_mul f0 (by omega) (by omega) (by omega)
    have w1 : f * (1 + v % high) ≤ f * high := Int.mul_le_mul_of_nonneg_left (by omega) (by omega)
    refine w_S0 (q_app (ds := (a0 :: a1 :: l).map .int) (d := .int (f * (1 + v % high))) (e_bin (e_V rfl) (e_bin e_C (e_bin (e_V rfl) (e_V rfl) (gI_i.trans (kMod_ok (by omega)))) gAdd_i) (gI_i.trans (m1 _ (by omega) (by omega)))) rfl (by simp; omega) rfl) ?_
    refine ⟨_, rfl, l ++ [f * (1 + v % high)], .val (.int k), .val (.int v), ?_, by simp [hl], fun c hc => ?_⟩
    · simp
    · rcases List.mem_append.mp hc with hc | hc
      · exact hb c hc
      · rw [List.mem_singleton] at hc
        omega
  · rintro ρ ⟨l, s5, s6, rfl, hl, hb⟩
    rw [List.length_map, List.length_range] at hl
    refine h (a0 :: a1 :: l) ⟨by simp, by simp; omega, fun c hc => ?_, ⟨a0, rfl, a0h⟩, ⟨a1, rfl, a1h⟩⟩
    rcases List.mem_cons.mp hc with rfl | hc
    · omega
    · rcases List.mem_cons.mp hc with rfl | hc
      · omega
      · exact hb c hc
end
end SL

-- P02a
set_option Elab.async false
set_option linter.all false
set_option maxRecDepth 100000
set_option maxHeartbeats 4000000
/-! P02a: what is asked, what is refused, one entry. -/
namespace SL
open Fx G Sg
open PySem (Str)
--MACROS
local macro_rules | `(tactic| walk_at "eq") => `(tactic| first | exact rfl | assumption | (simp [isNon, isiB]; done) | (simp [isNon, isiB, *]; done) | skip)
local macro_rules | `(tactic| walk_at "bt") => `(tactic| first | rfl | assumption | exact decide_eq_true (by omega) | exact decide_eq_false (by omega) | (simp only [Bool.and_eq_true, Bool.or_eq_true, Bool.not_eq_true', Bool.not_eq_false', Bool.and_eq_false_iff, Bool.or_eq_false_iff, Bool.not_true, Bool.not_false, decide_eq_true_eq, decide_eq_false_iff_not, beq_iff_eq, beq_eq_false_iff_ne, ne_eq, isNon, isiB]; omega) | (simp [isNon, isiB]; done) | (simp [isNon, isiB]; omega) | (simp [isNon, isiB, *]; done))
local macro_rules | `(tactic| walk_at "op") => `(tactic| first | assumption | (with_reducible exact gAdd_i) | exact gI_i.trans kInt_i | exact gI_i.trans kBl_i | exact gEq_ii | exact gNe_ii | exact gI_i.trans (kMod_ok (by omega)) | exact gI_i.trans (kDiv_s (by omega) (by omega)) | exact gI_i.trans (kMul_s (by omega) (by omega) (by omega) (by omega)) | exact gIx_l.trans (by assumption) | exact gIx_t.trans (by assumption) | exact gEq_LI | exact rfl)
local macro_rules | `(tactic| walk_at "fn") => `(tactic| first | assumption | (solve_by_elim (maxDepth := 2)))
local macro_rules | `(tactic| walk_at "mv") => `(tactic| first | (with_reducible exact q_no) | ((with_reducible apply q_part); walk_at "ev"))
local macro_rules | `(tactic| walk_at "ev") => `(tactic| first | assumption | (with_reducible exact e_C) | (with_reducible exact e_Nil) | ((with_reducible apply e_V); exact rfl) | ((with_reducible apply e_O); exact rfl) | ((with_reducible apply e_cons); (· walk_at "ev"); (· walk_at "ev")) | ((with_reducible apply e_tup); walk_at "ev") | ((with_reducible apply e_lst); walk_at "ev") | ((with_reducible apply e_bin); (· walk_at "ev"); (· walk_at "ev"); (· walk_at "op")) | ((with_reducible apply e_call); (· walk_at "ev"); (· walk_at "op")) | ((with_reducible apply q_def); (· walk_at "ev"); (· walk_at "fn")) | ((with_reducible apply q_defL); (· walk_at "ev"); (· walk_at "fn"); (· exact rfl)) | ((with_reducible apply e_neg); walk_at "ev") | ((with_reducible apply e_lf); (· walk_at "ev"); (· exact rfl)) | ((with_reducible apply q_andV); (· walk_at "ev"); (· walk_at "ev")) | ((with_reducible apply q_orV); (· walk_at "ev"); (· walk_at "ev")) | ((with_reducible apply q_notV); walk_at "ev") | ((with_reducible apply q_isi); (· walk_at "ev"); (· exact rfl)) | ((with_reducible apply q_slL); (· walk_at "ev"); (· walk_at "mv"); (· walk_at "mv")) | ((with_reducible apply q_flat); (· walk_at "ev"); (· walk_at "bt")) | ((with_reducible apply q_defN); (· walk_at "ev"); (· walk_at "fn")) | ((with_reducible apply q_dx); (· exact rfl); (· walk_at "ev"); (· exact rfl); (· walk_at "bt")) | ((with_reducible apply q_mk); (· walk_at "ev"); (· walk_at "fn")))
local macro_rules | `(tactic| walk_at "tv") => `(tactic| first | assumption | ((with_reducible apply e_bool); walk_at "ev") | ((with_reducible apply q_andT); (· walk_at "tv"); (· walk_at "tv")) | ((with_reducible apply q_andF); (· walk_at "tv"); (· walk_at "bt")) | ((with_reducible apply q_orT); (· walk_at "tv"); (· walk_at "tv")) | ((with_reducible apply q_orF); (· walk_at "tv"); (· walk_at "bt")) | ((with_reducible apply e_not); walk_at "tv") | ((with_reducible apply e_tru); (· walk_at "ev"); (· exact rfl)))
local macro_rules | `(tactic| walk_at "sx") => `(tactic| (simp only [List.set_cons_succ, List.set_cons_zero, slOf]; try rfl))
local macro_rules | `(tactic| walk_at "s1") => `(tactic| first | assumption | (with_reducible exact q_next) | ((with_reducible apply q_set); (· walk_at "ev"); (· walk_at "sx")) | ((with_reducible apply q_setO); (· walk_at "ev"); (· walk_at "sx")) | ((with_reducible apply q_setN); (· walk_at "ev"); (· walk_at "sx")) | ((with_reducible apply q_app); (· walk_at "ev"); (· exact rfl); (· (try simp only [List.length_map, List.length_append, List.length_cons, List.length_nil]); omega); (· walk_at "sx")) | ((with_reducible apply q_frz); (· exact rfl); (· walk_at "sx")) | ((with_reducible apply q_drop); walk_at "ev") | ((with_reducible apply q_ret); (· walk_at "ev"); (· walk_at "eq")) | ((with_reducible apply s_retO); exact rfl) | ((with_reducible apply q_ifT); (· walk_at "tv"); (· walk_at "bt"); (· walk_at "st")) | ((with_reducible apply q_ifF); (· walk_at "tv"); (· walk_at "bt"); (· walk_at "st")))
local macro_rules | `(tactic| walk_at "st") => `(tactic| first | ((with_reducible apply q_seq); (· walk_at "s1"); (walk_at "st")) | ((with_reducible apply s_seqR); (· walk_at "s1")) | walk_at "s1" | skip)
--END MACROS
section
variable {cs ns : List Int} {m : Nat} {T : Tb} {d : D} {ρ : Env} {me : ME} {n : Int}
theorem law_error_nm : mx_u_law_error (nmX n) = .ok (nmT n) := by kernel_rfl
theorem gN_mm : gNe (.str "not made") (.str "not made") = some (.bl false) := by kernel_rfl
theorem law_told_nm : mf_u_law_told [nmT n, nmT n] = .ok (.bl true) := by
  refine fn_rt rfl (ρ := [.val (nmT n), .val (nmT n)]) ?_
  unfold m_u_law_told
  have h := law_int_i (a := n)
  refine q_seq (q_ifF (b := (isNon (nmT n) || false)) (q_orT (e_bool (e_bin (e_V rfl) e_C rfl)) (e_bool (e_bin (e_bin (e_V rfl) e_C rfl) (e_bin (e_V rfl) e_C rfl) gN_mm))) rfl q_next) ?_
  refine q_ret (q_andV (q_def (e_cons (e_bin (e_V rfl) e_C rfl) e_Nil) h) (e_bin (e_bin (e_V rfl) e_C rfl) (e_bin (e_V rfl) e_C rfl) gEq_ii)) ?_
  simp
theorem nms_nm : nms.contains (nmX n).c = true := by kernel_rfl
theorem lfs_od : ∀ (T : Tb), lfs (T.map od) = true
  | [] => rfl
  | none :: T => lfs_od T
  | some v :: T => lfs_od T
theorem lf_TO {T : Tb} : lf (TO T) = true := lfs_od T
theorem ask_ok {M : Nat} {T' : Tb} (e1 : mf_rest_table [d, .int M] = .ok (TO T')) : mf_u_law_ask [d, .int M] = .ok (okA (TO T')) := by
  refine fn_rtO rfl (ρ := [.val d, .val (.int M), .no]) ?_
  refine q_tryRt ?_
  exact s_ret (e_lst (e_cons (e_lf (q_def (e_cons (e_V rfl) (e_cons (e_V rfl) e_Nil)) e1) lf_TO) (e_cons (e_lf e_C rfl) e_Nil)))
theorem ask_errX {x : Exn} {t : D} (hx : nms.contains x.c = true) (ht : mx_u_law_error x = .ok t) (hl : lf t = true) (hd : noE (.val d) = .val d) (e1 : mf_rest_table [d, .int n] = .err x) : mf_u_law_ask [d, .int n] = .ok (.lst [.non, t]) := by
  refine fn_rtO rfl (ρ := [.val d, .val (.int n), .no]) ?_
  refine q_tryX (ρ' := [.val d, .val (.int n), .no]) (e := x) ?_ hx ?_
  · refine s_retE ?_
    unfold mLst mCons mLf mDef
    show (((mf_rest_table [d, .int n]).bind _).bind _).bind _ = _
    rw [e1]
    rfl
  · exact s_ret (e_lst (e_cons (e_lf e_C rfl) (e_cons (e_lf (d := t) (q_defX rfl ht) hl) e_Nil)))
theorem e_minL {ρ : Env} {l : List Int} {M : Int} (h : me ρ = .ok (LI l)) (hM : minI l = some M) : mCall gMinL (mCons me mNil) ρ = .ok (.int M) :=
  e_call (e_cons h e_Nil) (by
    show (intsOf _).bind _ = _
    rw [intsOf_map]
    show (minI l).map _ = _
    rw [hM]; rfl)
theorem e_maxL {ρ : Env} {l : List Int} {M : Int} (h : me ρ = .ok (LI l)) (hM : maxI l = some M) : mCall gMaxL (mCons me mNil) ρ = .ok (.int M) :=
  e_call (e_cons h e_Nil) (by
    show (intsOf _).bind _ = _
    rw [intsOf_map]
    show (maxI l).map _ = _
    rw [hM]; rfl)
/-- the coins of a law -/
structure Coins (ns : List Int) (a : Nat) : Prop where
  hp : Pos ns
  mn : minI ns = some (a : Int)
  a1 : a ≤ 64
theorem Coins.mem {a : Nat} (C : Coins ns a) : (a : Int) ∈ ns := (minI_spec C.mn).1
theorem Coins.pos {a : Nat} (C : Coins ns a) : 0 < a := by have := C.hp _ C.mem; omega
theorem coins_of (hb : ∀ c ∈ ns, 1 ≤ c) (hc : ∃ c ∈ ns, c ≤ 64) : ∃ a : Nat, Coins ns a := by
  obtain ⟨c, c1, c2⟩ := hc
  obtain ⟨v, hv⟩ : ∃ v, minI ns = some v := by
    cases ns with
    | nil => cases c1
    | cons x l => exact ⟨_, rfl⟩
  obtain ⟨h1, h2⟩ := minI_spec hv
  have := hb v h1
  have := h2 c c1
  exact ⟨v.toNat, fun c hc => by have := hb c hc; omega, by rw [hv, Int.toNat_of_nonneg (by omega)], by omega⟩
theorem refusal_num (h : n < 1 ∨ 400 < n) : mf_u_law_refusal [LI ns, .int n] = .ok (numT n) := by
  refine fn_rt rfl (ρ := [.val (LI ns), .val (.int n), .no, .no]) ?_
  unfold m_u_law_refusal
  have t : mOr (mBool (mBin (gI (kBl fun i j => decide (i < j))) (mV 1) (mC (.int 1)))) (mBool (mBin (gI (kBl fun i j => decide (j < i))) (mV 1) (mC (.int 400)))) [.val (LI ns), .val (.int n), .no, .no] = .ok (decide (n < 1) || decide (400 < n)) := by walk_at "tv"
  exact s_seqR (q_ifT t (by simpa using h) (s_ret (e_tup (e_cons e_C (e_cons (e_V rfl) e_Nil)))))
theorem refusal_at {a : Nat} (C : Coins ns a) (h0 : 1 ≤ n) (h1 : n ≤ 400) : mf_u_law_refusal [LI ns, .int n] = .ok (.non) ∧ Made ns n ∨ mf_u_law_refusal [LI ns, .int n] = .ok (nmT n) ∧ ¬ Made ns n := by
  have a0 := C.pos
  have a1 := C.a1
  obtain ⟨T, e1, I⟩ := law_table_ok (cs := ns) (m := a) C.hp C.pos (by omega)
  have hmd := least_made I C.hp C.mem C.pos n
  have hx := tb_ix I.len C.pos n
  have t : mOr (mBool (mBin (gI (kBl fun i j => decide (i < j))) (mV 1) (mC (.int 1)))) (mBool (mBin (gI (kBl fun i j => decide (j < i))) (mV 1) (mC (.int 400)))) [.val (LI ns), .val (.int n), .no, .no] = .ok (decide (n < 1) || decide (400 < n)) := q_orT (e_bool (e_bin (e_V rfl) e_C (gI_i.trans kBl_i))) (e_bool (e_bin (e_V rfl) e_C (gI_i.trans kBl_i)))
  have tf : (decide (n < 1) || decide (400 < n)) = false := by simp; omega
  have r0 := Int.emod_nonneg n (show (a : Int) ≠ 0 by omega)
  have run : ∀ r : D, mSeq (mIte (mOr (mBool (mBin gIsN (mV 3) (mC .non))) (mBool (mBin (gI (kBl fun i j => decide (j < i))) (mV 3) (mV 1)))) (mRet (mTup (mCons (mC (.str "not made")) (mCons (mV 1) mNil)))) mNext) (mRet (mC .non)) [.val (LI ns), .val (.int n), .val (.int a), .val (od (T.getD (n % a).toNat none))] = .rt r → mf_u_law_refusal [LI ns, .int n] = .ok r := by
    intro r hr
    refine fn_rt rfl (ρ := [.val (LI ns), .val (.int n), .no, .no]) ?_
    unfold m_u_law_refusal
    refine q_seq (q_ifF t tf q_next) ?_
    refine q_seq (q_set (e_minL (e_V rfl) C.mn) rfl) ?_
    refine q_seq (q_set (e_bin (q_def (e_cons (e_V rfl) (e_cons (e_V rfl) e_Nil)) e1) (e_bin (e_V rfl) (e_V rfl) (gI_i.trans (kMod_ok (by omega)))) (gIx_l.trans (od_at r0 hx))) rfl) ?_
    exact hr
  unfold tmk at hmd
  revert run hmd
  generalize T.getD (n % a).toNat none = o
  intro hmd run
  cases o with
  | none =>
    refine .inr ⟨run _ (s_seqR (q_ifT (q_orF (e_bool (e_bin (e_V rfl) e_C rfl)) rfl) rfl (s_ret (e_tup (e_cons e_C (e_cons (e_V rfl) e_Nil)))))), fun h => ?_⟩
    exact absurd (hmd.mp h) Bool.false_ne_true
  | some v =>
    have t2 : mOr (mBool (mBin gIsN (mV 3) (mC .non))) (mBool (mBin (gI (kBl fun i j => decide (j < i))) (mV 3) (mV 1))) [.val (LI ns), .val (.int n), .val (.int a), .val (.int v)] = .ok (false || decide (n < v)) :=
      q_orT (e_bool (e_bin (e_V rfl) e_C rfl)) (e_bool (e_bin (e_V rfl) (e_V rfl) (gI_i.trans kBl_i)))
    by_cases q : v ≤ n
    · exact .inl ⟨run _ (q_seq (q_ifF t2 (by simp; omega) q_next) (s_ret e_C)), hmd.mpr (decide_eq_true q)⟩
    · exact .inr ⟨run _ (s_seqR (q_ifT t2 (by simp; omega) (s_ret (e_tup (e_cons e_C (e_cons (e_V rfl) e_Nil)))))), fun h => q (of_decide_eq_true (hmd.mp h))⟩
theorem entry_ok {o : Option Int} : mf_u_law_entry [od o, od o] = .ok (.bl true) := by
  refine fn_rt rfl (ρ := [.val (od o), .val (od o)]) ?_
  unfold m_u_law_entry
  cases o with
  | none => exact s_seqR (q_ifT (e_bool (e_bin (e_V rfl) e_C rfl)) rfl (s_ret (e_bin (e_V rfl) e_C rfl)))
  | some v =>
    have h := law_int_i (a := v)
    refine q_seq (q_ifF (e_bool (e_bin (e_V rfl) e_C rfl)) rfl q_next) ?_
    refine q_ret (q_andV (q_def (e_cons (e_V rfl) e_Nil) h) (e_bin (e_V rfl) (e_V rfl) gEq_ii)) ?_
    simp
end
end SL

-- P02b
set_option Elab.async false
set_option linter.all false
set_option maxRecDepth 100000
set_option maxHeartbeats 4000000
/-! P02b: the law's own entries. -/
namespace SL
open Fx G Sg
open PySem (Str)
--MACROS
local macro_rules | `(tactic| walk_at "eq") => `(tactic| first | exact rfl | assumption | (simp [isNon, isiB]; done) | (simp [isNon, isiB, *]; done) | skip)
local macro_rules | `(tactic| walk_at "bt") => `(tactic| first | rfl | assumption | exact decide_eq_true (by omega) | exact decide_eq_false (by omega) | (simp only [Bool.and_eq_true, Bool.or_eq_true, Bool.not_eq_true', Bool.not_eq_false', Bool.and_eq_false_iff, Bool.or_eq_false_iff, Bool.not_true, Bool.not_false, decide_eq_true_eq, decide_eq_false_iff_not, beq_iff_eq, beq_eq_false_iff_ne, ne_eq, isNon, isiB]; omega) | (simp [isNon, isiB]; done) | (simp [isNon, isiB]; omega) | (simp [isNon, isiB, *]; done))
local macro_rules | `(tactic| walk_at "op") => `(tactic| first | assumption | (with_reducible exact gAdd_i) | exact gI_i.trans kInt_i | exact gI_i.trans kBl_i | exact gEq_ii | exact gNe_ii | exact gI_i.trans (kMod_ok (by omega)) | exact gI_i.trans (kDiv_s (by omega) (by omega)) | exact gI_i.trans (kMul_s (by omega) (by omega) (by omega) (by omega)) | exact gIx_l.trans (by assumption) | exact gIx_t.trans (by assumption) | exact gEq_LI | exact rfl)
local macro_rules | `(tactic| walk_at "fn") => `(tactic| first | assumption | (solve_by_elim (maxDepth := 2)))
local macro_rules | `(tactic| walk_at "mv") => `(tactic| first | (with_reducible exact q_no) | ((with_reducible apply q_part); walk_at "ev"))
local macro_rules | `(tactic| walk_at "ev") => `(tactic| first | assumption | (with_reducible exact e_C) | (with_reducible exact e_Nil) | ((with_reducible apply e_V); exact rfl) | ((with_reducible apply e_O); exact rfl) | ((with_reducible apply e_cons); (· walk_at "ev"); (· walk_at "ev")) | ((with_reducible apply e_tup); walk_at "ev") | ((with_reducible apply e_lst); walk_at "ev") | ((with_reducible apply e_bin); (· walk_at "ev"); (· walk_at "ev"); (· walk_at "op")) | ((with_reducible apply e_call); (· walk_at "ev"); (· walk_at "op")) | ((with_reducible apply q_def); (· walk_at "ev"); (· walk_at "fn")) | ((with_reducible apply q_defL); (· walk_at "ev"); (· walk_at "fn"); (· exact rfl)) | ((with_reducible apply e_neg); walk_at "ev") | ((with_reducible apply e_lf); (· walk_at "ev"); (· exact rfl)) | ((with_reducible apply q_andV); (· walk_at "ev"); (· walk_at "ev")) | ((with_reducible apply q_orV); (· walk_at "ev"); (· walk_at "ev")) | ((with_reducible apply q_notV); walk_at "ev") | ((with_reducible apply q_isi); (· walk_at "ev"); (· exact rfl)) | ((with_reducible apply q_slL); (· walk_at "ev"); (· walk_at "mv"); (· walk_at "mv")) | ((with_reducible apply q_flat); (· walk_at "ev"); (· walk_at "bt")) | ((with_reducible apply q_defN); (· walk_at "ev"); (· walk_at "fn")) | ((with_reducible apply q_dx); (· exact rfl); (· walk_at "ev"); (· exact rfl); (· walk_at "bt")) | ((with_reducible apply q_mk); (· walk_at "ev"); (· walk_at "fn")))
local macro_rules | `(tactic| walk_at "tv") => `(tactic| first | assumption | ((with_reducible apply e_bool); walk_at "ev") | ((with_reducible apply q_andT); (· walk_at "tv"); (· walk_at "tv")) | ((with_reducible apply q_andF); (· walk_at "tv"); (· walk_at "bt")) | ((with_reducible apply q_orT); (· walk_at "tv"); (· walk_at "tv")) | ((with_reducible apply q_orF); (· walk_at "tv"); (· walk_at "bt")) | ((with_reducible apply e_not); walk_at "tv") | ((with_reducible apply e_tru); (· walk_at "ev"); (· exact rfl)))
local macro_rules | `(tactic| walk_at "sx") => `(tactic| (simp only [List.set_cons_succ, List.set_cons_zero, slOf]; try rfl))
local macro_rules | `(tactic| walk_at "s1") => `(tactic| first | assumption | (with_reducible exact q_next) | ((with_reducible apply q_set); (· walk_at "ev"); (· walk_at "sx")) | ((with_reducible apply q_setO); (· walk_at "ev"); (· walk_at "sx")) | ((with_reducible apply q_setN); (· walk_at "ev"); (· walk_at "sx")) | ((with_reducible apply q_app); (· walk_at "ev"); (· exact rfl); (· (try simp only [List.length_map, List.length_append, List.length_cons, List.length_nil]); omega); (· walk_at "sx")) | ((with_reducible apply q_frz); (· exact rfl); (· walk_at "sx")) | ((with_reducible apply q_drop); walk_at "ev") | ((with_reducible apply q_ret); (· walk_at "ev"); (· walk_at "eq")) | ((with_reducible apply s_retO); exact rfl) | ((with_reducible apply q_ifT); (· walk_at "tv"); (· walk_at "bt"); (· walk_at "st")) | ((with_reducible apply q_ifF); (· walk_at "tv"); (· walk_at "bt"); (· walk_at "st")))
local macro_rules | `(tactic| walk_at "st") => `(tactic| first | ((with_reducible apply q_seq); (· walk_at "s1"); (walk_at "st")) | ((with_reducible apply s_seqR); (· walk_at "s1")) | walk_at "s1" | skip)
--END MACROS
section
variable {cs ns : List Int} {m : Nat} {T : Tb} {d : D} {ρ : Env} {me : ME} {n : Int}
/-- the entries below k -/
def cut1 (k : Nat) : Option Int → Option Int
  | some v => if v < k then some v else none
  | none => none
def cutT (k : Nat) (T : Tb) : Tb := T.map (cut1 k)
theorem cutT_len {k : Nat} : (cutT k T).length = T.length := List.length_map ..
theorem cutT_get {k i : Nat} : (cutT k T)[i]? = (T[i]?).map (cut1 k) := List.getElem?_map ..
theorem cutT_zero (hp : Pos ns) (I : LeastT ns m T) : cutT 0 T = List.replicate m none := by
  apply List.ext_getElem?
  intro i
  rw [cutT_get, List.getElem?_replicate]
  cases q : T[i]? with
  | none =>
    have : T.length ≤ i := List.getElem?_eq_none_iff.mp q
    rw [if_neg (by rw [I.len] at this; omega)]; rfl
  | some o =>
    have := lt_of_get q
    rw [if_pos (by rw [I.len] at this; omega)]
    cases o with
    | none => rfl
    | some v =>
      have := (I.lo i v q).1.nn hp
      show some (if v < ((0 : Nat) : Int) then some v else none) = _
      rw [if_neg (by omega)]
/-- an entry just met -/
theorem _root_.Sg.LeastT.own (I : LeastT ns m T) (hm : 0 < m) {i k : Nat} (h : T[i]? = some (some (k : Int))) : i = k % m := by
  have := (I.lo i k h).2
  omega
theorem cutT_same {k : Nat} (h : ∀ i : Nat, T[i]? ≠ some (some (k : Int))) : cutT (k + 1) T = cutT k T := by
  apply List.ext_getElem?
  intro i
  rw [cutT_get, cutT_get]
  cases q : T[i]? with
  | none => rfl
  | some o =>
    cases o with
    | none => rfl
    | some v =>
      have : v ≠ (k : Int) := fun e => h i (by rw [q, e])
      show some (if v < ((k + 1 : Nat) : Int) then some v else none) = some (if v < (k : Int) then some v else none)
      by_cases z : v < (k : Int)
      · rw [if_pos z, if_pos (by omega)]
      · rw [if_neg z, if_neg (by omega)]
theorem cutT_put (I : LeastT ns m T) (hm : 0 < m) {k : Nat} (h : T[k % m]? = some (some (k : Int))) : cutT (k + 1) T = (cutT k T).set (k % m) (some (k : Int)) := by
  apply List.ext_getElem?
  intro i
  rw [cutT_get, List.getElem?_set, cutT_get, cutT_len]
  have hl : k % m < T.length := lt_of_get h
  by_cases z : k % m = i
  · rw [if_pos z, if_pos hl, ← z, h]
    show some (if (k : Int) < ((k + 1 : Nat) : Int) then some (k : Int) else none) = _
    rw [if_pos (by omega)]
  · rw [if_neg z]
    cases q : T[i]? with
    | none => rfl
    | some o =>
      cases o with
      | none => rfl
      | some v =>
        have : v ≠ (k : Int) := fun e => z (I.own hm (by rw [q, e])).symm
        show some (if v < ((k + 1 : Nat) : Int) then some v else none) = some (if v < (k : Int) then some v else none)
        by_cases z : v < (k : Int)
        · rw [if_pos z, if_pos (by omega)]
        · rw [if_neg z, if_neg (by omega)]
theorem cutT_all {k : Nat} (h : ∀ (i : Nat) v, T[i]? = some (some v) → v < (k : Int)) : cutT k T = T := by
  apply List.ext_getElem?
  intro i
  rw [cutT_get]
  cases q : T[i]? with
  | none => rfl
  | some o =>
    cases o with
    | none => rfl
    | some v =>
      show some (if v < (k : Int) then some v else none) = _
      rw [if_pos (h i v q)]
/-- how far an entry lies -/
theorem entry_far {a : Nat} {B v : Int} {M i : Nat} (hp : Pos ns) (ha : (a : Int) ∈ ns) (hB : ∀ c ∈ ns, c ≤ B) (hM : Made ns (M : Int)) (m0 : 0 < M) (I : LeastT ns M T) (h : T[i]? = some (some v)) : v < a * B + M := by
  by_cases q : v < a * B + M
  · exact q
  · exfalso
    obtain ⟨h1, h2⟩ := I.lo i v h
    have d1 : (gcdl 0 ns : Int) ∣ v := made_dvd rfl h1
    have d2 : (gcdl 0 ns : Int) ∣ (M : Int) := made_dvd rfl hM
    have h3 := made_far hp ha hB (n := v - M) (Int.dvd_sub d1 d2) (by omega)
    obtain ⟨w, e1, e2⟩ := I.hi _ h3
    have e3 : ((v - M) % (M : Int)).toNat = i := by
      rw [Int.sub_emod_right, h2, Int.toNat_natCast]
    rw [e3, h] at e1
    have := Option.some.inj (Option.some.inj e1)
    omega
abbrev bRs : MS := mIte (mAnd (mTru (mBin gIx (mV 4) (mV 6))) (mBool (mBin gIsN (mBin gIx (mO 5) (mBin (gI kMod) (mV 6) (mV 1))) (mC .non)))) (mPutL 5 (mBin (gI kMod) (mV 6) (mV 1)) (mV 6)) mNext
theorem rests_great {M : Nat} (hp : Pos ns) (h0 : 1 ≤ M) (h1 : M ≤ 400) : ∃ T, mf_u_law_rests [LI ns, .int M, .bl true] = .ok (LO T) ∧ LeastT ns M T := by
  obtain ⟨T, e1, I⟩ := law_table_ok (cs := ns) (m := M) hp (by omega) (by omega)
  refine ⟨T, ?_, I⟩
  refine fn_rt rfl (ρ := [.val (LI ns), .val (.int M), .val (.bl true), .no, .no, .no, .no]) ?_
  unfold m_u_law_rests
  exact s_seqR (q_ifT (e_tru (e_V rfl) rfl) rfl (s_ret (q_def (e_cons (e_V rfl) (e_cons (e_V rfl) e_Nil)) e1)))
theorem map_cut {k : Nat} : (cutT k T).map od = T.map fun o => od (cut1 k o) := by
  unfold cutT
  rw [List.map_map]; rfl
theorem rests_small {M a : Nat} {B : Int} (C : Coins ns a) (hB : maxI ns = some B) (hB2 : B ≤ 400) (h0 : 1 ≤ M) (h1 : M ≤ 400) (hM : Made ns (M : Int)) (I : LeastT ns M T) : mf_u_law_rests [LI ns, .int M, .bl false] = .ok (LO T) := by
  have hp := C.hp
  have ha1 := C.a1
  have ha0 := C.pos
  have mx := (maxI_spec hB).2
  have b0 : 0 < B := hp _ (maxI_spec hB).1
  have ab0 : 0 ≤ (a : Int) * B := Int.mul_nonneg (by omega) (by omega)
  have ab1 : (a : Int) * B ≤ 64 * 400 := Int.le_trans (Int.mul_le_mul_of_nonneg_right (show (a : Int) ≤ 64 by omega) (by omega)) (Int.mul_le_mul_of_nonneg_left hB2 (by omega))
  have far : ∀ (i : Nat) v, T[i]? = some (some v) → v < (a : Int) * B + M := fun i v h => entry_far hp C.mem mx hM (by omega) I h
  have key : ∀ ab : Int, kMul (a : Int) B = some (.int ab) → 0 ≤ ab → ab ≤ 25600 → (∀ (i : Nat) v, T[i]? = some (some v) → v < ab + M) → mf_u_law_rests [LI ns, .int M, .bl false] = .ok (LO T) := by
    intro ab hab ab0 ab1 far
    let N : Nat := (ab + M + 1).toNat
    have hN : (N : Int) = ab + M + 1 := by omega
    let S (X : Tb) (s6 : Sl) : Env := [.val (LI ns), .val (.int M), .val (.bl false), .val (.int (ab + M)), .val (flagsD (mb ns) N), .lst (X.map od), s6]
    obtain ⟨ρ', e1, s6, rfl⟩ := q_forE (o := .bad) (ρ := S (cutT 0 T) .no) (xs := List.range N) (g := fun k : Nat => .int (k : Int)) (gg := gSet 6) (b := bRs) (I := fun k ρ => ∃ s6, ρ = S (cutT k T) s6) ⟨_, rfl⟩ (by
      rintro k ρ x ⟨s6, rfl⟩ hx
      have hk : k < N := by have := (List.getElem?_eq_some_iff.mp hx).1; rwa [List.length_range] at this
      rw [List.getElem?_range hk] at hx
      have hx := Option.some.inj hx
      subst hx
      refine ⟨S (cutT k T) (.val (.int k)), rfl, S (cutT (k + 1) T) (.val (.int k)), ?_, _, rfl⟩
      have x1 : mTru (mBin gIx (mV 4) (mV 6)) (S (cutT k T) (.val (.int k))) = .ok (mb ns k) := e_tru (e_bin (e_V rfl) (e_V rfl) (gIx_l.trans (flag_at (k := N) (i := (k : Int)) (by omega) (by omega)))) rfl
      have km : mBin (gI kMod) (mV 6) (mV 1) (S (cutT k T) (.val (.int k))) = .ok (.int ((k % M : Nat) : Int)) := by
        rw [e_bin (e_V rfl) (e_V rfl) (gI_i.trans (kMod_ok (by omega)))]
        rfl
      have hl : k % M < T.length := by rw [I.len]; exact Nat.mod_lt _ (by omega)
      have hm := mb_iff (cs := ns) (i := k)
      cases q : mb ns k with
      | false =>
        rw [q] at x1 hm
        have same : cutT (k + 1) T = cutT k T := cutT_same fun i h => absurd (hm.mpr (I.lo i _ h).1) Bool.false_ne_true
        rw [same]
        exact q_ifF (q_andF x1 rfl) rfl q_next
      | true =>
        rw [q] at x1 hm
        obtain ⟨v, h1, h2⟩ := I.hi _ (hm.mp rfl)
        have e3 : ((k : Int) % (M : Int)).toNat = k % M := by omega
        rw [e3] at h1
        have ix : ixL ((cutT k T).map od) ((k % M : Nat) : Int) = some (od (cut1 k (some v))) := od_at (by omega) (by rw [Int.toNat_natCast, cutT_get, h1]; rfl)
        have x2 : mBool (mBin gIsN (mBin gIx (mO 5) (mBin (gI kMod) (mV 6) (mV 1))) (mC .non)) (S (cutT k T) (.val (.int k))) = .ok (isNon (od (cut1 k (some v)))) := e_bool (e_bin (e_bin (e_O rfl) km (gIx_l.trans ix)) e_C rfl)
        by_cases z : v = (k : Int)
        · subst z
          have c0 : cut1 k (some (k : Int)) = none := by show (if (k : Int) < k then _ else _) = _; rw [if_neg (by omega)]
          rw [c0] at x2
          refine q_ifT (q_andT x1 x2) rfl ?_
          refine q_put (e_V rfl) (ds := (cutT k T).map od) rfl km (ixS_nat (by rw [List.length_map, cutT_len]; exact hl)) ?_
          show [_, _, _, _, _, Sl.lst (((cutT k T).map od).set (k % M) (.int k)), _] = [_, _, _, _, _, Sl.lst ((cutT (k + 1) T).map od), _]
          rw [cutT_put I (by omega) h1, List.map_set]; rfl
        · have c0 : cut1 k (some v) = some v := by show (if v < (k : Int) then _ else _) = _; rw [if_pos (by omega)]
          rw [c0] at x2
          have same : cutT (k + 1) T = cutT k T := cutT_same fun i h => by
            have e := I.own (by omega) h
            subst e
            rw [h1] at h
            exact z (Option.some.inj (Option.some.inj h))
          rw [same]
          exact q_ifF (q_andT x1 x2) rfl q_next)
    rw [List.length_range] at e1
    have fin : cutT N T = T := cutT_all (fun i v h => by have := far i v h; rw [hN]; omega)
    rw [fin] at e1
    refine fn_rtO rfl (ρ := [.val (LI ns), .val (.int M), .val (.bl false), .no, .no, .no, .no]) ?_
    unfold m_u_law_rests
    refine q_seq (q_ifF (e_tru (e_V rfl) rfl) rfl q_next) ?_
    refine q_seq (q_set (e_bin (e_bin (e_minL (e_V rfl) C.mn) (e_maxL (e_V rfl) hB) (gI_i.trans hab)) (e_V rfl) gAdd_i) rfl) ?_
    refine q_seq (q_set (q_def (e_cons (e_V rfl) (e_cons (e_V rfl) e_Nil)) (sieve_ok hp (by omega) (by omega))) rfl) ?_
    refine q_seq (ρ' := S (cutT 0 T) .no) (q_setO (e_bin (e_lst (e_cons e_C e_Nil)) (e_V rfl) (rep_ok (by omega) (by omega))) ?_) ?_
    · rw [Int.toNat_natCast]
      show [_, _, _, _, _, Sl.lst _, _] = _
      have : (cutT 0 T).map od = List.replicate M D.non := by rw [cutT_zero hp I, List.map_replicate]; rfl
      show _ = [_, _, _, _, _, Sl.lst ((cutT 0 T).map od), _]
      rw [this]
    · refine q_seq ((s_for (q_range (n := ab + M + 1) (e_bin (e_V rfl) e_C gAdd_i) (by omega) (by omega))).trans e1) ?_
      exact s_retO rfl
  exact key _ (kMul_s (by omega) (by omega) (by omega) (by omega)) ab0 ab1 far
end
end SL

-- P02c
set_option Elab.async false
set_option linter.all false
set_option maxRecDepth 100000
set_option maxHeartbeats 4000000
/-! P02c: a modulus asked; the moduli. -/
namespace SL
open Fx G Sg
open PySem (Str)
--MACROS
local macro_rules | `(tactic| walk_at "eq") => `(tactic| first | exact rfl | assumption | (simp [isNon, isiB]; done) | (simp [isNon, isiB, *]; done) | skip)
local macro_rules | `(tactic| walk_at "bt") => `(tactic| first | rfl | assumption | exact decide_eq_true (by omega) | exact decide_eq_false (by omega) | (simp only [Bool.and_eq_true, Bool.or_eq_true, Bool.not_eq_true', Bool.not_eq_false', Bool.and_eq_false_iff, Bool.or_eq_false_iff, Bool.not_true, Bool.not_false, decide_eq_true_eq, decide_eq_false_iff_not, beq_iff_eq, beq_eq_false_iff_ne, ne_eq, isNon, isiB]; omega) | (simp [isNon, isiB]; done) | (simp [isNon, isiB]; omega) | (simp [isNon, isiB, *]; done))
local macro_rules | `(tactic| walk_at "op") => `(tactic| first | assumption | (with_reducible exact gAdd_i) | exact gI_i.trans kInt_i | exact gI_i.trans kBl_i | exact gEq_ii | exact gNe_ii | exact gI_i.trans (kMod_ok (by omega)) | exact gI_i.trans (kDiv_s (by omega) (by omega)) | exact gI_i.trans (kMul_s (by omega) (by omega) (by omega) (by omega)) | exact gIx_l.trans (by assumption) | exact gIx_t.trans (by assumption) | exact gEq_LI | exact rfl)
local macro_rules | `(tactic| walk_at "fn") => `(tactic| first | assumption | (solve_by_elim (maxDepth := 2)))
local macro_rules | `(tactic| walk_at "mv") => `(tactic| first | (with_reducible exact q_no) | ((with_reducible apply q_part); walk_at "ev"))
local macro_rules | `(tactic| walk_at "ev") => `(tactic| first | assumption | (with_reducible exact e_C) | (with_reducible exact e_Nil) | ((with_reducible apply e_V); exact rfl) | ((with_reducible apply e_O); exact rfl) | ((with_reducible apply e_cons); (· walk_at "ev"); (· walk_at "ev")) | ((with_reducible apply e_tup); walk_at "ev") | ((with_reducible apply e_lst); walk_at "ev") | ((with_reducible apply e_bin); (· walk_at "ev"); (· walk_at "ev"); (· walk_at "op")) | ((with_reducible apply e_call); (· walk_at "ev"); (· walk_at "op")) | ((with_reducible apply q_def); (· walk_at "ev"); (· walk_at "fn")) | ((with_reducible apply q_defL); (· walk_at "ev"); (· walk_at "fn"); (· exact rfl)) | ((with_reducible apply e_neg); walk_at "ev") | ((with_reducible apply e_lf); (· walk_at "ev"); (· exact rfl)) | ((with_reducible apply q_andV); (· walk_at "ev"); (· walk_at "ev")) | ((with_reducible apply q_orV); (· walk_at "ev"); (· walk_at "ev")) | ((with_reducible apply q_notV); walk_at "ev") | ((with_reducible apply q_isi); (· walk_at "ev"); (· exact rfl)) | ((with_reducible apply q_slL); (· walk_at "ev"); (· walk_at "mv"); (· walk_at "mv")) | ((with_reducible apply q_flat); (· walk_at "ev"); (· walk_at "bt")) | ((with_reducible apply q_defN); (· walk_at "ev"); (· walk_at "fn")) | ((with_reducible apply q_dx); (· exact rfl); (· walk_at "ev"); (· exact rfl); (· walk_at "bt")) | ((with_reducible apply q_mk); (· walk_at "ev"); (· walk_at "fn")))
local macro_rules | `(tactic| walk_at "tv") => `(tactic| first | assumption | ((with_reducible apply e_bool); walk_at "ev") | ((with_reducible apply q_andT); (· walk_at "tv"); (· walk_at "tv")) | ((with_reducible apply q_andF); (· walk_at "tv"); (· walk_at "bt")) | ((with_reducible apply q_orT); (· walk_at "tv"); (· walk_at "tv")) | ((with_reducible apply q_orF); (· walk_at "tv"); (· walk_at "bt")) | ((with_reducible apply e_not); walk_at "tv") | ((with_reducible apply e_tru); (· walk_at "ev"); (· exact rfl)))
local macro_rules | `(tactic| walk_at "sx") => `(tactic| (simp only [List.set_cons_succ, List.set_cons_zero, slOf]; try rfl))
local macro_rules | `(tactic| walk_at "s1") => `(tactic| first | assumption | (with_reducible exact q_next) | ((with_reducible apply q_set); (· walk_at "ev"); (· walk_at "sx")) | ((with_reducible apply q_setO); (· walk_at "ev"); (· walk_at "sx")) | ((with_reducible apply q_setN); (· walk_at "ev"); (· walk_at "sx")) | ((with_reducible apply q_app); (· walk_at "ev"); (· exact rfl); (· (try simp only [List.length_map, List.length_append, List.length_cons, List.length_nil]); omega); (· walk_at "sx")) | ((with_reducible apply q_frz); (· exact rfl); (· walk_at "sx")) | ((with_reducible apply q_drop); walk_at "ev") | ((with_reducible apply q_ret); (· walk_at "ev"); (· walk_at "eq")) | ((with_reducible apply s_retO); exact rfl) | ((with_reducible apply q_ifT); (· walk_at "tv"); (· walk_at "bt"); (· walk_at "st")) | ((with_reducible apply q_ifF); (· walk_at "tv"); (· walk_at "bt"); (· walk_at "st")))
local macro_rules | `(tactic| walk_at "st") => `(tactic| first | ((with_reducible apply q_seq); (· walk_at "s1"); (walk_at "st")) | ((with_reducible apply s_seqR); (· walk_at "s1")) | walk_at "s1" | skip)
--END MACROS
section
variable {cs ns : List Int} {m : Nat} {T : Tb} {d : D} {ρ : Env} {me : ME} {n : Int}
abbrev bEn : MS := mIte (mNot (mTru (mDef mf_u_law_entry (mCons (mBin gIx (mV 6) (mV 8)) (mCons (mBin gIx (mV 7) (mV 8)) mNil))))) (mRet (mC (.bl false))) mNext
/-- what the great and the small lots need -/
def GB (g : Bool) (ns : List Int) : Prop := g = false → ∃ B, maxI ns = some B ∧ B ≤ 400
theorem rests_ok {M a : Nat} {g : Bool} (C : Coins ns a) (hg : GB g ns) (h0 : 1 ≤ M) (h1 : M ≤ 400) (hM : Made ns (M : Int)) (I : LeastT ns M T) : mf_u_law_rests [LI ns, .int M, .bl g] = .ok (LO T) := by
  cases g with
  | true =>
    obtain ⟨T', e1, J⟩ := rests_great (M := M) C.hp h0 h1
    rw [e1, least_uniq (by omega) (fun n => Iff.rfl) I J]
  | false =>
    obtain ⟨B, h2, h3⟩ := hg rfl
    exact rests_small C h2 h3 h0 h1 hM I
theorem right_ok {a : Nat} {g : Bool} (L : LotA cs m T d) (hp : Pos cs) (hc : ∀ x, x ∈ cs ↔ x ∈ ns) (C : Coins ns a) (hg : GB g ns) : mf_u_law_right [d, LI ns, .int n, .bl g] = .ok (.bl true) := by
  have told : ∀ x t : D, mf_u_law_ask [d, .int n] = .ok (.lst [.non, t]) → mf_u_law_refusal [LI ns, .int n] = .ok t → mf_u_law_told [t, t] = .ok (.bl true) → isNon t = false → mf_u_law_right [d, LI ns, .int n, .bl g] = .ok (.bl true) := by
    intro x t e1 e2 e3 hn
    refine fn_rt rfl (ρ := [.val d, .val (LI ns), .val (.int n), .val (.bl g), .no, .no, .no, .no, .no]) ?_
    unfold m_u_law_right
    refine q_seq (q_set (q_defN (e_cons (e_V rfl) (e_cons (e_V rfl) e_Nil)) e1) rfl) ?_
    refine q_seq (q_set (q_def (e_cons (e_V rfl) (e_cons (e_V rfl) e_Nil)) e2) rfl) ?_
    refine s_seqR (q_ifT (b := !(isNon t)) (e_bool (e_bin (e_V rfl) e_C rfl)) (by rw [hn]; rfl) (s_ret ?_))
    exact q_def (e_cons (e_bin (e_V rfl) e_C rfl) (e_cons (e_V rfl) e_Nil)) e3
  by_cases hb : n < 1 ∨ 400 < n
  · exact told .non _ (ask_errX nms_num law_error_num rfl rfl (rest_num hb)) (refusal_num hb) law_told_num rfl
  · have h0 : 1 ≤ n := by omega
    have h1 : n ≤ 400 := by omega
    rcases refusal_at C h0 h1 with ⟨e2, hM⟩ | ⟨e2, hM⟩
    · obtain ⟨M, rfl⟩ : ∃ M : Nat, n = M := ⟨n.toNat, by omega⟩
      obtain ⟨T', e0, I⟩ := rest_ok (M := M) L hp (by omega) (by omega) ((Made.congr hc).mpr hM)
      have e1 := ask_ok e0
      have J : LeastT ns M T' := I.congr hc
      have e3 := rests_ok C hg (by omega) (by omega) hM J
      have hl := I.len
      refine fn_rt rfl (ρ := [.val d, .val (LI ns), .val (.int M), .val (.bl g), .no, .no, .no, .no, .no]) ?_
      unfold m_u_law_right
      refine q_seq (q_set (q_defN (e_cons (e_V rfl) (e_cons (e_V rfl) e_Nil)) e1) rfl) ?_
      refine q_seq (q_set (q_def (e_cons (e_V rfl) (e_cons (e_V rfl) e_Nil)) e2) rfl) ?_
      refine q_seq (q_ifF (e_bool (e_bin (e_V rfl) e_C rfl)) rfl q_next) ?_
      refine q_seq (q_set (e_bin (e_V rfl) e_C rfl) rfl) ?_
      have ln : mCall gLen (mCons (mV 6) mNil) [.val d, .val (LI ns), .val (.int M), .val (.bl g), .val (okA (TO T')), .val .non, .val (TO T'), .no, .no] = .ok (.int M) := e_call (e_cons (e_V rfl) e_Nil) (by
        show some (D.int ((T'.map od).length : Nat)) = _
        rw [List.length_map, hl])
      refine q_seq (q_ifF (q_orT (e_bool (e_bin (e_bin (e_V rfl) e_C rfl) e_C rfl)) (q_orT (e_not (e_tru (q_isi (e_V rfl) rfl) rfl)) (e_bool (e_bin ln (e_V rfl) gNe_ii)))) ?_ q_next) ?_
      · simp [isNon, isiB]
      refine q_seq (q_set (q_def (e_cons (e_V rfl) (e_cons (e_V rfl) (e_cons (e_V rfl) e_Nil))) e3) rfl) ?_
      obtain ⟨ρ', e4, s8, rfl⟩ := q_forE (o := .bad) (ρ := [.val d, .val (LI ns), .val (.int M), .val (.bl g), .val (okA (TO T')), .val .non, .val (TO T'), .val (LO T'), .no]) (xs := List.range M) (g := fun k : Nat => .int (k : Int)) (gg := gSet 8) (b := bEn) (I := fun k ρ => ∃ s8, ρ = [.val d, .val (LI ns), .val (.int M), .val (.bl g), .val (okA (TO T')), .val .non, .val (TO T'), .val (LO T'), s8]) ⟨_, rfl⟩ (by
        rintro k ρ x ⟨s8, rfl⟩ hx
        have hk : k < M := by have := (List.getElem?_eq_some_iff.mp hx).1; rwa [List.length_range] at this
        rw [List.getElem?_range hk] at hx
        have hx := Option.some.inj hx
        subst hx
        refine ⟨_, rfl, _, ?_, .val (.int k), rfl⟩
        have ho : T'[((k : Nat) : Int).toNat]? = some (T'[k]'(by omega)) := by rw [Int.toNat_natCast]; exact List.getElem?_eq_getElem _
        have ix := od_at (i := (k : Int)) (by omega) ho
        exact q_ifF (e_not (e_tru (q_def (e_cons (e_bin (e_V rfl) (e_V rfl) (gIx_t.trans ix)) (e_cons (e_bin (e_V rfl) (e_V rfl) (gIx_l.trans ix)) e_Nil)) entry_ok) rfl)) rfl q_next)
      refine q_seq ((s_for (q_range (n := (M : Int)) (e_V rfl) (by omega) (by omega))).trans (by rw [Int.toNat_natCast]; exact e4)) ?_
      exact s_ret e_C
    · exact told .non _ (ask_errX nms_nm law_error_nm rfl rfl (rest_not L hp h0 h1 fun h => hM ((Made.congr hc).mp h))) e2 law_told_nm rfl
/-! ### the moduli -/
theorem gNotInI_LI {k : Int} {l : List Int} : gNotInI (.int k) (.lst (l.map .int)) = some (.bl (!l.contains k)) := by
  show (intsOf _).map _ = _
  rw [intsOf_map]; rfl
theorem unlike_ok (h0 : ns ≠ []) (hz : ns.length ≤ 64) : ∃ row : List Int, mf_u_law_unlike [LI ns] = .ok (LI row) ∧ row ≠ [] ∧ row.length ≤ ns.length ∧ ∀ c ∈ row, c ∈ ns := by
  have hl : (ssort ns).length = ns.length := (ssort_perm ns).length_eq
  obtain ⟨ρ', e1, row, s2, rfl, h1, h2, h3⟩ := q_forE (o := .bad) (ρ := [.val (LI ns), .lst (([] : List Int).map .int), .no]) (xs := ssort ns) (g := D.int) (gg := gSet 2) (b := mIte (mBool (mBin gNotInI (mV 2) (mO 1))) (mApp 1 (mV 2)) mNext)
    (I := fun k ρ => ∃ (row : List Int) (s2 : Sl), ρ = [.val (LI ns), .lst (row.map .int), s2] ∧ row.length ≤ k ∧ (∀ c ∈ row, c ∈ ns) ∧ (0 < k → row ≠ [])) ⟨[], _, rfl, Nat.le_refl _, fun c hc => absurd hc List.not_mem_nil, fun h => absurd h (by omega)⟩ (by
      rintro k ρ x ⟨row, s2, rfl, h1, h2, h3⟩ hx
      have hxm : x ∈ ns := (ssort_perm ns).mem_iff.mp (List.mem_iff_getElem?.mpr ⟨k, hx⟩)
      have hk : k < ns.length := by rw [← hl]; exact (List.getElem?_eq_some_iff.mp hx).1
      have t : mBool (mBin gNotInI (mV 2) (mO 1)) [.val (LI ns), .lst (row.map .int), .val (.int x)] = .ok (!row.contains x) := e_bool (e_bin (e_V rfl) (e_O rfl) gNotInI_LI)
      cases q : row.contains x with
      | true =>
        rw [q] at t
        refine ⟨_, rfl, _, q_ifF t rfl q_next, row, _, rfl, by omega, h2, fun _ z => ?_⟩
        rw [z] at q; cases q
      | false =>
        rw [q] at t
        refine ⟨_, rfl, _, q_ifT t rfl (q_app (ds := row.map .int) (e_V rfl) rfl (by rw [List.length_map]; omega) rfl), row ++ [x], .val (.int x), ?_, by simp; omega, fun c hc => ?_, fun _ => by simp⟩
        · rw [List.map_append]; rfl
        · rcases List.mem_append.mp hc with hc | hc
          · exact h2 c hc
          · rw [List.mem_singleton.mp hc]; exact hxm)
  refine ⟨row, ?_, h3 (by rw [hl]; exact List.length_pos_iff.mpr h0), by omega, h2⟩
  refine fn_rtO rfl (ρ := [.val (LI ns), .no, .no]) ?_
  unfold m_u_law_unlike
  refine q_seq (q_setO (e_lst e_Nil) rfl) ?_
  have so : mCall gSorted (mCons (mV 0) mNil) [.val (LI ns), .lst [], .no] = .ok (LI (ssort ns)) := e_call (e_cons (e_V rfl) e_Nil) (by
    show (intsOf _).map _ = _
    rw [intsOf_map]; rfl)
  refine q_seq ((s_for (e_items so)).trans e1) ?_
  exact s_retO rfl
abbrev bMo : MSw := wSeq (wSet 6 (wBin (gI kMod) (wBin gAdd (wDraw (mV 0) (mC (.int 4))) (wE (mC (.int 1)))) (wE (mC (.int 4)))))
  (wS (mIte (mBool (mBin (gI (kBl fun i j => decide (i ≤ j))) (mV 4) (mC (.int 100)))) (mSet 3 (mBin gAdd (mV 3) (mBin (gI kMul) (mV 6) (mV 4)))) mNext))
theorem mono_bMo : Mono bMo := mono_seq (mono_set (mono_bin (mono_bin mono_draw mono_E) mono_E)) mono_S
theorem moduli_ok {K : R D → Prop} (h0 : ns ≠ []) (h1 : ns.length ≤ 64) (hb : ∀ c ∈ ns, 1 ≤ c) (h : ∀ l : List Int, l ≠ [] → K (.ok (LI l))) : mw_u_law_moduli [.pool, LI ns] K := by
  show m_u_law_moduli [.val .pool, .val (LI ns), .no, .no, .no, .no, .no] (fun o => K (o.res .val))
  unfold m_u_law_moduli
  obtain ⟨row, e1, r0, r1, r2⟩ := unlike_ok h0 h1
  refine w_S (q_set (q_def (e_cons (e_V rfl) e_Nil) e1) rfl) ?_
  refine w_S (q_set e_C rfl) ?_
  refine w_seq (w_for (e_items (e_V rfl)) ?_)
  refine forW_all0 (I := fun k ρ => ∃ (t : Int) (s4 s6 : Sl), ρ = [.val .pool, .val (LI ns), .val (LI row), .val (.int t), s4, .no, s6]) mono_bMo ⟨0, .no, .no, rfl⟩ ?_ ?_
  · rintro k ρ d ⟨t, s4, s6, rfl⟩ hd
    rw [List.getElem?_map] at hd
    obtain ⟨c, hc, rfl⟩ := Option.map_eq_some_iff.mp hd
    have c0 := hb c (r2 c (List.mem_iff_getElem?.mpr ⟨_, hc⟩))
    refine ⟨_, rfl, ?_⟩
    refine w_set (w_bin (w_bin (w_draw (e_V rfl) e_C (by omega) (by omega) fun x x0 x1 => w_E e_C ⟨_, gAdd_i, w_E e_C ⟨_, gI_i.trans (kMod_ok (by omega)), ?_⟩⟩)))
    generalize hz : (x + 1) % 4 = z
    have z0 : 0 ≤ z := by omega
    have z1 : z ≤ 3 := by omega
    have tt : mBool (mBin (gI (kBl fun i j => decide (i ≤ j))) (mV 4) (mC (.int 100))) [.val .pool, .val (LI ns), .val (LI row), .val (.int t), .val (.int c), .no, .val (.int z)] = .ok (decide (c ≤ 100)) := e_bool (e_bin (e_V rfl) e_C (gI_i.trans kBl_i))
    by_cases q : c ≤ 100
    · exact w_S0 (q_ifT tt (decide_eq_true q) (q_set (e_bin (e_V rfl) (e_bin (e_V rfl) (e_V rfl) (gI_i.trans (kMul_s (by omega) (by omega) (by omega) (by omega)))) gAdd_i) rfl)) ⟨_, rfl, _, _, _, rfl⟩
    · exact w_S0 (q_ifF tt (decide_eq_false q) q_next) ⟨_, rfl, _, _, _, rfl⟩
  · rintro ρ ⟨t, s4, s6, rfl⟩
    obtain ⟨r, row', hr⟩ : ∃ r row', row = r :: row' := by
      cases row with
      | nil => exact absurd rfl r0
      | cons r row' => exact ⟨r, row', rfl⟩
    have a1 : mLc 4 (mItems (mV 2)) (mBool (mBin (gI (kBl fun i j => decide (i ≤ j))) (mV 4) (mC (.int 400)))) (mV 4) [.val .pool, .val (LI ns), .val (LI row), .val (.int t), s4, .no, s6] = .ok (LI (row.filter fun c => decide (c ≤ 400))) := by
      refine q_lc (p := fun c : Int => decide (c ≤ 400)) (f := D.int) (g := D.int) (xs := row) (ρ1 := [.val .pool, .val (LI ns), .val (LI row), .val (.int t), .no, .no, noE s6]) (e_items (e_V rfl)) (by omega) rfl fun c hc => ?_
      exact ⟨e_bool (e_bin (e_V rfl) e_C (gI_i.trans kBl_i)), fun _ => e_V rfl⟩
    refine w_S (q_set a1 rfl) ?_
    have fl : (row.filter fun c => decide (c ≤ 400)).length ≤ 64 := Nat.le_trans (List.length_filter_le _ _) (by omega)
    have x0 : gIx (LI row) (.int 0) = some (.int r) := by
      rw [hr]
      show ixL ((r :: row').map D.int) 0 = _
      rw [ixL_0]; rfl
    refine w_bin (w_E (e_V rfl) (w_lst (w_cons (w_E (e_V rfl) (w_cons (w_bin (w_E e_C (w_draw (e_V rfl) e_C (by omega) (by omega) fun y y0 y1 => ⟨_, gAdd_i, ?_⟩))))))))
    refine w_cons (w_E (e_bin (e_bin (e_V rfl) e_C x0) e_C (gI_i.trans kInt_i)) (w_cons (w_E (e_bin (e_bin (e_V rfl) e_C x0) e_C gAdd_i) (w_nil ?_))))
    refine ⟨LI ((row.filter fun c => decide (c ≤ 400)) ++ [t, 1 + y, r - 1, r + 1]), gAdd_LI (k := [t, 1 + y, r - 1, r + 1]) (by simp at fl ⊢; omega), ?_⟩
    exact h _ (by simp)
end
end SL

-- P02d
set_option Elab.async false
set_option linter.all false
set_option maxRecDepth 100000
set_option maxHeartbeats 4000000
/-! P02d: the law k02, whole. -/
namespace SL
open Fx G Sg
open PySem (Str)
--MACROS
local macro_rules | `(tactic| walk_at "eq") => `(tactic| first | exact rfl | assumption | (simp [isNon, isiB]; done) | (simp [isNon, isiB, *]; done) | skip)
local macro_rules | `(tactic| walk_at "bt") => `(tactic| first | rfl | assumption | exact decide_eq_true (by omega) | exact decide_eq_false (by omega) | (simp only [Bool.and_eq_true, Bool.or_eq_true, Bool.not_eq_true', Bool.not_eq_false', Bool.and_eq_false_iff, Bool.or_eq_false_iff, Bool.not_true, Bool.not_false, decide_eq_true_eq, decide_eq_false_iff_not, beq_iff_eq, beq_eq_false_iff_ne, ne_eq, isNon, isiB]; omega) | (simp [isNon, isiB]; done) | (simp [isNon, isiB]; omega) | (simp [isNon, isiB, *]; done))
local macro_rules | `(tactic| walk_at "op") => `(tactic| first | assumption | (with_reducible exact gAdd_i) | exact gI_i.trans kInt_i | exact gI_i.trans kBl_i | exact gEq_ii | exact gNe_ii | exact gI_i.trans (kMod_ok (by omega)) | exact gI_i.trans (kDiv_s (by omega) (by omega)) | exact gI_i.trans (kMul_s (by omega) (by omega) (by omega) (by omega)) | exact gIx_l.trans (by assumption) | exact gIx_t.trans (by assumption) | exact gEq_LI | exact rfl)
local macro_rules | `(tactic| walk_at "fn") => `(tactic| first | assumption | (solve_by_elim (maxDepth := 2)))
local macro_rules | `(tactic| walk_at "mv") => `(tactic| first | (with_reducible exact q_no) | ((with_reducible apply q_part); walk_at "ev"))
local macro_rules | `(tactic| walk_at "ev") => `(tactic| first | assumption | (with_reducible exact e_C) | (with_reducible exact e_Nil) | ((with_reducible apply e_V); exact rfl) | ((with_reducible apply e_O); exact rfl) | ((with_reducible apply e_cons); (· walk_at "ev"); (· walk_at "ev")) | ((with_reducible apply e_tup); walk_at "ev") | ((with_reducible apply e_lst); walk_at "ev") | ((with_reducible apply e_bin); (· walk_at "ev"); (· walk_at "ev"); (· walk_at "op")) | ((with_reducible apply e_call); (· walk_at "ev"); (· walk_at "op")) | ((with_reducible apply q_def); (· walk_at "ev"); (· walk_at "fn")) | ((with_reducible apply q_defL); (· walk_at "ev"); (· walk_at "fn"); (· exact rfl)) | ((with_reducible apply e_neg); walk_at "ev") | ((with_reducible apply e_lf); (· walk_at "ev"); (· exact rfl)) | ((with_reducible apply q_andV); (· walk_at "ev"); (· walk_at "ev")) | ((with_reducible apply q_orV); (· walk_at "ev"); (· walk_at "ev")) | ((with_reducible apply q_notV); walk_at "ev") | ((with_reducible apply q_isi); (· walk_at "ev"); (· exact rfl)) | ((with_reducible apply q_slL); (· walk_at "ev"); (· walk_at "mv"); (· walk_at "mv")) | ((with_reducible apply q_flat); (· walk_at "ev"); (· walk_at "bt")) | ((with_reducible apply q_defN); (· walk_at "ev"); (· walk_at "fn")) | ((with_reducible apply q_dx); (· exact rfl); (· walk_at "ev"); (· exact rfl); (· walk_at "bt")) | ((with_reducible apply q_mk); (· walk_at "ev"); (· walk_at "fn")))
local macro_rules | `(tactic| walk_at "tv") => `(tactic| first | assumption | ((with_reducible apply e_bool); walk_at "ev") | ((with_reducible apply q_andT); (· walk_at "tv"); (· walk_at "tv")) | ((with_reducible apply q_andF); (· walk_at "tv"); (· walk_at "bt")) | ((with_reducible apply q_orT); (· walk_at "tv"); (· walk_at "tv")) | ((with_reducible apply q_orF); (· walk_at "tv"); (· walk_at "bt")) | ((with_reducible apply e_not); walk_at "tv") | ((with_reducible apply e_tru); (· walk_at "ev"); (· exact rfl)))
local macro_rules | `(tactic| walk_at "sx") => `(tactic| (simp only [List.set_cons_succ, List.set_cons_zero, slOf]; try rfl))
local macro_rules | `(tactic| walk_at "s1") => `(tactic| first | assumption | (with_reducible exact q_next) | ((with_reducible apply q_set); (· walk_at "ev"); (· walk_at "sx")) | ((with_reducible apply q_setO); (· walk_at "ev"); (· walk_at "sx")) | ((with_reducible apply q_setN); (· walk_at "ev"); (· walk_at "sx")) | ((with_reducible apply q_app); (· walk_at "ev"); (· exact rfl); (· (try simp only [List.length_map, List.length_append, List.length_cons, List.length_nil]); omega); (· walk_at "sx")) | ((with_reducible apply q_frz); (· exact rfl); (· walk_at "sx")) | ((with_reducible apply q_drop); walk_at "ev") | ((with_reducible apply q_ret); (· walk_at "ev"); (· walk_at "eq")) | ((with_reducible apply s_retO); exact rfl) | ((with_reducible apply q_ifT); (· walk_at "tv"); (· walk_at "bt"); (· walk_at "st")) | ((with_reducible apply q_ifF); (· walk_at "tv"); (· walk_at "bt"); (· walk_at "st")))
local macro_rules | `(tactic| walk_at "st") => `(tactic| first | ((with_reducible apply q_seq); (· walk_at "s1"); (walk_at "st")) | ((with_reducible apply s_seqR); (· walk_at "s1")) | walk_at "s1" | skip)
--END MACROS
abbrev bL3 : MS := mIte (mNot (mTru (mDef mf_u_law_right (mCons (mV 3) (mCons (mV 11) (mCons (mV 5) (mCons (mV 2) mNil))))))) (mRet (mC (.bl false))) mNext
abbrev bL7 : MS := mIte (mNot (mTru (mDef mf_u_law_right (mCons (mV 7) (mCons (mV 6) (mCons (mV 5) (mCons (mC (.bl false)) mNil))))))) (mRet (mC (.bl false))) mNext
abbrev bL9 : MS := mIte (mNot (mTru (mDef mf_u_law_right (mCons (mV 9) (mCons (mV 8) (mCons (mV 5) (mCons (mC (.bl false)) mNil))))))) (mRet (mC (.bl false))) mNext
abbrev evL : List Int := [2, 4, 8, 10]
theorem ev_at {k : Int} (h0 : 0 ≤ k) (h : k < 4) : ∃ c : Int, ixL (evL.map D.int) k = some (.int c) ∧ 2 ≤ c ∧ c ≤ 10 := by
  obtain ⟨j, rfl⟩ : ∃ j : Nat, k = j := ⟨k.toNat, by omega⟩
  rw [ixL_nat]
  match j, h with
  | 0, _ => exact ⟨2, rfl, by omega, by omega⟩
  | 1, _ => exact ⟨4, rfl, by omega, by omega⟩
  | 2, _ => exact ⟨8, rfl, by omega, by omega⟩
  | 3, _ => exact ⟨10, rfl, by omega, by omega⟩
  | k + 4, h => exact absurd h (by omega)
theorem GB.of {g : Bool} {l : List Int} (h0 : l ≠ []) (h : g = false → ∀ c ∈ l, c ≤ 14) : GB g l := fun hg => by
  obtain ⟨B, hB⟩ : ∃ B, maxI l = some B := by
    cases l with
    | nil => exact absurd rfl h0
    | cons x l => exact ⟨_, rfl⟩
  exact ⟨B, hB, by have := h hg B (maxI_spec hB).1; omega⟩
/-- a lot whose moduli all are right -/
structure Ready (d : D) (l : List Int) (g : Bool) : Prop where
  ok : ∀ n : Int, mf_u_law_right [d, LI l, .int n, .bl g] = .ok (.bl true)
theorem ready {e : D} {l : List Int} {g : Bool} (he : seqD e = some (l.map .int)) (hl : l.length < 64) (hb : ∀ n ∈ l, 1 ≤ n ∧ n ≤ 10 ^ 12) (hc : ∃ c ∈ l, c ≤ 64) (hg : GB g l) : ∃ fs, mi_Lot [e] = .ok fs ∧ Ready (.ins "Lot" fs) l g := by
  obtain ⟨m, T, fs, h1, L⟩ := lot_of he hl hb hc
  obtain ⟨a, C⟩ := coins_of (fun c h => (hb c h).1) hc
  exact ⟨fs, h1, ⟨fun n => right_ok L (pos_usort fun n h => (hb n h).1) (fun x => usort_mem) C hg⟩⟩
section
variable {cells : D}
abbrev St (cells : D) (great lot moduli modulus others other evens even far coins : Sl) : Env := [.val cells, .val .pool, great, lot, moduli, modulus, others, other, evens, even, far, coins]
abbrev T2 : MSw :=
  (wSeq (wSet 8 (wLst (wCons (wBin gIx (wE (mLst (mCons (mC (.int 2)) (mCons (mC (.int 4)) (mCons (mC (.int 8)) (mCons (mC (.int 10)) mNil)))))) (wDraw (mV 1) (mC (.int 4)))) (wCons (wBin gAdd (wE (mC (.int 4))) (wBin (gI kMul) (wE (mC (.int 2))) (wDraw (mV 1) (mC (.int 5))))) wNil))))
  (wSeq (wS (mSet 9 (mMk "Lot" mi_Lot (mCons (mV 8) mNil))))
  (wSeq (wSet 10 (wLst (wCons (wBin (gI (kInt fun i j => i - j)) (wE (mNeg (mC (.int 1)))) (wDraw (mV 1) (mC (.int 500)))) (wCons (wBin gAdd (wE (mC (.int 403))) (wDraw (mV 1) (mC (.int 500)))) wNil))))
  (wSeq (wS (mFor (mItems (mBin gAdd (mLst (mCons (mC (.int 399)) (mCons (mC (.int 400)) (mCons (mC (.int 401)) (mCons (mC (.int 402)) (mCons (mC (.int 0)) mNil)))))) (mV 10))) (gSet 5) bL9))
  (wS (mRet (mDef mf_u_law_right (mCons (mV 3) (mCons (mV 11) (mCons (mBin gIx (mV 4) (mC (.int 0))) (mCons (mV 2) mNil)))))))))))
abbrev T1 : MSw :=
  (wSeq (wS (mSet 3 (mMk "Lot" mi_Lot (mCons (mCall gList (mCons (mV 11) mNil)) mNil))))
  (wSeq (wSet 4 (wDef mw_u_law_moduli (wCons (wE (mV 1)) (wCons (wE (mV 11)) wNil))))
  (wSeq (wS (mFor (mItems (mV 4)) (gSet 5) bL3))
  (wSeq (wSet 6 (wDef mw_u_law_list (wCons (wE (mV 1)) (wCons (wE (mC (.int 2))) wNil))))
  (wSeq (wS (mSet 7 (mMk "Lot" mi_Lot (mCons (mCall gTuple (mCons (mV 6) mNil)) mNil))))
  (wSeq (wForW (wItems (wDef mw_u_law_moduli (wCons (wE (mV 1)) (wCons (wE (mV 6)) wNil)))) (gSet 5) (wS bL7))
  T2))))))
theorem t2_ok {g : Bool} {d d2 : D} {l mo others : List Int} {s5 s7 : Sl} (R : Ready d l g) (h0 : mo ≠ []) : T2 (St cells (.val (.bl g)) (.val d) (.val (LI mo)) s5 (.val (LI others)) s7 .no .no .no (.val (LI l))) Law := by
  refine w_set (w_lst (w_cons (w_bin (w_E (e_lst (e_cons e_C (e_cons e_C (e_cons e_C (e_cons e_C e_Nil))))) (w_draw (e_V rfl) e_C (by omega) (by omega) fun x x0 x1 => ?_)))))
  obtain ⟨c, hx, c0, c1⟩ := ev_at x0 x1
  refine ⟨_, gIx_l.trans hx, ?_⟩
  refine w_cons (w_bin (w_E e_C (w_bin (w_E e_C (w_draw (e_V rfl) e_C (by omega) (by omega) fun y y0 y1 => ⟨_, gI_i.trans (kMul_s (by omega) (by omega) (by omega) (by omega)), ⟨_, gAdd_i, w_nil ?_⟩⟩)))))
  obtain ⟨fs, e1, R2⟩ := ready (e := LI [c, 4 + 2 * y]) (l := [c, 4 + 2 * y]) (g := false) rfl (by simp) (fun n h => by simp only [List.mem_cons, List.not_mem_nil, or_false] at h; omega) ⟨c, by simp, by omega⟩ (GB.of (by simp) fun _ n h => by simp only [List.mem_cons, List.not_mem_nil, or_false] at h; omega)
  refine w_S (ρ' := St cells (.val (.bl g)) (.val d) (.val (LI mo)) s5 (.val (LI others)) s7 (.val (LI [c, 4 + 2 * y])) (.val (.ins "Lot" fs)) .no (.val (LI l))) (q_set (q_mk (e_cons (e_V rfl) e_Nil) e1) rfl) ?_
  refine w_set (w_lst (w_cons (w_bin (w_E (e_neg e_C) (w_draw (e_V rfl) e_C (by omega) (by omega) fun z z0 z1 => ⟨_, gI_i.trans kInt_i, w_cons (w_bin (w_E e_C (w_draw (e_V rfl) e_C (by omega) (by omega) fun u u0 u1 => ⟨_, gAdd_i, w_nil ?_⟩)))⟩)))))
  let E (s5 : Sl) : Env := St cells (.val (.bl g)) (.val d) (.val (LI mo)) s5 (.val (LI others)) s7 (.val (LI [c, 4 + 2 * y])) (.val (.ins "Lot" fs)) (.val (LI [-1 - z, 403 + u])) (.val (LI l))
  obtain ⟨ρ', e2, s5', rfl⟩ := q_forU (ρ := E s5) (xs := [399, 400, 401, 402, 0] ++ [-1 - z, 403 + u]) (g := D.int) (gg := gSet 5) (b := bL9) (I := fun ρ => ∃ s5, ρ = E s5) ⟨_, rfl⟩ (by
    rintro ρ n ⟨s5, rfl⟩ _
    refine ⟨_, rfl, E (.val (.int n)), ?_, _, rfl⟩
    exact q_ifF (e_not (e_tru (q_def (e_cons (e_V rfl) (e_cons (e_V rfl) (e_cons (e_V rfl) (e_cons e_C e_Nil)))) (R2.ok n)) rfl)) rfl q_next)
  have lst : mBin gAdd (mLst (mCons (mC (.int 399)) (mCons (mC (.int 400)) (mCons (mC (.int 401)) (mCons (mC (.int 402)) (mCons (mC (.int 0)) mNil)))))) (mV 10) (E s5) = .ok (LI ([399, 400, 401, 402, 0] ++ [-1 - z, 403 + u])) :=
    e_bin (e_lst (e_cons e_C (e_cons e_C (e_cons e_C (e_cons e_C (e_cons e_C e_Nil)))))) (e_V rfl) (gAdd_LI (l := [399, 400, 401, 402, 0]) (k := [-1 - z, 403 + u]) (by simp))
  refine w_S (ρ' := E s5') ((s_for (e_items lst)).trans e2) ?_
  obtain ⟨n, mo', rfl⟩ : ∃ n mo', mo = n :: mo' := by
    cases mo with
    | nil => exact absurd rfl h0
    | cons n mo' => exact ⟨n, mo', rfl⟩
  have x0 : gIx (LI (n :: mo')) (.int 0) = some (.int n) := by
    show ixL ((n :: mo').map D.int) 0 = _
    rw [ixL_0]; rfl
  exact w_S1 (s_ret (q_def (e_cons (e_V rfl) (e_cons (e_V rfl) (e_cons (e_bin (e_V rfl) e_C x0) (e_cons (e_V rfl) e_Nil)))) (R.ok n))) rfl
theorem t1_ok {g : Bool} {l : List Int} (l0 : l ≠ []) (hl : l.length < 64) (hb : ∀ n ∈ l, 1 ≤ n ∧ n ≤ 10 ^ 12) (hc : ∃ c ∈ l, c ≤ 64) (hg : g = false → ∀ c ∈ l, c ≤ 14) : T1 (St cells (.val (.bl g)) .no .no .no .no .no .no .no .no (.val (LI l))) Law := by
  obtain ⟨fs, e1, R⟩ := ready (e := LI l) (g := g) rfl hl hb hc (GB.of l0 hg)
  refine w_S (ρ' := St cells (.val (.bl g)) (.val (.ins "Lot" fs)) .no .no .no .no .no .no .no (.val (LI l))) (q_set (q_mk (e_cons (e_call (e_cons (e_V rfl) e_Nil) rfl) e_Nil) e1) rfl) ?_
  refine w_set (w_def (w_cons (w_E (e_V rfl) (w_cons (w_E (e_V rfl) (w_nil (moduli_ok l0 (by omega) (fun c h => (hb c h).1) fun mo m0 => ?_)))))))
  let E (s5 s6 s7 : Sl) : Env := St cells (.val (.bl g)) (.val (.ins "Lot" fs)) (.val (LI mo)) s5 s6 s7 .no .no .no (.val (LI l))
  obtain ⟨ρ', e2, s5', rfl⟩ := q_forU (ρ := E .no .no .no) (xs := mo) (g := D.int) (gg := gSet 5) (b := bL3) (I := fun ρ => ∃ s5, ρ = E s5 .no .no) ⟨_, rfl⟩ (by
    rintro ρ n ⟨s5, rfl⟩ _
    refine ⟨_, rfl, E (.val (.int n)) .no .no, ?_, _, rfl⟩
    exact q_ifF (e_not (e_tru (q_def (e_cons (e_V rfl) (e_cons (e_V rfl) (e_cons (e_V rfl) (e_cons (e_V rfl) e_Nil)))) (R.ok n)) rfl)) rfl q_next)
  refine w_S (ρ' := E s5' .no .no) ((s_for (e_items (e_V rfl))).trans e2) ?_
  refine w_set (w_def (w_cons (w_E (e_V rfl) (w_cons (w_E e_C (w_nil (law_list_ok fun l2 G => ?_)))))))
  have n2 : l2 ≠ [] := fun h => by have := G.l0; rw [h] at this; simp at this
  obtain ⟨c2, l2', hl2⟩ : ∃ c l', l2 = c :: l' := by
    cases q : l2 with
    | nil => exact absurd q n2
    | cons c l' => exact ⟨c, l', rfl⟩
  have cm : c2 ∈ l2 := by rw [hl2]; exact List.mem_cons_self ..
  obtain ⟨fs2, e3, R2⟩ := ready (e := TI l2) (l := l2) (g := false) rfl (by have := G.l1; omega) (fun c h => by have := G.b c h; omega) ⟨c2, cm, by have := G.b c2 cm; omega⟩ (GB.of n2 fun _ c h => (G.b c h).2)
  refine w_S (ρ' := E s5' (.val (LI l2)) (.val (.ins "Lot" fs2))) (q_set (q_mk (e_cons (e_call (e_cons (e_V rfl) e_Nil) rfl) e_Nil) e3) rfl) ?_
  refine w_seq ?_
  show wDef mw_u_law_moduli (wCons (wE (mV 1)) (wCons (wE (mV 6)) wNil)) (E s5' (.val (LI l2)) (.val (.ins "Lot" fs2))) _
  refine w_def (w_cons (w_E (e_V rfl) (w_cons (w_E (e_V rfl) (w_nil (moduli_ok n2 (by have := G.l1; omega) (fun c h => (G.b c h).1) fun mo2 m2 => ?_))))))
  show forW (gSet 5) (wS bL7) (mo2.map D.int) _ _
  refine forW_all0 (I := fun _ ρ => ∃ s5, ρ = E s5 (.val (LI l2)) (.val (.ins "Lot" fs2))) mono_S ⟨_, rfl⟩ ?_ ?_
  · rintro k ρ d ⟨s5, rfl⟩ hd
    rw [List.getElem?_map] at hd
    obtain ⟨n, hn, rfl⟩ := Option.map_eq_some_iff.mp hd
    refine ⟨_, rfl, ?_⟩
    refine w_S0 (ρ' := E (.val (.int n)) (.val (LI l2)) (.val (.ins "Lot" fs2))) (q_ifF (e_not (e_tru (q_def (e_cons (e_V rfl) (e_cons (e_V rfl) (e_cons (e_V rfl) (e_cons e_C e_Nil)))) (R2.ok n)) rfl)) rfl q_next) ⟨_, rfl, _, rfl⟩
  · rintro ρ ⟨s5, rfl⟩
    exact t2_ok (d2 := .non) R m0
end
theorem law_ok (ns : List Int) : mw_law [.lst (ns.map .int)] fun r => r = .ok (.bl true) := by
  show m_law [.val (LI ns), .no, .no, .no, .no, .no, .no, .no, .no, .no, .no, .no] Law
  unfold m_law
  refine w_S (ρ' := St (LI ns) .no .no .no .no .no .no .no .no .no .no) (q_set (pool_ok (e_V rfl)) rfl) ?_
  refine w_set (w_bin (w_draw (e_V rfl) e_C (by omega) (by omega) fun x x0 x1 => w_E e_C ⟨_, gEq_ii, ?_⟩))
  refine w_seq (w_iteB (k := x == 5) (e_tru (e_V rfl) rfl) (fun q => ?_) (fun q => ?_))
  · refine w_set1 (w_def (w_cons (w_E (e_V rfl) (w_nil (law_great_ok fun l G => ?_)))))
    obtain ⟨c, h1, h2⟩ := G.c0
    exact t1_ok (cells := LI ns) (g := x == 5) (l := l) (fun h => by have := G.l0; rw [h] at this; simp at this) (by have := G.l1; omega) G.b ⟨c, List.mem_iff_getElem?.mpr ⟨0, h1⟩, h2⟩ (fun h => by rw [q] at h; cases h)
  · refine w_set1 (w_def (w_cons (w_E (e_V rfl) (w_cons (w_E e_C (w_nil (law_list_ok fun l G => ?_)))))))
    obtain ⟨c, l', hl⟩ : ∃ c l', l = c :: l' := by
      cases q : l with
      | nil => have := G.l0; rw [q] at this; simp at this
      | cons c l' => exact ⟨c, l', rfl⟩
    have cm : c ∈ l := by rw [hl]; exact List.mem_cons_self ..
    exact t1_ok (cells := LI ns) (g := x == 5) (l := l) (by rw [hl]; simp) (by have := G.l1; omega) (fun c h => by have := G.b c h; omega) ⟨c, cm, by have := G.b c cm; omega⟩ (fun _ c h => (G.b c h).2)
end SL

-- E_k02
set_option Elab.async false
set_option linter.all false
set_option maxRecDepth 100000
set_option maxHeartbeats 0
namespace G
open PySem PySem.Spec PyProof.Rows L2 Fx
theorem law_F : LawOkW PySem.Challenge.pw_coinholes_k02_rests_are_least 7 mw_law hk.says := by
  intro w mg fa h Y G hmg
  obtain ⟨K, KX, c, nl⟩ := Y
  have F := ft KX G c
  have e := hmg.symm.trans F.g_law
  cases e
  obtain ⟨fd, FD⟩ := F.d_law
  have b := FunD.bindsA (ps := ["script"]) FD fun _ _ _ _ _ _ us hl => match us, hl with | [_], _ => rfl
  refine ⟨K, fd, KX, nl, fun s u => b s [u] rfl, fun base _ _ => ?_⟩
  obtain ⟨fd2, FD2, h2⟩ := fn_law (w := w) (base := base) F
  obtain ⟨_, _, _, _, _, _, _, _, _, _, _, k1, _⟩ := FD.ex
  obtain ⟨_, _, _, _, _, _, _, _, _, _, _, k2, _⟩ := FD2.ex
  have k3 := k1.symm.trans k2
  cases k3
  exact h2
end G
open PySem PySem.W PySem.Calls PyProof.Rows
theorem PySem.Challenge.cw_coinholes_k02_rests_are_least_holds : PySem.Challenge.rw_coinholes_k02_rests_are_least.Holds := by
  w_on; o_law
  refine HandSHeadRun.head_imp (r := OpenLaw.row PySem.Challenge.rw_coinholes_k02_rests_are_least) (q := G.qv) (H := G.hk) (ob := G.ob) (M := 20000) (loose := G.loose) (d := HandSHeadRun.topDef (OpenLaw.row PySem.Challenge.rw_coinholes_k02_rests_are_least).prog 60) (kwd := []) G.ob_eq G.run
    (by kernel_rfl) (by kernel_rfl) (by kernel_rfl) (by rfl) (by first | assumption | decide +kernel) (by decide +kernel) ⟨rfl, rfl, rfl, rfl, rfl, by decide +kernel⟩ ?hw ?hc
  case hw => w_witness2
  case hc => exact Fx.walk_wW (l := PySem.Challenge.rw_coinholes_k02_rests_are_least) (n := 63) (k := 7) (Fx.mono_fn G.mo_law) rfl (by decide) (by kernel_rfl) ⟨rfl, by decide, by decide⟩ (by kernel_rfl) G.law_F (fun ns _ => SL.law_ok ns)
