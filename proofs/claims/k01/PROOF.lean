import PyProof.Rows.All
import Wide.All
import OpenK.AllK
import Wide.FinOn
import KE.KSuper
import KE.KExcSuper
import HandS.ForMost
import HandS.Exc
import HandS.ExcInit
import HandS.More
import HandS.ClsMeth
import HandS.Nested
import HandS.Defaults
import HandS.ExcSuper
import HandS.HeadEnd
import HandS.ForExc
import HandS.IsInst
import PyProof.StrLawsRepr
import HandS.OwnEq
import HandS.Property
import HandS.ExcField
import HandS.ExcIs
import HandS.Flow
import HandS.Wide
import HandS.SlotsOwn
import HandS.TryMany
import HandS.Head0
import HandS.Head1
import HandS.Head2
import HandS.HeadHook2
import HandS.TupMul
import HandS.Zip
import HandS.TupAny
import HandS.Walk
import HandS.DictComp
import HandS.Text
import HandS.Small
import HandS.FStr
import HandS.CallSlots
import HandS.RaiseMore
import HandS.Style
import HandS.Finally
import PyProof.Rows.SortStr
import KE.KCallOwn
import PyProof.DictUpdate
import PyProof.DictDisplay
import KE.KDictPairs
import HandS.NoneIn
import HandS.CallLocal
import HandS.Head3
import HandS.SortInts
import KE.DataMinMax
import HandS.Star
import HandS.SortKw
import PyProof.CollectIter
import KE.KUnpack
import KE.GoesEnum
import HandS.Conv
import PyProof.EqKinds
import HandS.Strs
import HandS.GenList
import HandS.RevRange
import PySem.Challenge.RW_lateplace_k01_errors
import PyProof.Rows.RegStrFacts
import PyProof.StrLaws
import KE.IntTextLaws
import PyProof.StrLawsChain
import PyProof.StrLawsTight
import PyProof.Rows.StrItems
import PyProof.Rows.StrSplitJoin
import PyProof.P3Eq
import Open.Seg
import Open.Boot
set_option Elab.async false
set_option linter.all false
set_option maxRecDepth 100000
set_option maxHeartbeats 0
namespace Lp
open PySem PySem.Spec PyProof.Rows L2

structure PSA (X : Cx) (c : Code) (st : Stmt) (t : TS) : Prop where
  run : ∀ (pins : List (Addr × Obj)) (s : Shared) (σ : L2.St) (H : Hp) (D : Ends), Inv X pins σ H s → t D σ H → _root_.PySem.wpAt (model X.prog X.w) X.A c (exec st X.env) (SP X pins D) X.xe s
structure PSsA (X : Cx) (c : Code) (st : List Stmt) (t : TS) : Prop where
  run : ∀ (pins : List (Addr × Obj)) (s : Shared) (σ : L2.St) (H : Hp) (D : Ends), Inv X pins σ H s → t D σ H → _root_.PySem.wpAt (model X.prog X.w) X.A c (execs st X.env) (SP X pins D) X.xe s
section
variable {X : Cx} {c : Code} {st : Stmt} {rest : List Stmt} {t u : TS}
theorem PSA.of (h : PS X st t) : PSA X c st t := ⟨fun pins s σ H D I q => wpAt_of_wpAny (h.run pins s σ H D I q)⟩
theorem PSsA.of (h : PSs X rest t) : PSsA X c rest t := ⟨fun pins s σ H D I q => wpAt_of_wpAny (h.run pins s σ H D I q)⟩
theorem psa_cons (h1 : PSA X c st t) (h2 : PSsA X c rest u) : PSsA X c (st :: rest) (tSeq t u) := by
  refine ⟨fun pins s σ H D I h => ?_⟩
  refine PySem.ks_wpAt_execs_cons (PySem.ks_wpAt_mono (h1.run pins s σ H _ I h) (fun f s' hf => ?_) fun _ _ z => z)
  cases f with
  | next =>
    obtain ⟨σ', H', I', q⟩ := hf
    exact h2.run pins s' σ' H' D I' q
  | brk => exact hf
  | cont => exact hf
  | ret v => exact hf
theorem psa_one (h1 : PSA X c st t) : PSsA X c [st] t := by
  refine ⟨fun pins s σ H D I h => ?_⟩
  refine PySem.ks_wpAt_execs_cons (PySem.ks_wpAt_mono (h1.run pins s σ H _ I h) (fun f s' hf => ?_) fun _ _ z => z)
  cases f with
  | next =>
    obtain ⟨σ', H', I', q⟩ := hf
    exact wpAt_of_wpAny (wpAny_execs_nil ⟨σ', H', I', q⟩)
  | brk => exact hf
  | cont => exact hf
  | ret v => exact hf
end

structure SScope (N ps : List Str) (sc : Scope) : Prop where
  kind : sc.kind = .function
  co : sc.isCoroutine = false
  gen : sc.isGenerator = false
  nd : N.Nodup
  pre : N.take ps.length = ps
  par : ∀ x ∈ ps, sc.names.lookup x = some .local
  nocell : ∀ y ∈ sc.names, y.2 ≠ .cell
  free : ∀ y ∈ sc.names, y.2 = .free → y.1 = "__class__"
def sscB (N ps : List Str) (sc : Scope) : Bool :=
  decide (sc.kind = .function) && !sc.isCoroutine && !sc.isGenerator && decide N.Nodup && decide (N.take ps.length = ps) && ps.all (fun x => decide (sc.names.lookup x = some .local)) && sc.names.all (fun y => !decide (y.2 = .cell)) && sc.names.all (fun y => !decide (y.2 = .free) || decide (y.1 = "__class__"))
theorem sscope_by {N ps : List Str} {sc : Scope} (h : sscB N ps sc = true) : SScope N ps sc := by
  unfold sscB at h
  simp only [Bool.and_eq_true, Bool.not_eq_true', decide_eq_true_eq, List.all_eq_true, Bool.or_eq_true, decide_eq_false_iff_not] at h
  obtain ⟨⟨⟨⟨⟨⟨⟨h1, h2⟩, h3⟩, h4⟩, h5⟩, h6⟩, h7⟩, h8⟩ := h
  exact ⟨h1, h2, h3, h4, h5, h6, h7, fun y hy e => (h8 y hy).elim (fun z => absurd e z) id⟩

def scx (CX : CXT) (P : Program) (w : World) (K : PySem.W.Frag) (mg : Str → Option Value) (base : Heap) (N : List Str) (qual : Str) (scope : Scope) (f : Addr) (cdv : Value) (cc : Addr) (A : Around) (outer : List Env) (s : Shared) (H : Hp) (E : XK) : Cx where
  prog := P
  w := w
  K := K
  mg := mg
  base := base
  A := A.deeper (PySem.W.ksEnv qual scope s.heap.objs.size f cdv cc)
  N := N
  s_0 := s
  H_0 := H
  env := PySem.W.ksEnv qual scope s.heap.objs.size f cdv cc
  outer := outer
  stack := PySem.W.ksEnv qual scope s.heap.objs.size f cdv cc :: outer
  ex := []
  calm := true
  fn := fun _ => false
  pn := []
  xe := fun e s' => wpAny (model P w) (A.deeper (PySem.W.ksEnv qual scope s.heap.objs.size f cdv cc)) (leaving (PySem.W.ksEnv qual scope s.heap.objs.size f cdv cc) e) (fun _ s'' => CX outer H s E e s'') (fun e' s'' => CX outer H s E e' s'') s'

theorem cls_lookup {x : Str} {c cc : Addr} (h : ([(("__class__" : Str), cc)] : List (Str × Addr)).lookup x = some c) : x = "__class__" ∧ c = cc := by
  have e : ([(("__class__" : Str), cc)] : List (Str × Addr)).lookup x = if x = "__class__" then some cc else none := by
    by_cases q : x = "__class__"
    · subst q
      simp [List.lookup]
    · have e : (x == ("__class__" : Str)) = false := by simpa using q
      rw [if_neg q]
      simp [List.lookup, e]
  rw [e] at h
  by_cases q : x = "__class__"
  · rw [if_pos q] at h
    exact ⟨q, (Option.some.inj h).symm⟩
  · rw [if_neg q] at h
    cases h

section
variable {CX : CXT} {P : Program} {w : World} {K : PySem.W.Frag} {mg : Str → Option Value} {base : Heap} {N ps : List Str} {qual : Str} {scope : Scope} {f cc D : Addr} {cdv : Value} {A : Around} {outer : List Env} {s : Shared} {H : Hp} {E : XK} {us : List Value} {vs : List V} {ocell : Obj}
theorem inv_startS {h₁ : Heap} {tk : Nat} (S : SScope N ps scope) (hd : A.handled = none) (e0 : Env0 P w K mg base A outer s H) (hl : vs.length = ps.length) (r : Vals vs us) (hc : K.lookup cc = some ocell) (hcd : ocell.data = .cell (some (.ref D))) (hns : h₁.Ns s.heap.objs.size fun y => (ps.zip us).reverse.lookup y)
    (kp : ∀ b o, s.heap.get? b = some o → h₁.get? b = some o) : Inv (scx CX P w K mg base N qual scope f cdv cc A outer s H E) [] (start N vs) H { s with heap := h₁, toks := tk } := by
  have hpl : ps.length ≤ N.length := by have := congrArg List.length S.pre; rw [List.length_take] at this; omega
  have noA : ∀ b : Addr, b ∉ (scx CX P w K mg base N qual scope f cdv cc A outer s H E).ex := fun b z => absurd (show b ∈ ([] : List Addr) from z) (by simp)
  have hcell := e0.bs cc ocell (e0.mod.kin _ _ hc)
  refine ⟨⟨e0.mod, S.kind, rfl, rfl, Nat.le_refl _, fun x y c h1 h2 => ?_, fun y hy => ?_, fun y c z _ => ?_, fun _ => hd, Around.frames_deeper e0.frames, .inr ⟨rfl, rfl⟩, fun b z => absurd z (noA b), e0.bs, e0.bsz, fun b _ _ => noA b,
      fun b z => absurd z (noA b), e0.funs, e0.frf⟩,
    rfl, e0.bare, Un.kept kp, ⟨_, hns, fun i y v e1 e2 e3 => ?_⟩, fun y c e => ?_, e0.hok.fresh (Nat.le_refl _), fun y c e => ?_, fun q hq => absurd (show q ∈ ([] : List (Addr × Obj)) ++ [] from hq) (by simp), e0.hok.kept kp, ?_⟩
  · exact (cls_lookup h1).1.trans (cls_lookup h2).1.symm
  · have hy : scope.names.lookup y = some .cell ∨ scope.names.lookup y = some .free := hy
    rcases hy with hy | hy
    · exact absurd rfl (S.nocell _ (PySem.mem_of_lookup hy))
    · have e := S.free _ (PySem.mem_of_lookup hy) rfl
      have e : y = "__class__" := e
      subst e
      exact ⟨cc, rfl⟩
  · have z : false = true := z
    cases z
  · have hi : i < vs.length := by
      unfold L2.start at e2
      by_cases hi : i < vs.length
      · exact hi
      · rw [List.getElem?_append_right (by simpa using hi)] at e2
        rw [List.getElem?_replicate] at e2
        split at e2 <;> cases e2
    have ha : vs[i]? = some v := by
      unfold L2.start at e2
      rw [List.getElem?_append_left (by simpa using hi), List.getElem?_map] at e2
      cases e : vs[i]? with
      | none => rw [e] at e2; cases e2
      | some a => rw [e] at e2; cases e2; rfl
    obtain ⟨u, hu, rv⟩ := r.get ha
    have hp : ps[i]? = some y := by
      rw [← S.pre, List.getElem?_take_of_lt (by omega)]; exact e1
    have ndP : ps.Nodup := by rw [← S.pre]; exact S.nd.sublist (List.take_sublist _ _)
    exact ⟨u, rv, .inl ⟨S.par y (List.mem_of_getElem? hp), NdefX.zip_look ndP hp hu⟩⟩
  · obtain ⟨_, rfl⟩ := cls_lookup e
    exact ⟨_, ocell, kp _ _ hcell.1, hcd⟩
  · obtain ⟨_, rfl⟩ := cls_lookup e
    exact hcell.2
  · unfold L2.start
    show _ = N.length
    rw [List.length_append, List.length_map, List.length_replicate]
    omega
end

structure FunS (K : PySem.W.Frag) (x qual : Str) (params : Arguments) (body : List Stmt) (scope : Scope) (dvs : List V) (D cda cc f : Addr) (fd : FuncData) : Prop where
  ex : ∃ (oc : Value) (od : Option Addr) (dV kV doc pm : Value) (an : Option Addr) (ct : Value) (osl : Array (Option Value)) (ocell : Obj),
    fd = PySem.W.ksFn x qual params body scope dV kV doc pm an (.ref cda) ct cc ∧ K.lookup f = some ⟨oc, od, .func fd, osl⟩ ∧ PySem.W.codeIn K (.ref cda) qual = true ∧ DflV K dV dvs ∧ K.lookup cc = some ocell ∧ ocell.data = .cell (some (.ref D))
  kp : PySem.W.keepIn K (.ref f) = true
section
variable {P : Program} {w : World} {K : PySem.W.Frag} {mg : Str → Option Value} {base : Heap} {x qual : Str} {params : Arguments} {body : List Stmt} {scope : Scope} {dvs : List V} {D cda cc f : Addr} {fd : FuncData}
theorem FunS.ok {CX : CXT} {N ps : List Str} {k : Nat} {sp : Sp} (F : FunS K x qual params body scope dvs D cda cc f fd) (S : SScope N ps scope) (len : ∀ vs H Q E, sp vs H Q E → vs.length = ps.length)
    (hbody : ∀ (A : Around) (outer : List Env) (s : Shared) (H : Hp) (vs : List V) (Q : VK) (E : XK), Room k (A.deeper (PySem.W.ksEnv qual scope s.heap.objs.size f (.ref cda) cc)) → sp vs H Q E →
      ∃ t, PSsA (scx CX P w K mg base N qual scope f (.ref cda) cc A outer s H E) (.func body (PySem.W.ksEnv qual scope s.heap.objs.size f (.ref cda) cc)) body t ∧ t { nx := fun _ H' => Q .non H', rt := Q } (start N vs) H) : FnOk P w K mg base CX (k + 1) f fd ps sp := by
  obtain ⟨oc, od, dV, kV, doc, pm, an, ct, osl, ocell, rfl, lk, hcd, _, hc, hcc⟩ := F.ex
  refine ⟨len, fun A outer s H args us vs Q E hr e0 hb r hsp => ?_⟩
  have hl := len _ _ _ _ hsp
  have KX : K.In s.heap := e0.mod.kin.keeps fun b o e => (e0.bs b o e).1
  have lim : s.heap.NoLimit := e0.mod.nolimit.keeps fun b o e => (e0.bs b o e).1
  refine PySem.ks_codeAny_call_defAt (binds := ps.zip us) hr.depth (KX _ _ lk) rfl lim (PySem.W.codeRec_of KX hcd) rfl hb S.nocell (fun ⟨n, _⟩ hy => S.par n (List.of_mem_zip hy).1) (fun h₁ hns kp => ?_) S.co S.gen S.kind
  obtain ⟨t, ht, hq⟩ := hbody A outer s H vs Q E (hr.deeper _) hsp
  have I : Inv (scx CX P w K mg base N qual scope f (.ref cda) cc A outer s H E) [] (start N vs) H { s with heap := h₁, toks := s.toks + (ps.zip us).length } := inv_startS S hr.hd e0 hl r hc hcc hns kp
  refine PySem.ks_wpAt_mono (ht.run [] _ (start N vs) H _ I hq) (fun fl s' hs => ?_) fun e s' hs => hs
  have fin : ∀ {σ' : L2.St} {H' : Hp} {v : V} {u : Value}, Inv (scx CX P w K mg base N qual scope f (.ref cda) cc A outer s H E) [] σ' H' s' → RelV v u → Q v H' → CE outer P w H s Q u s' :=
    fun {σ' H' v u} J rv q => ⟨v, H', J.os, J.bare, J.base, J.hok, rv, q⟩
  cases fl with
  | ret u =>
    obtain ⟨v, σ', H', J, rv, q⟩ := hs
    exact fin J rv q
  | next =>
    obtain ⟨σ', H', J, q⟩ := hs
    exact fin (v := V.non) (u := Value.none) J rfl q
  | brk =>
    obtain ⟨_, _, _, q⟩ := hs
    exact False.elim q
  | cont =>
    obtain ⟨_, _, _, q⟩ := hs
    exact False.elim q
theorem FunS.bindsN {ps : List Str} (F : FunS K x qual params body scope dvs D cda cc f fd)
    (h : ∀ (dV kV doc pm : Value) (an : Option Addr) (ct : Value) (us : List Value), us.length = ps.length → bindArgs (PySem.W.ksFn x qual params body scope dV kV doc pm an (.ref cda) ct cc) ⟨us, []⟩ = pure (ps.zip us)) : Binds K fd ps [] := by
  obtain ⟨oc, od, dV, kV, doc, pm, an, ct, osl, ocell, rfl, lk, hcd, hD, hc, hcc⟩ := F.ex
  exact .all (h dV kV doc pm an ct)
theorem FunS.bindsN0 {ps : List Str} (F : FunS K x qual params body scope [] D cda cc f fd)
    (h : ∀ (kV doc pm : Value) (an : Option Addr) (ct : Value) (us : List Value), us.length = ps.length → bindArgs (PySem.W.ksFn x qual params body scope .none kV doc pm an (.ref cda) ct cc) ⟨us, []⟩ = pure (ps.zip us)) : Binds K fd ps [] := by
  obtain ⟨oc, od, dV, kV, doc, pm, an, ct, osl, ocell, rfl, lk, hcd, hD, hc, hcc⟩ := F.ex
  rcases hD with ⟨_, rfl⟩ | ⟨e, _⟩
  · exact .all (h kV doc pm an ct)
  · exact absurd rfl e
end
end Lp
namespace Lp
open PySem PySem.Spec PyProof.Rows L2

structure PEA (X : Cx) (c : Code) (e : Expr) (t : TE) : Prop where
  run : ∀ (pins : List (Addr × Obj)) (s : Shared) (σ : L2.St) (H : Hp) (Q : VK), Inv X pins σ H s → t σ H Q → _root_.PySem.wpAt (model X.prog X.w) X.A c (eval e X.env) (EP X pins σ Q) X.xe s
section
variable {X : Cx} {c : Code} {e : Expr} {te : TE} {pos : Pos}
theorem PEA.of (h : PE X e te) : PEA X c e te := ⟨fun pins s σ H Q I q => wpAt_of_wpAny (h.run pins s σ H Q I q)⟩
theorem psa_expr (he : PEA X c e te) (hi : interactive X.env = false := by rfl) (hs : swapsWith e none pos.line X.env = pure false := by rfl) : PSA X c (.Expr e pos) (tDrop te) := by
  refine ⟨fun pins s σ H D I h => ?_⟩
  exact PySem.ks_wpAt_Expr_any (PySem.ks_wpAt_mono (he.run pins s σ H _ I h) (fun v s' ⟨_, H', I', _, q⟩ => ⟨σ, H', I', q⟩) fun _ _ z => z) hi hs
end

structure SupK (P : Program) (K : PySem.W.Frag) (mg : Str → Option Value) (f cda cc D : Addr) : Prop where
  fn : ∃ (oc : Value) (od : Option Addr) (fd : FuncData) (osl : Array (Option Value)) (ar : Arg), K.lookup f = some ⟨oc, od, .func fd, osl⟩ ∧ (fd.params.posonlyargs ++ fd.params.args).head? = some ar ∧ ar.arg = "self"
  code : ∃ (ccl : Value) (cdd : Option Addr) (vs : Array Value) (ccs : Array (Option Value)) (file : Str) (tf : Tok), K.lookup cda = some ⟨ccl, cdd, .fields vs, ccs⟩ ∧ vs[2]? = some (.str file tf) ∧ ((P.main.file : Str) == file) = true
  cell : ∃ ocell : Obj, K.lookup cc = some ocell ∧ ocell.data = .cell (some (.ref D))
  cls : ∃ cdD : ClassData, PySem.W.clsIn K D = some cdD
  sup : mg "super" = none
  top : (P.main.scope.names.lookup ("super" : Str)).isSome = false
  opq : PySem.W.nsIn K cStatics "thirdparty.any" = some none

section
variable {X : Cx} {pins : List (Addr × Obj)} {σ : L2.St} {H : Hp} {s : Shared} {f cda cc D a C : Addr} {body : List Stmt} {p0 p1 : Pos} {attr : Str} {whole : Sem Value} {Q : Value → Shared → Prop} {E : Value → Shared → Prop} {ox : Obj}
theorem sup_node (S : SupK X.prog X.K X.mg f cda cc D) (I : Inv X pins σ H s) (hv : σ[0]? = some (some (.ref a))) (hN : X.N[0]? = some ("self" : Str)) (hfu : X.env.func = some f) (hco : X.env.code = .ref cda) (hcl : X.env.cells.lookup ("__class__" : Str) = some cc)
    (hks : X.env.kindOf "super" = some .globalImplicit) (hkc : X.env.kindOf "__class__" = some .free) (hka : X.env.kindOf "self" = some .local) (hat : (attr == ("__class__" : Str)) = false)
    (hx : s.heap.get? a = some ox) (hxc : ox.cls = .ref C) (hnc : ∀ c, ox.data ≠ .cls c) (hsub : PySem.W.mroIn X.K C (.ref D) = some true)
    (h : ∀ h', h'.get? s.heap.objs.size = some { cls := .type "super", dict := none, data := .fields #[.ref D, .ref a, .ref C], slots := #[] } → (∀ y o, s.heap.get? y = some o → h'.get? y = some o) → Q (.ref s.heap.objs.size) { s with heap := h' }) :
    _root_.PySem.wpAt (model X.prog X.w) X.A (.func body X.env) (attributeBase (.Call (.Name "super" p0) [] [] p1) attr X.env whole) Q E s := by
  obtain ⟨oc, od, fd, osl, ar, hf, hp, har⟩ := S.fn
  obtain ⟨ccl, cdd, vs, ccs, file, tf, hcode, hvs, hfile⟩ := S.code
  obtain ⟨ocell, hcell, hcd⟩ := S.cell
  obtain ⟨cdD, hD⟩ := S.cls
  have KX := I.kIn
  obtain ⟨oD, hD1, hD2⟩ : ∃ oD, s.heap.get? D = some oD ∧ oD.data = .cls cdD := by
    unfold PySem.W.clsIn at hD
    split at hD
    · rename_i c d cd' sl ho
      cases hD
      exact ⟨_, KX _ _ ho, rfl⟩
    · cases hD
  have hk := I.ok.kind
  refine PySem.ks_wpAt_super_base (env := X.env) hks hkc hat hfu (KX _ _ hf) rfl hp hco (KX _ _ hcode) rfl hvs hfile S.top ?_
  obtain ⟨mb, hb1, hb2⟩ := I.mod.blt
  refine PySem.W.ks_loadName_global hk hks (Calls.loadGlobal_builtin (by rw [I.ok.glob]; exact I.mod.glob.keeps I.bk) S.sup (by rw [I.ok.blt]; exact hb1.keeps I.bk) ((hb2 "super" (by decide)).trans (by first | boot_by_name | rfl | kernel_rfl)) ⟨rfl, ?_⟩)
  refine wpAny_loadName_free hk hkc hcl ⟨ocell, KX _ _ hcell, hcd⟩ ?_
  obtain ⟨m, hn, hl⟩ := I.loc
  obtain ⟨u, ru, lk⟩ := hl 0 "self" _ hN hv (.inl hka)
  have hm : m ar.arg = some (.ref a) := by
    rw [har]
    rcases lk with ⟨_, e⟩ | ⟨e, _⟩
    · rw [e, show u = Value.ref a from ru]
    · rw [hka] at e
      rcases e with e | e <;> cases e
  refine wpAny_loadName_local hk (by rw [har]; exact hka) hn hm ?_
  obtain ⟨hh, g, d, t, os⟩ := s
  refine PySem.ks_wpAny_isType_cls hD1 hD2 ⟨rfl, ?_⟩
  exact PySem.ks_wpAny_call_super hD1 hD2 hx hxc hnc (PySem.W.looks_mroIn KX hsub) (fun h' e k => h h' e k)
end

section
open PySem.W PySem.Calls PyProof.Rows
variable {prog : Program} {w : World} {A : Around} {E : Value → Shared → Prop} {h : Heap} {g : Array GenState} {d : Drawn} {t : Nat} {os : OsState}
variable {nm q : Str} {C N : Addr} {bs bm : List Value} {hdct : Bool} {sn : List Str} {sub : List Value} {ab : Bool} {col : Option Bool} {dd : Option Addr} {k0 k1 k2 k3 k5 : Option Value}
end

section
variable {X : Cx} {CX : CXT} {k : Nat} {f cda cc D f2 : Addr} {sp : Sp} {E : XK} {e : Expr} {es : List Expr} {t : TA} {m : Str} {p0 p1 apos pos : Pos} {body : List Stmt} {pl : Sem Bool}
theorem ms_look {K : PySem.W.Frag} {M : Model} {h : Heap} {C : Addr} {cd : ClassData} (KX : K.In h) (hc : PySem.W.clsIn K C = some cd) : PySem.W.Looks M h (mroOf (.ref C)) cd.mro := (PySem.W.looks_clsIn KX hc).andThen .now
end
end Lp
namespace Lp
open PySem PySem.Spec PyProof.Rows L2

structure GOk (P : Program) (w : World) (K : PySem.W.Frag) (mg : Str → Option Value) (base : Heap) (CX : CXT) (k : Nat) (f : Addr) (fd : FuncData) (ps : List Str) (sp : Sp) : Prop where
  len : ∀ vs H Q E, sp vs H Q E → vs.length = ps.length
  run : ∀ (A : Around) (outer : List Env) (s : Shared) (H : Hp) (args : Args) (us : List Value) (vs : List V) (Q : VK) (E : XK), A.guards = some [] → Room k A → Env0 P w K mg base A outer s H → BindsTo s fd args (ps.zip us) → Vals vs us → sp vs H Q E →
    codeAny (model P w) A (.call (.ref f) args) (CR CX outer P w H s Q E) s
section
variable {P : Program} {w : World} {K : PySem.W.Frag} {mg : Str → Option Value} {base : Heap} {CX : CXT} {j k : Nat} {f : Addr} {fd : FuncData} {ps : List Str} {sp : Sp}
theorem GOk.of (F : FnOk P w K mg base CX k f fd ps sp) : GOk P w K mg base CX k f fd ps sp := ⟨F.len, fun A outer s H args us vs Q E _ => F.run A outer s H args us vs Q E⟩
theorem GOk.mono (F : GOk P w K mg base CX j f fd ps sp) (h : j ≤ k) : GOk P w K mg base CX k f fd ps sp := ⟨F.len, fun A outer s H args us vs Q E hg hr => F.run A outer s H args us vs Q E hg (hr.mono h)⟩
theorem okG_of {name qual : Str} {params : Arguments} {body : List Stmt} {scope : Scope} {dV kV doc pm cdv ct oc : Value} {an od : Option Addr}
    {osl : Array (Option Value)} {N : List Str} (lk : K.lookup f = some ⟨oc, od, .func (PySem.W.fnOf name qual params body scope dV kV doc pm an cdv ct), osl⟩) (hcd : PySem.W.codeIn K cdv qual = true) (S : FnScope N ps scope)
    (len : ∀ vs H Q E, sp vs H Q E → vs.length = ps.length)
    (hbody : ∀ (A : Around) (outer : List Env) (s : Shared) (H : Hp) (vs : List V) (Q : VK) (E : XK), (cxOf CX P w K mg base N qual scope f cdv A outer s H E).A.guards = some [] → Room k (A.deeper (envOfC qual scope s.heap.objs.size f cdv)) → sp vs H Q E →
      ∃ t, PSs (cxOf CX P w K mg base N qual scope f cdv A outer s H E) body t ∧ t { nx := fun _ H' => Q .non H', rt := Q } (L2.start N vs) H) :
    GOk P w K mg base CX (k + 1) f (PySem.W.fnOf name qual params body scope dV kV doc pm an cdv ct) ps sp := by
  refine ⟨len, fun A outer s H args us vs Q E hgu hr e0 hb r hsp => ?_⟩
  have hl := len _ _ _ _ hsp
  have KX : K.In s.heap := e0.mod.kin.keeps fun b o e => (e0.bs b o e).1
  have lim : s.heap.NoLimit := e0.mod.nolimit.keeps fun b o e => (e0.bs b o e).1
  have hkind : ∀ y ∈ ps.zip us, scope.names.lookup y.1 = some .local ∨ (scope.names.lookup y.1 = some .cell ∧ ((cellsFrom (s.heap.objs.size + 1) scope.names []).lookup y.1).isSome = true) := fun ⟨n, v⟩ hy => by
    rcases S.par n (List.of_mem_zip hy).1 with q | q
    · exact .inl q
    · exact .inr ⟨q, PySem.W.cellsFrom_some _ _ _ (.inl q)⟩
  refine codeAny_call_function hr.depth (KX _ _ lk) rfl S.co S.gen rfl (PySem.W.codeRec_of KX hcd) (hb _ _ _ _ ?_)
  refine wpAny_newFunctionEnv_cells S.kind hkind fun env he s1 x => ?_
  subst he
  refine ⟨lim.keeps x.toInCall.keep, codeAny_func ?_⟩
  obtain ⟨t, ht, hq⟩ := hbody A outer s H vs Q E hgu (hr.deeper _) hsp
  have I : Inv (cxOf CX P w K mg base N qual scope f cdv A outer s H E) [] (L2.start N vs) H s1 := inv_start S hr.hd e0 hl r x
  refine wpAny_mono (ht.run [] s1 (L2.start N vs) H _ I hq) (fun fl s' hs => ?_) fun e s' hs => hs
  have fin : ∀ {σ' : L2.St} {H' : Hp} {v : V} {u : Value}, Inv (cxOf CX P w K mg base N qual scope f cdv A outer s H E) [] σ' H' s' → RelV v u → Q v H' → CE outer P w H s Q u s' :=
    fun {σ' H' v u} J rv q => ⟨v, H', J.os, J.bare, J.base, J.hok, rv, q⟩
  cases fl with
  | ret u =>
    obtain ⟨v, σ', H', J, rv, q⟩ := hs
    exact fin J rv q
  | next =>
    obtain ⟨σ', H', J, q⟩ := hs
    exact fin (v := V.non) (u := Value.none) J rfl q
  | brk =>
    obtain ⟨_, _, _, q⟩ := hs
    exact False.elim q
  | cont =>
    obtain ⟨_, _, _, q⟩ := hs
    exact False.elim q
theorem funD_okG {x qual : Str} {params : Arguments} {body : List Stmt} {scope : Scope} {dvs : List V} {kws : List (Str × V)} {N : List Str} (F : FunD K x qual params body scope dvs kws f fd) (S : FnScope N ps scope) (len : ∀ vs H Q E, sp vs H Q E → vs.length = ps.length)
    (hbody : ∀ (cdv : Value) (A : Around) (outer : List Env) (s : Shared) (H : Hp) (vs : List V) (Q : VK) (E : XK), (cxOf CX P w K mg base N qual scope f cdv A outer s H E).A.guards = some [] → Room k (A.deeper (envOfC qual scope s.heap.objs.size f cdv)) → sp vs H Q E →
      ∃ t, PSs (cxOf CX P w K mg base N qual scope f cdv A outer s H E) body t ∧ t { nx := fun _ H' => Q .non H', rt := Q } (L2.start N vs) H) : GOk P w K mg base CX (k + 1) f fd ps sp := by
  obtain ⟨oc, od, dV, kV, doc, pm, an, cdv, ct, osl, rfl, lk, hcd, _, _⟩ := F.ex
  exact okG_of lk hcd S len fun A outer s H vs Q E hg hr hsp => hbody cdv A outer s H vs Q E hg hr hsp
end
section
variable {X : Cx} {CX : CXT} {k : Nat} {f : Addr} {fd : FuncData} {ps : List Str} {sp : Sp} {dvs : List V} {ds : List Value} {E : XK} {x : Str} {p pos : Pos} {e : Expr} {es : List Expr} {t : TA}
end

theorem law_coreG {P : Program} {w : World} {K : PySem.W.Frag} {mg mb : Str → Option Value} {k : Nat} {fa a : Addr} {fd : FuncData} {x : Str} {sp : Sp} {s₁ : Shared} {vs : List Value} {H : Hp}
    (KX : K.In s₁.heap) (hns : s₁.heap.Ns mainGlobals mg) (hb : s₁.heap.Ns builtinsNs mb) (hbb : ∀ x : Str, x ≠ "__name__" → mb x = bootBuiltins x) (hlim : s₁.heap.NoLimit) (hg : s₁.gens = #[])
    (ha : s₁.heap.get? a = some { cls := .type "list", data := .seq vs.toArray }) (hr : Room k callerA)
    (F : ∀ base : Heap, K.In base → base.Ns mainGlobals mg → GOk P w K mg base CX0 k fa fd [x] sp) (hbind : ∀ (s : Shared) (u : Value), BindsTo s fd ⟨[u], []⟩ [(x, u)])
    (hsp : sp [.ref a] H (fun v _ => v = .bl true) fun _ _ _ => False) (hO : Only H) (hok : HOk P w H s₁.heap) (hA : ∀ b, H b ≠ none → b = a) (hK : H a ≠ none → K.lookup a = none) :
    codeAny (model P w) callerA (.call (.ref fa) ⟨[.ref a], []⟩) (fun r s' => r = .ok (.ret (.bool true)) ∧ OldK s₁.heap s'.heap ∧ s'.os = s₁.os ∧ AllBare s'.gens) s₁ := by
  have up : ∀ {b : Addr} {o : Obj}, s₁.heap.get? b = some o → H b = none → (hidT s₁.heap H).get? b = some o := fun e n => hidT_get e n
  have other : ∀ {b : Addr}, b ≠ a → H b = none := fun {b} hb => by
    cases q : H b with
    | none => rfl
    | some u => exact absurd (hA b (by rw [q]; exact fun z => nomatch z)) hb
  have nsU : ∀ {b : Addr} {m : Str → Option Value}, s₁.heap.Ns b m → (hidT s₁.heap H).Ns b m := fun {b m} ⟨o, es, ep, e, d, r⟩ =>
    ⟨o, es, ep, up e (other fun z => by
      rw [z, ha] at e
      cases e
      exact nomatch (show Data.seq vs.toArray _ = Data.dict es ep from d)), d, r⟩
  have KU : K.In (hidT s₁.heap H) := fun b o e => up (KX b o e) (by
    cases q : H b with
    | none => rfl
    | some u =>
      have z := hA b (by rw [q]; exact fun z => nomatch z)
      rw [z] at e q
      rw [hK (by rw [q]; exact fun z => nomatch z)] at e
      cases e)
  obtain ⟨mc, l1, l2⟩ := hlim
  have M : Mod K mg (hidT s₁.heap H) := ⟨KU, nsU hns, ⟨mb, nsU hb, hbb⟩, ⟨mc, nsU l1, l2⟩⟩
  have e0 : Env0 P w K mg (hidT s₁.heap H) callerA [] s₁ H := ⟨rfl, M, fun b o e => of_hidT e, Nat.le_of_eq (hidT_size _ _), trivial, fun b z => absurd (show b ∈ ([] : List Addr) from z) (fun y => nomatch y), hok, .of_eq hg⟩
  refine codeAny_mono ((F _ KU (nsU hns)).run callerA [] s₁ H ⟨[.ref a], []⟩ [.ref a] [.ref a] _ _ rfl hr e0 (hbind s₁ (.ref a)) (.cons rfl .nil) hsp) fun r s' h => ?_
  cases r with
  | error e => exact False.elim h
  | ok fl =>
    cases fl with
    | next => exact False.elim h
    | brk => exact False.elim h
    | cont => exact False.elim h
    | ret u =>
      obtain ⟨v, H', os, bare, un, hok', r', q⟩ := h
      have q : v = .bl true := q
      subst q
      obtain rfl : u = Value.bool true := r'
      refine ⟨rfl, OldK.of_keep fun b o e => ?_, os, bare⟩
      rcases hO b with z | ⟨ob, ys, z⟩
      · exact un.keep b o e z (fun y => nomatch (show b ∈ ([] : List Addr) from y)) (fun y => nomatch y)
      · obtain ⟨e1, _⟩ := (show ObjOk P w H s₁.heap b (.frz ob (.lst ys)) from hok b _ z)
        obtain ⟨e2, _⟩ := (show ObjOk P w H' s'.heap b (.frz ob (.lst ys)) from hok' b _ (un.frzs b ob _ z))
        rw [e1] at e
        rw [e2, ← e]
theorem law_callG {P : Program} {w : World} {K : PySem.W.Frag} {mg mb : Str → Option Value} {k : Nat} {fa a : Addr} {fd : FuncData} {x : Str} {sp : Sp} {s₁ : Shared} {vs : List Value} {ns : List Int}
    (KX : K.In s₁.heap) (hns : s₁.heap.Ns mainGlobals mg) (hb : s₁.heap.Ns builtinsNs mb) (hbb : ∀ x : Str, x ≠ "__name__" → mb x = bootBuiltins x) (hlim : s₁.heap.NoLimit) (hg : s₁.gens = #[])
    (ha : s₁.heap.get? a = some { cls := .type "list", data := .seq vs.toArray }) (hi : IntsAre vs ns) (hl : ns.length ≤ sizeLine) (hr : Room k callerA)
    (F : ∀ base : Heap, K.In base → base.Ns mainGlobals mg → GOk P w K mg base CX0 k fa fd [x] sp) (hbind : ∀ (s : Shared) (u : Value), BindsTo s fd ⟨[u], []⟩ [(x, u)])
    (hsp : ∀ H : Hp, Only H → SqL K H a (ns.map V.int) → sp [.ref a] H (fun v _ => v = .bl true) fun _ _ _ => False) :
    codeAny (model P w) callerA (.call (.ref fa) ⟨[.ref a], []⟩) (fun r s' => r = .ok (.ret (.bool true)) ∧ OldK s₁.heap s'.heap ∧ s'.os = s₁.os ∧ AllBare s'.gens) s₁ := by
  have rv := vals_ints hi
  have lv := hi.length
  cases hk : K.lookup a with
  | some o =>
    have e := KX a o hk
    rw [ha] at e
    cases e
    have hO : Only (fun _ => none) := fun _ => .inl rfl
    have hS : SqL K (fun _ => none) a (ns.map V.int) := .inr ⟨_, vs.toArray, _, hk, rfl, rfl, rfl, by rw [List.size_toArray, lv]; exact hl, by simpa using rv⟩
    exact law_coreG KX hns hb hbb hlim hg ha hr F hbind (hsp _ hO hS) hO (fun b u z => nomatch (show (none : Option HO) = some u from z)) (fun b z => absurd rfl z) fun z => absurd rfl z
  | none =>
    let H : Hp := upd (fun _ => none) a (.frz { cls := .type "list", data := .seq vs.toArray } (.lst (ns.map V.int)))
    have hO : Only H := fun b => by
      by_cases h : b = a
      · rw [h]
        exact .inr ⟨_, _, upd_same⟩
      · exact .inl (upd_ne h)
    have hS : SqL K H a (ns.map V.int) := .inl (.inr ⟨_, upd_same⟩)
    refine law_coreG KX hns hb hbb hlim hg ha hr F hbind (hsp _ hO hS) hO (fun b u z => ?_) (fun b z => ?_) fun _ => hk
    · by_cases h : b = a
      · rw [h] at z ⊢
        have z : some _ = some u := upd_same.symm.trans z
        cases z
        exact ⟨ha, by rw [List.length_map]; exact hl, vs, _, rv, ha⟩
      · exact nomatch (show (none : Option HO) = some u from (upd_ne h).symm.trans z)
    · by_cases h : b = a
      · exact h
      · exact absurd (upd_ne h) z
theorem walk_ofG {l : PySem.W.OpenLaw} {n k : Nat} {q : Program} {loose : List Str} {XP : (Str → Option Value) → Heap → Prop} {YP : World → Heap → Prop} {d : DefRec} {x : Str}
    (hn : l.most = some n) (hn2 : n ≤ sizeLine) (hdf : d.params.defaults = []) (hr : Room k callerA)
    (F : ∀ (w : World) (mg : Str → Option Value) (fa : Addr) (h : Heap), YP w h → h.Ns mainGlobals mg → mg d.name = some (.ref fa) →
      ∃ (K : PySem.W.Frag) (fd : FuncData) (sp : Sp), K.In h ∧ (∀ (s : Shared) (u : Value), BindsTo s fd ⟨[u], []⟩ [(x, u)]) ∧
        (∀ (H : Hp) (a : Addr) (ns : List Int), ns.length ≤ n → Only H → SqL K H a (ns.map V.int) → sp [.ref a] H (fun v _ => v = .bl true) fun _ _ _ => False) ∧
        ∀ base : Heap, K.In base → base.Ns mainGlobals mg → GOk l.prog w K mg base CX0 k fa fd [x] sp) :
    PySem.W.WalkO q loose XP YP l.row.toRowW d [] (fun f vs => PySem.call f vs) := by
  refine Att.attach_call hn hdf fun w s₀ s₁ mg mb fa o pm cd doc a vs ns G Y ho hd hcd hmg hobj hints hlen hg => ?_
  obtain ⟨K, fd, sp, KX, hb, hsp, hF⟩ := F w mg fa _ Y G.T.g hmg
  exact law_callG KX G.T.g G.T.b G.T.builtins G.T.nolimit hg hobj hints (Nat.le_trans hlen hn2) hr hF hb fun H hO hS => hsp H a ns hlen hO hS
end Lp
namespace Lp
open PySem PySem.Spec PyProof.Rows L2

mutual
def cntD : PyData → Nat
  | .list xs | .tuple xs => cntAll xs + 1
  | .str x => x.length + 1
  | _ => 1
def cntAll : List PyData → Nat
  | [] => 0
  | x :: xs => cntD x + cntAll xs
end
theorem len_app (a b : Str) : (a ++ b).length = a.length + b.length := by
  show (a.cps ++ b.cps).size = a.cps.size + b.cps.size
  exact Array.size_append
theorem strOk_lt {x : Str} (h : PyData.strOk x = true) : ∀ c ∈ x.cps.toList, c < 16 ^ 8 := fun c hc => by
  unfold PyData.strOk at h
  rw [← Array.all_toList] at h
  have := List.all_eq_true.mp h c hc
  have : c < 0x110000 := of_decide_eq_true this
  omega
theorem listText_le : ∀ ts : List Str, (listText ts).length ≤ piled ts + 10
  | [] => by decide +kernel
  | t :: ts => by
    show ((textFrom 1 (("[" : Str) ++ (if 0 > 0 then ", " else "" : String) ++ t) ts) ++ ("]" : Str)).length ≤ _
    rw [len_app, textFrom_length_pos ts 1 _ (by decide), len_app, len_app, piled_cons]
    have e1 : ("[" : Str).length = 1 := by decide +kernel
    have e2 : ((if 0 > 0 then ", " else "" : String) : Str).length = 0 := by decide +kernel
    have e3 : ("]" : Str).length = 1 := by decide +kernel
    omega
theorem tupleText_le (ts : List Str) : (tupleText ts).length ≤ piled ts + 10 := by
  unfold tupleText
  rw [len_app, len_app]
  have e1 : ("(" : Str).length = 1 := by decide +kernel
  have e2 : (((if ts.length == 1 then ",)" else ")" : String) : Str)).length ≤ 2 := by
    split <;> decide +kernel
  have e3 : (Str.join ", " ts).length ≤ piled ts := by
    by_cases h : ts = []
    · subst h
      decide +kernel
    · have := join_length_add ts h
      omega
  omega
mutual
theorem shown_le : ∀ d : PyData, d.showable = true → d.canLay0 = true → d.shown.length + 2 ≤ 2000 * cntD d
  | .none, _, _ => by decide +kernel
  | .bool b, _, _ => by cases b <;> decide +kernel
  | .int i, h, _ => by
    have h1 : i.natAbs.log2 < 1920 := by simpa [PyData.showable] using h
    have h2 := int_text_length_le (k := 1920) (by decide) h1
    show (Str.ofString (toString i)).length + 2 ≤ 2000 * 1
    rw [PySem.ofString_length]
    omega
  | .str x, _, h => by
    have h1 := PySem.StrLaws.reprText_len x (strOk_lt (by simpa [PyData.canLay0] using h))
    show (reprText x).length + 2 ≤ 2000 * (x.length + 1)
    omega
  | .list xs, h, h' => by
    have h1 := shownAll_le xs (by simpa [PyData.showable] using h) (by simpa [PyData.canLay0] using h')
    have h2 := listText_le (PyData.shownAll xs)
    show (listText (PyData.shownAll xs)).length + 2 ≤ 2000 * (cntAll xs + 1)
    omega
  | .tuple xs, h, h' => by
    have h1 := shownAll_le xs (by simpa [PyData.showable] using h) (by simpa [PyData.canLay0] using h')
    have h2 := tupleText_le (PyData.shownAll xs)
    show (tupleText (PyData.shownAll xs)).length + 2 ≤ 2000 * (cntAll xs + 1)
    omega
  | .dict _, _, h => by simp [PyData.canLay0] at h
theorem shownAll_le : ∀ ds : List PyData, PyData.showableAll ds = true → PyData.canLayAll0 ds = true → piled (PyData.shownAll ds) ≤ 2000 * cntAll ds
  | [], _, _ => by decide +kernel
  | d :: ds, h, h' => by
    have e1 : d.showable = true ∧ PyData.showableAll ds = true := by simpa [PyData.showableAll] using h
    have e2 : d.canLay0 = true ∧ PyData.canLayAll0 ds = true := by simpa [PyData.canLayAll0] using h'
    have h1 := shown_le d e1.1 e2.1
    have h2 := shownAll_le ds e1.2 e2.2
    simp only [PyData.shownAll, cntAll, piled_cons]
    omega
end
end Lp
namespace Lp
open PySem PySem.Spec PyProof.Rows L2

mutual
theorem noDict : ∀ d : PyData, d.canLay0 = true → d.hasDict = false
  | .none, _ => rfl
  | .bool _, _ => rfl
  | .int _, _ => rfl
  | .str _, _ => rfl
  | .list xs, h => by
    have := noDictAll xs (by simpa [PyData.canLay0] using h)
    simpa [PyData.hasDict] using this
  | .tuple xs, h => by
    have := noDictAll xs (by simpa [PyData.canLay0] using h)
    simpa [PyData.hasDict] using this
  | .dict _, h => by simp [PyData.canLay0] at h
theorem noDictAll : ∀ ds : List PyData, PyData.canLayAll0 ds = true → PyData.hasDictAll ds = false
  | [], _ => rfl
  | d :: ds, h => by
    have e2 : d.canLay0 = true ∧ PyData.canLayAll0 ds = true := by simpa [PyData.canLayAll0] using h
    have h1 := noDict d e2.1
    have h2 := noDictAll ds e2.2
    simp [PyData.hasDictAll, h1, h2]
end
def rReprD (K : PySem.W.Frag) : List V → Hp → VK → Prop := fun xs H Q => ∃ v d, xs = [v] ∧ Dp K H v d ∧ d.showable = true ∧ d.canLay0 = true ∧ d.depth ≤ 60 ∧ cntD d ≤ 8000 ∧ Q (.str d.shown) H
section
variable {X : Cx}
theorem call_reprD (hg : X.A.guards = some []) (hu : X.A.units + 64 < cLine) : CallR X (.builtin "repr") (rReprD X.K) := by
  intro pins s σ H xs us Q I r h
  obtain ⟨v, d, rfl, hd, hs, hc, hdp, hcn, q⟩ := h
  obtain ⟨u, rfl, ru⟩ := r.one
  have hl := shown_le d hs hc
  have hz : d.shown.length ≤ sizeLine := by rw [sizeLine_eq]; omega
  obtain ⟨as, rd⟩ := Dp.reads I d v u hd ru
  cases d with
  | none =>
    cases rd
    exact PySem.P.repr_of_none ⟨.str _, H, I.tok _, ⟨_, rfl⟩, q⟩
  | bool b =>
    cases rd
    exact PySem.P.repr_of_bool ⟨.str _, H, I.tok _, ⟨_, rfl⟩, q⟩
  | int i =>
    cases rd
    exact PySem.P.repr_of_int (by simpa [PyData.showable] using hs) ⟨.str _, H, I.tok _, ⟨_, rfl⟩, q⟩
  | str x =>
    cases rd
    exact PySem.P.repr_of_str ⟨.str _, H, I.tok _, ⟨_, rfl⟩, q⟩ hz
  | list ds =>
    obtain ⟨a, rfl⟩ : ∃ a, u = .ref a := by cases rd; exact ⟨_, rfl⟩
    exact repr_of_reads' rd hs (fun e => by rw [noDict _ hc] at e; cases e) hg (by omega) (fun _ _ e => e) (fun h' t tk k => ⟨.str _, H, I.kept (t' := tk) k, ⟨_, rfl⟩, q⟩) hz
  | tuple ds =>
    obtain ⟨a, rfl⟩ : ∃ a, u = .ref a := by cases rd; exact ⟨_, rfl⟩
    exact repr_of_reads' rd hs (fun e => by rw [noDict _ hc] at e; cases e) hg (by omega) (fun _ _ e => e) (fun h' t tk k => ⟨.str _, H, I.kept (t' := tk) k, ⟨_, rfl⟩, q⟩) hz
  | dict _ => simp [PyData.canLay0] at hc
end
end Lp
namespace PySem.W
open PySem PySem.Spec PySem.Calls PyProof.Rows
section
variable {prog : Program} {w : World} {A : Around} {E : Value → Shared → Prop} {s : Shared} {K : Frag} {x C L f : Addr} {h₀ : Heap} {m : Str → Option Value} {ox : Obj} {od : Option Obj} {b tb : Value}
end
end PySem.W
namespace Lp
open PySem PySem.Spec PyProof.Rows L2
section
variable {X : Cx} {CX : CXT} {pins : List (Addr × Obj)} {σ : L2.St} {H : Hp} {s : Shared} {a C dx g : Addr} {fs : List (Str × V)} {n : Nat} {sp : Sp} {E : XK} {e o : Expr} {ta tb : TE} {pos : Pos}
end
end Lp
namespace Lp
open PySem PySem.Spec PyProof.Rows L2
section
variable {X : Cx} {CX : CXT} {k : Nat} {f C : Addr} {fd : FuncData} {ps : List Str} {sp : Sp} {dvs : List V} {ds : List Value} {E : XK} {x m : Str} {p pos apos : Pos} {e o : Expr} {es : List Expr} {ta te : TE} {t : TA} {i : Nat}
end
end Lp
namespace Lp
open PySem PySem.Spec PyProof.Rows L2
abbrev Cls1 := Value × Option Nat × (Addr → Value → Option Addr → TS)
inductive HdsMix (X : Cx) : List ExceptHandler → List Cls1 → Prop
  | nil : HdsMix X [] []
  | cons {x : Str} {c : Value} {ts : Addr → Value → Option Addr → TS} {b₀ : Stmt} {suite : List Stmt} {np pos' : Pos} {hds : List ExceptHandler} {l : List Cls1} (hc : Names X x c)
      (hsu : ∀ (a : Addr) (oe : Obj) (cls : Value) (d : Option Addr) (pn : List (Addr × Obj)), Zc cls d oe → (∃ vs, oe.data = .fields vs) → PSs (X.suite a ((a, oe) :: pn)) (b₀ :: suite) (ts a cls d)) (r : HdsMix X hds l) :
      HdsMix X (.ExceptHandler (some (.Name x np)) none (b₀ :: suite) pos' :: hds) ((c, none, ts) :: l)
  | as_ {x n : Str} {i : Nat} {c : Value} {ts : Addr → Value → Option Addr → TS} {b₀ : Stmt} {suite : List Stmt} {np pos' : Pos} {hds : List ExceptHandler} {l : List Cls1} (hi : X.N[i]? = some n) (hln : X.env.kindOf n = some .local) (hc : Names X x c)
      (hsu : ∀ (a : Addr) (oe : Obj) (cls : Value) (d : Option Addr) (pn : List (Addr × Obj)), Zc cls d oe → (∃ vs, oe.data = .fields vs) → PSs (X.suite a ((a, oe) :: pn)) (b₀ :: suite) (ts a cls d)) (r : HdsMix X hds l) :
      HdsMix X (.ExceptHandler (some (.Name x np)) (some n) (b₀ :: suite) pos' :: hds) ((c, some i, ts) :: l)
section
variable {X : Cx} {body : List Stmt} {h₀ : ExceptHandler} {hds : List ExceptHandler} {l : List Cls1} {pos : Pos} {tb : WX → TS} {Wout : WX}
end
end Lp
namespace PySem.W
open PySem PySem.Spec PySem.Calls PyProof.Rows
section
variable {prog : Program} {w : World} {A : Around} {E : Value → Shared → Prop} {s : Shared} {K : Frag} {x D : Addr} {ox : Obj} {odd : Option Obj}
theorem lp_findObj_data {C : Addr} {name : Str} {a g : Value} (hc : (clsIn K C).isSome = true) (ha : findIn K (.ref C) name = some (some a)) (hg : specialIn K a "__get__" = some (some g)) (ht : takesIn K a = some true) : findObj K C odd name = some (.bind g a) := by
  obtain ⟨cd, hc⟩ := Option.isSome_iff_exists.mp hc
  unfold findObj
  rw [hc, Option.bind_some, ha, Option.bind_some]
  simp [hg, ht]
theorem lp_kin_classE {Q : Option Value → Shared → Prop} (hga : findIn K (.ref D) "__getattribute__" = some (some (.builtin "BaseException.__getattribute__"))) (hgt : findIn K (.ref D) "__getattr__" = some none) (hsub : subIn K (.ref D) (.type "BaseException") = some true)
    (hdct : hasDictIn K D = true) (ha : findIn K (.ref D) "__class__" = some (some (.builtin "object.__class__")))
    (hn : specialIn K (.builtin "object.__class__") "__get__" = some (some (.builtin "getset_descriptor.__get__"))) (htk : takesIn K (.builtin "object.__class__") = some true) (hm : mroIn K D (.type "object") = some true)
    (X : K.In s.heap) (I : InstAt s.heap x ox D odd) (h : Q (some (.ref D)) { s with toks := s.toks + 1 }) : wpAny (model prog w) A (getAttr? (.ref x) "__class__") Q E s := by
  have hf : findObj K D odd "__class__" = some (.bind (.builtin "getset_descriptor.__get__") (.builtin "object.__class__")) := lp_findObj_data (by obtain ⟨cd, hc, _⟩ := any_some hdct; rw [hc]; rfl) ha hn htk
  obtain ⟨hp, g, d, t, os⟩ := s
  have L0 := I.type (M := model prog w)
  have L1 := looks_findIn (M := model prog w) X hga
  have L2 := looks_findIn (M := model prog w) X hgt
  have L3 := looks_find (M := model prog w) X I hf
  have sub : Looks (model prog w) hp (isInstance (.ref x) (.type "BaseException")) true := L0.andThen (looks_subIn X hsub)
  have hx0 : (false && onTheHeap (Value.builtin "BaseException.__getattribute__")) = false := rfl
  have hx2 : (Value.builtin "BaseException.__getattribute__" == Value.builtin "object.__getattribute__") = false := by decide +kernel
  have hx1 : (onTheHeap (Value.ref D) && Value.builtin "BaseException.__getattribute__" == Value.builtin "object.__getattribute__") = false := by rw [hx2]; rfl
  unfold getAttr? getAttrBy? getAttrBy
  refine wpAny_bind (wpAny_mkText (wpAny_bind (wpAny_attempt (wpAny_holding (wpAny_bind (L0.at (wpAny_bind (L1.at ?_))))))))
  show wpAny _ _ (if (onTheHeap (Value.ref D) && Value.builtin "BaseException.__getattribute__" == Value.builtin "object.__getattribute__") = true then _ else _) _ _ _
  rw [hx1, if_neg Bool.false_ne_true]
  unfold getAttrByItsOwn hookBefore
  refine wpAny_bind ?_
  rw [if_pos (show onTheHeap (Value.ref D) = true from rfl)]
  refine L2.at ?_
  refine wpAny_bind (wpAny_attempt (wpAny_holding ?_))
  unfold callGetattribute
  rw [hx0, if_neg Bool.false_ne_true]
  unfold boundAndCalled
  rw [PySem.F.excAttr_ValueError.ga.bind (.ref x)]
  refine wpAny_bind (wpAny_pure ?_)
  show wpAny _ _ (call (.builtin "BaseException.__getattribute__") [.ref x, .str "__class__" t]) _ _ _
  refine wpAny_call (codeAny_call_builtin PySem.F.excAttr_ValueError.ga.plain PySem.F.entry_bexc_ga ?_)
  refine @check_slot (model prog w) _ _ ⟨hp, g, d, t + 1, os⟩ "BaseException.__getattribute__" "BaseException" "__getattribute__" (.ref x) [.str "__class__" t] [] _ (by decide +kernel) (by decide +kernel) sub (PySem.F.args_bexc_ga (.ref x) (.str "__class__" t)) ?_
  unfold Builtin.«object.__getattribute__»
  refine wpAny_bind (wpAny_of_eq (a := ((Value.ref x : Value), [Value.str "__class__" t])) (by first | rfl | (simp only [slotArgs]; rfl)) ?_)
  refine wpAny_bind (wpAny_pure (wpAny_bind (L0.at (wpAny_bind (L3.at ?_)))))
  show wpAny _ _ (holding [Value.builtin "object.__class__"] (call (.builtin "getset_descriptor.__get__") [.builtin "object.__class__", .ref x, .ref D]) >>= ret) _ _ _
  refine wpAny_bind (wpAny_holding (wpAny_call (class_get (s := ⟨hp, g, d, t + 1, os⟩) (ox := ox) (od := odd) X I hm ?_)))
  refine wpAny_pure ?_
  show wpAny _ _ (handedOut (.ref D)) _ _ _
  rw [handedOut_of (v := .ref D) rfl]
  first
    | exact wpAny_pure (wpAny_pure h)
    | exact wpAny_pure h
    | exact wpAny_pure (wpAny_bind (wpAny_pure (wpAny_pure h)))
theorem lp_kitx_exc (hga : findIn K (.ref D) "__getattribute__" = some (some (.builtin "BaseException.__getattribute__"))) (hgt : findIn K (.ref D) "__getattr__" = some none) (hsub : subIn K (.ref D) (.type "BaseException") = some true) (hdct : hasDictIn K D = true) (ha : findIn K (.ref D) "__class__" = some (some (.builtin "object.__class__")))
    (hn : specialIn K (.builtin "object.__class__") "__get__" = some (some (.builtin "getset_descriptor.__get__"))) (htk : takesIn K (.builtin "object.__class__") = some true) (hm : mroIn K D (.type "object") = some true) :
    KitX K (.ref x) (.ref D) (fun h => ∃ ox odd, InstAt h x ox D odd) where
  ty := fun _ _ _ ⟨_, _, I⟩ => I.type
  it := fun _ _ X _ => by
    obtain ⟨cdD, hcD, _⟩ := any_some hdct
    unfold clsIn at hcD
    split at hcD
    · rename_i c' d' cd' sl' ho
      intro A' Q' E' s' k q
      unfold isType loadHead
      exact wpAny_bind (wpAny_loadPart (k _ _ (X _ _ ho)) (wpAny_pure q))
    · cases hcD
  ne := fun h tp dd its n sl X htp => by
    obtain ⟨cdD, hcD, _⟩ := any_some hdct
    refine Bool.eq_false_iff.mpr fun q => ?_
    have e : D = tp := Value.ref.inj (beq_iff_eq.mp q)
    subst e
    unfold clsIn at hcD
    split at hcD
    · rename_i c' d' cd' sl' ho
      have z := (X _ _ ho).symm.trans htp
      cases z
    · cases hcD
  ca := fun X ⟨_, _, I⟩ k => lp_kin_classE hga hgt hsub hdct ha hn htk hm X I k
end
end PySem.W
namespace Lp
open PySem PySem.Spec PyProof.Rows L2
end Lp
namespace Lp
open PySem PySem.Spec PyProof.Rows L2 He
def recA (K : PySem.W.Frag) (p : Addr) (T : String) : Addr := match PySem.W.recIn K p T with
  | some (.ref g :: _) => g
  | _ => 0
inductive Pth where
  | glo (x : Str)
  | meth (x m : Str)
  | cm (x m : Str)
  | prop (x m : Str)
def Pth.a (K : PySem.W.Frag) : Pth → Addr
  | .glo x => ga K x
  | .meth x m => ma K (ga K x) m
  | .cm x m => recA K (ma K (ga K x) m) "classmethod"
  | .prop x m => recA K (ma K (ga K x) m) "property"
abbrev FnL : Type := Option (Str × Str × Arguments × FuncBody × Scope × Addr × List Str × Addr)
def fnL (K : PySem.W.Frag) (a : Addr) : FnL := match K.lookup a with
  | some ⟨_, _, .func fd, _⟩ => some (fd.name, fd.qualname, fd.params, fd.body, fd.scope, fd.globals, fd.closure.map (·.1), fd.builtins)
  | _ => none
structure DefL where
  at_ : Pth
  name : Str
  qual : Str
  params : Arguments
  body : List Stmt
  scope : Scope
  dfl : List Dv := []
  cls : Option Str := none
def DefL.val (d : DefL) : FnL := some (d.name, d.qual, d.params, .stmts d.body, d.scope, mainGlobals, (match d.cls with
  | none => []
  | some _ => ["__class__"]), builtinsNs)
def DefL.dvs (K : PySem.W.Frag) (d : DefL) : List V := d.dfl.map (Dv.v K)
def cellB (K : PySem.W.Frag) (cc D : Addr) : Bool := match K.lookup cc with
  | some ⟨_, _, .cell (some (.ref D')), _⟩ => D' == D
  | _ => false
def fileB (K : PySem.W.Frag) (file : Str) (cda : Addr) : Bool := match K.lookup cda with
  | some ⟨_, _, .fields vs, _⟩ => (match (vs.toList[2]? : Option Value) with
    | some (.str f _) => f == file
    | _ => false)
  | _ => false
def supB (K : PySem.W.Frag) (file : Str) (fd : FuncData) (x : Str) : Bool := match fd.closure, fd.code with
  | [(_, cc)], .ref cda => cellB K cc (ga K x) && (fileB K file cda && ((PySem.W.clsIn K (ga K x)).isSome && decide ((fd.params.posonlyargs ++ fd.params.args).head?.map (·.arg) = some ("self" : Str))))
  | _, _ => false
def DefL.ok (K : PySem.W.Frag) (file : Str) (d : DefL) : Bool := PySem.W.keepIn K (.ref (d.at_.a K)) && (match K.lookup (d.at_.a K) with
  | some ⟨_, _, .func fd, _⟩ => PySem.W.codeIn K fd.code d.qual && (dflB K fd.defaults (d.dvs K) && (match d.cls with
    | none => true
    | some x => supB K file fd x))
  | _ => false)
section
variable {K : PySem.W.Frag} {d : DefL} {file : Str}
theorem DefL.parts (e : fnL K (d.at_.a K) = d.val) (c : d.ok K file = true) : ∃ (oc : Value) (od : Option Addr) (cl : List (Str × Addr)) (dV kV doc pm : Value) (an : Option Addr) (cdv ct : Value) (osl : Array (Option Value)),
    K.lookup (d.at_.a K) = some ⟨oc, od, .func (PySem.W.fnX d.name d.qual d.params d.body d.scope cl dV kV doc pm an cdv ct), osl⟩ ∧ PySem.W.codeIn K cdv d.qual = true ∧ DflV K dV (d.dvs K) ∧ cl.map (·.1) = (match d.cls with
      | none => []
      | some _ => [("__class__" : Str)]) ∧ (match d.cls with
      | none => true
      | some x => supB K file (PySem.W.fnX d.name d.qual d.params d.body d.scope cl dV kV doc pm an cdv ct) x) = true ∧ PySem.W.keepIn K (.ref (d.at_.a K)) = true := by
  obtain ⟨kp, c2⟩ := ba c
  unfold fnL at e
  cases q : K.lookup (d.at_.a K) with
  | none =>
    rw [q] at c2
    cases c2
  | some o =>
    obtain ⟨oc, od, dt, osl⟩ := o
    rw [q] at c2 e
    cases dt with
    | func fd =>
      obtain ⟨n1, n2, n3, n4, n5, n6, n7, n8, n9, n10, n11, n12, n13, n14, n15⟩ := fd
      have e2 : (some (n1, n2, n3, n4, n5, n6, n7.map (·.1), n15) : FnL) = some (d.name, d.qual, d.params, .stmts d.body, d.scope, mainGlobals, (match d.cls with
        | none => []
        | some _ => ["__class__"]), builtinsNs) := e
      simp only [Option.some.injEq, Prod.mk.injEq] at e2
      obtain ⟨h1, h2, h3, h4, h5, h6, h7, h8⟩ := e2
      subst h1 h2 h3 h4 h5 h6 h8
      obtain ⟨k1, k2⟩ := ba c2
      obtain ⟨k3, k4⟩ := ba k2
      exact ⟨oc, od, n7, n8, n9, n10, n11, n12, n13, n14, osl, rfl, k1, dflB_ok k3, h7, k4, kp⟩
    | _ => cases c2
theorem DefL.funD (hc : d.cls = none) (e : fnL K (d.at_.a K) = d.val) (c : d.ok K file = true) : ∃ fd, FunD K d.name d.qual d.params d.body d.scope (d.dvs K) [] (d.at_.a K) fd := by
  obtain ⟨oc, od, cl, dV, kV, doc, pm, an, cdv, ct, osl, h1, h2, h3, h4, _, h6⟩ := DefL.parts e c
  rw [hc] at h4
  have h4 : cl = [] := List.map_eq_nil_iff.mp h4
  subst h4
  exact ⟨_, ⟨oc, od, dV, kV, doc, pm, an, cdv, ct, osl, rfl, h1, h2, h3, .inl rfl⟩, h6⟩
theorem DefL.funS {x : Str} {P : Program} {mg : Str → Option Value} (hc : d.cls = some x) (e : fnL K (d.at_.a K) = d.val) (c : d.ok K file = true) (hf : P.main.file = file) (hs : mg "super" = none) (ht : (P.main.scope.names.lookup ("super" : Str)).isSome = false)
    (ho : PySem.W.nsIn K cStatics "thirdparty.any" = some none) : ∃ cda cc fd, FunS K d.name d.qual d.params d.body d.scope (d.dvs K) (ga K x) cda cc (d.at_.a K) fd ∧ SupK P K mg (d.at_.a K) cda cc (ga K x) := by
  obtain ⟨oc, od, cl, dV, kV, doc, pm, an, cdv, ct, osl, h1, h2, h3, h4, h5, h6⟩ := DefL.parts e c
  rw [hc] at h4 h5
  have h5 : supB K file (PySem.W.fnX d.name d.qual d.params d.body d.scope cl dV kV doc pm an cdv ct) x = true := h5
  have h4 : cl.map (·.1) = [("__class__" : Str)] := h4
  match cl, h4, h1, h5 with
  | [(y, cc)], h4, h1, h5 =>
    have ey : y = "__class__" := by simpa using h4
    subst ey
    cases cdv with
    | ref cda =>
      obtain ⟨a1, a2⟩ := ba (show (cellB K cc (ga K x) && (fileB K file cda && ((PySem.W.clsIn K (ga K x)).isSome && decide ((d.params.posonlyargs ++ d.params.args).head?.map (·.arg) = some ("self" : Str))))) = true from h5)
      obtain ⟨a2, a3⟩ := ba a2
      obtain ⟨a3, a4⟩ := ba a3
      have cell : ∃ ocell : Obj, K.lookup cc = some ocell ∧ ocell.data = .cell (some (.ref (ga K x))) := by
        unfold cellB at a1
        split at a1
        · rename_i q
          exact ⟨_, q, by rw [beq_iff_eq.mp a1]⟩
        · cases a1
      have code : ∃ (ccl : Value) (cdd : Option Addr) (vs : Array Value) (ccs : Array (Option Value)) (f : Str) (tf : Tok), K.lookup cda = some ⟨ccl, cdd, .fields vs, ccs⟩ ∧ vs[2]? = some (.str f tf) ∧ ((P.main.file : Str) == f) = true := by
        unfold fileB at a2
        split at a2
        · rename_i q
          split at a2
          · rename_i q2
            refine ⟨_, _, _, _, _, _, q, by rw [← Array.getElem?_toList]; exact q2, ?_⟩
            rw [hf, beq_iff_eq.mp a2]
            exact beq_self_eq_true _
          · cases a2
        · cases a2
      obtain ⟨ocell, c1, c2⟩ := cell
      refine ⟨cda, cc, _, ⟨⟨oc, od, dV, kV, doc, pm, an, ct, osl, ocell, rfl, h1, h2, h3, c1, c2⟩, h6⟩, ⟨?_, code, ⟨ocell, c1, c2⟩, Option.isSome_iff_exists.mp a3, hs, ht, ho⟩⟩
      have a4 := of_decide_eq_true a4
      cases hh : (d.params.posonlyargs ++ d.params.args).head? with
      | none => rw [hh] at a4; cases a4
      | some ar => exact ⟨oc, od, _, osl, ar, h1, hh, by rw [hh] at a4; simpa using a4⟩
    | _ => cases h5
end
abbrev AlL : Type := Bool × List FnL
def obsL (file : Str) (fb : List (PySem.W.Frag → Bool)) (fn : List DefL) (K : PySem.W.Frag) : AlL := ((fb.all fun f => f K) && fn.all fun d => d.ok K file, fn.map fun d => fnL K (d.at_.a K))
def valL (fn : List DefL) : AlL := (true, fn.map DefL.val)
def SaysL (file : Str) (fb : List (PySem.W.Frag → Bool)) (fn : List DefL) (K : PySem.W.Frag) : Prop := obsL file fb fn K = valL fn
section
variable {file : Str} {fb : List (PySem.W.Frag → Bool)} {fn : List DefL} {K : PySem.W.Frag}
theorem SaysL.fact (c : SaysL file fb fn K) (i : Nat) {f : PySem.W.Frag → Bool} (h : fb[i]? = some f := by rfl) : f K = true := by
  have c1 := (ba (show ((fb.all fun f => f K) && fn.all fun d => d.ok K file) = true from congrArg (fun z : AlL => z.1) c)).1
  exact List.all_eq_true.mp c1 f (List.mem_of_getElem? h)
theorem SaysL.defE (c : SaysL file fb fn K) (i : Nat) {d : DefL} (h : fn[i]? = some d) : fnL K (d.at_.a K) = d.val ∧ d.ok K file = true := by
  have c2 := (ba (show ((fb.all fun f => f K) && fn.all fun d => d.ok K file) = true from congrArg (fun z : AlL => z.1) c)).2
  have e : fn.map (fun d => fnL K (d.at_.a K)) = fn.map DefL.val := congrArg (fun z : AlL => z.2) c
  have e2 : (fn.map fun d => fnL K (d.at_.a K))[i]? = (fn.map DefL.val)[i]? := by rw [e]
  rw [List.getElem?_map, List.getElem?_map, h] at e2
  exact ⟨Option.some.inj e2, List.all_eq_true.mp c2 d (List.mem_of_getElem? h)⟩
end
structure Own (K : PySem.W.Frag) (C : Addr) : Prop where
  cl : Cls K C
  ha : PySem.W.findIn K (.ref C) "__class__" = some (some (.builtin "object.__class__"))
  hn : PySem.W.specialIn K (.builtin "object.__class__") "__get__" = some (some (.builtin "getset_descriptor.__get__"))
  ht : PySem.W.takesIn K (.builtin "object.__class__") = some true
  hm : PySem.W.mroIn K C (.type "object") = some true
  ne : PySem.W.findIn K (.ref C) "__ne__" = some (some (.builtin "object.__ne__"))
  kp : PySem.W.keepIn K (.ref C) = true
def ownB (K : PySem.W.Frag) (C : Addr) : Bool := (PySem.W.plainGet K C Str.empty && (PySem.W.hasDictIn K C && (PySem.W.plainOver K C && eqO (PySem.W.findIn K (.ref C) "__setattr__") (some (some (.builtin "object.__setattr__")))))) &&
  (eqO (PySem.W.findIn K (.ref C) "__class__") (some (some (.builtin "object.__class__"))) && (eqO (PySem.W.specialIn K (.builtin "object.__class__") "__get__") (some (some (.builtin "getset_descriptor.__get__"))) && (decide (PySem.W.takesIn K (.builtin "object.__class__") = some true) &&
  (decide (PySem.W.mroIn K C (.type "object") = some true) && (eqO (PySem.W.findIn K (.ref C) "__ne__") (some (some (.builtin "object.__ne__"))) && PySem.W.keepIn K (.ref C))))))
theorem ownB_ok {K : PySem.W.Frag} {C : Addr} (h : ownB K C = true) : Own K C := by
  obtain ⟨h1, h⟩ := ba h
  obtain ⟨p1, p⟩ := ba h1
  obtain ⟨p2, p⟩ := ba p
  obtain ⟨p3, p4⟩ := ba p
  obtain ⟨h2, h⟩ := ba h
  obtain ⟨h3, h⟩ := ba h
  obtain ⟨h4, h⟩ := ba h
  obtain ⟨h5, h⟩ := ba h
  obtain ⟨h6, h7⟩ := ba h
  exact ⟨⟨p1, p2, p3, eqO_ok p4⟩, eqO_ok h2, eqO_ok h3, of_decide_eq_true h4, of_decide_eq_true h5, eqO_ok h6, h7⟩
theorem Own.ty {K : PySem.W.Frag} {C a dx : Addr} {fs : List (Str × V)} {H : Hp} (o : Own K C) (h : H a = some (.ins C dx fs)) : TyX K H (.ref a) (.ref C) := .base (.ins h o.cl o.ha o.hn o.ht o.hm)
structure MethL (K : PySem.W.Frag) (C : Addr) (m : Str) (f : Addr) : Prop where
  me : Meth K C m f
  fi : PySem.W.fnIn K f = true
structure CmOf (K : PySem.W.Frag) (C : Addr) (m : Str) (p g : Addr) : Prop where
  rd : ClX.CRead K C (.type "type")
  me : ClX.CMet K C (.type "type") m p g
structure Err (K : PySem.W.Frag) (C f : Addr) : Prop where
  ox : OexC K C
  xf : XfC K C
  ec : ExcC K C
  ic : PySem.W.findIn K (.ref C) "__init__" = some (some (.ref f))
  it : PySem.W.typeIn K (.ref f) = some (.type "function")
  ms : PySem.W.mroIn K C (.ref C) = some true
  si : PySem.W.ks_superIn K C C "__init__" = some (some (.builtin "ValueError.__init__"))
def oexB (K : PySem.W.Frag) (C : Addr) : Bool := match K.lookup C with
  | some ⟨.type "type", _, .cls cd, sl⟩ => (match cd.mro, sl.toList with
    | .ref C' :: bm, [_, _, _, _, some (.builtin n), _] => C' == C && (n == "ValueError.__new__" && (!cd.hasDel && (cd.hasDict && PySem.HandSPX.refsVE bm)))
    | _, _ => false)
  | _ => false
theorem oexB_ok {K : PySem.W.Frag} {C : Addr} (h : oexB K C = true) : ∃ nm q N bs bm sn sub ab col dd k0 k1 k2 k3 k5, K.lookup C = some (excClassObj nm q C N bs bm true sn sub ab col dd k0 k1 k2 k3 k5 "ValueError.__new__") ∧ PySem.HandSPX.refsVE bm = true := by
  unfold oexB at h
  split at h
  · rename_i dd cd sl ho
    split at h
    · rename_i C' bm k0 k1 k2 k3 n k5 hm hs
      obtain ⟨h1, h⟩ := ba h
      obtain ⟨h2, h⟩ := ba h
      obtain ⟨h3, h⟩ := ba h
      obtain ⟨h4, h5⟩ := ba h
      obtain ⟨nm, bs, mro, ns, qn, hd, sn, sub, ab, col, del⟩ := cd
      dsimp only at hm h3 h4
      have h3 : del = false := by simpa using h3
      have e1 : C' = C := beq_iff_eq.mp h1
      have e2 : n = "ValueError.__new__" := beq_iff_eq.mp h2
      subst hm h3 h4 e1 e2
      have hsl : sl = #[k0, k1, k2, k3, some (.builtin "ValueError.__new__"), k5] := by
        obtain ⟨l⟩ := sl
        simp only at hs
        rw [hs]
      subst hsl
      exact ⟨nm, qn, ns, bs, bm, sn, sub, ab, col, dd, k0, k1, k2, k3, k5, ho, h5⟩
    · cases h
  · cases h
def excCB (K : PySem.W.Frag) (D : Addr) : Bool := xfB K D && (eqO (PySem.W.findIn K (.ref D) "__class__") (some (some (.builtin "object.__class__"))) && (eqO (PySem.W.specialIn K (.builtin "object.__class__") "__get__") (some (some (.builtin "getset_descriptor.__get__"))) && (decide (PySem.W.takesIn K (.builtin "object.__class__") = some true) && decide (PySem.W.mroIn K D (.type "object") = some true))))
theorem excCB_ok {K : PySem.W.Frag} {D : Addr} (h : excCB K D = true) : XfC K D ∧ ExcC K D := by
  obtain ⟨h1, h⟩ := ba h
  obtain ⟨h2, h⟩ := ba h
  obtain ⟨h3, h⟩ := ba h
  obtain ⟨h4, h5⟩ := ba h
  have x := xfB_ok h1
  exact ⟨x, ⟨x.ga, x.gg, x.exC, x.hdC, eqO_ok h2, eqO_ok h3, of_decide_eq_true h4, of_decide_eq_true h5⟩⟩
def errB (K : PySem.W.Frag) (C f : Addr) : Bool := oexB K C && (excCB K C && (eqO (PySem.W.findIn K (.ref C) "__setattr__") (some (some (.builtin "object.__setattr__"))) && (decide (PySem.W.typeIn K (.ref C) = some (.type "type")) && (PySem.W.keepIn K (.ref C) &&
  (eqO (PySem.W.findIn K (.ref C) "__init__") (some (some (.ref f))) && (decide (PySem.W.typeIn K (.ref f) = some (.type "function")) && (decide (PySem.W.mroIn K C (.ref C) = some true) && eqO (PySem.W.ks_superIn K C C "__init__") (some (some (.builtin "ValueError.__init__"))))))))))
theorem errB_ok {K : PySem.W.Frag} {C f : Addr} (h : errB K C f = true) : Err K C f := by
  obtain ⟨h1, h⟩ := ba h
  obtain ⟨h2, h⟩ := ba h
  obtain ⟨h3, h⟩ := ba h
  obtain ⟨h4, h⟩ := ba h
  obtain ⟨h5, h⟩ := ba h
  obtain ⟨h6, h⟩ := ba h
  obtain ⟨h7, h⟩ := ba h
  obtain ⟨h8, h9⟩ := ba h
  obtain ⟨x1, x2⟩ := excCB_ok h2
  exact ⟨⟨oexB_ok h1, eqO_ok h3, x2.hs, of_decide_eq_true h4, h5⟩, x1, x2, eqO_ok h6, of_decide_eq_true h7, of_decide_eq_true h8, eqO_ok h9⟩
def noB (K : PySem.W.Frag) (C : Addr) (f : Str) : Bool := eqO (PySem.W.findIn K (.ref C) f) (some none)
theorem noB_ok {K : PySem.W.Frag} {C : Addr} {f : Str} (h : noB K C f = true) : NoAttr K C f := eqO_ok h
end Lp
namespace Lp
open PySem PySem.Spec PyProof.Rows L2 He
def upA (t : TA) : TA := fun σ H Q => ∃ Q0 : List V → Hp → Prop, t σ H Q0 ∧ ∀ v H', Q0 v H' → Q v H'
theorem pa_up {X : Cx} {es : List Expr} {t : TA} (h : PA X es t) : PA X es (upA t) := ⟨fun pos pins s σ H Q I ⟨Q0, h1, h2⟩ => thn (h.run pos pins s σ H Q0 I h1) fun us s' ⟨vs, H', I', r, q⟩ => ⟨vs, H', I', r, h2 vs H' q⟩⟩
def spErr1 (C : Addr) (f : Str) : Sp := fun vs H Q _ => ∃ a v, vs = [.ref a, v] ∧ H a = some (exo a C none) ∧ ∀ dx, H dx = none → dx ≠ a → Q .non (upd (upd H dx (exd dx [(f, v)])) a (exo a C (some dx)))
end Lp
namespace Lp
open PySem PySem.Spec PyProof.Rows L2 He
section
variable (P : Program) (w : World) (K : PySem.W.Frag) (mg : Str → Option Value) (base : Heap) (CX : CXT) (k : Nat)
structure Cal (x : Str) (ps : List Str) (sp : Sp) : Prop where
  ex : ∃ (f : Addr) (fd : FuncData), mg x = some (.ref f) ∧ PySem.W.keepIn K (.ref f) = true ∧ Binds K fd ps [] ∧ FnOk P w K mg base CX k f fd ps sp
structure CalG (x : Str) (ps : List Str) (sp : Sp) : Prop where
  ex : ∃ (f : Addr) (fd : FuncData), mg x = some (.ref f) ∧ PySem.W.keepIn K (.ref f) = true ∧ Binds K fd ps [] ∧ GOk P w K mg base CX k f fd ps sp
structure CalM (C : Addr) (m : Str) (ps : List Str) (sp : Sp) : Prop where
  ex : ∃ (f : Addr) (fd : FuncData), MethL K C m f ∧ Binds K fd ps [] ∧ FnOk P w K mg base CX k f fd ps sp
  cl : Own K C
structure CalP (C : Addr) (m : Str) (sp : Sp) : Prop where
  ex : ∃ (p f : Addr) (fd : FuncData), PropOf K C m p f ∧ Binds K fd ["self"] [] ∧ FnOk P w K mg base CX k f fd ["self"] sp
  cl : Own K C
structure CalCm (x : Str) (C : Addr) (m : Str) (ps : List Str) (sp : Sp) : Prop where
  ex : ∃ (p f : Addr) (fd : FuncData), CmOf K C m p f ∧ Binds K fd ps [] ∧ FnOk P w K mg base CX k f fd ps sp
  gl : mg x = some (.ref C)
structure CalC (x : Str) (C : Addr) (ps : List Str) (sp : Sp) : Prop where
  ex : ∃ (f : Addr) (fd : FuncData), Mk K C f ∧ Binds K fd ps [] ∧ FnOk P w K mg base CX k f fd ps sp
  gl : mg x = some (.ref C)
structure CalE (x : Str) (C : Addr) (fld : Str) : Prop where
  ex : ∃ (f : Addr) (fd : FuncData), Err K C f ∧ Binds K fd ["self", fld] [] ∧ FnOk P w K mg base CX0 k f fd ["self", fld] (spErr1 C fld)
  gl : mg x = some (.ref C)
  no : NoAttr K C fld
end
section
variable {P : Program} {w : World} {K : PySem.W.Frag} {mg : Str → Option Value} {base : Heap} {CX : CXT} {j k : Nat} {x m : Str} {C : Addr} {ps : List Str} {sp : Sp}
theorem Cal.mono (c : Cal P w K mg base CX j x ps sp) (h : j ≤ k) : Cal P w K mg base CX k x ps sp := let ⟨f, fd, a, b, d, e⟩ := c.ex; ⟨f, fd, a, b, d, e.mono h⟩
theorem CalG.of (c : Cal P w K mg base CX k x ps sp) : CalG P w K mg base CX k x ps sp := let ⟨f, fd, a, b, d, e⟩ := c.ex; ⟨f, fd, a, b, d, .of e⟩
end
section
variable {X : Cx} {CX : CXT} {k : Nat} {C : Addr} {x m fld : Str} {ps : List Str} {sp : Sp} {E : XK} {p pos apos : Pos} {e o : Expr} {es : List Expr} {te ta tb : TE} {t : TA} {i : Nat} {pl : Sem Bool}
end
section
variable {P : Program} {w : World} {K : PySem.W.Frag} {mg : Str → Option Value} {base : Heap} {x qual : Str} {params : Arguments} {body : List Stmt} {scope : Scope} {dvs : List V} {kws : List (Str × V)} {f : Addr} {fd : FuncData} {N ps : List Str} {k : Nat} {sp : Sp}
end
def Kp (S : List Addr) (H H' : Hp) : Prop := ∀ b o, b ∉ S → H b = some o → H' b = some o
theorem Kp.refl {S : List Addr} (H : Hp) : Kp S H H := fun _ _ _ h => h
theorem Kp.trans {S : List Addr} {H H1 H2 : Hp} (a : Kp S H H1) (b : Kp S H1 H2) : Kp S H H2 := fun c o n h => b c o n (a c o n h)
theorem Kp.put {S : List Addr} {H : Hp} {p : Addr} {o : HO} (h : p ∈ S) : Kp S H (upd H p o) := fun b u n e => by rw [upd_ne (fun z : b = p => n (by rw [z]; exact h))]; exact e
theorem Kp.mono {S S' : List Addr} {H H' : Hp} (a : Kp S H H') (h : ∀ b ∈ S, b ∈ S') : Kp S' H H' := fun b o n e => a b o (fun z => n (h b z)) e
theorem Kp.of {H H' : Hp} (S : List Addr) (a : Same H H') : Kp S H H' := fun b o _ e => a b o e
theorem Kp.free {S : List Addr} {H H' : Hp} (a : Kp S H H') {l : Addr} (hl : l ∉ S) (h : H' l = Option.none) : H l = Option.none := by
  cases q : H l with
  | none => rfl
  | some o =>
    rw [a l o hl q] at h
    cases h
theorem Kp.fresh {S : List Addr} {H H1 H2 : Hp} {b : Addr} (a : Kp S H H1) (f : H b = none) (c : Kp (b :: S) H1 H2) : Kp S H H2 := fun d o n e => c d o (fun z => by
  rcases List.mem_cons.mp z with rfl | z
  · rw [f] at e; cases e
  · exact n z) (a d o n e)
theorem Kp.seqT {K : PySem.W.Frag} {S : List Addr} {H H' : Hp} {a : Addr} {xs : List V} (k : Kp S H H') (n : a ∉ S) (h : SqT K H a xs) : SqT K H' a xs := by
  rcases h with (h | ⟨o, h⟩) | h
  · exact .inl (.inl (k _ _ n h))
  · exact .inl (.inr ⟨o, k _ _ n h⟩)
  · exact .inr h
end Lp
namespace Lp
open PySem PySem.Spec PyProof.Rows L2 He
section
variable {X : Cx} {e : Expr} {st : Stmt} {t t' : TE} {s s' : TS}
theorem pe_imp (h : PE X e t) (i : ∀ σ H Q, t' σ H Q → t σ H Q) : PE X e t' := ⟨fun pins sh σ H Q I q => h.run pins sh σ H Q I (i σ H Q q)⟩
theorem ps_imp (h : PS X st s) (i : ∀ D σ H, s' D σ H → s D σ H) : PS X st s' := ⟨fun pins sh σ H D I q => h.run pins sh σ H D I (i D σ H q)⟩
end
abbrev Nw (H : Hp) (o : HO) (Q : VK) : Prop := ∀ (p : Addr) (H' : Hp), H p = none → Same H H' → H' p = some o → Q (.ref p) H'
theorem nw_of {H : Hp} {o : HO} {Q : VK} (h : Nw H o Q) : ∀ p, H p = none → Q (.ref p) (upd H p o) := fun p hp => h p _ hp (fun b u e => by rw [upd_ne (ne_of_none e hp)]; exact e) upd_same
abbrev Ch (H : Hp) (p : Addr) (o : HO) (R : Hp → Prop) : Prop := ∀ H' : Hp, Kp [p] H H' → H' p = some o → R H'
theorem ch_of {H : Hp} {p : Addr} {o : HO} {R : Hp → Prop} (h : Ch H p o R) : R (upd H p o) := h _ (Kp.put (List.mem_cons_self ..)) upd_same
section
variable {X : Cx} {e o : Expr} {es : List Expr} {t : TA} {ta te tl th : TE} {pos apos : Pos} {f : Str}
def tLstN (t : TA) : TE := fun σ H Q => t σ H fun xs H1 => xs.length ≤ sizeLine ∧ Nw H1 (.lst xs) Q
def tTupN (t : TA) : TE := fun σ H Q => t σ H fun xs H1 => xs.length ≤ sizeLine ∧ Nw H1 (.tup xs) Q
theorem pe_lstN (h : PA X es t) : PE X (.List es pos) (tLstN t) := pe_imp (pe_lst (pa_up h)) fun σ H Q q => ⟨_, q, fun xs H1 ⟨a, b⟩ => ⟨a, nw_of b⟩⟩
theorem pe_tupN {x1} (h : PA X es t) : PE X (.Tuple es x1 pos) (tTupN t) := pe_imp (pe_tup (pa_up h)) fun σ H Q q => ⟨_, q, fun xs H1 ⟨a, b⟩ => ⟨a, nw_of b⟩⟩
def tSetN : TSet := fun o i y H R => ∃ (l : Addr) (xs : List V) (k : Int) (j : Nat), o = .ref l ∧ i = .int k ∧ H l = some (.lst xs) ∧ ixN xs.length k = some j ∧ Ch H l (.lst (xs.set j y)) R
end
theorem set_listN {X : Cx} : PSet X tSetN := fun pins s σ H o i v ov iv u Q I ro ri rv ⟨l, xs, k, j, e1, e2, e3, e4, e5⟩ => set_list pins s σ H o i v ov iv u Q I ro ri rv ⟨l, xs, k, j, e1, e2, e3, e4, ch_of (R := Q) e5⟩
section
variable {X : Cx}
end
section
variable {X : Cx} {CX : CXT} {k : Nat} {C : Addr} {x : Str} {ps : List Str} {sp : Sp} {E : XK} {p pos : Pos} {e : Expr} {es : List Expr} {t : TA} {i : Nat}
end
end Lp
namespace Lp
open PySem PySem.Spec PyProof.Rows L2 He
abbrev Ints (ns : List Int) : List V := ns.map V.int
end Lp
namespace Lp
open PySem PySem.Spec PyProof.Rows L2 He
end Lp
namespace Lp
open PySem PySem.Spec PyProof.Rows L2 He
section
variable {K : PySem.W.Frag} {H H' H1 H2 : Hp} {S : List Addr}
theorem same_sqT {a : Addr} {xs : List V} (s : Same H H') (h : SqT K H a xs) : SqT K H' a xs := (Kp.of [] s).seqT (fun z => nomatch z) h
mutual
theorem same_dp (s : Same H H') : ∀ (d : PyData) (v : V), Dp K H v d → Dp K H' v d
  | .none, _, h => by cases h; exact .non
  | .bool b, _, h => by cases h; exact .bl b
  | .int i, _, h => by cases h; exact .int i
  | .str x, _, h => by cases h; exact .str x
  | .list ds, _, h => by
    cases h with
    | lst h1 h2 => exact .lst (s.seq h1) (same_dpAll s ds _ h2)
  | .tuple ds, _, h => by
    cases h with
    | tup h1 h2 => exact .tup (same_sqT s h1) (same_dpAll s ds _ h2)
  | .dict _, _, h => nomatch h
theorem same_dpAll (s : Same H H') : ∀ (ds : List PyData) (vs : List V), DpAll K H vs ds → DpAll K H' vs ds
  | [], _, h => by cases h; exact .nil
  | d :: ds, _, h => by
    cases h with
    | cons h1 h2 => exact .cons (same_dp s d _ h1) (same_dpAll s ds _ h2)
end
theorem same_freshL (s : Same H H1) (f : ∀ x ∈ S, H x = none) (k : Kp S H1 H2) : Same H H2 := fun b o e => k b o (fun z => by rw [f b z] at e; cases e) (s b o e)
end
end Lp
namespace Lp
open PySem PySem.Spec PyProof.Rows L2 He
def tDat (K : PySem.W.Frag) (d : PyData) : TE := fun _ H Q => ∀ v H', Same H H' → Dp K H' v d → Q v H'
section
variable {X : Cx} {e : Expr} {es : List Expr} {d : PyData} {ds : List PyData} {pos : Pos}
theorem pa_imp {t t' : TA} (h : PA X es t) (i : ∀ σ H Q, t' σ H Q → t σ H Q) : PA X es t' := ⟨fun pos pins sh σ H Q I q => h.run pos pins sh σ H Q I (i σ H Q q)⟩
theorem pd_int {i : Int} {k} : PE X (.Constant (.int i) k pos) (tDat X.K (.int i)) := pe_imp pe_int fun σ H Q q => q _ H (Same.refl H) (.int i)
theorem pd_str {x : Str} {k} : PE X (.Constant (.str x) k pos) (tDat X.K (.str x)) := pe_imp pe_str fun σ H Q q => q _ H (Same.refl H) (.str x)
theorem pd_bl {b : Bool} {k} : PE X (.Constant (.bool b) k pos) (tDat X.K (.bool b)) := pe_imp pe_bl fun σ H Q q => q _ H (Same.refl H) (.bl b)
theorem pd_non {k} : PE X (.Constant .none k pos) (tDat X.K .none) := pe_imp pe_non fun σ H Q q => q _ H (Same.refl H) .non
end
section
variable {K : PySem.W.Frag} {H : Hp}
end
end Lp
namespace Lp
open PySem PySem.Spec PyProof.Rows L2 He
section
variable {X : Cx}
end
end Lp
namespace Lp
open PySem PySem.Spec PyProof.Rows L2 He
structure Ow (H0 H : Hp) (L : List (Addr × HO)) : Prop where
  nd : (L.map Prod.fst).Nodup
  at_ : ∀ x ∈ L, H x.1 = some x.2
  fr : ∀ x ∈ L, H0 x.1 = none
  sm : Same H0 H
section
variable {H0 H H' : Hp} {L L' : List (Addr × HO)} {p q : Addr} {o o' u u' : HO} {i j : Nat}
theorem Ow.start (H : Hp) : Ow H H [] := ⟨.nil, (fun _ z => nomatch z), (fun _ z => nomatch z), Same.refl H⟩
theorem Ow.get (w : Ow H0 H L) (i : Nat) (h : L[i]? = some (p, o)) : H p = some o := w.at_ _ (List.mem_of_getElem? h)
theorem Ow.free (w : Ow H0 H L) (i : Nat) (h : L[i]? = some (p, o)) : H0 p = none := w.fr _ (List.mem_of_getElem? h)
theorem Ow.ne (w : Ow H0 H L) (i j : Nat) (hi : L[i]? = some (p, o)) (hj : L[j]? = some (q, u)) (n : i ≠ j) : p ≠ q := by
  intro z
  have h1 : (L.map Prod.fst)[i]? = some p := by rw [List.getElem?_map, hi]; rfl
  have h2 : (L.map Prod.fst)[j]? = some p := by rw [List.getElem?_map, hj, z]; rfl
  have l1 := (List.getElem?_eq_some_iff.mp h1).1
  exact n ((List.getElem?_inj l1 w.nd).mp (h1.trans h2.symm))
theorem map_fst_set (h : L[i]? = some (p, o)) (o' : HO) : (L.set i (p, o')).map Prod.fst = L.map Prod.fst := by
  apply List.ext_getElem?
  intro k
  simp only [List.getElem?_map, List.getElem?_set]
  by_cases e : i = k
  · subst e
    obtain ⟨h1, h2⟩ := List.getElem?_eq_some_iff.mp h
    simp [h1, h2]
  · simp [e]
theorem Ow.set (w : Ow H0 H L) (i : Nat) (h : L[i]? = some (p, o)) (k : Kp [p] H H') (e : H' p = some o') : Ow H0 H' (L.set i (p, o')) := by
  have nd' : ((L.set i (p, o')).map Prod.fst).Nodup := by rw [map_fst_set h]; exact w.nd
  refine ⟨nd', fun x hx => ?_, fun x hx => ?_, ?_⟩
  · obtain ⟨m, hm⟩ := List.mem_iff_getElem?.mp hx
    rw [List.getElem?_set] at hm
    by_cases e1 : i = m
    · rw [if_pos e1] at hm
      split at hm
      · cases hm; exact e
      · cases hm
    · rw [if_neg e1] at hm
      exact k _ _ (fun z => (w.ne m i (p := x.1) (o := x.2) hm h (Ne.symm e1)) (List.mem_singleton.mp z)) (w.get m hm)
  · obtain ⟨m, hm⟩ := List.mem_iff_getElem?.mp hx
    rw [List.getElem?_set] at hm
    by_cases e1 : i = m
    · rw [if_pos e1] at hm
      split at hm
      · cases hm; exact w.free i h
      · cases hm
    · rw [if_neg e1] at hm
      exact w.free m hm
  · exact same_freshL w.sm (fun x hx => by rw [List.mem_singleton.mp hx]; exact w.free i h) k
theorem Ow.from {H1 : Hp} (w : Ow H1 H L) (s : Same H0 H1) : Ow H0 H L := ⟨w.nd, w.at_, fun x hx => Same.free s (w.fr x hx), Same.trans s w.sm⟩
end
end Lp
namespace Lp
open PySem PySem.HandSPX
abbrev keTail : List Value := [.type "KeyError", .type "LookupError", .type "Exception", .type "BaseException", .type "object"]
section
variable {M : Model} {A : Around} {E : Value → Shared → Prop} {h : Heap} {g : Array GenState} {d : Drawn} {t : Nat} {os : OsState}
variable {nm q : Str} {C N : Addr} {bs bm bmO : List Value} {hdct : Bool} {sn : List Str} {sub : List Value} {ab : Bool} {col : Option Bool} {dd : Option Addr} {k0 k1 k2 k3 k5 : Option Value} {O newId initO : String}
theorem chk_new (F : ExcBaseFacts O newId initO bmO) (hB : bm.contains (.type O) = true) {rest : List Value} {Q : Unit → Shared → Prop} (hC : h.get? C = some (excClassObj nm q C N bs bm hdct sn sub ab col dd k0 k1 k2 k3 k5 newId))
    (z : Q () ⟨h, g, d, t, os⟩) : wpAny M A (checkBuiltinCall newId ⟨.ref C :: rest, []⟩) Q E ⟨h, g, d, t, os⟩ := by
  have c1 : (Value.ref C :: bm).contains (.type O) = true := by rw [List.contains_cons, hB, Bool.or_true]
  have c2 := F.noStar
  simp only [checkBuiltinCall, F.newKind, F.newSplit, F.newRow]
  repeat (first
    | refine wpAny_loadPart_at hC ?_
    | (refine wpAny_isSubtype_exc hC ?_; rw [c1])
    | refine wpAny_staticBase_exc hC ?_
    | refine wpAny_madeBy_exc hC ?_
    | simp only [bne_self_eq_false, Bool.false_eq_true, if_false]
    | wp_step)
  exact z
end
section
variable {prog : Program} {w : World} {A : Around} {E : Value → Shared → Prop} {R : Result → Shared → Prop} {h : Heap} {g : Array GenState} {d : Drawn} {t : Nat} {os : OsState}
variable {nm q : Str} {C N : Addr} {bs bm bmO : List Value} {hdct : Bool} {sn : List Str} {sub : List Value} {ab : Bool} {col : Option Bool} {dd : Option Addr} {k0 k1 k2 k3 k5 : Option Value} {O newId initO : String}
structure LineOk (bm : List Value) (O : String) : Prop where
  b : bm.contains (.type O) = true
  a : bm.contains (.type "AttributeError") = false
  n : bm.contains (.type "NameError") = false
theorem run_new (F : ExcBaseFacts O newId initO bmO) (L : LineOk bm O) {rest : List Value} (hC : h.get? C = some (excClassObj nm q C N bs bm hdct sn sub ab col dd k0 k1 k2 k3 k5 newId))
    (z : R (.ok (.ret (.ref (h.objs.size + 1)))) ⟨(h.push (W.kdv_tup rest)).push (excO C h.objs.size), g, d, t, os⟩) (hl : rest.length ≤ sizeLine) :
    codeAny (model prog w) A (.builtin newId ⟨.ref C :: rest, []⟩) R ⟨h, g, d, t, os⟩ := by
  have c0 := F.ends
  have c1 : (Value.ref C :: bm).contains (.type O) = true := by rw [List.contains_cons, L.b, Bool.or_true]
  have c2 : (Value.ref C :: bm).contains (.type "AttributeError") = false := by rw [List.contains_cons, L.a] <;> rfl
  have c3 : (Value.ref C :: bm).contains (.type "NameError") = false := by rw [List.contains_cons, L.n] <;> rfl
  refine codeAny_builtinAt F.entry ?_
  unfold Builtin.«BaseException.__new__»
  refine wpAt_bind ?_
  show wpAt _ _ _ (stack >>= _) _ _ _
  refine wpAt_bind (wpAt_stack fun p u => wpAt_of_wpAny ?_)
  wp_walk
  refine wpAt_of_wpAny ?_
  rw [F.owner]
  repeat (first
    | with_reducible refine wpAny_madeHere_exc F.canon hC ?_
    | with_reducible refine wpAny_loadPart_at hC ?_
    | (with_reducible refine wpAny_isSubtype_exc hC ?_; first | rw [c1] | rw [c2] | rw [c3])
    | wp_step)
  show R _ _
  rw [Heap.size_push]
  exact z
theorem tcall_x (F : ExcBaseFacts O newId initO bmO) (L : LineOk bm O) {rest : List Value} {fI : Addr} {Q : Fin → Shared → Prop} (hC : h.get? C = some (excClassObj nm q C N bs bm hdct sn sub ab col dd k0 k1 k2 k3 k5 newId))
    (hi : W.Looks (model prog w) h (typeLookup (.ref C) "__init__") (some (.ref fI))) (hb : ∀ u, W.Looks (model prog w) h (bindSpecial (.ref fI) u) (.ref fI, [u])) (hl : rest.length ≤ sizeLine)
    (hq : codeAny (model prog w) A (.call (.ref fI) ⟨.ref (h.objs.size + 1) :: rest, []⟩) (fun r s' => match r with
      | .ok (.ret v) => v = .none ∧ Q (.done (.ret (.ref (h.objs.size + 1)))) s'
      | .ok _ => False
      | .error e => E e s') ⟨(h.push (W.kdv_tup rest)).push (excO C h.objs.size), g, d, t, os⟩) :
    wpAny (model prog w) A (Builtin.«type.__call__» ⟨.ref C :: rest, []⟩) Q E ⟨h, g, d, t, os⟩ := by
  repeat (first
    | with_reducible refine wpAny_loadPart_at hC ?_
    | with_reducible refine wpAny_madeBy_exc hC ?_
    | wp_step)
  refine codeAny_call_builtin_code (Code.quiet_builtin _ F.quiet) (chk_new F L.b hC (run_new F L hC ?_ hl))
  show wpAny _ _ _ _ _ _
  have kk : ∀ b o, h.get? b = some o → ((h.push (W.kdv_tup rest)).push (excO C h.objs.size)).get? b = some o := fun b o e => Heap.get?_push_of_some _ (Heap.get?_push_of_some _ e)
  have hD := kk _ _ hC
  have hx : ((h.push (W.kdv_tup rest)).push (excO C h.objs.size)).get? (h.objs.size + 1) = some (excO C h.objs.size) := by heap_get
  have cc : (Value.ref C :: bm).contains (.ref C) = true := by simp
  have j1 := hi.keeps kk
  have j2 := (hb (.ref (h.objs.size + 1))).keeps kk
  unfold isInstance
  repeat (first
    | with_reducible refine wpAny_loadPart_at hx ?_
    | (with_reducible refine wpAny_isSubtype_exc hD ?_; rw [cc])
    | wp_step)
  show wpAny _ _ (typeLookup (.ref C) _) _ _ _
  refine j1.at ?_
  refine wpAny_holding (wpAny_bind (j2.at (wpAny_bind (wpAny_call (codeAny_mono hq fun r s' z => ?_)))))
  rcases r with e | (v | _ | _ | _) <;> first
    | exact z
    | exact z.elim
    | skip
  obtain ⟨rfl, z⟩ := z
  first
    | exact wpAny_pure (wpAny_pure z)
    | (wp_walk; exact z)
theorem call_x (F : ExcBaseFacts O newId initO bmO) (L : LineOk bm O) {rest : List Value} {fI : Addr} (hC : h.get? C = some (excClassObj nm q C N bs bm hdct sn sub ab col dd k0 k1 k2 k3 k5 newId))
    (hi : W.Looks (model prog w) h (typeLookup (.ref C) "__init__") (some (.ref fI))) (hb : ∀ u, W.Looks (model prog w) h (bindSpecial (.ref fI) u) (.ref fI, [u])) (hl : rest.length ≤ sizeLine)
    (hq : codeAny (model prog w) (A.under (.builtin "type.__call__" ⟨.ref C :: rest, []⟩)) (.call (.ref fI) ⟨.ref (h.objs.size + 1) :: rest, []⟩) (W.InitBack (h.objs.size + 1) R) ⟨(h.push (W.kdv_tup rest)).push (excO C h.objs.size), g, d, t, os⟩) :
    codeAny (model prog w) A (.call (.ref C) ⟨rest, []⟩) R ⟨h, g, d, t, os⟩ := by
  have f1 := tc_lookup
  have f2 := tc_bind (.ref C)
  have ty : (⟨h, g, d, t, os⟩ : Shared).TypeIs (.ref C) "type" := ⟨_, hC, rfl⟩
  refine codeAny_of_tree ?_
  show wpAny _ _ (callAny (.ref C) _) _ _ _
  repeat (any_goals (first
    | assumption
    | with_reducible refine wpAny_loadPart_at hC ?_
    | wp_step))
  refine ⟨rfl, codeAny_call_builtin_at (Code.quiet_builtin _ (by decide +kernel)) entry_typeCall (wpAny_check_type_call_sub hC (tcall_x F L hC hi hb hl (codeAny_mono hq fun r s' z => ?_)))⟩
  rcases r with e | (v | _ | _ | _) <;> exact z
open Builtin Builtin.ObjectAttr in
theorem osa_x {K : W.Frag} {name : Str} {tk : Tok} {v : Value} {x D : Addr} {fv : Array Value} {cd : ClassData} (X : K.In h) (hx : h.get? x = some { cls := .ref D, data := .fields fv }) (hcd : W.clsIn K D = some cd)
    (m1 : cd.mro.isEmpty = false) (m2 : cd.mro.contains (.type "object") = true) (m3 : ∀ u, refuseLoop u "__setattr__" cd.mro = pure ()) (hh : cd.hasDict = true) (ha : W.findIn K (.ref D) name = some none)
    (hq : ∀ h' tk' dx, (∀ b o, b ≠ x → h.get? b = some o → h'.get? b = some o) → h.objs.size ≤ dx → dx ≠ x → h'.get? x = some { cls := .ref D, dict := some dx, data := .fields fv } →
      h'.Ns1 dx (fun y => if y = name then some v else none) → R (.ok (.ret .none)) ⟨h', g, d, tk', os⟩) :
    codeAny (model prog w) A (.call (.builtin "object.__setattr__") ⟨[.ref x, .str name tk, v], []⟩) R ⟨h, g, d, t, os⟩ := by
  have I : W.InstAt h x { cls := .ref D, data := .fields fv } D none := ⟨hx, rfl, rfl, trivial⟩
  have SF := F.store_object
  have nx : x ≠ h.objs.size := Nat.ne_of_lt (Heap.lt_size hx)
  have is : W.Looks (model prog w) h (isInstance (.ref x) (.type "object")) true := I.type.andThen (W.looks_mroIn X (by unfold W.mroIn; rw [hcd, Option.bind_some, if_neg (by rw [m1]; decide), m2]))
  refine codeAny_call_builtin SF.slot.plain SF.entry (@W.check_slot (model prog w) _ _ ⟨h, g, d, t, os⟩ "object.__setattr__" "object" "__setattr__" (.ref x) [.str name tk, v] [] _ SF.kind SF.split is (SF.args (.ref x) (.str name tk) v) ?_)
  have hm : W.Looks (model prog w) h (mroOf (.ref D)) cd.mro := (W.looks_clsIn X hcd).andThen .now
  have no : W.Looks (model prog w) h (storeTaker? none) none := .now
  have cl : W.Looks (model prog w) h (classData D) cd := W.looks_clsIn X hcd
  rw [W.osa_eq, refuse_eq]
  refine wpAny_bind (wpAny_bind (I.type.at (wpAny_bind (hm.at ?_))))
  rw [m3]
  refine wpAny_pure (wpAny_bind (I.type.at (wpAny_bind ((W.looks_findIn X ha).at (wpAny_bind (no.at ?_))))))
  show wpAny _ _ (storeInOwnDict (.ref x) (.ref D) (.str name tk) name v false) _ _ _
  obtain ⟨c1, c2, c3, c4, c5, c6, c7, c8, c9, c10, c11⟩ := cd
  dsimp only at hh
  subst hh
  unfold storeInOwnDict ownDictForStores
  repeat (first
    | with_reducible refine store_in_new ?_ ?_
    | with_reducible refine wpAny_loadPart_at hx ?_
    | with_reducible refine cl.at ?_
    | wp_step)
  · exact ⟨_, #[], _, (Heap.get?_update_ne _ _ _ _ nx.symm).trans (Heap.get?_push_at rfl rfl), rfl, fun e he => absurd he (by simp), fun _ => rfl⟩
  · intro h' tk' hn' hs
    have hy : (h.push { cls := .type "dict", data := .dict #[] }).get? x = some { cls := .ref D, data := .fields fv } := Heap.get?_push_of_some _ hx
    refine hq h' tk' h.objs.size (fun b o hb ho => ?_) (Nat.le_refl _) nx.symm ?_ hn'
    · exact (hs.2 b (Nat.ne_of_lt (Heap.lt_size ho))).trans ((Heap.get?_update_ne _ _ _ _ hb).trans (Heap.get?_push_of_some _ ho))
    · exact (hs.2 x nx).trans (Heap.get?_update_self _ hy rfl)
open Builtin Builtin.ObjectAttr in
theorem osa_y {K : W.Frag} {name : Str} {tk : Tok} {v : Value} {x D dx : Addr} {fv : Array Value} {cd : ClassData} {m0 : Str → Option Value} {nl : List Str} (X : K.In h) (hx : h.get? x = some { cls := .ref D, dict := some dx, data := .fields fv })
    (hns : h.Ns1 dx m0) (hw : Within m0 nl) (hz : nl.length ≤ 1000) (hcd : W.clsIn K D = some cd) (m1 : cd.mro.isEmpty = false) (m2 : cd.mro.contains (.type "object") = true) (m3 : ∀ u, refuseLoop u "__setattr__" cd.mro = pure ())
    (hh : cd.hasDict = true) (ha : W.findIn K (.ref D) name = some none)
    (hq : ∀ h' tk', (∀ b o, b ≠ dx → h.get? b = some o → h'.get? b = some o) → h'.Ns1 dx (fun y => if y = name then some v else m0 y) → R (.ok (.ret .none)) ⟨h', g, d, tk', os⟩) :
    codeAny (model prog w) A (.call (.builtin "object.__setattr__") ⟨[.ref x, .str name tk, v], []⟩) R ⟨h, g, d, t, os⟩ := by
  obtain ⟨oD, _, _, hoD, _, _⟩ := hns.count hw
  have I : W.InstAt h x { cls := .ref D, dict := some dx, data := .fields fv } D (some oD) := ⟨hx, rfl, rfl, hoD⟩
  have SF := F.store_object
  have is : W.Looks (model prog w) h (isInstance (.ref x) (.type "object")) true := I.type.andThen (W.looks_mroIn X (by unfold W.mroIn; rw [hcd, Option.bind_some, if_neg (by rw [m1]; decide), m2]))
  refine codeAny_call_builtin SF.slot.plain SF.entry (@W.check_slot (model prog w) _ _ ⟨h, g, d, t, os⟩ "object.__setattr__" "object" "__setattr__" (.ref x) [.str name tk, v] [] _ SF.kind SF.split is (SF.args (.ref x) (.str name tk) v) ?_)
  have hm : W.Looks (model prog w) h (mroOf (.ref D)) cd.mro := (W.looks_clsIn X hcd).andThen .now
  have no : W.Looks (model prog w) h (storeTaker? none) none := .now
  have cl : W.Looks (model prog w) h (classData D) cd := W.looks_clsIn X hcd
  rw [W.osa_eq, refuse_eq]
  refine wpAny_bind (wpAny_bind (I.type.at (wpAny_bind (hm.at ?_))))
  rw [m3]
  refine wpAny_pure (wpAny_bind (I.type.at (wpAny_bind ((W.looks_findIn X ha).at (wpAny_bind (no.at ?_))))))
  show wpAny _ _ (storeInOwnDict (.ref x) (.ref D) (.str name tk) name v false) _ _ _
  obtain ⟨c1, c2, c3, c4, c5, c6, c7, c8, c9, c10, c11⟩ := cd
  dsimp only at hh
  subst hh
  unfold storeInOwnDict ownDictForStores
  repeat (first
    | with_reducible refine PySem.OEX.store_in_old hns hw hz ?_
    | with_reducible refine wpAny_loadPart_at hx ?_
    | with_reducible refine cl.at ?_
    | wp_step)
  exact fun h' tk' hn' hs => hq h' tk' (fun b o hb ho => (hs.2 b hb).trans ho) hn'
structure InitF (B initId : String) : Prop where
  plain : plainId initId = true
  entry : entryFor table initId = some Builtin.«BaseException.__init__»
  kind : builtinKind initId = some .slot
  split : splitId initId = some (B, "__init__")
  row : Manifest.signature? initId = some ⟨.positional, "*", B, .self, [⟨"args", .varPos, false⟩]⟩
  star : (B != "*") = true
theorem initF_of {B newId initId : String} {bm : List Value} (F : ExcBaseFacts B newId initId bm) : InitF B initId := ⟨F.init.plain, F.initEntry, F.initKind, F.initSplit, F.initRow, F.noStar⟩
theorem initF_key : InitF "KeyError" "KeyError.__init__" :=
  let c := PyProof.Rows.excClass_KeyError
  ⟨c.init.plain, c.initEntry, c.initKind, c.initSplit, c.initSig, c.notStar⟩
end
end Lp
namespace Lp
open PySem PySem.W
section
variable {prog : Program} {w : World} {A : Around} {E : Value → Shared → Prop} {h : Heap} {g : Array GenState} {d : Drawn} {t : Nat} {os : OsState}
variable {nm q : Str} {C N : Addr} {bs bm : List Value} {hdct : Bool} {sn : List Str} {sub : List Value} {ab : Bool} {col : Option Bool} {dd : Option Addr} {k0 k1 k2 k3 k5 : Option Value} {B newId initId : String}
theorem call_bwx (F : InitF B initId) (hqi : initId.startsWith "lifetime." = false) {u e t0 : Addr} {rest : List Value} {Q : Value → Shared → Prop} (hC : h.get? C = some (excClassObj nm q C N bs bm hdct sn sub ab col dd k0 k1 k2 k3 k5 newId))
    (he : h.get? e = some (HandSPX.excO C t0)) (hu : h.get? u = some (kxs_mw initId e)) (hl : rest.length ≤ sizeLine)
    (hq : ∀ h' t1, (∀ b o, b ≠ e → h.get? b = some o → h'.get? b = some o) → h'.get? e = some (HandSPX.excO C t1) → Q .none ⟨h', g, d, t, os⟩) :
    wpAny (model prog w) A (call (.ref u) rest) Q E ⟨h, g, d, t, os⟩ := by
  refine wpAny_call (codeAny_of_tree ?_)
  show wpAny _ A.in1 (callAny (.ref u) ⟨rest, []⟩) _ _ _
  simp only [callAny]
  refine wpAny_bind (wpAny_load hu ?_)
  simp only [kxs_mw, show (Value.type "method-wrapper" == Value.type "method" || Value.type "method-wrapper" == Value.type "builtin_function_or_method" || Value.type "method-wrapper" == Value.type "method-wrapper") = true by decide, if_true]
  refine W.KFB.if_so (by decide) ?_
  have chk : ∀ {A' : Around} {E' : Value → Shared → Prop} {Q' : Unit → Shared → Prop}, Q' () ⟨h, g, d, t, os⟩ → wpAny (model prog w) A' (checkBoundCall initId ⟨.ref e :: rest, []⟩) Q' E' ⟨h, g, d, t, os⟩ := fun {A' E' Q'} z => by
    have c2 := F.star
    simp only [checkBoundCall, F.kind, F.row]
    repeat (first
      | with_reducible refine wpAny_loadPart_at he ?_
      | with_reducible refine wpAny_loadPart_at hC ?_
      | wp_step)
    refine wpAny_onRaise ?_
    rw [show ∀ (a b : String) (n : Nat), Bind.check ⟨.positional, "*", B, .self, [⟨"args", .varPos, false⟩]⟩ a b n (List.map (fun x => x.fst) ({ pos := Value.ref e :: rest } : Args).kw) = pure () from fun a b n => check_star_args _ _ _ _ _ _]
    exact wpAny_pure z
  refine wpAny_bind (chk (wpAny_bind (wpAny_pure (wpAny_pure ?_))))
  refine ⟨Code.quiet_builtin _ hqi, codeAny_builtin F.entry ?_⟩
  rw [Around.under_plainId F.plain _]
  wp_walk
  refine hq _ h.objs.size (fun b o hb ho => ?_) ?_
  · rw [Heap.get?_update_other _ _ (Ne.symm hb)]
    exact Heap.get?_push_of_some _ ho
  · exact (Heap.get?_update_self _ (Heap.get?_push_of_some _ he) rfl).trans rfl
end
end Lp
namespace Lp
open PySem PySem.Spec PyProof.Rows L2 He
structure XoC (K : PySem.W.Frag) (C : Addr) (O newId initO B initId : String) (bmO : List Value) : Prop where
  fO : ExcBaseFacts O newId initO bmO
  fB : InitF B initId
  qB : initId.startsWith "lifetime." = false
  kx : PySem.W.KxsFacts B initId
  cls : ∃ nm q N bs bm sn sub ab col dd k0 k1 k2 k3 k5, K.lookup C = some (excClassObj nm q C N bs bm true sn sub ab col dd k0 k1 k2 k3 k5 newId) ∧ LineOk bm O ∧ bm.contains (.type B) = true ∧ bm.contains (.type "object") = true ∧ ∀ u, refuseLoop u "__setattr__" (.ref C :: bm) = pure ()
  sa : PySem.W.findIn K (.ref C) "__setattr__" = some (some (.builtin "object.__setattr__"))
  kC : PySem.W.keepIn K (.ref C) = true
  xf : XfC K C
  ec : ExcC K C
section
variable {X : Cx} {pins : List (Addr × Obj)} {σ : L2.St} {H : Hp} {s : Shared} {a C dx : Addr} {f : Str} {y : V} {u : Value} {fs : List (Str × V)} {Q : Unit → Shared → Prop} {E : Value → Shared → Prop} {A : Around} {O newId initO B initId : String} {bmO : List Value}
theorem stx_new (T : XoC X.K C O newId initO B initId bmO) (I : Inv X pins σ H s) (e : H a = some (exo a C none)) (hno : PySem.W.findIn X.K (.ref C) f = some none) (ry : RelV y u)
    (z : ∀ dx s', H dx = none → dx ≠ a → Inv X pins σ (upd (upd H dx (exd dx [(f, y)])) a (exo a C (some dx))) s' → Q () s') : wpAny (model X.prog X.w) A (setAttr (.ref a) f u) Q E s := by
  obtain ⟨nm, q, N, bs, bm, sn, sub, ab, col, dd, k0, k1, k2, k3, k5, hC, _, _, hob, hps⟩ := T.cls
  have hcl : PySem.W.clsIn X.K C = some { name := nm, bases := bs, mro := .ref C :: bm, ns := N, qualname := q, hasDict := true, slotNames := sn, subclasses := sub, abstract := ab, collection := col, hasDel := false } := by
    unfold PySem.W.clsIn
    rw [hC] <;> rfl
  obtain ⟨t1, ho⟩ := exo_at I.hok e
  obtain ⟨hp, g, d, t, os⟩ := s
  refine PySem.W.set_plain I.kIn (ox := { cls := .ref C, dict := none, data := .fields #[.ref t1, .none, .none, .none, .bool false, .none] }) (od := none) ⟨ho, rfl, rfl, trivial⟩ T.sa ?_
  refine osa_x I.kIn ho hcl rfl (by show (Value.ref C :: bm).contains _ = true; rw [List.contains_cons, hob, Bool.or_true]) hps rfl hno (fun h' tk' dx k dn dne hx hn => ?_)
  have fr : H dx = none := I.hok.fresh dn
  have n1 : ∀ {b : Addr} {o : Obj}, hp.get? b = some o → b ≠ dx := fun {b o} q => Nat.ne_of_lt (Nat.lt_of_lt_of_le (Heap.lt_size q) dn)
  have n2 : ∀ {b : Addr}, H b = none → b ≠ a := fun {b} n z => by
    rw [z, e] at n
    cases n
  have U : Un X.fs [] H (upd (upd H dx (exd dx [(f, y)])) a (exo a C (some dx))) hp h' := {
    keep := fun b o q n _ _ => k b o (n2 n) q
    slot := fun b o q n _ _ => ⟨o.slots, k b o (n2 n) q⟩
    free := fun b o q n _ => by rw [upd_ne (n2 n), upd_ne (n1 q)]; exact n
    there := fun b o q _ => by
      by_cases hb : b = a
      · exact ⟨_, by rw [hb]; exact hx⟩
      · exact ⟨o, k b o hb q⟩
    tups := fun b xs q => by
      rw [upd_ne (at_ne e q exo_tup), upd_ne (ne_of_none q fr)]
      exact q
    frzs := fun b o v q => by
      rw [upd_ne (at_ne e q exo_frz), upd_ne (ne_of_none q fr)]
      exact q
    tbls := fun b ps q => ⟨#[], by
      rw [upd_ne (at_ne e q exo_tbl), upd_ne (ne_of_none q fr), q]
      simp⟩ }
  refine z dx _ fr dne (I.un (t' := tk') U fun b o q => ?_)
  by_cases hb : b = a
  · subst hb
    rw [upd_same] at q
    cases q
    exact exo_ok hx
  · rw [upd_ne hb] at q
    by_cases hd : b = dx
    · subst hd
      rw [upd_same] at q
      cases q
      exact exd_ok hn (relO_put (fs := []) ry fun _ => True.intro)
    · rw [upd_ne hd] at q
      refine (I.hok b o q).stay (fun c v hc z => k c v ?_ z) (fun c hc => ?_) (fun c xs hc => ?_)
      · rcases hc with hc | hc
        · rw [hc]
          exact hb
        · exact at_ne e hc exo_own
      · rw [upd_ne (at_ne e hc exo_own), upd_ne (ne_of_none hc fr)]
        exact hc
      · rw [upd_ne (at_ne e hc exo_tup), upd_ne (ne_of_none hc fr)]
        exact hc
theorem stx_old (T : XoC X.K C O newId initO B initId bmO) (I : Inv X pins σ H s) (e : H a = some (exo a C (some dx))) (ed : H dx = some (exd dx fs)) (hl : fs.length ≤ 900) (hno : PySem.W.findIn X.K (.ref C) f = some none) (ry : RelV y u)
    (z : ∀ s', Inv X pins σ (upd H dx (exd dx ((f, y) :: fs))) s' → Q () s') : wpAny (model X.prog X.w) A (setAttr (.ref a) f u) Q E s := by
  obtain ⟨nm, q, N, bs, bm, sn, sub, ab, col, dd, k0, k1, k2, k3, k5, hC, _, _, hob, hps⟩ := T.cls
  have hcl : PySem.W.clsIn X.K C = some { name := nm, bases := bs, mro := .ref C :: bm, ns := N, qualname := q, hasDict := true, slotNames := sn, subclasses := sub, abstract := ab, collection := col, hasDel := false } := by
    unfold PySem.W.clsIn
    rw [hC] <;> rfl
  obtain ⟨t1, ho⟩ := exo_at I.hok e
  obtain ⟨mA, hns, rel⟩ := exd_at I.hok ed
  have hw := within_of rel
  obtain ⟨hp, g, d, t, os⟩ := s
  obtain ⟨oD, _, _, hoD, _, _⟩ := hns.count hw
  refine PySem.W.set_plain I.kIn (ox := { cls := .ref C, dict := some dx, data := .fields #[.ref t1, .none, .none, .none, .bool false, .none] }) (od := some oD) ⟨ho, rfl, rfl, hoD⟩ T.sa ?_
  refine osa_y I.kIn ho hns hw (by rw [List.length_map]; omega) hcl rfl (by show (Value.ref C :: bm).contains _ = true; rw [List.contains_cons, hob, Bool.or_true]) hps rfl hno (fun h' tk' k hn => ?_)
  have hd : ∃ o, h'.get? dx = some o := let ⟨o, _, _, e', _⟩ := hn; ⟨o, e'⟩
  exact z _ (I.write (t' := tk') (x := dx) (e := dx) (o := exd dx ((f, y) :: fs)) (by rw [ed]; exact True.intro) (.inl rfl) k hd (exd_ok hn (relO_put ry rel)))
end
def tStx (C : Addr) (f : Str) (to te : TE) : TS := fun D σ H => te σ H fun y H1 => to σ H1 fun x H2 => ∃ a, x = .ref a ∧
  ((H2 a = some (exo a C none) ∧ ∀ dx H', H2 dx = none → dx ≠ a → Kp [a] H2 H' → H' dx = some (exd dx [(f, y)]) → H' a = some (exo a C (some dx)) → D.nx σ H') ∨
    ∃ (dx : Addr) (fs : List (Str × V)), H2 a = some (exo a C (some dx)) ∧ H2 dx = some (exd dx fs) ∧ fs.length ≤ 900 ∧ Ch H2 dx (exd dx ((f, y) :: fs)) (D.nx σ))
section
variable {X : Cx} {o e : Expr} {es : List Expr} {to te : TE} {ta t : TA} {f : Str} {p p' p0 p1 apos pos : Pos} {C fa cda cc : Addr} {O newId initO B initId : String} {bmO : List Value} {body : List Stmt} {pl : Sem Bool}
theorem ps_stx (T : XoC X.K C O newId initO B initId bmO) (hno : NoAttr X.K C f) (ho : PE X o to) (he : PE X e te) (hs : swapsWith e (some (.Attribute o f p')) pos.line X.env = pure false := by rfl) : PS X (.Assign [.Attribute o f p'] e pos) (tStx C f to te) := by
  refine ⟨fun pins s σ H D I h => ?_⟩
  refine plainObj_wpAny_Assign_Attribute (thn (he.run pins s σ H _ I h) fun v s1 ⟨y, H1, I1, r1, q1⟩ => thn (ho.run pins s1 σ H1 _ I1 q1) fun u s2 ⟨x, H2, I2, r2, a, ex, q⟩ => ?_) hs
  subst ex
  obtain rfl : u = Value.ref a := r2
  rcases q with ⟨ea, q⟩ | ⟨dx, fs, ea, ed, hl, q⟩
  · refine stx_new T I2 ea hno r1 fun dx s' n ne J => ⟨σ, _, J, q dx _ n ne (fun b o nb eb => ?_) ?_ upd_same⟩
    · rw [upd_ne (fun z => nb (by rw [z]; exact List.mem_cons_self ..)), upd_ne (ne_of_none eb n)]
      exact eb
    · rw [upd_ne ne, upd_same]
  · exact stx_old T I2 ea ed hl hno r1 fun s' J => ⟨σ, _, J, ch_of q⟩
end
end Lp
namespace Lp
open PySem PySem.Spec PyProof.Rows L2 He
def tSupY (K : PySem.W.Frag) (C : Addr) (initId : String) (t : TA) : TE := fun σ H Q => ∃ a, σ[0]? = some (some (.ref a)) ∧ H a = some (exo a C none) ∧ PySem.W.mroIn K C (.ref C) = some true ∧ PySem.W.ks_superIn K C C "__init__" = some (some (.builtin initId)) ∧
  t σ H fun vs H1 => vs.length ≤ 1000 ∧ H1 a = some (exo a C none) ∧ Q .non H1
section
variable {X : Cx} {f cda cc C : Addr} {e : Expr} {es : List Expr} {t : TA} {p0 p1 apos pos : Pos} {body : List Stmt} {pl : Sem Bool} {O newId initO B initId : String} {bmO : List Value}
theorem pea_superY (T : XoC X.K C O newId initO B initId bmO) (S : SupK X.prog X.K X.mg f cda cc C) (ha : PA X (e :: es) t)
    (hN : X.N[0]? = some ("self" : Str) := by rfl) (hfu : X.env.func = some f := by rfl) (hco : X.env.code = .ref cda := by rfl) (hcl : X.env.cells.lookup ("__class__" : Str) = some cc := by rfl)
    (hks : X.env.kindOf "super" = some .globalImplicit := by rfl) (hkc : X.env.kindOf "__class__" = some .free := by rfl) (hka : X.env.kindOf "self" = some .local := by rfl)
    (hst : starEach (e :: es) X.env = (false, eval e X.env) :: starEach es X.env := by rfl) (hpl : (backTo pos (starEach es X.env)).any (·.1) = false := by rfl)
    (he : eval (.Call (.Attribute (.Call (.Name "super" p0) [] [] p1) "__init__" apos) (e :: es) [] pos) X.env = (do
      let ov ← attributeBase (.Call (.Name "super" p0) [] [] p1) "__init__" X.env (eval (.Call (.Name "super" p0) [] [] p1) X.env)
      standAt apos.atName
      let (f, first) ← holding [ov] (getMethod ov "__init__" pl)
      callWith pos f first (backTo pos (starEach (e :: es) X.env)) []) := by rfl) :
    PEA X (.func body X.env) (.Call (.Attribute (.Call (.Name "super" p0) [] [] p1) "__init__" apos) (e :: es) [] pos) (tSupY X.K C initId t) := by
  refine ⟨fun pins s σ H Q I h => ?_⟩
  obtain ⟨a, hv, ea, hsub, hm, q⟩ := h
  obtain ⟨t1, ho⟩ := exo_at I.hok ea
  refine PySem.ks_wpAt_MethodCall (pl := pl) (sup_node S I hv hN hfu hco hcl hks hkc hka (by decide) ho rfl (fun c z => nomatch z) hsub fun h' hso kp => ?_) he
  have I1 : Inv X pins σ H { s with heap := h' } := I.kept (t' := s.toks) kp
  have KX := I1.kIn
  obtain ⟨nm, qn, N, bs, bm, sn, sub, ab, col, dd, k0, k1, k2, k3, k5, hC, _, hB, _, _⟩ := T.cls
  have hcl : PySem.W.clsIn X.K C = some { name := nm, bases := bs, mro := .ref C :: bm, ns := N, qualname := qn, hasDict := true, slotNames := sn, subclasses := sub, abstract := ab, collection := col, hasDel := false } := by
    unfold PySem.W.clsIn
    rw [hC] <;> rfl
  have J : PySem.W.InstAt s.heap a { cls := .ref C, dict := none, data := .fields #[.ref t1, .none, .none, .none, .bool false, .none] } C none := ⟨ho, rfl, rfl, trivial⟩
  have J1 : PySem.W.InstAt h' a { cls := .ref C, dict := none, data := .fields #[.ref t1, .none, .none, .none, .bool false, .none] } C none := ⟨kp _ _ ho, rfl, rfl, trivial⟩
  unfold PySem.W.ks_superIn at hm
  rw [hcl] at hm
  have neC : a ≠ C := PySem.W.ks_ne I.kIn J hcl
  have hmr : PySem.W.mroIn X.K C (.type B) = some true := by
    unfold PySem.W.mroIn
    rw [hcl, Option.bind_some]
    have e1 : (Value.ref C :: bm).isEmpty = false := rfl
    have e2 : (Value.ref C :: bm).contains (.type B) = true := by rw [List.contains_cons, hB, Bool.or_true]
    rw [if_neg (by rw [e1]; exact Bool.false_ne_true), e2]
  have hI : PySem.W.Looks (model X.prog X.w) h' (isInstance (.ref a) (.type B)) true := J1.type.andThen (PySem.W.looks_mroIn KX hmr)
  obtain ⟨hh, g, dr, tk, os⟩ := s
  refine PySem.W.kxs_getMethod T.kx hso (PySem.W.looks_opaque KX S.opq) (l₀ := .ref C :: bm) (ms_look KX hcl) rfl KX hm hI neC (by decide) ?_
  have I2 : Inv X ((h'.objs.size, PySem.W.kxs_mw initId a) :: pins) σ H ⟨h'.push (PySem.W.kxs_mw initId a), g, dr, tk + 1, os⟩ :=
    ClX.pin_new (t' := tk + 1) I1 (fun _ _ z => Heap.get?_push_of_some _ z) (Nat.le_refl _) (Heap.get?_push_size h' rfl) (fun v z => nomatch z)
  have hq := ClX.pin_at I2
  have hL : h'.objs.size ≠ X.env.locals := (I2.pin (h'.objs.size, PySem.W.kxs_mw initId a) (List.mem_append_right _ List.mem_cons_self)).2.2.1
  refine PySem.W.kxs_callWith1 (x := a) (news_at hL (ClX.base_none I1 (Nat.le_refl _)) hq) List.mem_cons_self (thn (ha.run pos _ _ σ H _ I2 q) fun us s3 ⟨vs, H2, I3, rv, hlen, ea2, q2⟩ => ⟨ClX.pin_at I3, ?_⟩) hst hpl
  obtain ⟨t2, ho2⟩ := exo_at I3.hok ea2
  have hu := ClX.pin_at I3
  obtain ⟨h3, g3, d3, tk3, os3⟩ := s3
  refine call_bwx T.fB T.qB (I3.kIn _ _ hC) ho2 hu (by rw [← rv.length, sizeLine_eq]; omega) fun h4 t4 k4 e4 => ?_
  have I3' := ClX.unpin I3
  have J3 := I3'.write (t' := tk3) (x := a) (e := a) (o := exo a C none) (by rw [ea2]; exact True.intro) (.inl rfl) k4 ⟨_, e4⟩ (exo_ok e4)
  have eu : upd H2 a (exo a C none) = H2 := by
    funext b
    by_cases hb : b = a
    · rw [hb, upd_same, ea2]
    · rw [upd_ne hb]
  rw [eu] at J3
  exact ⟨.non, H2, J3, rfl, q2⟩
end
def tXnew (C : Addr) (sp : Sp) (t : TA) : TE := fun σ H Q => t σ H fun vs H1 => vs.length ≤ 1000 ∧ ∀ a H2, H1 a = none → Same H1 H2 → H2 a = some (exo a C none) → sp (.ref a :: vs) H2 (fun v H3 => v = .non ∧ Q (.ref a) H3) (fun _ _ _ => False)
section
variable {X : Cx} {e : Expr} {es : List Expr} {t : TA} {p pos : Pos} {x : Str} {C fI : Addr} {k : Nat} {fd : FuncData} {ps : List Str} {sp : Sp} {O newId initO B initId : String} {bmO : List Value} {pins : List (Addr × Obj)} {σ : L2.St} {H1 : Hp} {Q : VK} {us : List Value} {vs : List V} {s1 : Shared} {CX : CXT}
theorem run_xnew (T : XoC X.K C O newId initO B initId bmO) (iC : PySem.W.findIn X.K (.ref C) "__init__" = some (some (.ref fI))) (tI : PySem.W.typeIn X.K (.ref fI) = some (.type "function")) (F1 : FnOk X.prog X.w X.K X.mg X.base CX k fI fd ps sp) (hr : Room (k + 1) X.A) (hb : Binds X.K fd ps []) (hx : Passes CX X (fun _ _ _ => False))
    (I1 : Inv X pins σ H1 s1) (r1 : Vals vs us) (hz : vs.length ≤ 1000) (q1 : ∀ a H2, H1 a = none → Same H1 H2 → H2 a = some (exo a C none) → sp (.ref a :: vs) H2 (fun v H3 => v = .non ∧ Q (.ref a) H3) (fun _ _ _ => False)) :
    wpAny (model X.prog X.w) X.A (call (.ref C) us) (EP X pins σ Q) X.xe s1 := by
  obtain ⟨nm, q, N, bs, bm, sn, sub, ab, col, dd, k0, k1, k2, k3, k5, hC, hLn, _, _, _⟩ := T.cls
  obtain ⟨hp, g, dr, tk, os⟩ := s1
  have hsz : hp.objs.size ≤ hp.objs.size + 1 := Nat.le_succ _
  have hn : H1 (hp.objs.size + 1) = none := I1.hok.fresh hsz
  have hq := q1 (hp.objs.size + 1) (upd H1 (hp.objs.size + 1) (exo (hp.objs.size + 1) C none)) hn (fun b u e => by rw [upd_ne (ne_of_none e hn)]; exact e) upd_same
  have kk : ∀ b o, hp.get? b = some o → ((hp.push (PySem.W.kdv_tup us)).push (PySem.HandSPX.excO C hp.objs.size)).get? b = some o := fun b o e => Heap.get?_push_of_some _ (Heap.get?_push_of_some _ e)
  have hget : ((hp.push (PySem.W.kdv_tup us)).push (PySem.HandSPX.excO C hp.objs.size)).get? (hp.objs.size + 1) = some (PySem.HandSPX.excO C hp.objs.size) := by heap_get
  have I2 : Inv X pins σ (upd H1 (hp.objs.size + 1) (exo (hp.objs.size + 1) C none)) ⟨(hp.push (PySem.W.kdv_tup us)).push (PySem.HandSPX.excO C hp.objs.size), g, dr, tk, os⟩ :=
    I1.laid (t' := tk) (a := hp.objs.size + 1) (o := exo (hp.objs.size + 1) C none) (h' := (hp.push (PySem.W.kdv_tup us)).push (PySem.HandSPX.excO C hp.objs.size)) kk hsz (exo_ok hget)
  have r2 : Vals (V.ref (hp.objs.size + 1) :: vs) (Value.ref (hp.objs.size + 1) :: us) := .cons rfl r1
  have hl : (Value.ref (hp.objs.size + 1) :: us ++ []).length = ps.length := by
    have e := r2.length
    rw [F1.len _ _ _ _ hq] at e
    rw [List.append_nil]
    exact e.symm
  have hus : us.length ≤ sizeLine := by
    rw [← Paired.length r1, sizeLine_eq]
    omega
  have hbd := hb _ (Value.ref (hp.objs.size + 1) :: us) I2.kIn hl
  rw [List.append_nil] at hbd
  refine wpAny_call (call_x T.fO hLn (I1.kIn _ _ hC) (PySem.W.looks_findIn I1.kIn iC) (fun self => PySem.W.bind_fn I1.kIn self tI) hus
    (codeAny_mono (F1.run _ X.stack _ _ ⟨Value.ref (hp.objs.size + 1) :: us, []⟩ (Value.ref (hp.objs.size + 1) :: us) _ _ (fun _ _ _ => False) (hr.make C us []) (I2.env0.make C us []) hbd r2 hq) fun r s' hq' => ?_))
  cases r with
  | error er => exact hx pins σ _ _ er s' I2 hq'
  | ok fl =>
    cases fl with
    | ret u =>
      obtain ⟨v, H2, os2, bare2, un2, hok2, rv, ev, q2⟩ := hq'
      subst ev
      obtain ⟨h2, g2, d2, t2, os'⟩ := s'
      exact ⟨rv, .ref (hp.objs.size + 1), H2, I2.call' (ch := []) os2 un2 hok2 bare2 (fun b z => absurd z (by simp)), rfl, q2⟩
    | next => exact False.elim hq'
    | brk => exact False.elim hq'
    | cont => exact False.elim hq'
end
end Lp
namespace Dl
open PySem PySem.Spec PyProof.Rows L2 He Lp
inductive D where
  | non | bl (b : Bool) | int (i : Int) | str (x : Str)
  | tup (xs : List D) | lst (xs : List D) | rol (xs : List D) | dct (kvs : List (Key × D))
  | obj (c : Str) (fs : List (Str × D))
  | fn (x : Str)
  | emp
  | ntp (xs : List D)
  | xer (c : Str) (fs : List (Str × D))
mutual
/-- v, in the never changing part F of the heap, stands for d -/
inductive Rep (K : PySem.W.Frag) (F : Hp) : V → D → Prop
  | non : Rep K F .non .non
  | bl (b : Bool) : Rep K F (.bl b) (.bl b)
  | int (i : Int) : Rep K F (.int i) (.int i)
  | str (x : Str) : Rep K F (.str x) (.str x)
  | fn (x : Str) : Rep K F (.ref (ga K x)) (.fn x)
  | emp {a : Addr} {o : Obj} {n : Nat} : K.lookup a = some o → o.cls = .type "tuple" → o.dict = none → o.data = .seq #[] n → Rep K F (.ref a) .emp
  | emp2 {a : Addr} {o : Obj} {n : Nat} : F a = some (.frz o (.tup [])) → o.cls = .type "tuple" → o.dict = none → o.data = .seq #[] n → Rep K F (.ref a) .emp
  | ntp {a : Addr} {o : Obj} {vs : List V} {ds : List D} : F a = some (.frz o (.tup vs)) → o.cls = .type "tuple" → o.dict = none → Reps K F vs ds → Rep K F (.ref a) (.ntp ds)
  | tup {a : Addr} {vs : List V} {ds : List D} : SqT K F a vs → Reps K F vs ds → Rep K F (.ref a) (.tup ds)
  | lst {a : Addr} {vs : List V} {ds : List D} : F a = some (.lst vs) → Reps K F vs ds → Rep K F (.ref a) (.lst ds)
  | rol {a : Addr} {vs : List V} {ds : List D} : SqL K F a vs → Reps K F vs ds → Rep K F (.ref a) (.rol ds)
  | dct {a : Addr} {ob : Obj} {kvs : List (Key × V)} {kds : List (Key × D)} : F a = some (.frz ob (.dK kvs)) → RepK K F kvs kds → Rep K F (.ref a) (.dct kds)
  | obj {a dx : Addr} {c : Str} {fvs : List (Str × V)} {fds : List (Str × D)} : F a = some (.ins (ga K c) dx fvs) → F dx = some (.own a) → RepF K F fvs fds → Rep K F (.ref a) (.obj c fds)
  | xer {a dx : Addr} {c : Str} {fvs : List (Str × V)} {fds : List (Str × D)} : F a = some (exo a (ga K c) (some dx)) → F dx = some (exd dx fvs) → RepF K F fvs fds → Rep K F (.ref a) (.xer c fds)
  | xen {a : Addr} {c : Str} : F a = some (exo a (ga K c) none) → Rep K F (.ref a) (.xer c [])
inductive Reps (K : PySem.W.Frag) (F : Hp) : List V → List D → Prop
  | nil : Reps K F [] []
  | cons {v : V} {d : D} {vs : List V} {ds : List D} : Rep K F v d → Reps K F vs ds → Reps K F (v :: vs) (d :: ds)
inductive RepK (K : PySem.W.Frag) (F : Hp) : List (Key × V) → List (Key × D) → Prop
  | nil : RepK K F [] []
  | cons {k : Key} {v : V} {d : D} {vs : List (Key × V)} {ds : List (Key × D)} : Rep K F v d → RepK K F vs ds → RepK K F ((k, v) :: vs) ((k, d) :: ds)
inductive RepF (K : PySem.W.Frag) (F : Hp) : List (Str × V) → List (Str × D) → Prop
  | nil : RepF K F [] []
  | cons {k : Str} {v : V} {d : D} {vs : List (Str × V)} {ds : List (Str × D)} : Rep K F v d → RepF K F vs ds → RepF K F ((k, v) :: vs) ((k, d) :: ds)
end
def Sub (F H : Hp) : Prop := ∀ a o, F a = some o → H a = some o
theorem Sub.refl (F : Hp) : Sub F F := fun _ _ h => h
theorem Sub.trans {A B C : Hp} (h : Sub A B) (k : Sub B C) : Sub A C := fun a o e => k a o (h a o e)
theorem Sub.rd {F H : Hp} {a : Addr} {u : HO} (h : Sub F H) (r : Rd F a u) : Rd H a u := r.imp (h a u) fun ⟨o, e⟩ => ⟨o, h a _ e⟩
theorem Sub.sqL {K : PySem.W.Frag} {F H : Hp} {a : Addr} {vs : List V} (h : Sub F H) (r : SqL K F a vs) : SqL K H a vs := r.imp (fun r => h.rd r) id
theorem Sub.sqT {K : PySem.W.Frag} {F H : Hp} {a : Addr} {vs : List V} (h : Sub F H) (r : SqT K F a vs) : SqT K H a vs := r.imp (fun r => h.rd r) id
mutual
theorem Rep.mono {K : PySem.W.Frag} {F H : Hp} (h : Sub F H) : ∀ {v : V} {d : D}, Rep K F v d → Rep K H v d
  | _, _, .non => .non
  | _, _, .bl b => .bl b
  | _, _, .int i => .int i
  | _, _, .str x => .str x
  | _, _, .fn x => .fn x
  | _, _, .emp a b c d => .emp a b c d
  | _, _, .emp2 a b c d => .emp2 (h _ _ a) b c d
  | _, _, .ntp a b c r => .ntp (h _ _ a) b c (Reps.mono h r)
  | _, _, .tup q r => .tup (h.sqT q) (Reps.mono h r)
  | _, _, .lst q r => .lst (h _ _ q) (Reps.mono h r)
  | _, _, .rol q r => .rol (h.sqL q) (Reps.mono h r)
  | _, _, .dct q r => .dct (h _ _ q) (RepK.mono h r)
  | _, _, .obj q o r => .obj (h _ _ q) (h _ _ o) (RepF.mono h r)
  | _, _, .xer q o r => .xer (h _ _ q) (h _ _ o) (RepF.mono h r)
  | _, _, .xen q => .xen (h _ _ q)
theorem Reps.mono {K : PySem.W.Frag} {F H : Hp} (h : Sub F H) : ∀ {vs : List V} {ds : List D}, Reps K F vs ds → Reps K H vs ds
  | _, _, .nil => .nil
  | _, _, .cons r t => .cons (Rep.mono h r) (Reps.mono h t)
theorem RepK.mono {K : PySem.W.Frag} {F H : Hp} (h : Sub F H) : ∀ {vs : List (Key × V)} {ds : List (Key × D)}, RepK K F vs ds → RepK K H vs ds
  | _, _, .nil => .nil
  | _, _, .cons r t => .cons (Rep.mono h r) (RepK.mono h t)
theorem RepF.mono {K : PySem.W.Frag} {F H : Hp} (h : Sub F H) : ∀ {vs : List (Str × V)} {ds : List (Str × D)}, RepF K F vs ds → RepF K H vs ds
  | _, _, .nil => .nil
  | _, _, .cons r t => .cons (Rep.mono h r) (RepF.mono h t)
end
abbrev SubH (F H : Hp) : Prop := Sub F H
theorem SubH.ne {F H : Hp} {a : Addr} {o : HO} (h : SubH F H) (e : F a = some o) : H a ≠ none := by rw [h a o e]; exact fun z => nomatch z
section
variable {K : PySem.W.Frag} {F H H' : Hp}
theorem Reps.len : ∀ {vs : List V} {ds : List D}, Reps K F vs ds → vs.length = ds.length
  | _, _, .nil => rfl
  | _, _, .cons _ t => by rw [List.length_cons, List.length_cons, Reps.len t]
theorem Reps.get : ∀ {vs : List V} {ds : List D} {i : Nat} {d : D}, Reps K F vs ds → ds[i]? = some d → ∃ v, vs[i]? = some v ∧ Rep K F v d
  | _, _, _, _, .nil, e => by simp at e
  | _, _, 0, _, .cons r _, e => by simp at e; subst e; exact ⟨_, rfl, r⟩
  | _, _, i + 1, _, .cons _ t, e => by simpa using Reps.get (i := i) t (by simpa using e)
theorem Reps.getV : ∀ {vs : List V} {ds : List D} {i : Nat} {v : V}, Reps K F vs ds → vs[i]? = some v → ∃ d, ds[i]? = some d ∧ Rep K F v d
  | _, _, _, _, .nil, e => by simp at e
  | _, _, 0, _, .cons r _, e => by simp at e; subst e; exact ⟨_, rfl, r⟩
  | _, _, i + 1, _, .cons _ t, e => by simpa using Reps.getV (i := i) t (by simpa using e)
theorem Reps.app : ∀ {vs ws : List V} {ds es : List D}, Reps K F vs ds → Reps K F ws es → Reps K F (vs ++ ws) (ds ++ es)
  | _, _, _, _, .nil, s => s
  | _, _, _, _, .cons r t, s => .cons r (Reps.app t s)
theorem Reps.take : ∀ {vs : List V} {ds : List D} (n : Nat), Reps K F vs ds → Reps K F (vs.take n) (ds.take n)
  | _, _, 0, _ => .nil
  | _, _, _ + 1, .nil => .nil
  | _, _, n + 1, .cons r t => .cons r (Reps.take n t)
theorem Reps.drop : ∀ {vs : List V} {ds : List D} (n : Nat), Reps K F vs ds → Reps K F (vs.drop n) (ds.drop n)
  | _, _, 0, t => t
  | _, _, _ + 1, .nil => .nil
  | _, _, n + 1, .cons _ t => Reps.drop n t
theorem Reps.set : ∀ {vs : List V} {ds : List D} {v : V} {d : D} (n : Nat), Reps K F vs ds → Rep K F v d → Reps K F (vs.set n v) (ds.set n d)
  | _, _, _, _, _, .nil, _ => .nil
  | _, _, _, _, 0, .cons _ t, q => .cons q t
  | _, _, _, _, n + 1, .cons r t, q => .cons r (Reps.set n t q)
theorem Reps.rev {vs : List V} {ds : List D} (h : Reps K F vs ds) : Reps K F vs.reverse ds.reverse := by
  induction vs generalizing ds with
  | nil => cases h; exact .nil
  | cons v vs ih =>
    cases h with
    | cons r t =>
      rw [List.reverse_cons, List.reverse_cons]
      exact (ih t).app (.cons r .nil)
theorem RepK.len : ∀ {vs : List (Key × V)} {ds : List (Key × D)}, RepK K F vs ds → vs.length = ds.length
  | _, _, .nil => rfl
  | _, _, .cons _ t => by rw [List.length_cons, List.length_cons, RepK.len t]
theorem RepF.len : ∀ {vs : List (Str × V)} {ds : List (Str × D)}, RepF K F vs ds → vs.length = ds.length
  | _, _, .nil => rfl
  | _, _, .cons _ t => by rw [List.length_cons, List.length_cons, RepF.len t]
theorem RepF.lookup : ∀ {vs : List (Str × V)} {ds : List (Str × D)} {f : Str} {d : D}, RepF K F vs ds → ds.lookup f = some d → ∃ v, vs.lookup f = some v ∧ Rep K F v d
  | _, _, _, _, .nil, e => by simp at e
  | _, _, f, _, .cons (k := k) r t, e => by
    rw [List.lookup_cons] at e ⊢
    cases q : f == k with
    | true => rw [q] at e; cases e; exact ⟨_, rfl, r⟩
    | false => rw [q] at e; exact RepF.lookup t e
def Ct (K : PySem.W.Frag) (F H : Hp) (a : Addr) : D → Prop
  | .lst ds => ∃ vs, H a = some (.lst vs) ∧ Reps K F vs ds
  | .tup ds => ∃ vs, H a = some (.tup vs) ∧ Reps K F vs ds
  | .dct kds => ∃ kvs, H a = some (.dK kvs) ∧ RepK K F kvs kds
  | .obj c fds => ∃ dx fvs, H a = some (.ins (ga K c) dx fvs) ∧ H dx = some (.own a) ∧ F dx = none ∧ dx ≠ a ∧ RepF K F fvs fds
  | _ => False
theorem Ct.ex {a : Addr} : ∀ {d : D}, Ct K F H a d → ∃ o, H a = some o
  | .lst _, ⟨_, e, _⟩ => ⟨_, e⟩
  | .tup _, ⟨_, e, _⟩ => ⟨_, e⟩
  | .dct _, ⟨_, e, _⟩ => ⟨_, e⟩
  | .obj _ _, ⟨_, _, e, _⟩ => ⟨_, e⟩
theorem Ct.noown {a b : Addr} : ∀ {d : D}, Ct K F H a d → H a ≠ some (.own b)
  | .lst _, ⟨_, e, _⟩, z => by rw [e] at z; cases z
  | .tup _, ⟨_, e, _⟩, z => by rw [e] at z; cases z
  | .dct _, ⟨_, e, _⟩, z => by rw [e] at z; cases z
  | .obj _ _, ⟨_, _, e, _⟩, z => by rw [e] at z; cases z
theorem Ct.keep {F' : Hp} {a : Addr} (hF : Sub F F') (hH : ∀ b o, (b = a ∨ H b = some (.own a)) → H b = some o → H' b = some o) (hn : ∀ b, H b = some (.own a) → F b = none → F' b = none) : ∀ {d : D}, Ct K F H a d → Ct K F' H' a d
  | .lst _, ⟨vs, e, r⟩ => ⟨vs, hH a _ (.inl rfl) e, r.mono hF⟩
  | .tup _, ⟨vs, e, r⟩ => ⟨vs, hH a _ (.inl rfl) e, r.mono hF⟩
  | .dct _, ⟨vs, e, r⟩ => ⟨vs, hH a _ (.inl rfl) e, r.mono hF⟩
  | .obj _ _, ⟨dx, fvs, e, o, n, ne, r⟩ => ⟨dx, fvs, hH a _ (.inl rfl) e, hH dx _ (.inr o) o, hn dx o n, ne, r.mono hF⟩
theorem Ct.freeze {a : Addr} (hs : SubH F H) (hn : F a = none) : ∀ {d : D}, Ct K F H a d → (∀ k, d ≠ .dct k) → ∃ F', Sub F F' ∧ SubH F' H ∧ Rep K F' (.ref a) d ∧ ∀ b, F b = none → (b = a ∨ (H b = some (.own a) ∧ ∃ C fs, H a = some (.ins C b fs))) ∨ F' b = none := by
  have up : ∀ {F0 : Hp} {b : Addr} {o : HO}, F0 b = none → Sub F0 (upd F0 b o) := fun {F0 b o} h x u e => by rw [upd_ne (ne_of_none e h)]; exact e
  have inH : ∀ {F0 : Hp} {b : Addr} {o : HO}, SubH F0 H → H b = Option.some o → SubH (upd F0 b o) H := fun {F0 b o} h e x u q => by
    by_cases z : x = b
    · subst z; rw [upd_same] at q; cases q; exact e
    · rw [upd_ne z] at q; exact h x u q
  have old : ∀ {F0 : Hp} {b : Addr} {o : HO} (x : Addr), F0 x = none → x = b ∨ upd F0 b o x = none := fun {F0 b o} x h => by
    by_cases z : x = b
    · exact .inl z
    · exact .inr (by rw [upd_ne z]; exact h)
  intro d h nd
  match d, h with
  | .lst _, ⟨vs, e, r⟩ => exact ⟨upd F a (.lst vs), up hn, inH hs e, .lst upd_same (r.mono (up hn)), fun b hb => (old b hb).imp .inl id⟩
  | .tup _, ⟨vs, e, r⟩ => exact ⟨upd F a (.tup vs), up hn, inH hs e, .tup (.of upd_same) (r.mono (up hn)), fun b hb => (old b hb).imp .inl id⟩
  | .dct k, _ => exact absurd rfl (nd k)
  | .obj c _, ⟨dx, fvs, e, o, n, ne, r⟩ =>
    have n2 : upd F a (.ins (ga K c) dx fvs) dx = none := by rw [upd_ne ne]; exact n
    refine ⟨upd (upd F a (.ins (ga K c) dx fvs)) dx (.own a), (up hn).trans (up n2), inH (inH hs e) o, .obj (by rw [upd_ne ne.symm, upd_same]) upd_same (r.mono ((up hn).trans (up n2))), fun b hb => ?_⟩
    rcases old (F0 := F) (b := a) (o := .ins (ga K c) dx fvs) b hb with z | z
    · exact .inl (.inl z)
    · rcases old (F0 := upd F a (.ins (ga K c) dx fvs)) (b := dx) (o := .own a) b z with z | z
      · exact .inl (.inr ⟨by rw [z]; exact o, _, _, by rw [z]; exact e⟩)
      · exact .inr z
end
end Dl
namespace Dl
open PySem PySem.Spec PyProof.Rows L2 He Lp
inductive Sl where
  | no | fz (d : D) | ow (fr : Bool) (d : D)
abbrev S := List Sl
inductive Vl where
  | d (d : D) | sl (i : Nat)
inductive Xk where
  | own (c : Str) | blt (n : String)
structure Xc where
  k : Xk
  fs : List (Str × D) := []
inductive Res (α : Type) where
  | ok (a : α) (s : S) | exc (x : Xc) (s : S) | bad
abbrev M (α : Type) := S → Res α
inductive RS where
  | nx (s : S) | rt (d : D) (s : S) | bk (s : S) | ct (s : S) | exc (x : Xc) (s : S) | bad
abbrev MS := S → RS
def ret {α : Type} (a : α) : M α := fun s => .ok a s
def bndR {α β : Type} : Res α → (α → M β) → Res β
  | .ok a s', k => k a s'
  | .exc x s', _ => .exc x s'
  | .bad, _ => .bad
def bnd {α β : Type} (m : M α) (k : α → M β) : M β := fun s => bndR (m s) k
def lift {α : Type} : Option α → M α
  | some a => ret a
  | none => fun _ => .bad
def New (G H : Hp) (a : Addr) : Prop := G a = none ∧ ∀ C dx fs, H a = some (.ins C dx fs) → G dx = none
def Sdx (H H' : Hp) (a : Addr) : Prop := ∀ C dx fs, H' a = some (.ins C dx fs) → ∃ C' fs', H a = some (.ins C' dx fs')
structure Gd where
  h : Hp
  f : Hp
  io : List Addr
  ix : Nat → Option Addr
abbrev Tm := List (Addr × D)
structure SR (K : PySem.W.Frag) (G : Gd) (T : Tm) (σ : L2.St) (H F : Hp) (s : S) : Prop where
  sub : SubH F H
  len : s.length = σ.length
  fz : ∀ (i : Nat) (d : D), s[i]? = some (Sl.fz d) → ∃ v, σ[i]? = some (some v) ∧ Rep K F v d
  ow : ∀ (i : Nat) (b : Bool) (d : D), s[i]? = some (Sl.ow b d) → ∃ a, σ[i]? = some (some (V.ref a)) ∧ Ct K F H a d ∧ F a = none ∧ (if b = true then New G.h H a else a ∈ G.io ∧ G.ix i = some a)
  dj : ∀ (i j : Nat) (b c : Bool) (d e : D) (a : Addr), s[i]? = some (Sl.ow b d) → s[j]? = some (Sl.ow c e) → σ[i]? = some (some (V.ref a)) → σ[j]? = some (some (V.ref a)) → i = j
  tm : ∀ p ∈ T, Ct K F H p.1 p.2 ∧ F p.1 = none ∧ New G.h H p.1
  tn : (T.map (·.1)).Nodup
  td : ∀ p ∈ T, ∀ (i : Nat) (b : Bool) (d : D), s[i]? = some (Sl.ow b d) → σ[i]? ≠ some (some (V.ref p.1))
  fr : ∀ a o, G.h a = some o → a ∉ G.io → H a = some o
  ioH : ∀ a ∈ G.io, G.h a ≠ none
  ioK : ∀ a ∈ G.io, H a ≠ none
  ioD : ∀ a ∈ G.io, Sdx G.h H a
  old : Sub G.f F
  oldH : SubH G.f G.h
  nw : ∀ a o, F a = some o → G.f a = some o ∨ G.h a = none
def VR (K : PySem.W.Frag) (F : Hp) (σ : L2.St) (x : V) : Vl → Prop
  | .d d => Rep K F x d
  | .sl i => σ[i]? = some (some x)
def ERep (K : PySem.W.Frag) (F : Hp) (x : Xc) (cls : Value) (d : Option Addr) : Prop := match x.k with
  | .own c => cls = .ref (ga K c) ∧ ∃ dx fvs, d = some dx ∧ F dx = some (.xd fvs) ∧ RepF K F fvs x.fs
  | .blt n => cls = .type n ∧ d = none ∧ x.fs = []
theorem ERep.mono {K : PySem.W.Frag} {F F' : Hp} {x : Xc} {cls : Value} {d : Option Addr} (h : Sub F F') (e : ERep K F x cls d) : ERep K F' x cls d := by
  obtain ⟨k, fs⟩ := x
  cases k with
  | own c =>
    obtain ⟨e1, dx, fvs, e2, e3, e4⟩ := e
    exact ⟨e1, dx, fvs, e2, h _ _ e3, e4.mono h⟩
  | blt n => exact e
def PoE (K : PySem.W.Frag) (W : WX) (G : Gd) (T : Tm) (F : Hp) (σ : L2.St) (Q : VK) : Res Vl → Prop
  | .ok v s' => ∀ x H' F', Sub F F' → SR K G T σ H' F' s' → VR K F' σ x v → Q x H'
  | .exc x s' => ∀ cls d H' F', Sub F F' → SR K G T σ H' F' s' → ERep K F' x cls d → W cls d σ H'
  | .bad => False
def rE (K : PySem.W.Frag) (W : WX) (m : M Vl) : TE := fun σ H Q => ∃ G T F s, SR K G T σ H F s ∧ PoE K W G T F σ Q (m s)
def PoA (K : PySem.W.Frag) (W : WX) (G : Gd) (T : Tm) (F : Hp) (σ : L2.St) (Q : List V → Hp → Prop) : Res (List Vl) → Prop
  | .ok vs s' => ∀ xs H' F', Sub F F' → SR K G T σ H' F' s' → Paired (VR K F' σ) xs vs → Q xs H'
  | .exc x s' => ∀ cls d H' F', Sub F F' → SR K G T σ H' F' s' → ERep K F' x cls d → W cls d σ H'
  | .bad => False
def rA (K : PySem.W.Frag) (W : WX) (m : M (List Vl)) : TA := fun σ H Q => ∃ G T F s, SR K G T σ H F s ∧ PoA K W G T F σ Q (m s)
def PoT (K : PySem.W.Frag) (W : WX) (G : Gd) (T : Tm) (F : Hp) (σ : L2.St) (Q : Bool → Hp → Prop) : Res Bool → Prop
  | .ok b s' => ∀ H' F', Sub F F' → SR K G T σ H' F' s' → Q b H'
  | .exc x s' => ∀ cls d H' F', Sub F F' → SR K G T σ H' F' s' → ERep K F' x cls d → W cls d σ H'
  | .bad => False
def rT (K : PySem.W.Frag) (W : WX) (m : M Bool) : TT := fun σ H Q => ∃ G T F s, SR K G T σ H F s ∧ PoT K W G T F σ Q (m s)
def PoS (K : PySem.W.Frag) (W : WX) (G : Gd) (T : Tm) (F : Hp) (E : Ends) : RS → Prop
  | .nx s' => ∀ σ' H' F', Sub F F' → SR K G T σ' H' F' s' → E.nx σ' H'
  | .bk s' => ∀ σ' H' F', Sub F F' → SR K G T σ' H' F' s' → E.bk σ' H'
  | .ct s' => ∀ σ' H' F', Sub F F' → SR K G T σ' H' F' s' → E.ct σ' H'
  | .rt d s' => ∀ v σ' H' F', Sub F F' → SR K G T σ' H' F' s' → Rep K F' v d → E.rt v H'
  | .exc x s' => ∀ cls d σ' H' F', Sub F F' → SR K G T σ' H' F' s' → ERep K F' x cls d → W cls d σ' H'
  | .bad => False
def rS (K : PySem.W.Frag) (W : WX) (m : MS) : TS := fun E σ H => ∃ G T F s, SR K G T σ H F s ∧ PoS K W G T F E (m s)
section
variable {K : PySem.W.Frag} {W : WX} {G : Gd} {T : Tm} {F F' H H' : Hp} {σ : L2.St} {s : S}
theorem PoE.sub {Q : VK} (h : Sub F F') : ∀ {r : Res Vl}, PoE K W G T F σ Q r → PoE K W G T F' σ Q r
  | .ok _ _, p => fun x H1 F1 e => p x H1 F1 (h.trans e)
  | .exc _ _, p => fun x d H1 F1 e => p x d H1 F1 (h.trans e)
  | .bad, p => p
theorem PoA.sub {Q : List V → Hp → Prop} (h : Sub F F') : ∀ {r : Res (List Vl)}, PoA K W G T F σ Q r → PoA K W G T F' σ Q r
  | .ok _ _, p => fun x H1 F1 e => p x H1 F1 (h.trans e)
  | .exc _ _, p => fun x d H1 F1 e => p x d H1 F1 (h.trans e)
  | .bad, p => p
theorem PoT.sub {Q : Bool → Hp → Prop} (h : Sub F F') : ∀ {r : Res Bool}, PoT K W G T F σ Q r → PoT K W G T F' σ Q r
  | .ok _ _, p => fun H1 F1 e => p H1 F1 (h.trans e)
  | .exc _ _, p => fun x d H1 F1 e => p x d H1 F1 (h.trans e)
  | .bad, p => p
theorem PoS.sub {E : Ends} (h : Sub F F') : ∀ {r : RS}, PoS K W G T F E r → PoS K W G T F' E r
  | .nx _, p => fun x H1 F1 e => p x H1 F1 (h.trans e)
  | .bk _, p => fun x H1 F1 e => p x H1 F1 (h.trans e)
  | .ct _, p => fun x H1 F1 e => p x H1 F1 (h.trans e)
  | .rt _ _, p => fun v x H1 F1 e => p v x H1 F1 (h.trans e)
  | .exc _ _, p => fun x d s1 H1 F1 e => p x d s1 H1 F1 (h.trans e)
  | .bad, p => p
theorem SR.fresh (R : SR K G T σ H F s) {p : Addr} (h : H p = none) : G.h p = none ∧ F p = none ∧ p ∉ G.io := by
  have nio : p ∉ G.io := fun z => R.ioK p z h
  refine ⟨?_, ?_, nio⟩
  · cases q : G.h p with
    | none => rfl
    | some o =>
      have := R.fr p o q nio
      rw [h] at this; cases this
  · cases q : F p with
    | none => rfl
    | some o =>
      exact absurd h (R.sub.ne q)
theorem New.keep {G H H' : Hp} {a : Addr} (h : New G H a) (k : ∀ o, H' a = some o → H a = some o) : New G H' a := ⟨h.1, fun C dx fs e => h.2 C dx fs (k _ e)⟩
theorem same_back (hH : Same H H') {a : Addr} {o : HO} (h : H a = some o) : ∀ o', H' a = some o' → H a = some o' := fun o' e => by
  rw [hH a o h] at e
  cases e
  exact h
theorem SR.grow (R : SR K G T σ H F s) (hH : Same H H') (hF : Sub F F') (hs : SubH F' H') (hn : ∀ a o, F' a = some o → F a = some o ∨ H a = none) : SR K G T σ H' F' s := by
  have keepN : ∀ a, H a ≠ none → F a = none → F' a = none := fun a ha hf => by
    cases q : F' a with
    | none => rfl
    | some o =>
      rcases hn a o q with z | z
      · rw [hf] at z; cases z
      · exact absurd z ha
  refine ⟨hs, R.len, fun i d e => ?_, fun i b d e => ?_, R.dj, fun p hp => ?_, R.tn, R.td, fun a o e h1 => hH a o (R.fr a o e h1), R.ioH, fun a h z => ?_, fun a h => ?_, R.old.trans hF, R.oldH, fun a o e => ?_⟩
  · obtain ⟨v, h1, h2⟩ := R.fz i d e
    exact ⟨v, h1, h2.mono hF⟩
  · obtain ⟨a, h1, h2, h3, h4⟩ := R.ow i b d e
    obtain ⟨o, ho⟩ := h2.ex
    refine ⟨a, h1, h2.keep hF (fun c u hc e => hH c u e) (fun c hc hc2 => keepN c (by rw [hc]; exact fun z => nomatch z) hc2), keepN a (by rw [ho]; exact fun z => nomatch z) h3, ?_⟩
    cases b with
    | true => exact New.keep (show New G.h H a from h4) (same_back hH ho)
    | false => exact h4
  · obtain ⟨h2, h3, h4⟩ := R.tm p hp
    obtain ⟨o, ho⟩ := h2.ex
    exact ⟨h2.keep hF (fun c u hc e => hH c u e) (fun c hc hc2 => keepN c (by rw [hc]; exact fun z => nomatch z) hc2), keepN p.1 (by rw [ho]; exact fun z => nomatch z) h3, h4.keep (same_back hH ho)⟩
  · cases q : H a with
    | none => exact R.ioK a h q
    | some o => rw [hH a o q] at z; cases z
  · cases q : H a with
    | none => exact absurd q (R.ioK a h)
    | some o => exact fun C dx fs e => R.ioD a h C dx fs (same_back hH q _ e)
  · rcases hn a o e with z | z
    · exact R.nw a o z
    · exact .inr (R.fresh z).1
end
end Dl
namespace Dl
open PySem PySem.Spec PyProof.Rows L2 He Lp
section
variable {K : PySem.W.Frag} {W : WX} {G : Gd} {T : Tm} {F F' H H' : Hp} {σ : L2.St} {s s' : S}
theorem get_set {α : Type} {l : List α} {i j : Nat} {x y : α} (h : (l.set j x)[i]? = some y) : (i = j ∧ y = x ∧ j < l.length) ∨ (i ≠ j ∧ l[i]? = some y) := by
  by_cases e : i = j
  · subst e
    by_cases hl : i < l.length
    · rw [List.getElem?_set_self hl] at h; cases h; exact .inl ⟨rfl, rfl, hl⟩
    · rw [List.getElem?_eq_none (by simpa using hl)] at h; cases h
  · rw [List.getElem?_set_ne (Ne.symm e)] at h
    exact .inr ⟨e, h⟩
theorem SR.step (R : SR K G T σ H F s) {A : List Addr} (hH : Kp A H H') (hF : Sub F F') (hs : SubH F' H') (hn : ∀ a o, F' a = some o → F a = some o ∨ H a = none) (hl : s'.length = s.length)
    (hd : ∀ a ∈ A, Sdx H H' a) (hA : ∀ a ∈ A, ∃ (i : Nat) (b : Bool) (d : D), s[i]? = some (Sl.ow b d) ∧ σ[i]? = some (some (V.ref a)))
    (hi : ∀ i : Nat, (s'[i]? = s[i]? ∧ ∀ (b : Bool) (d : D) (a : Addr), s[i]? = some (Sl.ow b d) → σ[i]? = some (some (V.ref a)) → a ∉ A) ∨
      ∃ (b : Bool) (d d' : D) (a : Addr), s[i]? = some (Sl.ow b d) ∧ s'[i]? = some (Sl.ow b d') ∧ σ[i]? = some (some (V.ref a)) ∧ Ct K F' H' a d') : SR K G T σ H' F' s' := by
  have ctA : ∀ a ∈ A, ∃ (i : Nat) (b : Bool) (d : D), s[i]? = some (Sl.ow b d) ∧ σ[i]? = some (some (V.ref a)) ∧ Ct K F H a d ∧ F a = none ∧ (if b = true then New G.h H a else a ∈ G.io ∧ G.ix i = some a) := fun a ha => by
    obtain ⟨i, b, d, e1, e2⟩ := hA a ha
    obtain ⟨a', e3, c, n, g⟩ := R.ow i b d e1
    rw [e2] at e3; cases e3
    exact ⟨i, b, d, e1, e2, c, n, g⟩
  have keepN : ∀ a, H a ≠ none → F a = none → F' a = none := fun a ha hf => by
    cases q : F' a with
    | none => rfl
    | some o =>
      rcases hn a o q with z | z
      · rw [hf] at z; cases z
      · exact absurd z ha
  have ctN : ∀ {a : Addr} {d : D}, Ct K F H a d → F a = none → F' a = none := fun {a d} c n => by
    obtain ⟨o, ho⟩ := c.ex
    exact keepN a (by rw [ho]; exact fun z => nomatch z) n
  have ctK : ∀ {a : Addr} {d : D}, Ct K F H a d → a ∉ A → Ct K F' H' a d := fun {a d} c n => by
    refine c.keep hF (fun x u hx e => hH x u ?_ e) (fun x hx hx2 => keepN x (by rw [hx]; exact fun z => nomatch z) hx2)
    rcases hx with rfl | hx
    · exact n
    · intro z
      obtain ⟨_, _, _, _, _, c', _⟩ := ctA x z
      exact c'.noown hx
  have nwK : ∀ {a : Addr} {d : D}, Ct K F H a d → a ∉ A → New G.h H a → New G.h H' a := fun {a d} c n w => by
    obtain ⟨o, ho⟩ := c.ex
    exact w.keep fun o' e => by rw [hH a o n ho] at e; cases e; exact ho
  have ow' : ∀ (i : Nat) (b : Bool) (d : D), s'[i]? = some (Sl.ow b d) → ∃ e, s[i]? = some (Sl.ow b e) := fun i b d e => by
    rcases hi i with ⟨h1, _⟩ | ⟨b', d1, d2, a, h1, h2, _⟩
    · rw [h1] at e; exact ⟨d, e⟩
    · rw [h2] at e; cases e; exact ⟨d1, h1⟩
  refine ⟨hs, hl.trans R.len, fun i d e => ?_, fun i b d e => ?_, fun i j b c d e a h1 h2 h3 h4 => ?_, fun p hp => ?_, R.tn, fun p hp i b d e => ?_, fun a o e h1 => ?_, R.ioH, fun a h z => ?_, fun a h C dx fs e => ?_, R.old.trans hF, R.oldH, fun a o e => ?_⟩
  · rcases hi i with ⟨h1, _⟩ | ⟨b', d1, d2, a, h1, h2, _⟩
    · rw [h1] at e
      obtain ⟨v, h1, h2⟩ := R.fz i d e
      exact ⟨v, h1, h2.mono hF⟩
    · rw [h2] at e; cases e
  · rcases hi i with ⟨h1, hna⟩ | ⟨b', d1, d2, a, h1, h2, h3, h4⟩
    · rw [h1] at e
      obtain ⟨a, h1, h2, h3, h4⟩ := R.ow i b d e
      refine ⟨a, h1, ctK h2 (hna b d a e h1), ctN h2 h3, ?_⟩
      cases b with
      | true => exact nwK h2 (hna _ d a e h1) (show New G.h H a from h4)
      | false => exact h4
    · rw [h2] at e; cases e
      obtain ⟨a', q1, q2, q3, q4⟩ := R.ow i b d1 h1
      rw [h3] at q1; cases q1
      refine ⟨a, h3, h4, ctN q2 q3, ?_⟩
      cases b with
      | true =>
        have w : New G.h H a := q4
        by_cases ha : a ∈ A
        · refine ⟨w.1, fun C dx fs e => ?_⟩
          obtain ⟨C', fs', e'⟩ := hd a ha C dx fs e
          exact w.2 C' dx fs' e'
        · exact nwK q2 ha w
      | false => exact q4
  · obtain ⟨d', e1⟩ := ow' i b d h1
    obtain ⟨e', e2⟩ := ow' j c e h2
    exact R.dj i j b c d' e' a e1 e2 h3 h4
  · obtain ⟨h2, h3, h4⟩ := R.tm p hp
    have nA : p.1 ∉ A := fun z => by
      obtain ⟨i, b, d, e1, e2, _⟩ := ctA p.1 z
      exact R.td p hp i b d e1 e2
    exact ⟨ctK h2 nA, ctN h2 h3, nwK h2 nA h4⟩
  · obtain ⟨d', e1⟩ := ow' i b d e
    exact R.td p hp i b d' e1
  · refine hH a o (fun z => ?_) (R.fr a o e h1)
    obtain ⟨i, b, d, _, _, _, _, g⟩ := ctA a z
    cases b with
    | true =>
      have w : New G.h H a := g
      have w1 := w.1
      rw [e] at w1; cases w1
    | false => rw [if_neg (by decide)] at g; exact h1 g.1
  · by_cases ha : a ∈ A
    · obtain ⟨i, b, d, e1, e2, _⟩ := ctA a ha
      rcases hi i with ⟨_, hna⟩ | ⟨b', d1, d2, a', _, _, h3, h4⟩
      · exact hna b d a e1 e2 ha
      · rw [e2] at h3; cases h3
        obtain ⟨o, ho⟩ := h4.ex
        rw [ho] at z; cases z
    · cases q : H a with
      | none => exact R.ioK a h q
      | some o => rw [hH a o ha q] at z; cases z
  · by_cases ha : a ∈ A
    · obtain ⟨C', fs', e'⟩ := hd a ha C dx fs e
      exact R.ioD a h C' dx fs' e'
    · cases q : H a with
      | none => exact absurd q (R.ioK a h)
      | some o =>
        rw [hH a o ha q] at e
        cases e
        exact R.ioD a h C dx fs q
  · rcases hn a o e with z | z
    · exact R.nw a o z
    · exact .inr (R.fresh z).1
theorem SR.mut (R : SR K G T σ H F s) {i : Nat} {b : Bool} {d d' : D} {a : Addr} (e : s[i]? = some (Sl.ow b d)) (ea : σ[i]? = some (some (V.ref a))) (hH : Kp [a] H H') (hd : Sdx H H' a) (c : Ct K F H' a d') : SR K G T σ H' F (s.set i (.ow b d')) := by
  obtain ⟨a', e3, cc, n, g⟩ := R.ow i b d e
  rw [ea] at e3; cases e3
  have hil : i < s.length := (List.getElem?_eq_some_iff.mp e).1
  refine R.step hH (Sub.refl F) (fun x o q => hH x o (fun z => ?_) (R.sub x o q)) (fun x o q => .inl q) (by simp) (fun x hx => by rw [List.mem_singleton.mp hx]; exact hd) (fun x hx => ⟨i, b, d, e, by rw [List.mem_singleton.mp hx]; exact ea⟩) fun j => ?_
  · rw [List.mem_singleton.mp z, n] at q; cases q
  · by_cases hj : j = i
    · subst hj
      exact .inr ⟨b, d, d', a, e, by simp [hil], ea, c⟩
    · refine .inl ⟨by rw [List.getElem?_set_ne (Ne.symm hj)], fun b' d2 x h1 h2 hx => ?_⟩
      rw [List.mem_singleton.mp hx] at h2
      exact hj (R.dj j i b' b d2 d a h1 e h2 ea)
theorem SR.setFz (R : SR K G T σ H F s) {j : Nat} {x : V} {d : D} (r : Rep K F x d) : SR K G T (σ.set j (some x)) H F (s.set j (.fz d)) := by
  have ows : ∀ (i : Nat) (b : Bool) (e : D), (s.set j (.fz d))[i]? = some (Sl.ow b e) → i ≠ j ∧ s[i]? = some (Sl.ow b e) := fun i b e h => by
    rcases get_set h with ⟨_, q, _⟩ | q
    · cases q
    · exact q
  refine ⟨R.sub, by simp [R.len], fun i e h => ?_, fun i b e h => ?_, fun i k b c e f a h1 h2 h3 h4 => ?_, R.tm, R.tn, fun p hp i b e h => ?_, R.fr, R.ioH, R.ioK, R.ioD, R.old, R.oldH, R.nw⟩
  · rcases get_set h with ⟨rfl, q, hl⟩ | ⟨ne, q⟩
    · cases q
      exact ⟨x, by rw [R.len] at hl; simp [hl], r⟩
    · obtain ⟨v, h1, h2⟩ := R.fz i e q
      exact ⟨v, by rw [List.getElem?_set_ne (Ne.symm ne)]; exact h1, h2⟩
  · obtain ⟨ne, q⟩ := ows i b e h
    obtain ⟨a, h1, h2⟩ := R.ow i b e q
    exact ⟨a, by rw [List.getElem?_set_ne (Ne.symm ne)]; exact h1, h2⟩
  · obtain ⟨n1, q1⟩ := ows i b e h1
    obtain ⟨n2, q2⟩ := ows k c f h2
    rw [List.getElem?_set_ne (Ne.symm n1)] at h3
    rw [List.getElem?_set_ne (Ne.symm n2)] at h4
    exact R.dj i k b c e f a q1 q2 h3 h4
  · obtain ⟨n1, q1⟩ := ows i b e h
    rw [List.getElem?_set_ne (Ne.symm n1)]
    exact R.td p hp i b e q1
theorem SR.forget (R : SR K G T σ H F s) (j : Nat) (x : Option V) : SR K G T (σ.set j x) H F (s.set j .no) := by
  have ows : ∀ (i : Nat) (b : Bool) (e : D), (s.set j .no)[i]? = some (Sl.ow b e) → i ≠ j ∧ s[i]? = some (Sl.ow b e) := fun i b e h => by
    rcases get_set h with ⟨_, q, _⟩ | q
    · cases q
    · exact q
  refine ⟨R.sub, by simp [R.len], fun i e h => ?_, fun i b e h => ?_, fun i k b c e f a h1 h2 h3 h4 => ?_, R.tm, R.tn, fun p hp i b e h => ?_, R.fr, R.ioH, R.ioK, R.ioD, R.old, R.oldH, R.nw⟩
  · rcases get_set h with ⟨rfl, q, hl⟩ | ⟨ne, q⟩
    · cases q
    · obtain ⟨v, h1, h2⟩ := R.fz i e q
      exact ⟨v, by rw [List.getElem?_set_ne (Ne.symm ne)]; exact h1, h2⟩
  · obtain ⟨ne, q⟩ := ows i b e h
    obtain ⟨a, h1, h2⟩ := R.ow i b e q
    exact ⟨a, by rw [List.getElem?_set_ne (Ne.symm ne)]; exact h1, h2⟩
  · obtain ⟨n1, q1⟩ := ows i b e h1
    obtain ⟨n2, q2⟩ := ows k c f h2
    rw [List.getElem?_set_ne (Ne.symm n1)] at h3
    rw [List.getElem?_set_ne (Ne.symm n2)] at h4
    exact R.dj i k b c e f a q1 q2 h3 h4
  · obtain ⟨n1, q1⟩ := ows i b e h
    rw [List.getElem?_set_ne (Ne.symm n1)]
    exact R.td p hp i b e q1
theorem SR.setOw {p : Addr} {d : D} (R : SR K G ((p, d) :: T) σ H F s) (j : Nat) : SR K G T (σ.set j (some (.ref p))) H F (s.set j (.ow true d)) := by
  obtain ⟨c0, n0, g0⟩ := R.tm (p, d) (List.mem_cons_self ..)
  have td0 := R.td (p, d) (List.mem_cons_self ..)
  have tn := List.nodup_cons.mp R.tn
  refine ⟨R.sub, by simp [R.len], fun i e h => ?_, fun i b e h => ?_, fun i k b c e f a h1 h2 h3 h4 => ?_, fun q hq => R.tm q (List.mem_cons_of_mem _ hq), tn.2, fun q hq i b e h => ?_, R.fr, R.ioH, R.ioK, R.ioD, R.old, R.oldH, R.nw⟩
  · rcases get_set h with ⟨rfl, q, hl⟩ | ⟨ne, q⟩
    · cases q
    · obtain ⟨v, h1, h2⟩ := R.fz i e q
      exact ⟨v, by rw [List.getElem?_set_ne (Ne.symm ne)]; exact h1, h2⟩
  · rcases get_set h with ⟨rfl, q, hl⟩ | ⟨ne, q⟩
    · cases q
      exact ⟨p, by rw [R.len] at hl; simp [hl], c0, n0, by rw [if_pos rfl]; exact g0⟩
    · obtain ⟨a, h1, h2⟩ := R.ow i b e q
      exact ⟨a, by rw [List.getElem?_set_ne (Ne.symm ne)]; exact h1, h2⟩
  · rcases get_set h1 with ⟨rfl, _, hl⟩ | ⟨n1, q1⟩
    · rcases get_set h2 with ⟨rfl, _, _⟩ | ⟨n2, q2⟩
      · rfl
      · rw [R.len] at hl
        rw [List.getElem?_set_self hl] at h3
        rw [List.getElem?_set_ne (Ne.symm n2)] at h4
        cases h3
        exact absurd h4 (td0 k c f q2)
    · rcases get_set h2 with ⟨rfl, _, hl⟩ | ⟨n2, q2⟩
      · rw [R.len] at hl
        rw [List.getElem?_set_self hl] at h4
        rw [List.getElem?_set_ne (Ne.symm n1)] at h3
        cases h4
        exact absurd h3 (td0 i b e q1)
      · rw [List.getElem?_set_ne (Ne.symm n1)] at h3
        rw [List.getElem?_set_ne (Ne.symm n2)] at h4
        exact R.dj i k b c e f a q1 q2 h3 h4
  · rcases get_set h with ⟨rfl, _, hl⟩ | ⟨n1, q1⟩
    · rw [R.len] at hl
      rw [List.getElem?_set_self hl]
      intro z
      injection z with z
      injection z with z
      injection z with z
      have e : q.1 ∈ List.map (fun x => x.1) T := List.mem_map_of_mem hq
      rw [← z] at e
      exact tn.1 e
    · rw [List.getElem?_set_ne (Ne.symm n1)]
      exact R.td q (List.mem_cons_of_mem _ hq) i b e q1
theorem SR.push (R : SR K G T σ H F s) {p : Addr} {d : D} (hp : H p = none) (hH : Same H H') (hF : Sub F F') (hs : SubH F' H') (hn : ∀ a o, F' a = some o → F a = some o ∨ H a = none) (hp' : F' p = none) (c : Ct K F' H' p d) (hdx : ∀ C dx fs, H' p = some (.ins C dx fs) → H dx = none) : SR K G ((p, d) :: T) σ H' F' s := by
  have R' := R.grow hH hF hs hn
  refine ⟨R'.sub, R'.len, R'.fz, R'.ow, R'.dj, fun q hq => ?_, List.nodup_cons.mpr ⟨fun z => ?_, R'.tn⟩, fun q hq i b e h z => ?_, R'.fr, R'.ioH, R'.ioK, R'.ioD, R'.old, R'.oldH, R'.nw⟩
  · rcases List.mem_cons.mp hq with rfl | hq
    · exact ⟨c, hp', (R.fresh hp).1, fun C dx fs e => (R.fresh (hdx C dx fs e)).1⟩
    · exact R'.tm q hq
  · obtain ⟨q, hq, e⟩ := List.mem_map.mp z
    obtain ⟨o, ho⟩ := (R.tm q hq).1.ex
    have e : q.1 = p := e
    rw [e, hp] at ho; cases ho
  · rcases List.mem_cons.mp hq with rfl | hq
    · obtain ⟨a, h1, h2, _⟩ := R.ow i b e h
      rw [z] at h1; cases h1
      obtain ⟨o, ho⟩ := h2.ex
      have ho : H p = some o := ho
      rw [hp] at ho; cases ho
    · exact R'.td q hq i b e h z
theorem SR.frzT {p : Addr} {d : D} (R : SR K G ((p, d) :: T) σ H F s) (nd : ∀ k, d ≠ .dct k) : ∃ F', Sub F F' ∧ SR K G T σ H F' s ∧ Rep K F' (.ref p) d := by
  obtain ⟨c0, n0, g0⟩ := R.tm (p, d) (List.mem_cons_self ..)
  have td0 := R.td (p, d) (List.mem_cons_self ..)
  have tn := List.nodup_cons.mp R.tn
  obtain ⟨F', h1, h2, h3, h4⟩ := c0.freeze R.sub n0 nd
  have other : ∀ {a : Addr} {e : D}, Ct K F H a e → F a = none → a ≠ p → F' a = none ∧ Ct K F' H a e := fun {a e} c n ne => by
    refine ⟨?_, c.keep h1 (fun _ _ _ q => q) fun b hb hn => ?_⟩
    · rcases h4 a n with (z | ⟨z, _⟩) | z
      · exact absurd z ne
      · exact absurd z c.noown
      · exact z
    · rcases h4 b hn with (z | ⟨z, _⟩) | z
      · rw [z] at hb; exact absurd hb c0.noown
      · rw [hb] at z; cases z; exact absurd rfl ne
      · exact z
  refine ⟨F', h1, ⟨h2, R.len, fun i e h => ?_, fun i b e h => ?_, R.dj, fun q hq => ?_, tn.2, fun q hq => R.td q (List.mem_cons_of_mem _ hq), R.fr, R.ioH, R.ioK, R.ioD, R.old.trans h1, R.oldH, fun a o e => ?_⟩, h3⟩
  · obtain ⟨v, e1, e2⟩ := R.fz i e h
    exact ⟨v, e1, e2.mono h1⟩
  · obtain ⟨a, e1, e2, e3, e4⟩ := R.ow i b e h
    have ne : a ≠ p := fun z => by rw [z] at e1; exact td0 i b e h e1
    obtain ⟨q1, q2⟩ := other e2 e3 ne
    exact ⟨a, e1, q2, q1, e4⟩
  · obtain ⟨e2, e3, e4⟩ := R.tm q (List.mem_cons_of_mem _ hq)
    have ne : q.1 ≠ p := fun z => tn.1 (List.mem_map.mpr ⟨q, hq, z⟩)
    obtain ⟨q1, q2⟩ := other e2 e3 ne
    exact ⟨q2, q1, e4⟩
  · cases q : F a with
    | some u =>
      rw [h1 a u q] at e
      cases e
      exact R.nw a o q
    | none =>
      rcases h4 a q with (z | ⟨_, C, fs, z⟩) | z
      · rw [z]; exact .inr g0.1
      · exact .inr (g0.2 C a fs z)
      · rw [e] at z; cases z
theorem SR.lockT {p : Addr} {kds : List (Key × D)} {kvs : List (Key × V)} {o : Obj} (R : SR K G ((p, .dct kds) :: T) σ H F s) (eH : H p = some (.dK kvs)) :
    SR K G T σ (upd H p (.frz o (.dK kvs))) (upd F p (.frz o (.dK kvs))) s ∧ Sub F (upd F p (.frz o (.dK kvs))) ∧ Rep K (upd F p (.frz o (.dK kvs))) (.ref p) (.dct kds) := by
  obtain ⟨⟨kvs', e0, r0⟩, n0, g0⟩ := R.tm _ (List.mem_cons_self ..)
  have e0 : H p = some (.dK kvs') := e0
  have n0 : F p = none := n0
  have g0 : New G.h H p := g0
  rw [eH] at e0
  cases e0
  have td0 := R.td (p, .dct kds) (List.mem_cons_self ..)
  have tn := List.nodup_cons.mp R.tn
  have hF : Sub F (upd F p (.frz o (.dK kvs))) := fun a u e => by rw [upd_ne (ne_of_none e n0)]; exact e
  have hFn : ∀ {a : Addr}, a ≠ p → F a = none → upd F p (.frz o (.dK kvs)) a = none := fun {a} h n => by rw [upd_ne h]; exact n
  have pn : ∀ b, H p ≠ some (.own b) := fun b z => by rw [eH] at z; cases z
  have ct : ∀ {a : Addr} {d : D}, Ct K F H a d → F a = none → a ≠ p → Ct K (upd F p (.frz o (.dK kvs))) (upd H p (.frz o (.dK kvs))) a d := fun {a d} c n h => c.keep hF (fun x u hx e => by
    rw [upd_ne (fun z => ?_)]; exact e
    rw [z] at hx
    rcases hx with hx | hx
    · exact h hx.symm
    · exact pn _ hx) fun b hb hn => hFn (fun z => by rw [z] at hb; exact pn _ hb) hn
  have nw : ∀ {b : Addr}, b ≠ p → New G.h H b → New G.h (upd H p (.frz o (.dK kvs))) b := fun {b} n w => ⟨w.1, fun C dx fs e => w.2 C dx fs (by rw [upd_ne n] at e; exact e)⟩
  refine ⟨⟨fun b u e => ?_, R.len, fun i e h => ?_, fun i b e h => ?_, R.dj, fun q hq => ?_, tn.2, fun q hq => R.td q (List.mem_cons_of_mem _ hq), fun a u e h1 => ?_, R.ioH, fun a h => ?_, fun a h C dx fs e => ?_, R.old.trans hF, R.oldH, fun a u e => ?_⟩, hF, .dct upd_same (r0.mono hF)⟩
  · by_cases z : b = p
    · rw [z, upd_same] at e ⊢; exact e
    · rw [upd_ne z] at e ⊢; exact R.sub b u e
  · obtain ⟨v, e1, e2⟩ := R.fz i e h
    exact ⟨v, e1, e2.mono hF⟩
  · obtain ⟨a, e1, e2, e3, e4⟩ := R.ow i b e h
    have ne : a ≠ p := fun z => by rw [z] at e1; exact td0 i b e h e1
    refine ⟨a, e1, ct e2 e3 ne, hFn ne e3, ?_⟩
    cases b with
    | true => exact nw ne (show New G.h H a from e4)
    | false => exact e4
  · obtain ⟨e2, e3, e4⟩ := R.tm q (List.mem_cons_of_mem _ hq)
    have ne : q.1 ≠ p := fun z => tn.1 (List.mem_map.mpr ⟨q, hq, z⟩)
    exact ⟨ct e2 e3 ne, hFn ne e3, nw ne e4⟩
  · rw [upd_ne (fun z => ?_)]
    · exact R.fr a u e h1
    · rw [z] at e; rw [g0.1] at e; cases e
  · by_cases z : a = p
    · rw [z, upd_same]; exact fun q => nomatch q
    · rw [upd_ne z]; exact R.ioK a h
  · by_cases z : a = p
    · rw [z, upd_same] at e; cases e
    · rw [upd_ne z] at e; exact R.ioD a h C dx fs e
  · by_cases z : a = p
    · rw [z]; exact .inr g0.1
    · rw [upd_ne z] at e; exact R.nw a u e
theorem SR.leave (R : SR K G T σ H F s) {i : Nat} {d : D} {p : Addr} (e : s[i]? = some (Sl.ow true d)) (ex : σ[i]? = some (some (V.ref p))) : SR K G ((p, d) :: T) σ H F (s.set i .no) := by
  obtain ⟨a, e1, c0, n0, g0⟩ := R.ow i true d e
  rw [ex] at e1; cases e1
  have ows : ∀ (j : Nat) (b : Bool) (u : D), (s.set i .no)[j]? = some (Sl.ow b u) → j ≠ i ∧ s[j]? = some (Sl.ow b u) := fun j b u h => by
    rcases get_set h with ⟨_, q, _⟩ | q
    · cases q
    · exact q
  refine ⟨R.sub, by simp [R.len], fun j u h => ?_, fun j b u h => R.ow j b u (ows j b u h).2, fun j k b c u f a q1 q2 q3 q4 => R.dj j k b c u f a (ows j b u q1).2 (ows k c f q2).2 q3 q4, fun q hq => ?_, List.nodup_cons.mpr ⟨fun z => ?_, R.tn⟩, fun q hq j b u h => ?_, R.fr, R.ioH, R.ioK, R.ioD, R.old, R.oldH, R.nw⟩
  · rcases get_set h with ⟨_, q, _⟩ | ⟨_, q⟩
    · cases q
    · exact R.fz j u q
  · rcases List.mem_cons.mp hq with rfl | hq
    · exact ⟨c0, n0, g0⟩
    · exact R.tm q hq
  · obtain ⟨q, hq, z⟩ := List.mem_map.mp z
    have z : q.1 = p := z
    have := R.td q hq i true d e
    rw [z] at this
    exact this ex
  · obtain ⟨ne, h⟩ := ows j b u h
    rcases List.mem_cons.mp hq with rfl | hq
    · intro z
      exact ne (R.dj j i b true u d p h e z ex)
    · exact R.td q hq j b u h
theorem SR.tmut {p : Addr} {d d' : D} (R : SR K G ((p, d) :: T) σ H F s) (hH : Kp [p] H H') (hd : Sdx H H' p) (c : Ct K F H' p d') : SR K G ((p, d') :: T) σ H' F s := by
  obtain ⟨c0, n0, g0⟩ := R.tm _ (List.mem_cons_self ..)
  have td0 := R.td (p, d) (List.mem_cons_self ..)
  have tn := List.nodup_cons.mp R.tn
  have hH' : ∀ a o, a ≠ p → H a = some o → H' a = some o := fun a o n e => hH a o (fun z => n (List.mem_singleton.mp z)) e
  have ct : ∀ {a : Addr} {e : D}, Ct K F H a e → a ≠ p → Ct K F H' a e := fun {a e} c n => c.keep (Sub.refl F) (fun x u hx q => hH' x u (fun z => by
    rw [z] at hx
    rcases hx with hx | hx
    · exact n hx.symm
    · exact c0.noown hx) q) fun _ _ h => h
  have nw : ∀ {a : Addr} {e : D}, Ct K F H a e → a ≠ p → New G.h H a → New G.h H' a := fun {a e} c n w => by
    obtain ⟨o, ho⟩ := c.ex
    exact w.keep fun o' e => by rw [hH' a o n ho] at e; cases e; exact ho
  refine ⟨fun a o e => hH' a o (fun z => ?_) (R.sub a o e), R.len, R.fz, fun i b e h => ?_, R.dj, fun q hq => ?_, R.tn, fun q hq => ?_, fun a o e h1 => hH' a o (fun z => ?_) (R.fr a o e h1), R.ioH, fun a h z => ?_, fun a h C dx fs e => ?_, R.old, R.oldH, R.nw⟩
  · rw [z] at e; have n0 : F p = none := n0; rw [n0] at e; cases e
  · obtain ⟨a, e1, e2, e3, e4⟩ := R.ow i b e h
    have ne : a ≠ p := fun z => by rw [z] at e1; exact td0 i b e h e1
    refine ⟨a, e1, ct e2 ne, e3, ?_⟩
    cases b with
    | true => exact nw e2 ne (show New G.h H a from e4)
    | false => exact e4
  · rcases List.mem_cons.mp hq with rfl | hq
    · refine ⟨c, n0, (show New G.h H p from g0).1, fun C dx fs e => ?_⟩
      obtain ⟨C', fs', e'⟩ := hd C dx fs e
      exact (show New G.h H p from g0).2 C' dx fs' e'
    · obtain ⟨e2, e3, e4⟩ := R.tm q (List.mem_cons_of_mem _ hq)
      have ne : q.1 ≠ p := fun z => tn.1 (List.mem_map.mpr ⟨q, hq, z⟩)
      exact ⟨ct e2 ne, e3, nw e2 ne e4⟩
  · rcases List.mem_cons.mp hq with rfl | hq
    · exact td0
    · exact R.td q (List.mem_cons_of_mem _ hq)
  · rw [z] at e; rw [(show New G.h H p from g0).1] at e; cases e
  · have ne : a ≠ p := fun z => by
      have h' := R.ioH a h
      rw [z, (show New G.h H p from g0).1] at h'
      exact h' rfl
    cases q : H a with
    | none => exact R.ioK a h q
    | some o => rw [hH' a o ne q] at z; cases z
  · have ne : a ≠ p := fun z => by
      have h' := R.ioH a h
      rw [z, (show New G.h H p from g0).1] at h'
      exact h' rfl
    cases q : H a with
    | none => exact absurd q (R.ioK a h)
    | some o => rw [hH' a o ne q] at e; cases e; exact R.ioD a h C dx fs q
end
end Dl
namespace Dl
open PySem PySem.Spec PyProof.Rows L2 He Lp
def lkS : Option Sl → S → Res D
  | some (.ow _ (.tup _)), _ => .bad
  | some (.ow _ d), s => .ok d s
  | _, _ => .bad
def look : Vl → M D
  | .d d => ret d
  | .sl i => fun s => lkS s[i]? s
def fzS (i : Nat) : Option Sl → S → Res D
  | some (.ow true d), s => .ok d (s.set i (.fz d))
  | _, _ => .bad
def frz : Vl → M D
  | .d d => ret d
  | .sl i => fun s => fzS i s[i]? s
def vrS (i : Nat) : Option Sl → S → Res Vl
  | some (.fz d), s => .ok (.d d) s
  | some (.ow _ _), s => .ok (.sl i) s
  | _, _ => .bad
def mVar (i : Nat) : M Vl := fun s => vrS i s[i]? s
def View (K : PySem.W.Frag) (F H : Hp) (x : V) (d : D) : Prop := Rep K F x d ∨ ∃ a, x = .ref a ∧ Ct K F H a d ∧ ∀ ts, d ≠ .tup ts
section
variable {K : PySem.W.Frag} {W : WX} {G : Gd} {T : Tm} {F F' H H' : Hp} {σ : L2.St} {s s' : S} {x y v : V}
theorem VR.mono (h : Sub F F') : ∀ {vl : Vl}, VR K F σ x vl → VR K F' σ x vl
  | .d _, r => Rep.mono h r
  | .sl _, r => r
theorem look_view (R : SR K G T σ H F s) {vl : Vl} {d : D} (r : VR K F σ x vl) (e : look vl s = .ok d s') : s' = s ∧ View K F H x d := by
  cases vl with
  | d d0 => cases e; exact ⟨rfl, .inl r⟩
  | sl i =>
    change lkS s[i]? s = _ at e
    cases q : s[i]? with
    | none => rw [q] at e; cases e
    | some l =>
      rw [q] at e
      cases l with
      | no => cases e
      | fz _ => cases e
      | ow b d0 =>
        have hd : (∃ ts, d0 = .tup ts) ∨ (∀ ts, d0 ≠ .tup ts) ∧ lkS (some (.ow b d0)) s = .ok d0 s := by cases d0 <;> first | exact .inl ⟨_, rfl⟩ | exact .inr ⟨fun _ z => (nomatch z), rfl⟩
        rcases hd with ⟨ts, rfl⟩ | ⟨nt, e0⟩
        · cases e
        · rw [e0] at e
          cases e
          obtain ⟨a, e1, c, _⟩ := R.ow i b d q
          have e2 : σ[i]? = some (some x) := r
          rw [e2] at e1; cases e1
          exact ⟨rfl, .inr ⟨a, rfl, c, nt⟩⟩
theorem look_cases (vl : Vl) (s : S) : (∃ d, look vl s = .ok d s) ∨ look vl s = .bad := by
  cases vl with
  | d d0 => exact .inl ⟨d0, rfl⟩
  | sl i =>
    change (∃ d, lkS s[i]? s = _) ∨ lkS s[i]? s = _
    cases q : s[i]? with
    | none => exact .inr rfl
    | some l => cases l with
      | no => exact .inr rfl
      | fz _ => exact .inr rfl
      | ow b d0 => cases d0 <;> first | exact .inl ⟨_, rfl⟩ | exact .inr rfl
def Lk (Q : VK) (x : V) (H : Hp) : Prop := Q x H ∨ ∃ d kvs, x = .ref d ∧ H d = some (.dK kvs) ∧ ∀ o, Q x (upd H d (.frz o (.dK kvs)))
theorem SR.frz {p : Addr} {d : D} {Q : VK} (R : SR K G ((p, d) :: T) σ H F s) (k : ∀ H' F', Sub F F' → SR K G T σ H' F' s → Rep K F' (.ref p) d → Q (.ref p) H') : Lk Q (.ref p) H := by
  by_cases hd : ∃ kds, d = .dct kds
  · obtain ⟨kds, rfl⟩ := hd
    obtain ⟨⟨kvs, e0, r0⟩, n0, g0⟩ := R.tm _ (List.mem_cons_self ..)
    have e0 : H p = some (.dK kvs) := e0
    exact .inr ⟨p, kvs, rfl, e0, fun o => let ⟨a, b, c⟩ := R.lockT (o := o) e0; k _ _ b a c⟩
  · obtain ⟨F', a, b, c⟩ := R.frzT fun kds e => hd ⟨kds, e⟩
    exact .inl (k H F' a b c)
theorem set_get {α : Type} {l : List α} {i : Nat} {x : α} (h : l[i]? = some x) : l.set i x = l := by
  obtain ⟨hl, e⟩ := List.getElem?_eq_some_iff.mp h
  rw [← e]
  exact List.set_getElem_self hl
theorem frz_ok (R : SR K G T σ H F s) {vl : Vl} {d : D} {Q : VK} (r : VR K F σ x vl) (e : frz vl s = .ok d s') (k : ∀ H' F', Sub F F' → SR K G T σ H' F' s' → Rep K F' x d → Q x H') : Lk Q x H := by
  cases vl with
  | d d0 => cases e; exact .inl (k H F (Sub.refl F) R r)
  | sl i =>
    change fzS i s[i]? s = _ at e
    cases q : s[i]? with
    | none => rw [q] at e; cases e
    | some l =>
      rw [q] at e
      cases l with
      | no => cases e
      | fz _ => cases e
      | ow b d0 =>
        cases b with
        | false => cases e
        | true =>
          cases e
          have r : σ[i]? = some (some x) := r
          obtain ⟨p, e1, _⟩ := R.ow i true d q
          rw [r] at e1
          cases e1
          refine (R.leave q r).frz fun H' F' f R' rp => k H' F' f ?_ rp
          have := R'.setFz (j := i) rp
          rw [set_get r, List.set_set] at this
          exact this
theorem frz_cases (vl : Vl) (s : S) : (∃ d s', frz vl s = .ok d s') ∨ frz vl s = .bad := by
  cases vl with
  | d d0 => exact .inl ⟨d0, s, rfl⟩
  | sl i =>
    change (∃ d s', fzS i s[i]? s = _) ∨ fzS i s[i]? s = _
    cases q : s[i]? with
    | none => exact .inr rfl
    | some l => cases l with
      | no => exact .inr rfl
      | fz _ => exact .inr rfl
      | ow b d0 => cases b with
        | false => exact .inr rfl
        | true => exact .inl ⟨_, _, rfl⟩
def Nr (K : PySem.W.Frag) (F H H' : Hp) (v : V) (d : D) : Prop := ∃ F1, Sub F F1 ∧ SubH F1 H' ∧ (∀ a o, F1 a = some o → F a = some o ∨ H a = none) ∧
  (Rep K F1 v d ∨ ∃ p, v = .ref p ∧ H p = none ∧ F1 p = none ∧ Ct K F1 H' p d ∧ (∀ k, d ≠ .dct k) ∧ ∀ C dx fs, H' p = some (.ins C dx fs) → H dx = none)
def Nc (K : PySem.W.Frag) (F H H' : Hp) (p : Addr) (d : D) : Prop := ∃ F1, Sub F F1 ∧ SubH F1 H' ∧ (∀ a o, F1 a = some o → F a = some o ∨ H a = none) ∧ H p = none ∧ F1 p = none ∧ Ct K F1 H' p d ∧ ∀ C dx fs, H' p = some (.ins C dx fs) → H dx = none
theorem Nc.nr {p : Addr} {d : D} (h : Nc K F H H' p d) (nd : ∀ k, d ≠ .dct k) : Nr K F H H' (.ref p) d := let ⟨F1, a, b, c, e, f, g, i⟩ := h; ⟨F1, a, b, c, .inr ⟨p, rfl, e, f, g, nd, i⟩⟩
theorem Nr.old {d : D} (hs : SubH F H) (r : Rep K F v d) : Nr K F H H v d := ⟨F, Sub.refl F, hs, fun _ _ e => .inl e, .inl r⟩
theorem Nc.lst {p : Addr} {vs : List V} {ds : List D} (hs : SubH F H) (hp : H p = none) (hH : Same H H') (e : H' p = some (.lst vs)) (r : Reps K F vs ds) : Nc K F H H' p (.lst ds) :=
  ⟨F, Sub.refl F, fun a o e => hH a o (hs a o e), fun _ _ e => .inl e, hp, (by cases q : F p with
    | none => rfl
    | some o => exact absurd hp (hs.ne q)), ⟨vs, e, r⟩, fun C dx fs z => by rw [e] at z; cases z⟩
theorem Nc.tup {p : Addr} {vs : List V} {ds : List D} (hs : SubH F H) (hp : H p = none) (hH : Same H H') (e : H' p = some (.tup vs)) (r : Reps K F vs ds) : Nc K F H H' p (.tup ds) :=
  ⟨F, Sub.refl F, fun a o e => hH a o (hs a o e), fun _ _ e => .inl e, hp, (by cases q : F p with
    | none => rfl
    | some o => exact absurd hp (hs.ne q)), ⟨vs, e, r⟩, fun C dx fs z => by rw [e] at z; cases z⟩
theorem Nc.dct {p : Addr} {vs : List (Key × V)} {ds : List (Key × D)} (hs : SubH F H) (hp : H p = none) (hH : Same H H') (e : H' p = some (.dK vs)) (r : RepK K F vs ds) : Nc K F H H' p (.dct ds) :=
  ⟨F, Sub.refl F, fun a o e => hH a o (hs a o e), fun _ _ e => .inl e, hp, (by cases q : F p with
    | none => rfl
    | some o => exact absurd hp (hs.ne q)), ⟨vs, e, r⟩, fun C dx fs z => by rw [e] at z; cases z⟩
theorem SR.nc (R : SR K G T σ H F s) (hH : Same H H') {p : Addr} {d : D} (h : Nc K F H H' p d) : ∃ F', Sub F F' ∧ SR K G ((p, d) :: T) σ H' F' s := by
  obtain ⟨F1, h1, h2, h3, h4, h5, h6, h7⟩ := h
  exact ⟨F1, h1, R.push h4 hH h1 h2 h3 h5 h6 h7⟩
theorem SR.nr (R : SR K G T σ H F s) (hH : Same H H') {d : D} (h : Nr K F H H' v d) : ∃ F', Sub F F' ∧ SR K G T σ H' F' s ∧ Rep K F' v d := by
  obtain ⟨F1, h1, h2, h3, r | ⟨p, rfl, h4, h5, h6, nd, h7⟩⟩ := h
  · exact ⟨F1, h1, R.grow hH h1 h2 h3, r⟩
  · obtain ⟨F2, k1, k2, k3⟩ := (R.push h4 hH h1 h2 h3 h5 h6 h7).frzT nd
    exact ⟨F2, h1.trans k1, k2, k3⟩
theorem Same.of_eq {H : Hp} : Same H H := fun _ _ e => e
end
def PoF (K : PySem.W.Frag) (W : WX) (G : Gd) (T : Tm) (F : Hp) (σ : L2.St) (Q : VK) : Res D → Prop
  | .ok d s' => ∀ p H' F', Sub F F' → SR K G ((p, d) :: T) σ H' F' s' → Q (.ref p) H'
  | .exc x s' => ∀ cls d H' F', Sub F F' → SR K G T σ H' F' s' → ERep K F' x cls d → W cls d σ H'
  | .bad => False
def rF (K : PySem.W.Frag) (W : WX) (m : M D) : TE := fun σ H Q => ∃ G T F s, SR K G T σ H F s ∧ PoF K W G T F σ Q (m s)
def dV (m : M D) : M Vl := bnd m fun d => ret (.d d)
section
variable {X : Cx} {W : WX} {e a b : Expr} {pos : Pos}
def tLk (t : TE) : TE := fun σ H Q => t σ H (Lk Q)
theorem pe_lk {t : TE} (h : PE X e t) : PE X e (tLk t) := by
  refine ⟨fun pins s σ H Q I hw => ?_⟩
  refine thn (h.run pins s σ H _ I hw) fun v s1 ⟨x, H1, I1, r, q⟩ => ?_
  rcases q with q | ⟨d, kvs, e1, e2, q⟩
  · exact ⟨x, H1, I1, r, q⟩
  · obtain ⟨o, I2⟩ := I1.lock e2 trivial
    exact ⟨x, _, I2, r, q o⟩
theorem pd_fresh {m : M D} (h : PE X e (rF X.K W m)) : PE X e (rE X.K W (dV m)) := pe_imp (pe_lk h) fun σ H Q ⟨G, T, F, s, R, po⟩ => by
  refine ⟨G, T, F, s, R, ?_⟩
  change PoE _ _ _ _ _ _ _ (bndR (m s) _) at po
  revert po
  cases m s with
  | bad => exact id
  | exc x s' => exact id
  | ok d s' =>
    intro po p H' F' hF R'
    exact R'.frz fun H2 F2 k1 k2 k3 => po _ _ _ (hF.trans k1) k2 k3
def fzD (m : M Vl) : M D := bnd m frz
abbrev fz (m : M Vl) : M Vl := dV (fzD m)
theorem pd_fz {m : M Vl} (h : PE X e (rE X.K W m)) : PE X e (rE X.K W (fz m)) := pe_imp (pe_lk h) fun σ H Q ⟨G, T, F, s, R, po⟩ => by
  refine ⟨G, T, F, s, R, ?_⟩
  change PoE _ _ _ _ _ _ _ (bndR (bndR (m s) frz) _) at po
  revert po
  cases m s with
  | bad => exact id
  | exc x s' => exact id
  | ok v s' =>
    intro po x H' F' hF R' r
    rcases frz_cases v s' with ⟨d, s2, e⟩ | e
    · have po : PoE X.K W G T F σ Q (bndR (frz v s') fun d => ret (.d d)) := po
      rw [e] at po
      exact frz_ok R' r e fun H2 F2 k1 k2 k3 => po _ _ _ (hF.trans k1) k2 k3
    · have po : PoE X.K W G T F σ Q (bndR (frz v s') fun d => ret (.d d)) := po
      rw [e] at po
      exact po.elim
theorem pd_of {e : Expr} {v : V} {d : D} (h : PE X e (tC v)) (r : ∀ F, Rep X.K F v d) : PE X e (rE X.K W (ret (.d d))) := pe_imp h fun σ H Q ⟨G, T, F, s, R, po⟩ => po v H F (Sub.refl F) R (r F)
theorem pd_int {i j pos} : PE X (.Constant (.int i) j pos) (rE X.K W (ret (.d (.int i)))) := pd_of pe_int fun _ => .int i
theorem pd_bl {i j pos} : PE X (.Constant (.bool i) j pos) (rE X.K W (ret (.d (.bl i)))) := pd_of pe_bl fun _ => .bl i
theorem pd_non {j pos} : PE X (.Constant .none j pos) (rE X.K W (ret (.d .non))) := pd_of pe_non fun _ => .non
theorem pd_str {x j pos} : PE X (.Constant (.str x) j pos) (rE X.K W (ret (.d (.str x)))) := pd_of pe_str fun _ => .str x
theorem pd_var {i : Nat} {x : Str} (h : PE X (.Name x pos) (tVar i)) : PE X (.Name x pos) (rE X.K W (mVar i)) := pe_imp h fun σ H Q ⟨G, T, F, s, R, po⟩ => by
  change PoE _ _ _ _ _ _ _ (vrS i s[i]? s) at po
  cases q : s[i]? with
  | none => rw [q] at po; exact po.elim
  | some l =>
    rw [q] at po
    cases l with
    | no => exact po.elim
    | fz d =>
      obtain ⟨v, e1, e2⟩ := R.fz i d q
      exact ⟨v, e1, po v H F (Sub.refl F) R e2⟩
    | ow b d =>
      obtain ⟨a, e1, e2⟩ := R.ow i b d q
      exact ⟨_, e1, po _ H F (Sub.refl F) R e1⟩
def OpD (K : PySem.W.Frag) (r : R2) (f : D → D → Option D) : Prop := ∀ (F H : Hp) (x y : V) (a b d : D) (Q : VK), SubH F H → View K F H x a → View K F H y b → f a b = some d → (∀ v H', Same H H' → Nr K F H H' v d → Q v H') → r x y H Q
def m2 (f : D → D → Option D) (ma mb : M Vl) : M D := bnd ma fun va => bnd mb fun vb => bnd (look va) fun a => bnd (look vb) fun b => lift (f a b)
def m1 (f : D → Option D) (ma : M Vl) : M D := bnd ma fun va => bnd (look va) fun a => lift (f a)
theorem m2_ok {K : PySem.W.Frag} {f : D → D → Option D} {ma mb : M Vl} {σ : L2.St} {H : Hp} {R2 : V → V → Hp → Prop} {G : Gd} {T : Tm} {F : Hp} {s : S} (R : SR K G T σ H F s)
    (hb : m2 f ma mb s ≠ .bad) (hx : ∀ x s', m2 f ma mb s = .exc x s' → ∀ cls d H' F', Sub F F' → SR K G T σ H' F' s' → ERep K F' x cls d → W cls d σ H')
    (hk : ∀ x y H' F' s' a b d, m2 f ma mb s = .ok d s' → f a b = some d → Sub F F' → SR K G T σ H' F' s' → View K F' H' x a → View K F' H' y b → R2 x y H') : rE K W ma σ H fun x H1 => rE K W mb σ H1 fun y H2 => R2 x y H2 := by
  refine ⟨G, T, F, s, R, ?_⟩
  cases e1 : ma s with
  | bad => exact absurd (by unfold m2 bnd; rw [e1]; rfl) hb
  | exc x s' => exact hx x s' (by unfold m2 bnd; rw [e1]; rfl)
  | ok va s1 =>
    have u1 : m2 f ma mb s = bndR (mb s1) fun vb => bnd (look va) fun a => bnd (look vb) fun b => lift (f a b) := by unfold m2 bnd; rw [e1]; rfl
    rw [u1] at hb hx hk
    intro x H1 F1 f1 R1 v1
    refine ⟨G, T, F1, s1, R1, ?_⟩
    cases e2 : mb s1 with
    | bad => rw [e2] at hb; exact absurd rfl hb
    | exc x s' =>
      rw [e2] at hx
      exact fun cls d H' F' f2 R2' e => hx x s' rfl cls d H' F' (f1.trans f2) R2' e
    | ok vb s2 =>
      rw [e2] at hb hk
      have u2 : (bndR (.ok vb s2) fun vb => bnd (look va) fun a => bnd (look vb) fun b => lift (f a b)) = bndR (look va s2) fun a => bnd (look vb) fun b => lift (f a b) := rfl
      rw [u2] at hb hk
      intro y H2 F2 f2 R2' v2
      rcases look_cases va s2 with ⟨a, ea⟩ | ea
      · rw [ea] at hb hk
        have u3 : (bndR (.ok a s2) fun a => bnd (look vb) fun b => lift (f a b)) = bndR (look vb s2) fun b => lift (f a b) := rfl
        rw [u3] at hb hk
        rcases look_cases vb s2 with ⟨b, eb⟩ | eb
        · rw [eb] at hb hk
          have u4 : (bndR (.ok b s2) fun b => lift (f a b)) = lift (f a b) s2 := rfl
          rw [u4] at hb hk
          cases q : f a b with
          | none => rw [q] at hb; exact absurd rfl hb
          | some d =>
            rw [q] at hk
            exact hk x y H2 F2 s2 a b d rfl q (f1.trans f2) R2' (look_view R2' (v1.mono f2) ea).2 (look_view R2' v2 eb).2
        · rw [eb] at hb; exact absurd rfl hb
      · rw [ea] at hb; exact absurd rfl hb
theorem pd_opT {r : R2} {f : D → D → Option D} {ma mb : M Vl} (hf : OpD X.K r f) (h : PE X e (tOp r (rE X.K W ma) (rE X.K W mb))) : PE X e (rE X.K W (dV (m2 f ma mb))) := pe_imp h fun σ H Q ⟨G, T, F, s, R, po⟩ => by
  refine m2_ok (f := f) R (fun z => ?_) (fun x s' z => ?_) (fun x y H' F' s' a b d z q h1 h2 h3 h4 => ?_)
  · unfold dV bnd at po; rw [z] at po; exact po
  · unfold dV bnd at po; rw [z] at po; exact po
  · unfold dV bnd at po; rw [z] at po
    have po : PoE X.K W G T F σ Q (.ok (.d d) s') := po
    refine hf F' H' x y a b d Q h2.sub h3 h4 q fun v H2 k1 k2 => ?_
    obtain ⟨F2, n1, n2, n3⟩ := h2.nr k1 k2
    exact po _ _ _ (h1.trans n1) n2 n3
end
end Dl
namespace Dl
open PySem PySem.Spec PyProof.Rows L2 He Lp
structure IsP {β : Type} (K : PySem.W.Frag) (W : WX) (G : Gd) (T : Tm) (F : Hp) (σ : L2.St) (P : Res β → Prop) : Prop where
  bad : P .bad → False
  exc : ∀ x s', P (.exc x s') → ∀ cls d H' F', Sub F F' → SR K G T σ H' F' s' → ERep K F' x cls d → W cls d σ H'
section
variable {K : PySem.W.Frag} {W : WX} {G : Gd} {T : Tm} {F0 F H : Hp} {σ : L2.St} {s : S} {β : Type} {P : Res β → Prop}
theorem isP_E {Q : VK} : IsP K W G T F σ (PoE K W G T F σ Q) := ⟨id, fun _ _ h => h⟩
theorem isP_F {Q : VK} : IsP K W G T F σ (PoF K W G T F σ Q) := ⟨id, fun _ _ h => h⟩
theorem isP_A {Q : List V → Hp → Prop} : IsP K W G T F σ (PoA K W G T F σ Q) := ⟨id, fun _ _ h => h⟩
theorem isP_T {Q : Bool → Hp → Prop} : IsP K W G T F σ (PoT K W G T F σ Q) := ⟨id, fun _ _ h => h⟩
theorem rE_run (ip : IsP K W G T F0 σ P) (f0 : Sub F0 F) (R : SR K G T σ H F s) {m : M Vl} {k : Vl → M β} {Q : VK} (p : P (bndR (m s) k))
    (hk : ∀ x H' F' s' v, Sub F0 F' → Sub F F' → SR K G T σ H' F' s' → VR K F' σ x v → P (k v s') → Q x H') : rE K W m σ H Q := by
  refine ⟨G, T, F, s, R, ?_⟩
  cases e : m s with
  | bad => rw [e] at p; exact (ip.bad p).elim
  | exc x s' => rw [e] at p; exact fun cls d H' F' f R' r => ip.exc x s' p cls d H' F' (f0.trans f) R' r
  | ok v s' => rw [e] at p; exact fun x H' F' f R' r => hk x H' F' s' v (f0.trans f) f R' r p
theorem rA_run (ip : IsP K W G T F0 σ P) (f0 : Sub F0 F) (R : SR K G T σ H F s) {m : M (List Vl)} {k : List Vl → M β} {Q : List V → Hp → Prop} (p : P (bndR (m s) k))
    (hk : ∀ xs H' F' s' vs, Sub F0 F' → Sub F F' → SR K G T σ H' F' s' → Paired (VR K F' σ) xs vs → P (k vs s') → Q xs H') : rA K W m σ H Q := by
  refine ⟨G, T, F, s, R, ?_⟩
  cases e : m s with
  | bad => rw [e] at p; exact (ip.bad p).elim
  | exc x s' => rw [e] at p; exact fun cls d H' F' f R' r => ip.exc x s' p cls d H' F' (f0.trans f) R' r
  | ok v s' => rw [e] at p; exact fun x H' F' f R' r => hk x H' F' s' v (f0.trans f) f R' r p
theorem rT_run (ip : IsP K W G T F0 σ P) (f0 : Sub F0 F) (R : SR K G T σ H F s) {m : M Bool} {k : Bool → M β} {Q : Bool → Hp → Prop} (p : P (bndR (m s) k))
    (hk : ∀ b H' F' s', Sub F0 F' → Sub F F' → SR K G T σ H' F' s' → P (k b s') → Q b H') : rT K W m σ H Q := by
  refine ⟨G, T, F, s, R, ?_⟩
  cases e : m s with
  | bad => rw [e] at p; exact (ip.bad p).elim
  | exc x s' => rw [e] at p; exact fun cls d H' F' f R' r => ip.exc x s' p cls d H' F' (f0.trans f) R' r
  | ok v s' => rw [e] at p; exact fun H' F' f R' => hk v H' F' s' (f0.trans f) f R' p
theorem look_run (ip : IsP K W G T F0 σ P) (R : SR K G T σ H F s) {vl : Vl} {x : V} (r : VR K F σ x vl) {k : D → M β} (p : P (bndR (look vl s) k)) : ∃ d, View K F H x d ∧ P (k d s) := by
  rcases look_cases vl s with ⟨d, e⟩ | e
  · rw [e] at p; exact ⟨d, (look_view R r e).2, p⟩
  · rw [e] at p; exact (ip.bad p).elim
theorem lift_run (ip : IsP K W G T F0 σ P) {α : Type} {o : Option α} {k : α → M β} (p : P (bndR (lift o s) k)) : ∃ d, o = some d ∧ P (k d s) := by
  cases o with
  | none => exact (ip.bad p).elim
  | some d => exact ⟨d, rfl, p⟩
theorem lift_last {P : Res β → Prop} (ip : IsP K W G T F0 σ P) {o : Option β} (p : P (lift o s)) : ∃ d, o = some d ∧ P (.ok d s) := by
  cases o with
  | none => exact (ip.bad p).elim
  | some d => exact ⟨d, rfl, p⟩
theorem dV_run (ip : IsP K W G T F0 σ P) (f0 : Sub F0 F) (R : SR K G T σ H F s) {m : M D} {k : D → M β} {Q : VK} (p : P (bndR (m s) k))
    (hk : ∀ x H' F' s' d, Sub F0 F' → Sub F F' → SR K G T σ H' F' s' → Rep K F' x d → P (k d s') → Q x H') : rE K W (dV m) σ H Q := by
  refine ⟨G, T, F, s, R, ?_⟩
  have u : dV m s = bndR (m s) fun d => ret (.d d) := rfl
  rw [u]
  cases e : m s with
  | bad => rw [e] at p; exact (ip.bad p).elim
  | exc x s' => rw [e] at p; exact fun cls d H' F' f R' r => ip.exc x s' p cls d H' F' (f0.trans f) R' r
  | ok v s' => rw [e] at p; exact fun x H' F' f R' r => hk x H' F' s' v (f0.trans f) f R' r p
def lookAll : List Vl → M (List D)
  | [] => ret []
  | v :: vs => bnd (look v) fun d => bnd (lookAll vs) fun ds => ret (d :: ds)
theorem lookAll_cases : ∀ (vs : List Vl) (s : S), (∃ ds, lookAll vs s = .ok ds s) ∨ lookAll vs s = .bad
  | [], s => .inl ⟨[], rfl⟩
  | v :: vs, s => by
    change (∃ ds, bndR (look v s) _ = _) ∨ bndR (look v s) _ = _
    rcases look_cases v s with ⟨d, e⟩ | e
    · rw [e]
      change (∃ ds, bndR (lookAll vs s) _ = _) ∨ bndR (lookAll vs s) _ = _
      rcases lookAll_cases vs s with ⟨ds, e2⟩ | e2
      · rw [e2]; exact .inl ⟨_, rfl⟩
      · rw [e2]; exact .inr rfl
    · rw [e]; exact .inr rfl
theorem lookAll_view (R : SR K G T σ H F s) : ∀ {xs : List V} {vs : List Vl} {ds : List D}, Paired (VR K F σ) xs vs → lookAll vs s = .ok ds s → Paired (View K F H) xs ds
  | _, _, _, .nil, e => by cases e; exact .nil
  | _, _, ds, .cons (b := v) (l₂ := vs) r t, e => by
    change bndR (look v s) _ = _ at e
    rcases look_cases v s with ⟨d, e1⟩ | e1
    · rw [e1] at e
      change bndR (lookAll vs s) _ = _ at e
      rcases lookAll_cases vs s with ⟨ds', e2⟩ | e2
      · rw [e2] at e; cases e
        exact .cons (look_view R r e1).2 (lookAll_view R t e2)
      · rw [e2] at e; cases e
    · rw [e1] at e; cases e
theorem lookAll_run (ip : IsP K W G T F0 σ P) (R : SR K G T σ H F s) {vs : List Vl} {xs : List V} (r : Paired (VR K F σ) xs vs) {k : List D → M β} (p : P (bndR (lookAll vs s) k)) : ∃ ds, Paired (View K F H) xs ds ∧ P (k ds s) := by
  rcases lookAll_cases vs s with ⟨d, e⟩ | e
  · rw [e] at p; exact ⟨d, lookAll_view R r e, p⟩
  · rw [e] at p; exact (ip.bad p).elim
theorem paired_d : ∀ {xs : List V} {ds : List D}, Paired (VR K F σ) xs (ds.map Vl.d) → Reps K F xs ds
  | _, [], h => by cases h; exact .nil
  | _, d :: ds, h => by
    cases h with
    | cons r t => exact .cons r (paired_d t)
end
section
variable {X : Cx} {W : WX} {e : Expr} {es : List Expr} {pos : Pos}
def mCons (m : M Vl) (ms : M (List Vl)) : M (List Vl) := bnd m fun v => bnd ms fun vs => ret (v :: vs)
theorem pa_imp {t t' : TA} (h : PA X es t) (i : ∀ σ H Q, t' σ H Q → t σ H Q) : PA X es t' := ⟨fun pos pins sh σ H Q I q => h.run pos pins sh σ H Q I (i σ H Q q)⟩
theorem pad_nil : PA X [] (rA X.K W (ret [])) := pa_imp pa_nil fun σ H Q ⟨G, T, F, s, R, po⟩ => po [] H F (Sub.refl F) R .nil
theorem pad_cons {m : M Vl} {ms : M (List Vl)} (h : PE X e (rE X.K W m)) (t : PA X es (rA X.K W ms)) (hs : starEach (e :: es) X.env = (false, eval e X.env) :: starEach es X.env := by rfl) : PA X (e :: es) (rA X.K W (mCons m ms)) :=
  pa_imp (pa_cons h t hs) fun σ H Q ⟨G, T, F, s, R, po⟩ => rE_run isP_A (Sub.refl F) R po fun x H1 F1 s1 v f1 _ R1 v1 p1 => rA_run isP_A f1 R1 p1 fun xs H2 F2 s2 vs f2 g2 R2 v2 p2 => p2 (x :: xs) H2 F2 f2 R2 (.cons (v1.mono g2) v2)
def mConsD (m : M Vl) (ms : M (List D)) : M (List D) := bnd (fzD m) fun d => bnd ms fun ds => ret (d :: ds)
def dVs (ms : M (List D)) : M (List Vl) := bnd ms fun ds => ret (ds.map Vl.d)
theorem padD_nil : PA X [] (rA X.K W (dVs (ret []))) := pad_nil
theorem padD_cons {m : M Vl} {ms : M (List D)} (h : PE X e (rE X.K W m)) (t : PA X es (rA X.K W (dVs ms))) (hs : starEach (e :: es) X.env = (false, eval e X.env) :: starEach es X.env := by rfl) : PA X (e :: es) (rA X.K W (dVs (mConsD m ms))) :=
  pa_imp (pa_cons (pd_fz h) t hs) fun σ H Q ⟨G, T, F, s, R, po⟩ => by
    have po : PoA X.K W G T F σ Q (bndR (bndR (fzD m s) fun d => bnd ms fun ds => ret (d :: ds)) fun ds => ret (ds.map Vl.d)) := po
    refine ⟨G, T, F, s, R, ?_⟩
    have u0 : fz m s = bndR (fzD m s) fun d => ret (.d d) := rfl
    rw [u0]
    cases e1 : fzD m s with
    | bad => rw [e1] at po; exact po
    | exc x s' => rw [e1] at po; exact po
    | ok v s1 =>
      rw [e1] at po
      intro x H1 F1 f1 R1 v1
      have po : PoA X.K W G T F σ Q (bndR (bndR (ms s1) fun ds => ret (v :: ds)) fun ds => ret (ds.map Vl.d)) := po
      refine ⟨G, T, F1, s1, R1, ?_⟩
      have u : dVs ms s1 = bndR (ms s1) fun ds => ret (ds.map Vl.d) := rfl
      rw [u]
      cases e2 : ms s1 with
      | bad => rw [e2] at po; exact po
      | exc y s' => rw [e2] at po; exact fun cls d H' F' f R' r => po cls d H' F' (f1.trans f) R' r
      | ok ds s2 =>
        rw [e2] at po
        intro xs H2 F2 f2 R2 v2
        exact po (x :: xs) H2 F2 (f1.trans f2) R2 (.cons (v1.mono f2) v2)
def mTup (ms : M (List D)) : M D := bnd ms fun ds => lift (if ds.length ≤ sizeLine then some (.tup ds) else none)
def mLst (ms : M (List D)) : M D := bnd ms fun ds => lift (if ds.length ≤ sizeLine then some (.lst ds) else none)
theorem dVs_run {K : PySem.W.Frag} {G : Gd} {T : Tm} {F0 F H : Hp} {σ : L2.St} {s : S} {β : Type} {P : Res β → Prop} (ip : IsP K W G T F0 σ P) (f0 : Sub F0 F) (R : SR K G T σ H F s) {ms : M (List D)} {k : List D → M β} {Q : List V → Hp → Prop} (p : P (bndR (ms s) k))
    (hk : ∀ xs H' F' s' ds, Sub F0 F' → Sub F F' → SR K G T σ H' F' s' → Reps K F' xs ds → P (k ds s') → Q xs H') : rA K W (dVs ms) σ H Q := by
  refine ⟨G, T, F, s, R, ?_⟩
  have u : dVs ms s = bndR (ms s) fun ds => ret (ds.map Vl.d) := rfl
  rw [u]
  cases e : ms s with
  | bad => rw [e] at p; exact (ip.bad p).elim
  | exc x s' => rw [e] at p; exact fun cls d H' F' f R' r => ip.exc x s' p cls d H' F' (f0.trans f) R' r
  | ok v s' => rw [e] at p; exact fun x H' F' f R' r => hk x H' F' s' v (f0.trans f) f R' (paired_d r) p
theorem pd_tupF {x1} {ms : M (List D)} (h : PA X es (rA X.K W (dVs ms))) : PE X (.Tuple es x1 pos) (rF X.K W (mTup ms)) := pe_imp (pe_tupN h) fun σ H Q ⟨G, T, F, s, R, po⟩ => dVs_run isP_F (Sub.refl F) R po fun xs H1 F1 s1 ds f1 _ R1 r1 p1 => by
  obtain ⟨d, e, p⟩ := lift_last isP_F p1
  split at e
  · rename_i hl
    cases e
    refine ⟨by rw [r1.len]; exact hl, fun q H' hq hs ho => ?_⟩
    obtain ⟨F2, k1, k2⟩ := R1.nc hs (Nc.tup R1.sub hq hs ho r1)
    exact p q H' F2 (f1.trans k1) k2
  · cases e
theorem pd_lstF {ms : M (List D)} (h : PA X es (rA X.K W (dVs ms))) : PE X (.List es pos) (rF X.K W (mLst ms)) := pe_imp (pe_lstN h) fun σ H Q ⟨G, T, F, s, R, po⟩ => dVs_run isP_F (Sub.refl F) R po fun xs H1 F1 s1 ds f1 _ R1 r1 p1 => by
  obtain ⟨d, e, p⟩ := lift_last isP_F p1
  split at e
  · rename_i hl
    cases e
    refine ⟨by rw [r1.len]; exact hl, fun q H' hq hs ho => ?_⟩
    obtain ⟨F2, k1, k2⟩ := R1.nc hs (Nc.lst R1.sub hq hs ho r1)
    exact p q H' F2 (f1.trans k1) k2
  · cases e
def CallD (K : PySem.W.Frag) (r : List V → Hp → VK → Prop) (f : List D → Option D) : Prop := ∀ (F H : Hp) (xs : List V) (ds : List D) (d : D) (Q : VK), SubH F H → Paired (View K F H) xs ds → f ds = some d → (∀ v H', Same H H' → Nr K F H H' v d → Q v H') → r xs H Q
def mCall (f : List D → Option D) (ms : M (List Vl)) : M D := bnd ms fun vs => bnd (lookAll vs) fun ds => lift (f ds)
def tArgs (r : List V → Hp → VK → Prop) (t : TA) : TE := fun σ H Q => t σ H fun xs H1 => r xs H1 Q
theorem pd_callT {r : List V → Hp → VK → Prop} {f : List D → Option D} {ms : M (List Vl)} (hf : CallD X.K r f) (h : PE X e (tArgs r (rA X.K W ms))) : PE X e (rE X.K W (dV (mCall f ms))) := pe_imp h fun σ H Q ⟨G, T, F, s, R, po⟩ => by
  have po : PoE X.K W G T F σ Q (bndR (bndR (ms s) fun vs => bnd (lookAll vs) fun ds => lift (f ds)) fun d => ret (.d d)) := po
  refine ⟨G, T, F, s, R, ?_⟩
  cases e : ms s with
  | bad => rw [e] at po; exact po
  | exc x s' => rw [e] at po; exact po
  | ok vs s1 =>
    rw [e] at po
    intro xs H1 F1 f1 R1 v1
    have po : PoE X.K W G T F σ Q (bndR (bndR (lookAll vs s1) fun ds => lift (f ds)) fun d => ret (.d d)) := po
    rcases lookAll_cases vs s1 with ⟨ds, e2⟩ | e2
    · rw [e2] at po
      have po : PoE X.K W G T F σ Q (bndR (lift (f ds) s1) fun d => ret (.d d)) := po
      obtain ⟨d, q, p⟩ := lift_run isP_E po
      have p : PoE X.K W G T F σ Q (.ok (.d d) s1) := p
      refine hf F1 H1 xs ds d Q R1.sub (lookAll_view R1 v1 e2) q fun v H2 k1 k2 => ?_
      obtain ⟨F2, n1, n2, n3⟩ := R1.nr k1 k2
      exact p _ _ _ (f1.trans n1) n2 n3
    · rw [e2] at po; exact po.elim
end
end Dl
namespace Dl
open PySem PySem.Spec PyProof.Rows L2 He Lp
def asB : D → Option Bool
  | .bl b => some b
  | _ => none
theorem asB_some {d : D} {b : Bool} (h : asB d = some b) : d = .bl b := by
  cases d with
  | bl k => cases h; rfl
  | _ => cases h
def truD : D → Option Bool
  | .non => some false
  | .bl b => some b
  | .int i => some (i != 0)
  | .str x => if x.length ≤ sizeLine then some ((x.length : Int) != 0) else none
  | .lst xs => some (!xs.isEmpty)
  | .tup xs => some (!xs.isEmpty)
  | _ => none
def mB (m : M D) : M Bool := bnd m fun d => lift (asB d)
def mTru (m : M Vl) : M Bool := bnd m fun v => bnd (look v) fun d => lift (truD d)
def mNot (m : M Bool) : M Bool := bnd m fun b => ret (!b)
def mAnd (a b : M Bool) : M Bool := bnd a fun c => if c = true then b else ret false
def mOr (a b : M Bool) : M Bool := bnd a fun c => if c = true then ret true else b
section
variable {K : PySem.W.Frag} {F H : Hp} {x : V}
theorem rep_bl {b : Bool} (h : Rep K F x (.bl b)) : x = .bl b := by cases h; rfl
theorem rep_int {b : Int} (h : Rep K F x (.int b)) : x = .int b := by cases h; rfl
theorem rep_str {b : Str} (h : Rep K F x (.str b)) : x = .str b := by cases h; rfl
theorem rep_non (h : Rep K F x .non) : x = .non := by cases h; rfl
theorem view_bl {b : Bool} (h : View K F H x (.bl b)) : x = .bl b := by
  rcases h with h | ⟨a, _, h, _⟩
  · exact rep_bl h
  · exact h.elim
theorem view_int {b : Int} (h : View K F H x (.int b)) : x = .int b := by
  rcases h with h | ⟨a, _, h, _⟩
  · exact rep_int h
  · exact h.elim
theorem view_str {b : Str} (h : View K F H x (.str b)) : x = .str b := by
  rcases h with h | ⟨a, _, h, _⟩
  · exact rep_str h
  · exact h.elim
theorem view_non (h : View K F H x .non) : x = .non := by
  rcases h with h | ⟨a, _, h, _⟩
  · exact rep_non h
  · exact h.elim
theorem view_lst {ds : List D} (hs : SubH F H) (h : View K F H x (.lst ds)) : ∃ a vs, x = .ref a ∧ H a = some (.lst vs) ∧ Reps K F vs ds := by
  rcases h with h | ⟨a, rfl, ⟨vs, e, r⟩, _⟩
  · cases h with | lst q r => exact ⟨_, _, rfl, hs _ _ q, r⟩
  · exact ⟨a, vs, rfl, e, r⟩
theorem view_rol {ds : List D} (hs : SubH F H) (h : View K F H x (.rol ds)) : ∃ a vs, x = .ref a ∧ SqL K H a vs ∧ Reps K F vs ds := by
  rcases h with h | ⟨a, _, h, _⟩
  · cases h with | rol q r => exact ⟨_, _, rfl, hs.sqL q, r⟩
  · exact h.elim
theorem view_tup {ds : List D} (hs : SubH F H) (h : View K F H x (.tup ds)) : ∃ a vs, x = .ref a ∧ SqT K H a vs ∧ Reps K F vs ds := by
  rcases h with h | ⟨a, _, _, h⟩
  · cases h with | tup q r => exact ⟨_, _, rfl, hs.sqT q, r⟩
  · exact absurd rfl (h ds)
theorem view_dct {ds : List (Key × D)} (hs : SubH F H) (h : View K F H x (.dct ds)) : ∃ a vs, x = .ref a ∧ Rd H a (.dK vs) ∧ RepK K F vs ds := by
  rcases h with h | ⟨a, rfl, ⟨vs, e, r⟩, _⟩
  · cases h with | dct q r => exact ⟨_, _, rfl, .inr ⟨_, hs _ _ q⟩, r⟩
  · exact ⟨a, vs, rfl, .inl e, r⟩
theorem view_tupR {ds : List D} (h : View K F H x (.tup ds)) : Rep K F x (.tup ds) := by
  rcases h with h | ⟨a, _, _, h⟩
  · exact h
  · exact absurd rfl (h ds)
theorem truD_ok (hs : SubH F H) : ∀ {d : D} {b : Bool}, View K F H x d → truD d = some b → TruV K x H b
  | .non, _, h, e => by rw [view_non h]; cases e; rfl
  | .bl _, _, h, e => by rw [view_bl h]; cases e; rfl
  | .int _, _, h, e => by rw [view_int h]; cases e; rfl
  | .str y, _, h, e => by
    rw [view_str h]
    change (if y.length ≤ sizeLine then some ((y.length : Int) != 0) else none) = _ at e
    split at e
    · rename_i hl; cases e; exact ⟨hl, rfl⟩
    · cases e
  | .lst ds, _, h, e => by
    obtain ⟨a, vs, rfl, q, r⟩ := view_lst hs h
    cases e
    exact .inl ⟨vs, .of q, by cases r <;> rfl⟩
  | .tup ds, _, h, e => by
    obtain ⟨a, vs, rfl, q, r⟩ := view_tup hs h
    cases e
    exact .inr (.inl ⟨vs, q, by cases r <;> rfl⟩)
end
section
variable {X : Cx} {W : WX} {e a b c : Expr} {pos : Pos} {rest : List Expr}
theorem pt_imp {t t' : TT} (h : PT X e t) (i : ∀ σ H Q, t' σ H Q → t σ H Q) : PT X e t' := ⟨fun pins sh σ H Q I q => h.run pins sh σ H Q I (i σ H Q q)⟩
theorem pw_imp {t t' : TT} (h : PW X e t) (i : ∀ σ H Q, t' σ H Q → t σ H Q) : PW X e t' := ⟨fun wh pins sh σ H Q I q => h.run wh pins sh σ H Q I (i σ H Q q)⟩
theorem ptd_tru {m : M Vl} (h : PE X e (rE X.K W m)) (he : ∀ whole, isTrue e X.env whole = (do let v ← whole; standAt e.pos; holding [v] (truthy v)) := by intro _; rfl) : PT X e (rT X.K W (mTru m)) :=
  pt_imp (pt_truth h he) fun σ H Q ⟨G, T, F, s, R, po⟩ => rE_run isP_T (Sub.refl F) R po fun x H1 F1 s1 v f1 _ R1 v1 p1 => by
    obtain ⟨d, hv, p2⟩ := look_run isP_T R1 v1 p1
    obtain ⟨b, e, p⟩ := lift_last isP_T p2
    exact ⟨b, truD_ok R1.sub hv e, p H1 F1 f1 R1⟩
theorem ptd_cmp {op : CmpOp} {r : R2} {f : D → D → Option D} {ma mb : M Vl} (ho : OpR X (compareOp op) r) (hf : OpD X.K r f) (ha : PE X a (rE X.K W ma)) (hb : PE X b (rE X.K W mb)) (hm : behindInMarks op b = false := by first | exact nobehind _ (by decide) (by decide) | rfl) :
    PT X (.Compare a [op] [b] pos) (rT X.K W (mB (m2 f ma mb))) :=
  pt_imp (pt_cmpR ho ha hb hm) fun σ H Q ⟨G, T, F, s, R, po⟩ => by
    refine m2_ok (f := f) R (fun z => ?_) (fun x s' z => ?_) (fun x y H' F' s' a b d z q h1 h2 h3 h4 => ?_)
    · have po : PoT X.K W G T F σ Q (bndR (m2 f ma mb s) fun d => lift (asB d)) := po
      rw [z] at po; exact po
    · have po : PoT X.K W G T F σ Q (bndR (m2 f ma mb s) fun d => lift (asB d)) := po
      rw [z] at po; exact po
    · have po : PoT X.K W G T F σ Q (bndR (m2 f ma mb s) fun d => lift (asB d)) := po
      rw [z] at po
      have po : PoT X.K W G T F σ Q (lift (asB d) s') := po
      obtain ⟨bb, e, p⟩ := lift_last isP_T po
      obtain rfl := asB_some e
      refine hf F' H' x y a b (.bl bb) _ h2.sub h3 h4 q fun v H2 k1 k2 => ?_
      obtain ⟨F2, n1, n2, n3⟩ := h2.nr k1 k2
      exact ⟨bb, rep_bl n3, p H2 F2 (h1.trans n1) n2⟩
theorem pd_cmp {op : CmpOp} {r : R2} {f : D → D → Option D} {ma mb : M Vl} (ho : OpR X (compareOp op) r) (hf : OpD X.K r f) (ha : PE X a (rE X.K W ma)) (hb : PE X b (rE X.K W mb)) (hm : behindInMarks op b = false := by first | exact nobehind _ (by decide) (by decide) | rfl) :
    PE X (.Compare a [op] [b] pos) (rE X.K W (dV (m2 f ma mb))) := pd_opT hf (pe_cmpR ho ha hb hm)
theorem pd_bin {op : Operator} {r : R2} {f : D → D → Option D} {ma mb : M Vl} (ho : OpR X (binaryOp op) r) (hf : OpD X.K r f) (ha : PE X a (rE X.K W ma)) (hb : PE X b (rE X.K W mb)) : PE X (.BinOp a op b pos) (rE X.K W (dV (m2 f ma mb))) := pd_opT hf (pe_op ho ha hb)
theorem ptd_not {m : M Bool} (h : PT X a (rT X.K W m)) : PT X (.UnaryOp .Not a pos) (rT X.K W (mNot m)) := pt_imp (pt_not h) fun σ H Q ⟨G, T, F, s, R, po⟩ => rT_run isP_T (Sub.refl F) R po fun b H1 F1 s1 f1 _ R1 p1 => p1 H1 F1 f1 R1
theorem pwd_and1 {m : M Bool} (h : PT X a (rT X.K W m)) : PW X (.BoolOp .And [a] pos) (rT X.K W m) := pw_and1 h
theorem pwd_or1 {m : M Bool} (h : PT X a (rT X.K W m)) : PW X (.BoolOp .Or [a] pos) (rT X.K W m) := pw_or1 h
theorem pwd_and {m n : M Bool} (h : PT X a (rT X.K W m)) (t : PW X (.BoolOp .And (b :: rest) pos) (rT X.K W n)) : PW X (.BoolOp .And (a :: b :: rest) pos) (rT X.K W (mAnd m n)) := pw_imp (pw_and h t) fun σ H Q ⟨G, T, F, s, R, po⟩ => rT_run isP_T (Sub.refl F) R po fun b H1 F1 s1 f1 _ R1 p1 => by
  cases b with
  | true => rw [if_pos rfl] at p1 ⊢; exact ⟨G, T, F1, s1, R1, p1.sub f1⟩
  | false => exact p1 H1 F1 f1 R1
theorem pwd_or {m n : M Bool} (h : PT X a (rT X.K W m)) (t : PW X (.BoolOp .Or (b :: rest) pos) (rT X.K W n)) : PW X (.BoolOp .Or (a :: b :: rest) pos) (rT X.K W (mOr m n)) := pw_imp (pw_or h t) fun σ H Q ⟨G, T, F, s, R, po⟩ => rT_run isP_T (Sub.refl F) R po fun b H1 F1 s1 f1 _ R1 p1 => by
  cases b with
  | true => exact p1 H1 F1 f1 R1
  | false => rw [if_neg (by decide)] at p1 ⊢; exact ⟨G, T, F1, s1, R1, p1.sub f1⟩
theorem ptd_pw {m : M Bool} (h : PW X e (rT X.K W m)) : PT X e (rT X.K W m) := h.pt
def mAndV (a : M D) (b : M Vl) : M Vl := bnd a fun d => bnd (lift (asB d)) fun c => if c = true then b else ret (.d (.bl false))
def mOrV (a : M D) (b : M Vl) : M Vl := bnd a fun d => bnd (lift (asB d)) fun c => if c = true then ret (.d (.bl true)) else b
def mIfE (t : M Bool) (a b : M Vl) : M Vl := bnd t fun c => if c = true then a else b
def mChain (f g : D → D → Option D) (ma mb mc : M Vl) : M D := bnd ma fun va => bnd mb fun vb => bnd (look va) fun a => bnd (look vb) fun b => bnd (lift (f a b)) fun d => bnd (lift (asB d)) fun k => if k = true then bnd mc fun vc => bnd (look vb) fun b => bnd (look vc) fun c => lift (g b c) else ret (.bl false)
end
end Dl
namespace Dl
open PySem PySem.Spec PyProof.Rows L2 He Lp
def bndS {α : Type} : Res α → (α → MS) → RS
  | .ok a s', k => k a s'
  | .exc x s', _ => .exc x s'
  | .bad, _ => .bad
def seqR : RS → MS → RS
  | .nx s, k => k s
  | r, _ => r
def mSeq (a b : MS) : MS := fun s => seqR (a s) b
def mSkip : MS := fun s => .nx s
def mIf (t : M Bool) (a b : MS) : MS := fun s => bndS (t s) fun c => if c = true then a else b
def mSet (i : Nat) (m : M Vl) : MS := fun s => bndS (fzD m s) fun d s => .nx (s.set i (.fz d))
def mSetO (i : Nat) (m : M D) : MS := fun s => bndS (m s) fun d s => .nx (s.set i (.ow true d))
def mRet (m : M Vl) : MS := fun s => bndS (fzD m s) fun d s => .rt d s
def mRetN : MS := fun s => .rt .non s
def mDrop (m : M Vl) : MS := fun s => bndS (m s) fun _ s => .nx s
section
variable {K : PySem.W.Frag} {W : WX} {G : Gd} {T : Tm} {F0 F H : Hp} {σ : L2.St} {s : S} {E : Ends}
theorem dV_runS (f0 : Sub F0 F) (R : SR K G T σ H F s) {m : M D} {k : D → MS} {Q : VK} (p : PoS K W G T F0 E (bndS (m s) k))
    (hk : ∀ x H' F' s' d, Sub F0 F' → Sub F F' → SR K G T σ H' F' s' → Rep K F' x d → PoS K W G T F0 E (k d s') → Q x H') : rE K W (dV m) σ H Q := by
  refine ⟨G, T, F, s, R, ?_⟩
  have u : dV m s = bndR (m s) fun d => ret (.d d) := rfl
  rw [u]
  cases e : m s with
  | bad => rw [e] at p; exact p
  | exc x s' => rw [e] at p; exact fun cls d H' F' f R' r => p cls d σ H' F' (f0.trans f) R' r
  | ok v s' => rw [e] at p; exact fun x H' F' f R' r => hk x H' F' s' v (f0.trans f) f R' r p
theorem rF_runS (f0 : Sub F0 F) (R : SR K G T σ H F s) {m : M D} {k : D → MS} {Q : VK} (p : PoS K W G T F0 E (bndS (m s) k))
    (hk : ∀ a H' F' s' d, Sub F0 F' → Sub F F' → SR K G ((a, d) :: T) σ H' F' s' → PoS K W G T F0 E (k d s') → Q (.ref a) H') : rF K W m σ H Q := by
  refine ⟨G, T, F, s, R, ?_⟩
  cases e : m s with
  | bad => rw [e] at p; exact p
  | exc x s' => rw [e] at p; exact fun cls d H' F' f R' r => p cls d σ H' F' (f0.trans f) R' r
  | ok v s' => rw [e] at p; exact fun x H' F' f R' => hk x H' F' s' v (f0.trans f) f R' p
theorem rT_runS (f0 : Sub F0 F) (R : SR K G T σ H F s) {m : M Bool} {k : Bool → MS} {Q : Bool → Hp → Prop} (p : PoS K W G T F0 E (bndS (m s) k))
    (hk : ∀ b H' F' s', Sub F0 F' → Sub F F' → SR K G T σ H' F' s' → PoS K W G T F0 E (k b s') → Q b H') : rT K W m σ H Q := by
  refine ⟨G, T, F, s, R, ?_⟩
  cases e : m s with
  | bad => rw [e] at p; exact p
  | exc x s' => rw [e] at p; exact fun cls d H' F' f R' r => p cls d σ H' F' (f0.trans f) R' r
  | ok v s' => rw [e] at p; exact fun H' F' f R' => hk v H' F' s' (f0.trans f) f R' p
end
section
variable {X : Cx} {W : WX} {st : Stmt} {sts rest : List Stmt} {e c : Expr} {pos : Pos}
theorem pss_imp {t t' : TS} (h : PSs X sts t) (i : ∀ D σ H, t' D σ H → t D σ H) : PSs X sts t' := ⟨fun pins sh σ H D I q => h.run pins sh σ H D I (i D σ H q)⟩
theorem psd_nil : PSs X [] (rS X.K W mSkip) := pss_imp pss_nil fun D σ H ⟨G, T, F, s, R, po⟩ => po σ H F (Sub.refl F) R
theorem psd_cons {a b : MS} (h : PS X st (rS X.K W a)) (t : PSs X rest (rS X.K W b)) : PSs X (st :: rest) (rS X.K W (mSeq a b)) := pss_imp (pss_cons h t) fun D σ H ⟨G, T, F, s, R, po⟩ => by
  refine ⟨G, T, F, s, R, ?_⟩
  have po : PoS X.K W G T F D (seqR (a s) b) := po
  cases q : a s with
  | nx s' => rw [q] at po; exact fun σ' H' F' f R' => ⟨G, T, F', s', R', PoS.sub f po⟩
  | bk s' => rw [q] at po; exact po
  | ct s' => rw [q] at po; exact po
  | rt d s' => rw [q] at po; exact po
  | exc x s' => rw [q] at po; exact po
  | bad => rw [q] at po; exact po
theorem psd_one {a : MS} (h : PS X st (rS X.K W a)) : PSs X [st] (rS X.K W a) := pss_one h
theorem psd_if {t : M Bool} {as bs : List Stmt} {a b : MS} (hc : PT X c (rT X.K W t)) (ha : PSs X as (rS X.K W a)) (hb : PSs X bs (rS X.K W b)) : PS X (.If c as bs pos) (rS X.K W (mIf t a b)) :=
  ps_imp (ps_if hc ha hb) fun D σ H ⟨G, T, F, s, R, po⟩ => rT_runS (Sub.refl F) R po fun k H1 F1 s1 f1 _ R1 p1 => by
    cases k with
    | true => rw [if_pos rfl] at p1 ⊢; exact ⟨G, T, F1, s1, R1, PoS.sub f1 p1⟩
    | false => rw [if_neg (by decide)] at p1 ⊢; exact ⟨G, T, F1, s1, R1, PoS.sub f1 p1⟩
theorem psd_set {i : Nat} {x : Str} {m : M Vl} {pos' : Pos} (hN : X.N.Nodup) (hi : X.N[i]? = some x) (hx : Loc X.env.scope x) (he : PE X e (rE X.K W m)) (hs : swapsWith e (some (.Name x pos')) pos.line X.env = pure false := by rfl)
    (hf : X.fn x = true ∨ X.env.scope.names.lookup x = some .local := by first | exact .inl rfl | exact .inr rfl | assumption) : PS X (.Assign [.Name x pos'] e pos) (rS X.K W (mSet i m)) :=
  ps_imp (ps_set hN hi hx (pd_fz he) hs hf) fun D σ H ⟨G, T, F, s, R, po⟩ => dV_runS (Sub.refl F) R po fun y H1 F1 s1 d f1 _ R1 r1 p1 => p1 _ _ F1 f1 (R1.setFz r1)
theorem psd_setO {i : Nat} {x : Str} {m : M D} {pos' : Pos} (hN : X.N.Nodup) (hi : X.N[i]? = some x) (hx : Loc X.env.scope x) (he : PE X e (rF X.K W m)) (hs : swapsWith e (some (.Name x pos')) pos.line X.env = pure false := by rfl)
    (hf : X.fn x = true ∨ X.env.scope.names.lookup x = some .local := by first | exact .inl rfl | exact .inr rfl | assumption) : PS X (.Assign [.Name x pos'] e pos) (rS X.K W (mSetO i m)) :=
  ps_imp (ps_set hN hi hx he hs hf) fun D σ H ⟨G, T, F, s, R, po⟩ => rF_runS (Sub.refl F) R po fun a H1 F1 s1 d f1 _ R1 p1 => p1 _ _ F1 f1 (R1.setOw i)
theorem psd_ret {m : M Vl} (he : PE X e (rE X.K W m)) : PS X (.Return (some e) pos) (rS X.K W (mRet m)) :=
  ps_imp (ps_ret (pd_fz he)) fun D σ H ⟨G, T, F, s, R, po⟩ => dV_runS (Sub.refl F) R po fun y H1 F1 s1 d f1 _ R1 r1 p1 => p1 _ _ _ F1 f1 R1 r1
end
def rG (K : PySem.W.Frag) (tg : D → S → Option S) : TG := fun v σ H Q => ∃ G T F s d, SR K G T σ H F s ∧ Rep K F v d ∧ ∃ s', tg d s = some s' ∧ ∀ σ' H' F', Sub F F' → SR K G T σ' H' F' s' → Q σ' H'
def rGs (K : PySem.W.Frag) (tg : List D → S → Option S) : TGs := fun vs σ H Q => ∃ G T F s ds, SR K G T σ H F s ∧ Reps K F vs ds ∧ ∃ s', tg ds s = some s' ∧ ∀ σ' H' F', Sub F F' → SR K G T σ' H' F' s' → Q σ' H'
def gN (i : Nat) : D → S → Option S := fun d s => some (s.set i (.fz d))
def gNil : List D → S → Option S
  | [], s => some s
  | _, _ => none
def gCons (g : D → S → Option S) (gs : List D → S → Option S) : List D → S → Option S
  | d :: ds, s => (g d s).bind (gs ds)
  | [], _ => none
def gTup (n : Nat) (gs : List D → S → Option S) : D → S → Option S
  | .tup ds, s => if ds.length = n then gs ds s else none
  | _, _ => none
section
variable {X : Cx} {pos : Pos}
theorem pg_imp {e : Expr} {t t' : TG} (h : PG X e t) (i : ∀ v σ H Q, t' v σ H Q → t v σ H Q) : PG X e t' := ⟨fun pins s σ H v u Q I r q => h.run pins s σ H v u Q I r (i v σ H Q q)⟩
theorem pgs_imp {e : List Expr} {t t' : TGs} (h : PGs X e t) (i : ∀ v σ H Q, t' v σ H Q → t v σ H Q) : PGs X e t' := ⟨fun pins s σ H v u Q I r q => h.run pins s σ H v u Q I r (i v σ H Q q)⟩
theorem pgd_name {i : Nat} {x : Str} (hN : X.N.Nodup) (hi : X.N[i]? = some x) (hx : Loc X.env.scope x) (hf : X.fn x = true ∨ X.env.scope.names.lookup x = some .local := by first | exact .inl rfl | exact .inr rfl | assumption) : PG X (.Name x pos) (rG X.K (gN i)) :=
  pg_imp (pg_name hN hi hx hf) fun v σ H Q ⟨G, T, F, s, d, R, r, s', e, k⟩ => by
    cases e
    exact k _ _ F (Sub.refl F) (R.setFz r)
theorem pgsd_nil : PGs X [] (rGs X.K gNil) := pgs_imp pgs_nil fun v σ H Q ⟨G, T, F, s, d, R, r, s', e, k⟩ => by
  cases d with
  | nil => cases r; cases e; exact ⟨rfl, k σ H F (Sub.refl F) R⟩
  | cons _ _ => cases e
theorem pgsd_cons {e : Expr} {es : List Expr} {g : D → S → Option S} {gs : List D → S → Option S} (h : PG X e (rG X.K g)) (t : PGs X es (rGs X.K gs)) (hs : (assignEach (e :: es) X.env).map (·.2) = assign e X.env :: (assignEach es X.env).map (·.2) := by rfl) : PGs X (e :: es) (rGs X.K (gCons g gs)) :=
  pgs_imp (pgs_cons h t hs) fun v σ H Q ⟨G, T, F, s, ds, R, r, s', e, k⟩ => by
    cases ds with
    | nil => cases e
    | cons d ds =>
      cases r with
      | cons r rs =>
        have e : (g d s).bind (gs ds) = some s' := e
        cases q : g d s with
        | none => rw [q] at e; cases e
        | some s1 =>
          rw [q] at e
          exact ⟨_, _, rfl, G, T, F, s, d, R, r, s1, q, fun σ1 H1 F1 f1 R1 => ⟨G, T, F1, s1, ds, R1, rs.mono f1, s', e, fun σ2 H2 F2 f2 R2 => k σ2 H2 F2 (f1.trans f2) R2⟩⟩
theorem pgd_tup {es : List Expr} {j : Nat} {gs : List D → S → Option S} {n : Nat} (hc : X.calm = true) (h : PGs X es (rGs X.K gs)) (hn : (assignEach es X.env).length = n := by rfl) (hst : (assignEach es X.env).findIdx? (·.1) = none := by rfl) : PG X (.Tuple es j pos) (rG X.K (gTup n gs)) :=
  pg_imp (pg_tup hc h hn hst) fun v σ H Q ⟨G, T, F, s, d, R, r, s', e, k⟩ => by
    cases d with
    | tup ds =>
      cases r with
      | tup q rs =>
        change (if ds.length = n then gs ds s else none) = some s' at e
        split at e
        · rename_i hl
          exact ⟨_, _, rfl, R.sub.sqT q, by rw [rs.len]; exact hl, G, T, F, s, ds, R, rs, s', e, k⟩
        · cases e
    | _ => cases e
end
def WalkD (K : PySem.W.Frag) (F : Hp) (J : It) (ds : List D) : Prop := Walk J ds.length (fun H => SubH F H) (fun i H x H' => Same H H' ∧ ∃ d, ds[i]? = some d ∧ ∀ F1, Sub F F1 → SubH F1 H → Nr K F1 H H' x d)
def PoI (K : PySem.W.Frag) (W : WX) (G : Gd) (T : Tm) (F : Hp) (σ : L2.St) (R : It → Hp → Prop) : Res (List D) → Prop
  | .ok ds s' => ∀ J H' F', Sub F F' → SR K G T σ H' F' s' → WalkD K F' J ds → R J H'
  | .exc x s' => ∀ cls d H' F', Sub F F' → SR K G T σ H' F' s' → ERep K F' x cls d → W cls d σ H'
  | .bad => False
def rI (K : PySem.W.Frag) (W : WX) (m : M (List D)) : TI := fun σ H Q => ∃ G T F s, SR K G T σ H F s ∧ PoI K W G T F σ Q (m s)
def fNext : RS → MS → RS
  | .nx s, k => k s
  | .ct s, k => k s
  | .bk s, _ => .nx s
  | r, _ => r
def forL (tg : D → S → Option S) (body : MS) : List D → MS
  | [], s => .nx s
  | d :: ds, s => match tg d s with
    | none => .bad
    | some s1 => fNext (body s1) (forL tg body ds)
def mFor (mi : M (List D)) (tg : D → S → Option S) (body : MS) : MS := fun s => bndS (mi s) (forL tg body)
section
variable {X : Cx} {W : WX} {tg iter : Expr} {body : List Stmt} {pos : Pos}
theorem psd_for {mi : M (List D)} {g : D → S → Option S} {mb : MS} (hp : PassesOwn (model X.prog X.w) X.A X.env X.xe) (hc : X.calm = true) (hi : PI X tg iter (rI X.K W mi)) (hg : PG X tg (rG X.K g)) (hb : PSs X body (rS X.K W mb))
    (hs : ∀ x, foldedSetIterable iter X.env x = pure x := by intro _; rfl) : PS X (.For tg iter body [] pos) (rS X.K W (mFor mi g mb)) :=
  ps_imp (ps_for hp hc hi hg hb hs) fun D σ H ⟨G, T, F, s, R, po⟩ => by
    have po : PoS X.K W G T F D (bndS (mi s) (forL g mb)) := po
    refine ⟨G, T, F, s, R, ?_⟩
    cases e : mi s with
    | bad => rw [e] at po; exact po
    | exc x s' => rw [e] at po; exact fun cls d H' F' f R' r => po cls d σ H' F' f R' r
    | ok ds s1 =>
      rw [e] at po
      intro J H1 F1 f1 R1 w
      have po : PoS X.K W G T F D (forL g mb ds s1) := po
      refine for_it w (fun i σ' H' => ∃ F' s', Sub F1 F' ∧ SR X.K G T σ' H' F' s' ∧ PoS X.K W G T F D (forL g mb (ds.drop i) s')) ⟨F1, s1, Sub.refl F1, R1, po⟩ (fun i σ' H' _ ⟨F', s', f, R', _⟩ => Sub.trans f R'.sub) ?_ ?_
      · rintro i x σ' H2 H3 hi ⟨F', s', f, R', p⟩ ⟨hH, d, hd, nr⟩
        have e2 : ds.drop i = d :: ds.drop (i + 1) := by
          obtain ⟨hl, hv⟩ := List.getElem?_eq_some_iff.mp hd
          rw [List.drop_eq_getElem_cons hl, hv]
        rw [e2] at p
        have p : PoS X.K W G T F D (match g d s' with
          | none => .bad
          | some s1 => fNext (mb s1) (forL g mb (ds.drop (i + 1)))) := p
        cases q : g d s' with
        | none => rw [q] at p; exact p.elim
        | some s2 =>
          rw [q] at p
          have p : PoS X.K W G T F D (fNext (mb s2) (forL g mb (ds.drop (i + 1)))) := p
          obtain ⟨F3, n1, n2, n3⟩ := R'.nr hH (nr F' f R'.sub)
          refine ⟨G, T, F3, s', d, n2, n3, s2, q, fun σ4 H4 F4 f4 R4 => ⟨G, T, F4, s2, R4, ?_⟩⟩
          have up : Sub F1 F4 := f.trans (n1.trans f4)
          have up0 : Sub F F4 := f1.trans up
          cases z : mb s2 with
          | nx s5 => rw [z] at p; exact fun σ5 H5 F5 f5 R5 => ⟨F5, s5, up.trans f5, R5, p⟩
          | ct s5 => rw [z] at p; exact fun σ5 H5 F5 f5 R5 => ⟨F5, s5, up.trans f5, R5, p⟩
          | bk s5 => rw [z] at p; exact fun σ5 H5 F5 f5 R5 => p σ5 H5 F5 (up0.trans f5) R5
          | rt d s5 => rw [z] at p; exact fun v σ5 H5 F5 f5 R5 => p v σ5 H5 F5 (up0.trans f5) R5
          | exc x s5 => rw [z] at p; exact fun c d σ5 H5 F5 f5 R5 => p c d σ5 H5 F5 (up0.trans f5) R5
          | bad => rw [z] at p; exact p
      · rintro σ' H' ⟨F', s', f, R', p⟩
        rw [List.drop_length] at p
        exact p σ' H' F' (f1.trans f) R'
end
section
variable {K : PySem.W.Frag} {F : Hp}
theorem walkD_list {a : Addr} {vs : List V} {ds : List D} (q : SqL K F a vs) (r : Reps K F vs ds) : WalkD K F (Itl K a) ds := by
  have w : Walk (Itl K a) vs.length (fun H => SqL K H a vs) (YAt vs) := walk_list
  rw [r.len] at w
  exact w.mono (fun H h => h.sqL q) fun i H x H' _ _ ⟨e, hx⟩ => by
    obtain ⟨d, hd, rd⟩ := r.getV hx
    subst e
    exact ⟨fun _ _ z => z, d, hd, fun F1 f hs => Nr.old hs (rd.mono f)⟩
theorem walkD_tup {a : Addr} {vs : List V} {ds : List D} (q : SqT K F a vs) (r : Reps K F vs ds) : WalkD K F (Itt K a) ds := by
  have w : Walk (Itt K a) vs.length (fun H => SqT K H a vs) (YAt vs) := walk_tup
  rw [r.len] at w
  exact w.mono (fun H h => h.sqT q) fun i H x H' _ _ ⟨e, hx⟩ => by
    obtain ⟨d, hd, rd⟩ := r.getV hx
    subst e
    exact ⟨fun _ _ z => z, d, hd, fun F1 f hs => Nr.old hs (rd.mono f)⟩
def rangeD (lo : Int) (n : Nat) : List D := (List.range n).map fun (i : Nat) => .int (lo + (i : Nat))
theorem walkD_range {lo : Int} {n : Nat} : WalkD K F (Itr lo n) (rangeD lo n) := by
  have w : Walk (Itr lo n) n (fun _ => True) (YFn fun i => .int (lo + i)) := walk_range
  have e : (rangeD lo n).length = n := by simp [rangeD]
  unfold WalkD
  rw [e]
  exact w.mono (fun H h => trivial) fun i H x H' hi _ ⟨e, hx⟩ => by
    subst e hx
    exact ⟨fun _ _ z => z, .int (lo + i), by simp [rangeD, hi], fun F1 f hs => Nr.old hs (.int _)⟩
def strD (z : Str) : List D := z.cps.toList.map fun c => .str ⟨#[c]⟩
theorem walkD_str {z : Str} : WalkD K F (Its z) (strD z) := by
  have w := @walk_str z
  have e : (strD z).length = z.cps.size := by simp [strD]
  unfold WalkD
  rw [e]
  exact w.mono (fun H h => trivial) fun i H x H' hi _ ⟨e, c, hc, hx⟩ => by
    subst e hx
    exact ⟨fun _ _ z => z, .str ⟨#[c]⟩, by simp [strD, hc], fun F1 f hs => Nr.old hs (.str _)⟩
def enumD (ds : List D) : List D := (List.range ds.length).zipWith (fun (i : Nat) d => .tup [.int i, d]) ds
theorem enumD_get {ds : List D} {i : Nat} {d : D} (h : ds[i]? = some d) : (enumD ds)[i]? = some (.tup [.int i, d]) := by
  unfold enumD
  rw [List.getElem?_zipWith]
  have hl := (List.getElem?_eq_some_iff.mp h).1
  simp [hl]
  exact (List.getElem?_eq_some_iff.mp h).2
theorem enumD_len (ds : List D) : (enumD ds).length = ds.length := by simp [enumD]
theorem walkD_enum {a : Addr} {vs : List V} {ds : List D} (q : SqL K F a vs) (r : Reps K F vs ds) : WalkD K F (Ite K a) (enumD ds) := by
  have w : Walk (Ite K a) vs.length (fun H => SqL K H a vs) _ := walk_enum
  unfold WalkD
  rw [enumD_len]
  rw [r.len] at w
  exact w.mono (fun H h => h.sqL q) fun i H x H' _ _ ⟨t, x0, y0, e1, e2, e3, e4, e5⟩ => by
    cases e4
    obtain ⟨d, hd, rd⟩ := r.getV e5
    subst e1 e3
    refine ⟨fun b o z => by rw [upd_ne (ne_of_none z e2)]; exact z, _, enumD_get hd, fun F1 f hs => ?_⟩
    exact (Nc.tup hs e2 (fun b o z => by rw [upd_ne (ne_of_none z e2)]; exact z) upd_same (.cons (.int _) (.cons (rd.mono f) .nil))).nr (fun _ z => nomatch z)
end
end Dl
namespace Dl
open PySem PySem.Spec PyProof.Rows L2 He Lp
def kD : Key → D
  | .inl i => .int i
  | .inr x => .str x
theorem rep_kD {K : PySem.W.Frag} {F : Hp} : ∀ k : Key, Rep K F (kV k) (kD k)
  | .inl i => .int i
  | .inr x => .str x
def keysD (kds : List (Key × D)) : List D := kds.map fun k => kD k.1
def itemsD : D → Option (List D)
  | .lst ds => some ds
  | .rol ds => some ds
  | .tup ds => some ds
  | .str z => some (strD z)
  | .dct kds => some (keysD kds)
  | _ => none
def mItems (m : M Vl) : M (List D) := bnd (fzD m) fun d => lift (itemsD d)
theorem RepK.get {K : PySem.W.Frag} {F : Hp} : ∀ {vs : List (Key × V)} {ds : List (Key × D)} {i : Nat} {k : Key} {v : V}, RepK K F vs ds → vs[i]? = some (k, v) → ∃ d, ds[i]? = some (k, d) ∧ Rep K F v d
  | _, _, _, _, _, .nil, e => by simp at e
  | _, _, 0, _, _, .cons r _, e => by simp at e; obtain ⟨rfl, rfl⟩ := e; exact ⟨_, rfl, r⟩
  | _, _, i + 1, _, _, .cons _ t, e => by simpa using RepK.get (i := i) t (by simpa using e)
theorem walkD_keys {K : PySem.W.Frag} {F : Hp} {a : Addr} {o : Obj} {vs : List (Key × V)} {ds : List (Key × D)} (w : F a = some (.frz o (.dK vs))) (r : RepK K F vs ds) : WalkD K F (Itk a o vs) (keysD ds) := by
  have w1 := @walk_keys a o vs
  have e : (keysD ds).length = vs.length := by simp [keysD, r.len]
  unfold WalkD
  rw [e]
  exact w1.mono (fun H h => h _ _ w) fun i H x H' hi _ ⟨e1, k, v, hk, e2⟩ => by
    subst e1 e2
    obtain ⟨d, hd, _⟩ := r.get hk
    exact ⟨fun _ _ z => z, kD k, by unfold keysD; rw [List.getElem?_map, hd]; rfl, fun F1 f hs => Nr.old hs (rep_kD k)⟩
section
variable {X : Cx} {W : WX} {tg e : Expr} {pos p : Pos}
theorem pi_imp {w w' : TI} (h : PI X tg e w) (i : ∀ σ H R, w' σ H R → w σ H R) : PI X tg e w' := ⟨fun pins s σ H R I q => h.run pins s σ H R I (i σ H R q)⟩
theorem pi_or {w w' : TI} (h : PI X tg e w) (h' : PI X tg e w') : PI X tg e (fun σ H R => w σ H R ∨ w' σ H R) := ⟨fun pins s σ H R I q => q.elim (h.run pins s σ H R I) (h'.run pins s σ H R I)⟩
theorem isP_I {K : PySem.W.Frag} {G : Gd} {T : Tm} {F : Hp} {σ : L2.St} {Q : It → Hp → Prop} : IsP K W G T F σ (PoI K W G T F σ Q) := ⟨id, fun _ _ h => h⟩
theorem pid_items {m : M Vl} (h : PE X e (rE X.K W m)) : PI X tg e (rI X.K W (mItems m)) := by
  have h' := pd_fz h
  refine pi_imp (pi_or (pi_or (pi_list h') (pi_tup h')) (pi_or (pi_str h') (pi_keys h'))) fun σ H Q ⟨G, T, F, s, R, po⟩ => ?_
  have po : PoI X.K W G T F σ Q (bndR (fzD m s) fun d => lift (itemsD d)) := po
  cases q : fzD m s with
  | bad => rw [q] at po; exact po.elim
  | exc x s' =>
    refine .inl (.inl ⟨G, T, F, s, R, ?_⟩)
    have u : fz m s = bndR (fzD m s) fun d => ret (.d d) := rfl
    rw [u, q]
    rw [q] at po
    exact po
  | ok d s1 =>
    rw [q] at po
    have po : PoI X.K W G T F σ Q (lift (itemsD d) s1) := po
    have go : ∀ {Q' : VK}, (∀ x H' F', Sub F F' → SR X.K G T σ H' F' s1 → Rep X.K F' x d → Q' x H') → rE X.K W (fz m) σ H Q' := fun {Q'} k => by
      refine ⟨G, T, F, s, R, ?_⟩
      have u : fz m s = bndR (fzD m s) fun d => ret (.d d) := rfl
      rw [u, q]
      exact k
    cases d with
    | lst ds =>
      refine .inl (.inl (go fun x H' F' f R' r => ?_))
      cases r with
      | lst q r => exact ⟨_, rfl, ⟨_, .of (R'.sub _ _ q)⟩, po _ _ F' f R' (walkD_list (.of q) r)⟩
    | rol ds =>
      refine .inl (.inl (go fun x H' F' f R' r => ?_))
      cases r with
      | rol q r => exact ⟨_, rfl, ⟨_, R'.sub.sqL q⟩, po _ _ F' f R' (walkD_list q r)⟩
    | tup ds =>
      refine .inl (.inr (go fun x H' F' f R' r => ?_))
      cases r with
      | tup q r => exact ⟨_, rfl, ⟨_, R'.sub.sqT q⟩, po _ _ F' f R' (walkD_tup q r)⟩
    | str z =>
      refine .inr (.inl (go fun x H' F' f R' r => ?_))
      cases r with
      | str z => exact ⟨_, rfl, po _ _ F' f R' walkD_str⟩
    | dct ds =>
      refine .inr (.inr (go fun x H' F' f R' r => ?_))
      cases r with
      | dct q r => exact ⟨_, _, rfl, .inl ⟨_, R'.sub _ _ q, po _ _ F' f R' (walkD_keys q r)⟩⟩
    | _ => exact po.elim
def rng1 : List D → Option (List D)
  | [.int j] => if -(2 ^ 62) ≤ j ∧ j < 2 ^ 62 then some (rangeD 0 j.toNat) else none
  | _ => none
def mIter (f : List D → Option (List D)) (ms : M (List Vl)) : M (List D) := bnd ms fun vs => bnd (lookAll vs) fun ds => lift (f ds)
theorem paired_ints1 {K : PySem.W.Frag} {F H : Hp} {xs : List V} {j : Int} (h : Paired (View K F H) xs [.int j]) : xs = [.int j] := by
  cases h with
  | cons a t => cases t; rw [view_int a]
theorem pid_range1 {a : Expr} {ms : M (List Vl)} (hm : X.mg "range" = none) (ha : PA X [a] (rA X.K W ms)) (hg : Gl X "range" := by rfl) (hs : starEach [a] X.env = [(false, eval a X.env)] := by rfl) : PI X tg (.Call (.Name "range" p) [a] [] pos) (rI X.K W (mIter rng1 ms)) :=
  pi_imp (pi_range1 hg hm ha hs) fun σ H Q ⟨G, T, F, s, R, po⟩ => rA_run isP_I (Sub.refl F) R po fun xs H1 F1 s1 vs f1 _ R1 v1 p1 => by
    obtain ⟨ds, hv, p2⟩ := lookAll_run isP_I R1 v1 p1
    obtain ⟨l, e, p3⟩ := lift_last isP_I p2
    match ds, e, hv with
    | [.int j], e, hv =>
      change (if -(2 ^ 62) ≤ j ∧ j < 2 ^ 62 then some (rangeD 0 j.toNat) else none) = _ at e
      split at e
      · rename_i h
        cases e
        exact ⟨j, paired_ints1 hv, h.1, h.2, p3 _ _ F1 f1 R1 walkD_range⟩
      · cases e
def enL : D → Option (List D)
  | .lst ds => some (enumD ds)
  | _ => none
def mEnum (m : M Vl) : M (List D) := bnd (fzD m) fun d => lift (enL d)
theorem pid_enum {e : Expr} {tpos : Pos} {elts : List Expr} {kk : Nat} {m : M Vl} (hm : X.mg "enumerate" = none) (ha : PE X e (rE X.K W m)) (hg : Gl X "enumerate" := by rfl) (hs : starEach [e] X.env = [(false, eval e X.env)] := by rfl) : PI X (.Tuple elts kk tpos) (.Call (.Name "enumerate" p) [e] [] pos) (rI X.K W (mEnum m)) :=
  pi_imp (pi_enum hg hm (pa_cons (pd_fz ha) pa_nil (by rw [hs]; rfl)) hs) fun σ H Q ⟨G, T, F, s, R, po⟩ => dV_run isP_I (Sub.refl F) R po fun x H1 F1 s1 d f1 _ R1 v1 p1 => by
    obtain ⟨l, e, p3⟩ := lift_last isP_I p1
    cases d with
    | lst ds =>
      cases e
      cases v1 with
      | lst q r => exact ⟨_, _, rfl, .of (R1.sub _ _ q), p3 _ _ F1 f1 R1 (walkD_enum (.of q) r)⟩
    | _ => cases e
end
def W0 : WX := fun _ _ _ _ => False
def wipeS (s : S) : List Nat → S
  | [] => s
  | v :: vs => (wipeS s vs).set v .no
def unwS (s0 : S) (s : S) : List Nat → S
  | [] => s
  | v :: vs => match s0[v]? with
    | some (.fz d) => (unwS s0 s vs).set v (.fz d)
    | _ => (unwS s0 s vs).set v .no
section
variable {K : PySem.W.Frag} {W : WX} {G : Gd} {T : Tm} {F H : Hp} {σ : L2.St} {s : S}
theorem SR.wipe (R : SR K G T σ H F s) : ∀ vs : List Nat, SR K G T (L2.wipe σ vs) H F (wipeS s vs)
  | [] => R
  | v :: vs => (R.wipe vs).forget v none
theorem wipe_out' {σ : L2.St} {i : Nat} : ∀ {vs : List Nat}, i ∉ vs → (L2.wipe σ vs)[i]? = σ[i]?
  | [], _ => rfl
  | v :: vs, h => by
    unfold L2.wipe
    rw [List.getElem?_set_ne (fun z => h (by rw [z]; exact List.mem_cons_self ..))]
    exact wipe_out' fun z => h (List.mem_cons_of_mem _ z)
theorem SR.reslot {τ : L2.St} {s' : S} (R : SR K G T τ H F s) (hl : s'.length = σ.length)
    (h : ∀ i : Nat, (s'[i]? = s[i]? ∧ τ[i]? = σ[i]?) ∨ (∃ d v, s'[i]? = some (Sl.fz d) ∧ σ[i]? = some (some v) ∧ Rep K F v d) ∨ ∀ l, s'[i]? = some l → l = Sl.no) : SR K G T σ H F s' := by
  have ows : ∀ (i : Nat) (b : Bool) (d : D), s'[i]? = some (Sl.ow b d) → s[i]? = some (Sl.ow b d) ∧ τ[i]? = σ[i]? := fun i b d e => by
    rcases h i with ⟨h1, h2⟩ | ⟨_, _, h1, _⟩ | h1
    · exact ⟨by rw [← h1]; exact e, h2⟩
    · rw [h1] at e; cases e
    · cases h1 _ e
  refine ⟨R.sub, hl, fun i d e => ?_, fun i b d e => ?_, fun i j b c d e a h1 h2 h3 h4 => ?_, R.tm, R.tn, fun p hp i b d e => ?_, R.fr, R.ioH, R.ioK, R.ioD, R.old, R.oldH, R.nw⟩
  · rcases h i with ⟨h1, h2⟩ | ⟨d', v, h1, h2, h3⟩ | h1
    · obtain ⟨v, q1, q2⟩ := R.fz i d (by rw [← h1]; exact e)
      exact ⟨v, by rw [← h2]; exact q1, q2⟩
    · rw [h1] at e; cases e; exact ⟨v, h2, h3⟩
    · cases h1 _ e
  · obtain ⟨q1, q2⟩ := ows i b d e
    obtain ⟨a, k1, k2⟩ := R.ow i b d q1
    exact ⟨a, by rw [← q2]; exact k1, k2⟩
  · obtain ⟨q1, q2⟩ := ows i b d h1
    obtain ⟨k1, k2⟩ := ows j c e h2
    exact R.dj i j b c d e a q1 k1 (by rw [q2]; exact h3) (by rw [k2]; exact h4)
  · obtain ⟨q1, q2⟩ := ows i b d e
    rw [← q2]
    exact R.td p hp i b d q1
theorem unwS_len (s0 s : S) : ∀ vs : List Nat, (unwS s0 s vs).length = s.length
  | [] => rfl
  | v :: vs => by
    unfold unwS
    split <;> rw [List.length_set, unwS_len s0 s vs]
theorem unwS_get {s0 s : S} {i : Nat} : ∀ {vs : List Nat}, (i ∉ vs ∧ (unwS s0 s vs)[i]? = s[i]?) ∨ (i ∈ vs ∧ ((∃ d, s0[i]? = some (Sl.fz d) ∧ ((unwS s0 s vs)[i]? = some (Sl.fz d) ∨ (unwS s0 s vs)[i]? = none)) ∨ ∀ l, (unwS s0 s vs)[i]? = some l → l = Sl.no))
  | [] => .inl ⟨fun z => (nomatch z), rfl⟩
  | v :: vs => by
    by_cases e : i = v
    · subst e
      refine .inr ⟨List.mem_cons_self .., ?_⟩
      unfold unwS
      split
      · rename_i d hd
        refine .inl ⟨d, hd, ?_⟩
        by_cases hi : i < (unwS s0 s vs).length
        · exact .inl (List.getElem?_set_self hi)
        · exact .inr (List.getElem?_eq_none (by simpa using hi))
      · refine .inr fun l hl => ?_
        rcases get_set hl with ⟨_, q, _⟩ | ⟨ne, _⟩
        · exact q
        · exact absurd rfl ne
    · have e2 : (unwS s0 s (v :: vs))[i]? = (unwS s0 s vs)[i]? := by
        conv => lhs; unfold unwS
        split <;> rw [List.getElem?_set_ne (Ne.symm e)]
      rw [e2]
      rcases unwS_get (s0 := s0) (s := s) (i := i) (vs := vs) with ⟨h1, h2⟩ | ⟨h1, h2⟩
      · exact .inl ⟨fun z => (List.mem_cons.mp z).elim e h1, h2⟩
      · exact .inr ⟨List.mem_cons_of_mem _ h1, h2⟩
theorem SR.unwipe {F0 : Hp} {s0 : S} {vs : List Nat} (R0 : ∀ (i : Nat) (d : D), s0[i]? = some (Sl.fz d) → ∃ v, σ[i]? = some (some v) ∧ Rep K F0 v d) (hF : Sub F0 F) (R : SR K G T (L2.wipe σ vs) H F s) : SR K G T σ H F (unwS s0 s vs) := by
  refine R.reslot (by rw [unwS_len, R.len, wipe_length]) fun i => ?_
  rcases unwS_get (s0 := s0) (s := s) (i := i) (vs := vs) with ⟨h1, h2⟩ | ⟨h1, ⟨d, h2, h3⟩ | h2⟩
  · exact .inl ⟨h2, wipe_out' h1⟩
  · rcases h3 with h3 | h3
    · obtain ⟨v, q1, q2⟩ := R0 i d h2
      exact .inr (.inl ⟨d, v, h3, q1, q2.mono hF⟩)
    · exact .inr (.inr fun l hl => by rw [h3] at hl; cases hl)
  · exact .inr (.inr h2)
end
end Dl
namespace Dl
open PySem PySem.Spec PyProof.Rows L2 He Lp
theorem wipe_in {σ : L2.St} {i : Nat} : ∀ {vs : List Nat}, i ∈ vs → (L2.wipe σ vs)[i]? = if i < σ.length then some none else none
  | v :: vs, h => by
    conv => lhs; unfold L2.wipe
    by_cases z : i = v
    · subst z
      by_cases hi : i < σ.length
      · rw [List.getElem?_set_self (by rw [wipe_length]; exact hi), if_pos hi]
      · rw [List.getElem?_eq_none (by simpa [wipe_length] using hi), if_neg hi]
    · rw [List.getElem?_set_ne (Ne.symm z)]
      exact wipe_in ((List.mem_cons.mp h).elim (fun q => absurd q z) id)
theorem wipe_set {σ : L2.St} {i : Nat} {x : Option V} {vs : List Nat} (h : i ∈ vs) : L2.wipe (σ.set i x) vs = L2.wipe σ vs := by
  refine List.ext_getElem? fun j => ?_
  by_cases hj : j ∈ vs
  · rw [wipe_in hj, wipe_in hj, List.length_set]
  · rw [wipe_out' hj, wipe_out' hj, List.getElem?_set_ne fun z => hj (by rw [← z]; exact h)]
theorem wipe_wipe (σ : L2.St) (vs : List Nat) : L2.wipe (L2.wipe σ vs) vs = L2.wipe σ vs := by
  refine List.ext_getElem? fun j => ?_
  by_cases hj : j ∈ vs
  · rw [wipe_in hj, wipe_in hj, wipe_length]
  · rw [wipe_out' hj, wipe_out' hj]
def rGw (K : PySem.W.Frag) (vs : List Nat) (tg : D → S → Option S) : TG := fun v σ H Q => ∃ G T F s d, SR K G T σ H F s ∧ Rep K F v d ∧ ∃ s', tg d s = some s' ∧ ∀ σ' H' F', Sub F F' → L2.wipe σ' vs = L2.wipe σ vs → SR K G T σ' H' F' s' → Q σ' H'
section
variable {X : Cx} {pos : Pos} {vs : List Nat}
theorem pgw_name {i : Nat} {x : Str} (hN : X.N.Nodup) (hi : X.N[i]? = some x) (hx : Loc X.env.scope x) (hv : i ∈ vs := by decide) (hf : X.fn x = true ∨ X.env.scope.names.lookup x = some .local := by first | exact .inl rfl | exact .inr rfl | assumption) : PG X (.Name x pos) (rGw X.K vs (gN i)) :=
  pg_imp (pg_name hN hi hx hf) fun v σ H Q ⟨G, T, F, s, d, R, r, s', e, k⟩ => by
    cases e
    exact k _ _ F (Sub.refl F) (wipe_set hv) (R.setFz r)
end
def lcB (tg : D → S → Option S) (cond : M Bool) (elt : M D) (d : D) (s : S) : Res (Option D) := match tg d s with
  | none => .bad
  | some s1 => match cond s1 with
    | .ok false s2 => .ok none s2
    | .ok true s2 => (match elt s2 with
      | .ok y s3 => .ok (some y) s3
      | _ => .bad)
    | _ => .bad
def lcL (vs : List Nat) (tg : D → S → Option S) (cond : M Bool) (elt : M D) : List D → List D → S → Res (List D)
  | [], acc, s => .ok acc s
  | d :: ds, acc, s => match lcB tg cond elt d s with
    | .ok none s1 => lcL vs tg cond elt ds acc (wipeS s1 vs)
    | .ok (some y) s1 => lcL vs tg cond elt ds (acc ++ [y]) (wipeS s1 vs)
    | _ => .bad
def lcE (vs : List Nat) (s0 : S) : Res (List D) → Res D
  | .ok acc s2 => .ok (.lst acc) (unwS s0 s2 vs)
  | _ => .bad
def mLc (vs : List Nat) (mi : M (List D)) (tg : D → S → Option S) (cond : M Bool) (elt : M Vl) : M D := bnd mi fun ds s1 => if ds.length ≤ sizeLine then lcE vs s1 (lcL vs tg cond (fzD elt) ds [] (wipeS s1 vs)) else .bad
def mYes : M Bool := ret true
section
variable {X : Cx} {W : WX}
theorem ptsd_nil : PTs X [] (rT X.K W mYes) := ⟨fun pins s σ H Q I ⟨G, T, F, s0, R, po⟩ => pts_nil.run pins s σ H Q I (po H F (Sub.refl F) R)⟩
theorem lc_ok {vs : List Nat} {mi : M (List D)} {tg : D → S → Option S} {cond : M Bool} {elt : M Vl} {K : PySem.W.Frag} {σ : L2.St} {H : Hp} {Q : VK}
    (h : rF K W (mLc vs mi tg cond elt) σ H Q) : tLc (rI K W mi) (rGw K vs tg) (rT K W0 cond) (rE K W0 (fz elt)) vs σ H Q := by
  obtain ⟨G, T, F, s, R, po⟩ := h
  have po : PoF K W G T F σ Q (bndR (mi s) fun ds s1 => if ds.length ≤ sizeLine then lcE vs s1 (lcL vs tg cond (fzD elt) ds [] (wipeS s1 vs)) else .bad) := po
  refine ⟨G, T, F, s, R, ?_⟩
  cases e : mi s with
  | bad => rw [e] at po; exact po
  | exc x s' => rw [e] at po; exact po
  | ok ds s1 =>
    rw [e] at po
    intro J H1 F1 f1 R1 w
    have po : PoF K W G T F σ Q (if ds.length ≤ sizeLine then lcE vs s1 (lcL vs tg cond (fzD elt) ds [] (wipeS s1 vs)) else .bad) := po
    split at po
    case isFalse => exact po.elim
    rename_i hlen
    have R0 : ∀ (i : Nat) (d : D), s1[i]? = some (Sl.fz d) → ∃ v, σ[i]? = some (some v) ∧ Rep K F1 v d := R1.fz
    intro r hr
    refine lc_it w (fun i H' => ∃ F' s' accD, Sub F1 F' ∧ accD.length ≤ i ∧ SR K G ((r, .lst accD) :: T) (L2.wipe σ vs) H' F' s' ∧ PoF K W G T F σ Q (lcE vs s1 (lcL vs tg cond (fzD elt) (ds.drop i) accD s'))) ?_ ?_ ?_ ?_
    · have n0 := (R1.fresh hr).2.1
      have hS : Same H1 (upd H1 r (.lst [])) := fun b o q => by rw [upd_ne (ne_of_none q hr)]; exact q
      have R2 : SR K G ((r, .lst []) :: T) σ (upd H1 r (.lst [])) F1 s1 := R1.push hr hS (Sub.refl F1) (fun a o q => hS a o (R1.sub a o q)) (fun _ _ q => .inl q) n0 ⟨[], upd_same, .nil⟩ (fun C dx fs z => by rw [upd_same] at z; cases z)
      exact ⟨F1, wipeS s1 vs, [], Sub.refl F1, Nat.le_refl _, R2.wipe vs, po⟩
    · rintro i H' _ ⟨F', s', accD, f, _, R', _⟩
      exact Sub.trans f R'.sub
    · rintro i x H2 H3 hi ⟨F', s', accD, f, hacc, R', p⟩ ⟨hH, d, hd, nr⟩
      have e2 : ds.drop i = d :: ds.drop (i + 1) := by
        obtain ⟨hl, hv⟩ := List.getElem?_eq_some_iff.mp hd
        rw [List.drop_eq_getElem_cons hl, hv]
      rw [e2] at p
      obtain ⟨F3, n1, n2, n3⟩ := R'.nr hH (nr F' f R'.sub)
      have p : PoF K W G T F σ Q (lcE vs s1 (match lcB tg cond (fzD elt) d s' with
        | .ok none s1 => lcL vs tg cond (fzD elt) (ds.drop (i + 1)) accD (wipeS s1 vs)
        | .ok (some y) s1 => lcL vs tg cond (fzD elt) (ds.drop (i + 1)) (accD ++ [y]) (wipeS s1 vs)
        | _ => .bad)) := p
      unfold lcB at p
      cases q : tg d s' with
      | none => rw [q] at p; exact p.elim
      | some s2 =>
        rw [q] at p
        refine ⟨G, _, F3, s', d, n2, n3, s2, q, fun σ4 H4 F4 f4 w4 R4 => ⟨w4.trans (wipe_wipe σ vs), G, _, F4, s2, R4, ?_⟩⟩
        simp only at p
        cases z : cond s2 with
        | bad => rw [z] at p; exact p.elim
        | exc y s5 => rw [z] at p; exact p.elim
        | ok b s5 =>
          rw [z] at p
          intro H5 F5 f5 R5
          have up : Sub F1 F5 := f.trans (n1.trans (f4.trans f5))
          cases b with
          | true =>
            rw [if_pos rfl]
            simp only at p
            refine ⟨G, _, F5, s5, R5, ?_⟩
            have u : fz elt s5 = bndR (fzD elt s5) fun d => ret (.d d) := rfl
            rw [u]
            cases z2 : fzD elt s5 with
            | bad => rw [z2] at p; exact p.elim
            | exc y s6 => rw [z2] at p; exact p.elim
            | ok y s6 =>
              rw [z2] at p
              intro v H6 F6 f6 R6 r6
              have r6 : Rep K F6 v y := r6
              obtain ⟨⟨vs6, h6, q6⟩, n6, g6⟩ := R6.tm _ (List.mem_cons_self ..)
              have h6 : H6 r = some (.lst vs6) := h6
              refine ⟨vs6, h6, by rw [q6.len]; omega, F6, wipeS s6 vs, accD ++ [y], up.trans f6, by rw [List.length_append]; simp; omega, ?_, p⟩
              have R7 : SR K G ((r, .lst (accD ++ [y])) :: T) σ4 (upd H6 r (.lst (vs6 ++ [v]))) F6 s6 := R6.tmut (Kp.put (List.mem_cons_self ..)) (fun C dx fs z => by rw [upd_same] at z; cases z) ⟨_, upd_same, q6.app (.cons r6 .nil)⟩
              have := R7.wipe vs
              rw [w4.trans (wipe_wipe σ vs)] at this
              exact this
          | false =>
            rw [if_neg (by decide)]
            simp only at p
            refine ⟨F5, wipeS s5 vs, accD, up, by omega, ?_, p⟩
            have := R5.wipe vs
            rw [w4.trans (wipe_wipe σ vs)] at this
            exact this
    · rintro H' ⟨F', s', accD, f, _, R', p⟩
      rw [List.drop_length] at p
      exact p r H' F' (f1.trans f) (R'.unwipe R0 f)
theorem pd_lc {elt tg iter : Expr} {ifs : List Expr} {scope : Scope} {own : List (Str × Nat)} {pos : Pos} {mi : M (List D)} {g : D → S → Option S} {mc : M Bool} {me : M Vl} (hc : X.calm = true) (hN : X.N.Nodup) (hi : PI X tg iter (rI X.K W mi)) (ok : BlkOk X.N X.env.scope scope own)
    (hg : ∀ (s : Shared) (H : Hp) (C : Addr) (cl : List (Str × Addr)) (fp : List Addr), PG (X.blk s H scope (compEnvC scope cl C X.env) fp) tg (rGw X.K (own.map (·.2)) g)) (ht : ∀ (s : Shared) (H : Hp) (C : Addr) (cl : List (Str × Addr)) (fp : List Addr), PTs (X.blk s H scope (compEnvC scope cl C X.env) fp) ifs (rT X.K W0 mc))
    (he : ∀ (s : Shared) (H : Hp) (C : Addr) (cl : List (Str × Addr)) (fp : List Addr), PE (X.blk s H scope (compEnvC scope cl C X.env) fp) elt (rE X.K W0 me)) (hs : ∀ x, foldedSetIterable iter X.env x = pure x := by intro _; rfl) :
    PE X (.ListComp elt [⟨tg, iter, ifs, 0⟩] scope pos) (rF X.K W (mLc (own.map (·.2)) mi g mc me)) :=
  pe_imp (pe_lc hc hN hi ok hg ht (fun a b c d e => pd_fz (he a b c d e)) hs) fun _ _ _ h => lc_ok h
end
end Dl
namespace Dl
open PySem PySem.Spec PyProof.Rows L2 He Lp
def valK (kds : List (Key × D)) (k : Key) : Option D := (kds.find? fun kv => decide (kv.1 = k)).map (·.2)
def putD (kds : List (Key × D)) (k : Key) (d : D) : List (Key × D) := if kds.any (fun kv => decide (kv.1 = k)) then kds.map (fun kv => if kv.1 = k then (kv.1, d) else kv) else kds ++ [(k, d)]
def dropD (kds : List (Key × D)) (k : Key) : List (Key × D) := kds.filter fun kv => decide (kv.1 ≠ k)
def asK : D → Option Key
  | .int i => some (.inl i)
  | .str x => some (.inr x)
  | _ => none
theorem asK_some {d : D} {k : Key} (h : asK d = some k) : d = kD k := by
  cases d with
  | int i => cases h; rfl
  | str x => cases h; rfl
  | _ => cases h
section
variable {K : PySem.W.Frag} {F H : Hp} {x : V}
theorem view_kD {k : Key} (h : View K F H x (kD k)) : x = kV k := by
  cases k with
  | inl i => exact view_int h
  | inr y => exact view_str h
theorem rep_kV {k : Key} (h : Rep K F x (kD k)) : x = kV k := view_kD (H := F) (.inl h)
theorem RepK.any : ∀ {vs : List (Key × V)} {ds : List (Key × D)} (k : Key), RepK K F vs ds → (vs.any fun kv => decide (kv.1 = k)) = ds.any fun kv => decide (kv.1 = k)
  | _, _, _, .nil => rfl
  | _, _, k, .cons _ t => by rw [List.any_cons, List.any_cons, RepK.any k t]
theorem RepK.app : ∀ {vs ws : List (Key × V)} {ds es : List (Key × D)}, RepK K F vs ds → RepK K F ws es → RepK K F (vs ++ ws) (ds ++ es)
  | _, _, _, _, .nil, s => s
  | _, _, _, _, .cons r t, s => .cons r (RepK.app t s)
theorem RepK.repl {v : V} {d : D} (k : Key) (r : Rep K F v d) : ∀ {vs : List (Key × V)} {ds : List (Key × D)}, RepK K F vs ds → RepK K F (vs.map fun kv => if kv.1 = k then (kv.1, v) else kv) (ds.map fun kv => if kv.1 = k then (kv.1, d) else kv)
  | _, _, .nil => .nil
  | _, _, .cons (k := j) q t => by
    rw [List.map_cons, List.map_cons]
    by_cases e : j = k
    · simp only [e, if_true]; exact .cons r (RepK.repl k r t)
    · simp only [e, if_false]; exact .cons q (RepK.repl k r t)
theorem RepK.put {v : V} {d : D} {vs : List (Key × V)} {ds : List (Key × D)} (h : RepK K F vs ds) (k : Key) (r : Rep K F v d) : RepK K F (putK vs k v) (putD ds k d) := by
  unfold putK putD
  rw [h.any k]
  split
  · exact h.repl k r
  · exact h.app (.cons r .nil)
theorem RepK.drop : ∀ {vs : List (Key × V)} {ds : List (Key × D)} (k : Key), RepK K F vs ds → RepK K F (dropK vs k) (dropD ds k)
  | _, _, _, .nil => .nil
  | _, _, k, .cons (k := j) q t => by
    have ih := RepK.drop k t
    unfold dropK dropD at ih ⊢
    rw [List.filter_cons, List.filter_cons]
    by_cases e : j = k
    · simp only [e, ne_eq, not_true_eq_false, decide_false, Bool.false_eq_true, if_false]; exact ih
    · simp only [e, ne_eq, not_false_eq_true, decide_true, if_true]; exact .cons q ih
theorem RepK.val : ∀ {vs : List (Key × V)} {ds : List (Key × D)} (k : Key), RepK K F vs ds → (valK ds k = none ∧ valV vs k = none) ∨ ∃ d v, valK ds k = some d ∧ valV vs k = some v ∧ Rep K F v d
  | _, _, _, .nil => .inl ⟨rfl, rfl⟩
  | _, _, k, .cons (k := j) q t => by
    unfold valK valV
    rw [List.find?_cons, List.find?_cons]
    by_cases e : j = k
    · simp only [e, decide_true]; exact .inr ⟨_, _, rfl, rfl, q⟩
    · simp only [e, decide_false]; exact RepK.val k t
end
def dcB (tg : D → S → Option S) (cond : M Bool) (kx vx : M D) (d : D) (s : S) : Res (Option (Key × D)) := match tg d s with
  | none => .bad
  | some s1 => match cond s1 with
    | .ok false s2 => .ok none s2
    | .ok true s2 => (match kx s2 with
      | .ok y s3 => (match asK y with
        | none => .bad
        | some k => (match vx s3 with
          | .ok z s4 => .ok (some (k, z)) s4
          | _ => .bad))
      | _ => .bad)
    | _ => .bad
def dcL (vs : List Nat) (tg : D → S → Option S) (cond : M Bool) (kx vx : M D) : List D → List (Key × D) → S → Res (List (Key × D))
  | [], acc, s => .ok acc s
  | d :: ds, acc, s => match dcB tg cond kx vx d s with
    | .ok none s1 => dcL vs tg cond kx vx ds acc (wipeS s1 vs)
    | .ok (some (k, z)) s1 => dcL vs tg cond kx vx ds (putD acc k z) (wipeS s1 vs)
    | _ => .bad
def dcE (vs : List Nat) (s0 : S) : Res (List (Key × D)) → Res D
  | .ok acc s2 => .ok (.dct acc) (unwS s0 s2 vs)
  | _ => .bad
def mDc (vs : List Nat) (mi : M (List D)) (tg : D → S → Option S) (cond : M Bool) (kx vx : M Vl) : M D := bnd mi fun ds s1 => if ds.length ≤ sizeLine then dcE vs s1 (dcL vs tg cond (fzD kx) (fzD vx) ds [] (wipeS s1 vs)) else .bad
section
variable {X : Cx} {W : WX}
end
end Dl
namespace Dl
open PySem PySem.Spec PyProof.Rows L2 He Lp
theorem opR_or {X : Cx} {f : Value → Value → Sem Value} {r r' : R2} (h : OpR X f r) (h' : OpR X f r') : OpR X f (fun x y H Q => r x y H Q ∨ r' x y H Q) := fun pins s σ H x y v u Q I rx ry q => q.elim (h pins s σ H x y v u Q I rx ry) (h' pins s σ H x y v u Q I rx ry)
theorem callR_or {X : Cx} {f : Value} {r r' : List V → Hp → VK → Prop} (h : CallR X f r) (h' : CallR X f r') : CallR X f (fun xs H Q => r xs H Q ∨ r' xs H Q) := fun pins s σ H xs us Q I rx q => q.elim (h pins s σ H xs us Q I rx) (h' pins s σ H xs us Q I rx)
section
variable {K : PySem.W.Frag} {F H : Hp} {x y : V} {Q : VK}
theorem nr_id {d : D} {v : V} (hs : SubH F H) (k : ∀ v H', Same H H' → Nr K F H H' v d → Q v H') (r : Rep K F v d) : Q v H := k v H (fun _ _ e => e) (Nr.old hs r)
theorem nr_new {d : D} {o : HO} (hs : SubH F H) (k : ∀ v H', Same H H' → Nr K F H H' v d → Q v H') (nd : ∀ k, d ≠ .dct k) (c : ∀ p H', H p = none → Same H H' → H' p = some o → Nc K F H H' p d) : ∀ p, H p = none → Q (.ref p) (upd H p o) := fun p hp => by
  have hS : Same H (upd H p o) := fun b u e => by rw [upd_ne (ne_of_none e hp)]; exact e
  exact k _ _ hS ((c p _ hp hS upd_same).nr nd)
end
def addD : D → D → Option D
  | .int i, .int j => some (.int (i + j))
  | .str a, .str b => if a.length + b.length ≤ sizeLine then some (.str (a ++ b)) else none
  | .lst a, .lst b => if a.length + b.length ≤ sizeLine then some (.lst (a ++ b)) else none
  | .tup a, .tup b => if a.length + b.length ≤ sizeLine then some (.tup (a ++ b)) else none
  | _, _ => none
def rAddD (K : PySem.W.Frag) : R2 := fun x y H Q => ((rI0 fun i j => .int (i + j)) x y H Q ∨ (∃ i j, x = .str i ∧ y = .str j ∧ i.length + j.length ≤ sizeLine ∧ Q (.str (i ++ j)) H)) ∨ (rCat x y H Q ∨ rCatA K x y H Q)
theorem op_addD {X : Cx} : OpR X (binaryOp .Add) (rAddD X.K) := opR_or (opR_or op_add op_add_str) (opR_or op_cat op_catA)
theorem addD_ok {K : PySem.W.Frag} : OpD K (rAddD K) addD := fun F H x y a b d Q hs va vb e k => by
  unfold addD at e
  split at e
  · cases e; exact .inl (.inl ⟨_, _, view_int va, view_int vb, nr_id hs k (.int _)⟩)
  · split at e
    · rename_i hl; cases e; exact .inl (.inr ⟨_, _, view_str va, view_str vb, hl, nr_id hs k (.str _)⟩)
    · cases e
  · split at e
    · rename_i hl
      cases e
      obtain ⟨p, vs, rfl, h1, r1⟩ := view_lst hs va
      obtain ⟨q, ws, rfl, h2, r2⟩ := view_lst hs vb
      exact .inr (.inl ⟨p, q, vs, ws, rfl, rfl, h1, h2, by rw [r1.len, r2.len]; exact hl, nr_new hs k (fun _ z => nomatch z) fun p H' a b c => Nc.lst hs a b c (r1.app r2)⟩)
    · cases e
  · split at e
    · rename_i hl
      cases e
      obtain ⟨p, vs, rfl, h1, r1⟩ := view_tup hs va
      obtain ⟨q, ws, rfl, h2, r2⟩ := view_tup hs vb
      refine .inr (.inr ⟨p, q, vs, ws, rfl, rfl, h1, h2, by rw [r1.len, r2.len]; exact hl, fun z => ?_, fun z w => ?_, fun z w => nr_new hs k (fun _ z => nomatch z) fun p H' a b c => Nc.tup hs a b c (r1.app r2)⟩)
      · subst z
        cases r1
        rw [List.nil_append] at k
        exact nr_id hs k (view_tupR vb)
      · subst w
        cases r2
        rw [List.append_nil] at k
        exact nr_id hs k (view_tupR va)
    · cases e
  · cases e
def subD : D → D → Option D
  | .int i, .int j => some (.int (i - j))
  | _, _ => none
theorem subD_ok {K : PySem.W.Frag} : OpD K (rI0 fun i j => .int (i - j)) subD := fun F H x y a b d Q hs va vb e k => by
  unfold subD at e
  split at e
  · cases e; exact ⟨_, _, view_int va, view_int vb, nr_id hs k (.int _)⟩
  · cases e
def repS (x : Str) (n : Int) : Str := ⟨(List.replicate n.toNat x.cps.toList).flatten.toArray⟩
def rMulS : R2 := fun x y H Q => ∃ a n, x = .str a ∧ y = .int n ∧ 0 ≤ n ∧ n ≤ 1000 ∧ a.length ≤ 1000 ∧ Q (.str (repS a n)) H
theorem repS_one (x : Str) : repS x 1 = x := by
  unfold repS
  simp
theorem repS_cps (x : Str) (n : Nat) : (⟨(List.replicate n x.cps).foldl (· ++ ·) #[]⟩ : Str) = ⟨(List.replicate n x.cps.toList).flatten.toArray⟩ := by
  have h : ∀ (n : Nat) (acc : Array Nat), (List.replicate n x.cps).foldl (· ++ ·) acc = acc ++ (List.replicate n x.cps.toList).flatten.toArray := by
    intro n
    induction n with
    | zero => intro acc; simp
    | succ n ih =>
      intro acc
      rw [List.replicate_succ, List.foldl_cons, ih, List.replicate_succ, List.flatten_cons]
      apply Array.toList_inj.mp
      simp
  rw [h]
  simp
theorem op_mulS {X : Cx} : OpR X (binaryOp .Mult) rMulS := by
  intro pins s σ H x y v u Q I rx ry h
  obtain ⟨a, n, rfl, rfl, h0, h1, hl, q⟩ := h
  obtain ⟨t, rfl⟩ := rx
  obtain ⟨t', rfl⟩ := ry
  have hm : a.length * n.toNat ≤ 1000 * 1000 := Nat.mul_le_mul hl (by omega)
  refine PySem.P.mul_str (by rw [decide_eq_false (by omega), decide_eq_false (by omega)]; rfl) (fun _ _ => ?_) (fun _ _ => ?_) ?_
  · have : (1000 : Int) ≤ (2 ^ 63 - 1) / n := by
      rw [Int.le_ediv_iff_mul_le (by omega)]
      omega
    omega
  · unfold Builtin.Str.tooLong
    exact decide_eq_false (by rw [sizeLine_eq]; omega)
  · split
    · have e : n = 0 := by omega
      subst e
      exact ⟨by decide, .str _, H, I.tok _, ⟨_, by rfl⟩, q⟩
    · split
      · rename_i hz
        rcases Bool.or_eq_true_iff.mp hz with z | z
        · have z : n = 1 := by simpa using z
          subst z
          rw [repS_one] at q
          exact ⟨.str _, H, I, ⟨_, rfl⟩, q⟩
        · have z : a.length = 0 := by simpa using z
          have e : a.cps.toList = [] := List.eq_nil_of_length_eq_zero (by rw [Array.length_toList]; exact z)
          have e2 : repS a n = a := by
            unfold repS
            rw [e]
            obtain ⟨c⟩ := a
            simp at e
            subst e
            simp
          rw [e2] at q
          exact ⟨.str _, H, I, ⟨_, rfl⟩, q⟩
      · refine ⟨?_, .str _, H, I.tok _, ⟨_, rfl⟩, ?_⟩
        · rw [repS_cps]
          show (List.replicate n.toNat a.cps.toList).flatten.toArray.size ≤ _
          rw [List.size_toArray, PyProof.Rows.lm_len_rep_flat, Array.length_toList, Nat.mul_comm, sizeLine_eq]
          have : a.cps.size * n.toNat ≤ 1000 * 1000 := hm
          omega
        · rw [repS_cps]; exact q
end Dl
namespace Dl
open PySem PySem.Spec PyProof.Rows L2 He Lp
def mulD : D → D → Option D
  | .int i, .int j => if (-(2 ^ 64) < i ∧ i < 2 ^ 64) ∨ (-(2 ^ 64) < j ∧ j < 2 ^ 64) then some (.int (i * j)) else none
  | .str a, .int n => if 0 ≤ n ∧ n ≤ 1000 ∧ a.length ≤ 1000 then some (.str (repS a n)) else none
  | .lst a, .int n => if -(2 ^ 63) ≤ n ∧ n < 2 ^ 63 ∧ a.length * n.toNat ≤ sizeLine then some (.lst (List.replicate n.toNat a).flatten) else none
  | _, _ => none
def rMulD : R2 := fun x y H Q => ((L2.rI CMul fun i j => .int (i * j)) x y H Q ∨ rMulS x y H Q) ∨ rRep x y H Q
theorem op_mulD {X : Cx} : OpR X (binaryOp .Mult) rMulD := opR_or (opR_or op_mul op_mulS) op_rep
theorem Reps.rep {K : PySem.W.Frag} {F : Hp} {vs : List V} {ds : List D} (r : Reps K F vs ds) : ∀ n : Nat, Reps K F (List.replicate n vs).flatten (List.replicate n ds).flatten
  | 0 => .nil
  | n + 1 => by
    rw [List.replicate_succ, List.replicate_succ, List.flatten_cons, List.flatten_cons]
    exact r.app (r.rep n)
theorem mulD_ok {K : PySem.W.Frag} : OpD K rMulD mulD := fun F H x y a b d Q hs va vb e k => by
  unfold mulD at e
  split at e
  · split at e
    · rename_i h; cases e; exact .inl (.inl ⟨_, _, view_int va, view_int vb, h, nr_id hs k (.int _)⟩)
    · cases e
  · split at e
    · rename_i h; cases e; exact .inl (.inr ⟨_, _, view_str va, view_int vb, h.1, h.2.1, h.2.2, nr_id hs k (.str _)⟩)
    · cases e
  · split at e
    · rename_i h
      cases e
      obtain ⟨p, vs, rfl, h1, r1⟩ := view_lst hs va
      exact .inr ⟨p, _, vs, rfl, view_int vb, h1, h.1, h.2.1, by rw [r1.len]; exact h.2.2, nr_new hs k (fun _ z => nomatch z) fun p H' a b c => Nc.lst hs a b c (r1.rep _)⟩
    · cases e
  · cases e
theorem log2_lt {j : Int} (h0 : 0 < j) (h1 : j < 2 ^ 100) : j.natAbs.log2 < 9000 := by
  have h : j.natAbs < 2 ^ 100 := by omega
  have : j.natAbs.log2 < 100 := (Nat.log2_lt (by omega)).mpr h
  omega
def fdivD : D → D → Option D
  | .int i, .int j => if 0 < j ∧ j < 2 ^ 100 then some (.int (i / j)) else none
  | _, _ => none
theorem fdivD_ok {K : PySem.W.Frag} : OpD K (L2.rI CDivW fun i j => .int (i / j)) fdivD := fun F H x y a b d Q hs va vb e k => by
  unfold fdivD at e
  split at e
  · split at e
    · rename_i h; cases e; exact ⟨_, _, view_int va, view_int vb, ⟨h.1, log2_lt h.1 h.2⟩, nr_id hs k (.int _)⟩
    · cases e
  · cases e
def modD : D → D → Option D
  | .int i, .int j => if 0 < j then some (.int (i % j)) else none
  | _, _ => none
theorem modD_ok {K : PySem.W.Frag} : OpD K (L2.rI (fun _ j => 0 < j) fun i j => .int (i % j)) modD := fun F H x y a b d Q hs va vb e k => by
  unfold modD at e
  split at e
  · split at e
    · rename_i h; cases e; exact ⟨_, _, view_int va, view_int vb, h, nr_id hs k (.int _)⟩
    · cases e
  · cases e
def powD : D → D → Option D
  | .int i, .int j => if 0 ≤ j ∧ j ≤ 1000000 ∧ i.natAbs < 2 ^ 64 then some (.int (i ^ j.toNat)) else none
  | _, _ => none
theorem powD_ok {K : PySem.W.Frag} : OpD K (L2.rI CPow fun i j => .int (i ^ j.toNat)) powD := fun F H x y a b d Q hs va vb e k => by
  unfold powD at e
  split at e
  · split at e
    · rename_i h; cases e; exact ⟨_, _, view_int va, view_int vb, h, nr_id hs k (.int _)⟩
    · cases e
  · cases e
def sLt (a b : Str) : Bool := decide (a.cps.toList < b.cps.toList)
def ltD : D → D → Option D
  | .int i, .int j => some (.bl (decide (i < j)))
  | .str a, .str b => some (.bl (sLt a b))
  | _, _ => none
def leD : D → D → Option D
  | .int i, .int j => some (.bl (decide (i ≤ j)))
  | .str a, .str b => some (.bl (!sLt b a))
  | _, _ => none
def gtD : D → D → Option D
  | .int i, .int j => some (.bl (decide (j < i)))
  | .str a, .str b => some (.bl (sLt b a))
  | _, _ => none
def geD : D → D → Option D
  | .int i, .int j => some (.bl (decide (j ≤ i)))
  | .str a, .str b => some (.bl (!sLt a b))
  | _, _ => none
def rOrd (f : Int → Int → Bool) (g : Str → Str → Bool) : R2 := fun x y H Q => (rI0 fun i j => .bl (f i j)) x y H Q ∨ (∃ i j, x = .str i ∧ y = .str j ∧ Q (.bl (g i j)) H)
theorem op_ltD {X : Cx} : OpR X (compareOp .Lt) (rOrd (fun i j => decide (i < j)) sLt) := opR_or op_lt op_lt_str
theorem op_gtD {X : Cx} : OpR X (compareOp .Gt) (rOrd (fun i j => decide (j < i)) (fun a b => sLt b a)) := opR_or op_gt op_gt_str
theorem op_geD {X : Cx} : OpR X (compareOp .GtE) (rOrd (fun i j => decide (j ≤ i)) (fun a b => !sLt a b)) := opR_or op_ge op_ge_str
theorem ltD_ok {K : PySem.W.Frag} : OpD K (rOrd (fun i j => decide (i < j)) sLt) ltD := fun F H x y a b d Q hs va vb e k => by
  unfold ltD at e
  split at e
  · cases e; exact .inl ⟨_, _, view_int va, view_int vb, nr_id hs k (.bl _)⟩
  · cases e; exact .inr ⟨_, _, view_str va, view_str vb, nr_id hs k (.bl _)⟩
  · cases e
theorem gtD_ok {K : PySem.W.Frag} : OpD K (rOrd (fun i j => decide (j < i)) (fun a b => sLt b a)) gtD := fun F H x y a b d Q hs va vb e k => by
  unfold gtD at e
  split at e
  · cases e; exact .inl ⟨_, _, view_int va, view_int vb, nr_id hs k (.bl _)⟩
  · cases e; exact .inr ⟨_, _, view_str va, view_str vb, nr_id hs k (.bl _)⟩
  · cases e
theorem geD_ok {K : PySem.W.Frag} : OpD K (rOrd (fun i j => decide (j ≤ i)) (fun a b => !sLt a b)) geD := fun F H x y a b d Q hs va vb e k => by
  unfold geD at e
  split at e
  · cases e; exact .inl ⟨_, _, view_int va, view_int vb, nr_id hs k (.bl _)⟩
  · cases e; exact .inr ⟨_, _, view_str va, view_str vb, nr_id hs k (.bl _)⟩
  · cases e
mutual
def toPy : D → Option PyData
  | .non => some .none
  | .bl b => some (.bool b)
  | .int i => some (.int i)
  | .str x => some (.str x)
  | .lst ds => (toPys ds).map .list
  | .rol ds => (toPys ds).map .list
  | .tup ds => (toPys ds).map .tuple
  | _ => none
def toPys : List D → Option (List PyData)
  | [] => some []
  | d :: ds => match toPy d, toPys ds with
    | some p, some ps => some (p :: ps)
    | _, _ => none
end
mutual
theorem toPy_rep {K : PySem.W.Frag} {F H : Hp} (hs : SubH F H) : ∀ {d : D} {v : V} {p : PyData}, Rep K F v d → toPy d = some p → Dp K H v p
  | .non, _, _, .non, e => by cases e; exact .non
  | .bl b, _, _, .bl _, e => by cases e; exact .bl b
  | .int i, _, _, .int _, e => by cases e; exact .int i
  | .str x, _, _, .str _, e => by cases e; exact .str x
  | .lst ds, _, _, .lst q r, e => by
    cases h : toPys ds with
    | none => simp only [toPy, h] at e; cases e
    | some ps => simp only [toPy, h] at e; cases e; exact .lst (.of (hs _ _ q)) (toPys_rep hs r h)
  | .rol ds, _, _, .rol q r, e => by
    cases h : toPys ds with
    | none => simp only [toPy, h] at e; cases e
    | some ps => simp only [toPy, h] at e; cases e; exact .lst (hs.sqL q) (toPys_rep hs r h)
  | .tup ds, _, _, .tup q r, e => by
    cases h : toPys ds with
    | none => simp only [toPy, h] at e; cases e
    | some ps => simp only [toPy, h] at e; cases e; exact .tup (hs.sqT q) (toPys_rep hs r h)
  | .dct _, _, _, _, e => by simp only [toPy] at e; cases e
  | .obj _ _, _, _, _, e => by simp only [toPy] at e; cases e
  | .fn _, _, _, _, e => by simp only [toPy] at e; cases e
  | .emp, _, _, _, e => by simp only [toPy] at e; cases e
theorem toPys_rep {K : PySem.W.Frag} {F H : Hp} (hs : SubH F H) : ∀ {ds : List D} {vs : List V} {ps : List PyData}, Reps K F vs ds → toPys ds = some ps → DpAll K H vs ps
  | [], _, _, .nil, e => by cases e; exact .nil
  | d :: ds, _, _, .cons r t, e => by
    cases h : toPy d with
    | none => simp only [toPys, h] at e; cases e
    | some p =>
      cases h2 : toPys ds with
      | none => simp only [toPys, h, h2] at e; cases e
      | some ps =>
        simp only [toPys, h, h2] at e
        cases e
        exact .cons (toPy_rep hs r h) (toPys_rep hs t h2)
end
theorem toPy_view {K : PySem.W.Frag} {F H : Hp} (hs : SubH F H) {d : D} {v : V} {p : PyData} (h : View K F H v d) (e : toPy d = some p) : Dp K H v p := by
  rcases h with h | ⟨a, rfl, c, nt⟩
  · exact toPy_rep hs h e
  · cases d with
    | lst ds =>
      obtain ⟨vs, q, r⟩ := c
      cases h : toPys ds with
      | none => simp only [toPy, h] at e; cases e
      | some ps => simp only [toPy, h] at e; cases e; exact .lst (.of q) (toPys_rep hs r h)
    | tup ds => exact absurd rfl (nt ds)
    | dct _ => simp only [toPy] at e; cases e
    | obj _ _ => simp only [toPy] at e; cases e
    | _ => exact c.elim
def pyEq (a b : D) : Option Bool := match toPy a, toPy b with
  | some p, some q => if SeqAt.shaped p = true ∧ SeqAt.shaped q = true then some (PyData.eqv p q) else none
  | _, _ => none
theorem pyEq_some {a b : D} {c : Bool} (h : pyEq a b = some c) : ∃ p q, toPy a = some p ∧ toPy b = some q ∧ SeqAt.shaped p = true ∧ SeqAt.shaped q = true ∧ PyData.eqv p q = c := by
  unfold pyEq at h
  cases h1 : toPy a with
  | none => rw [h1] at h; cases h
  | some p =>
    cases h2 : toPy b with
    | none => rw [h1, h2] at h; cases h
    | some q =>
      rw [h1, h2] at h
      simp only at h
      split at h
      · rename_i hh; cases h; exact ⟨p, q, rfl, rfl, hh.1, hh.2, rfl⟩
      · cases h
end Dl
namespace Dl
open PySem PySem.Spec PyProof.Rows L2 He Lp
section
variable {K : PySem.W.Frag}
def seqOf : D → Option (List D)
  | .lst ds => some ds
  | .rol ds => some ds
  | .tup ds => some ds
  | _ => none
theorem view_seq {F H : Hp} {x : V} {b : D} {ds : List D} (hs : SubH F H) (v : View K F H x b) (e : seqOf b = some ds) : ∃ p vs, x = .ref p ∧ (SqL K H p vs ∨ SqT K H p vs) ∧ Reps K F vs ds := by
  cases b with
  | lst l => cases e; obtain ⟨a, vs, h1, h2, h3⟩ := view_lst hs v; exact ⟨a, vs, h1, .inl (.of h2), h3⟩
  | rol l => cases e; obtain ⟨a, vs, h1, h2, h3⟩ := view_rol hs v; exact ⟨a, vs, h1, .inl h2, h3⟩
  | tup l => cases e; obtain ⟨a, vs, h1, h2, h3⟩ := view_tup hs v; exact ⟨a, vs, h1, .inr h2, h3⟩
  | _ => cases e
def ixSeq (b : D) (ds : List D) : Option D := match b with
  | .int i => atI ds i
  | _ => none
def ixD (a b : D) : Option D := match a with
  | .str z => (match b with
    | .int i => if z.length ≤ sizeLine then (atI z.cps.toList i).map fun c => .str ⟨#[c]⟩ else none
    | _ => none)
  | .dct kds => (asK b).bind fun k => valK kds k
  | a => (seqOf a).bind (ixSeq b)
def rIxA (K : PySem.W.Frag) : R2 := fun x y H Q => rIx K x y H Q ∨ (∃ a v, x = .ref a ∧ DGet H a y (some v) ∧ Q v H)
theorem ix_A {X : Cx} (hu : X.A.units + 64 < cLine) : IxR X (rIxA X.K) := ix_seq.or fun value slice pins s σ H x y v u Q I rx ry h hs => by
  obtain ⟨a, w, rfl, g, q⟩ := h
  obtain rfl : v = Value.ref a := rx
  exact tail_any (dict_typeIs I g) PySem.F.slot_dict_getitem.lookup (d_getItem (by omega) I g ry fun w' s3 I3 rw' => ⟨w, H, I3, rw', q⟩) hs
theorem Reps.atI {F : Hp} {vs : List V} {ds : List D} {i : Int} {d : D} (r : Reps K F vs ds) (e : L2.atI ds i = some d) : ∃ v, L2.atI vs i = some v ∧ Rep K F v d := by
  unfold L2.atI at e ⊢
  rw [r.len]
  cases h : ixN ds.length i with
  | none => rw [h] at e; cases e
  | some j => rw [h] at e; exact r.get e
theorem ixD_ok : OpD K (rIxA K) ixD := fun F H x y a b d Q hs va vb e k => by
  have seq : ∀ ds, seqOf a = some ds → ixSeq b ds = some d → rIxA K x y H Q := fun ds h1 h2 => by
    cases b with
    | int i =>
      have h2 : atI ds i = some d := h2
      obtain ⟨p, vs, rfl, q, r⟩ := view_seq hs va h1
      obtain ⟨v, e1, rv⟩ := r.atI h2
      rcases q with q | q
      · exact .inl (.inl ⟨p, vs, i, v, rfl, view_int vb, q, e1, nr_id hs k rv⟩)
      · exact .inl (.inr (.inl ⟨p, vs, i, v, rfl, view_int vb, q, e1, nr_id hs k rv⟩))
    | _ => cases h2
  cases a with
  | str z =>
    cases b with
    | int i =>
      simp only [ixD] at e
      split at e
      · rename_i hl
        cases h : atI z.cps.toList i with
        | none => rw [h] at e; cases e
        | some c => rw [h] at e; cases e; exact .inl (.inr (.inr ⟨z, i, c, view_str va, view_int vb, hl, h, nr_id hs k (.str _)⟩))
      · cases e
    | _ => cases e
  | dct kds =>
    cases h : asK b with
    | none => simp only [ixD, h] at e; cases e
    | some kk =>
      have e2 : valK kds kk = some d := by simpa only [ixD, h, Option.bind_some] using e
      obtain rfl := asK_some h
      obtain ⟨p, vs, rfl, q, r⟩ := view_dct hs va
      rcases r.val kk with ⟨h1, h2⟩ | ⟨d', v, h1, h2, h3⟩
      · rw [h1] at e2; cases e2
      · rw [h1] at e2
        cases e2
        exact .inr ⟨p, v, rfl, .inl ⟨vs, kk, q, view_kD vb, h2.symm⟩, nr_id hs k h3⟩
  | lst l => exact seq l rfl e
  | rol l => exact seq l rfl e
  | tup l => exact seq l rfl e
  | _ => cases e
end
section
variable {X : Cx} {W : WX} {a b : Expr} {pos : Pos}
theorem pd_ix {ma mb : M Vl} (hu : X.A.units + 64 < cLine) (ha : PE X a (rE X.K W ma)) (hb : PE X b (rE X.K W mb)) (hs : PlainIx b := by intro _ _; rfl) : PE X (.Subscript a b pos) (rE X.K W (dV (m2 ixD ma mb))) := pd_opT ixD_ok (pe_ix (ix_A hu) ha hb hs)
end
def cutD (ds : List D) (lo hi : Option Int) : List D := (ds.drop (HT.sIx ds.length 0 lo)).take (HT.sIx ds.length ds.length hi - HT.sIx ds.length 0 lo)
section
variable {X : Cx} {W : WX} {e : Expr} {lo hi : Option Expr} {pos p2 : Pos}
theorem Reps.cut {K : PySem.W.Frag} {F : Hp} {vs : List V} {ds : List D} (r : Reps K F vs ds) (lo hi : Option Int) : Reps K F (cutV vs lo hi) (cutD ds lo hi) := by
  unfold cutV cutD
  rw [r.len]
  exact (r.drop _).take _
end
end Dl
namespace Dl
open PySem PySem.Spec PyProof.Rows L2 He Lp
section
variable {X : Cx} {W : WX} {x : Str} {p pos apos cpos : Pos} {e o : Expr} {es : List Expr} {id T : String} {r : List V → Hp → VK → Prop} {f : List D → Option D} {ms : M (List Vl)} {name : Str}
theorem pd_callB (hc : CallR X (.builtin id) r) (hf : CallD X.K r f) (hm : X.mg x = none) (hv : bootBuiltins x = some (.builtin id)) (ha : PA X (e :: es) (rA X.K W ms)) (hg : Gl X x := by rfl) (hn : x ≠ "__name__" := by decide) (hdb : (x == ("__debug__" : Str)) = false := by decide)
    (he : starEach (e :: es) X.env = (false, eval e X.env) :: starEach es X.env := by rfl) (hpl : (backTo pos (starEach es X.env)).any (·.1) = false := by rfl) : PE X (.Call (.Name x p) (e :: es) [] pos) (rE X.K W (dV (mCall f ms))) :=
  pd_callT hf (pe_callB hc hg hm hv ha hn hdb he hpl)
theorem pd_callTy (hc : CallR X (.type T) r) (hf : CallD X.K r f) (hm : X.mg x = none) (hv : bootBuiltins x = some (.type T)) (ha : PA X (e :: es) (rA X.K W ms)) (hg : Gl X x := by rfl) (hn : x ≠ "__name__" := by decide) (hdb : (x == ("__debug__" : Str)) = false := by decide)
    (he : starEach (e :: es) X.env = (false, eval e X.env) :: starEach es X.env := by rfl) (hpl : (backTo pos (starEach es X.env)).any (·.1) = false := by rfl) : PE X (.Call (.Name x p) (e :: es) [] pos) (rE X.K W (dV (mCall f ms))) :=
  pd_callT hf (pe_callTy hc hg hm hv ha hn hdb he hpl)
def isTy : String → D → Bool
  | "list", .lst _ => true
  | "dict", .dct _ => true
  | _, _ => false
def owS (T : String) : Option Sl → Bool
  | some (.ow _ d) => isTy T d
  | _ => false
def mutS (f : D → List D → Option (D × D)) (i : Nat) (ds : List D) (s : S) : Option Sl → Res Vl
  | some (.ow b d) => match f d ds with
    | some (d', q) => .ok (.d q) (s.set i (.ow b d'))
    | none => .bad
  | _ => .bad
def mMut (T : String) (f : D → List D → Option (D × D)) (i : Nat) (ms : M (List D)) : M Vl := fun s => if owS T s[i]? = true then bndR (ms s) fun ds s1 => mutS f i ds s1 s1[i]? else .bad
end
theorem sdx_of {H H' : Hp} {a : Addr} {o : HO} (e : H' a = some o) (h : ∀ C dx fs, o ≠ .ins C dx fs) : Sdx H H' a := fun C dx fs z => by rw [e] at z; cases z; exact absurd rfl (h C dx fs)
def appD : D → List D → Option (D × D)
  | .lst ds, [y] => if ds.length < sizeLine then some (.lst (ds ++ [y]), .non) else none
  | _, _ => none
end Dl
namespace Dl
open PySem PySem.Spec PyProof.Rows L2 He Lp
inductive RF where
  | rt (d : D) (outs : List D) | exc (x : Xc) (outs : List D) | bad
def Arg (K : PySem.W.Frag) (F H : Hp) (io : Bool) (v : V) (d : D) : Prop := if io = true then ∃ a, v = .ref a ∧ F a = none ∧ Ct K F H a d else Rep K F v d
inductive ArgsR (K : PySem.W.Frag) (F H : Hp) : List Bool → List V → List D → Prop
  | nil : ArgsR K F H [] [] []
  | cons {b : Bool} {v : V} {d : D} {bs : List Bool} {vs : List V} {ds : List D} : Arg K F H b v d → ArgsR K F H bs vs ds → ArgsR K F H (b :: bs) (v :: vs) (d :: ds)
inductive OutsR (K : PySem.W.Frag) (F H : Hp) : List Bool → List V → List D → Prop
  | nil {vs : List V} {ds : List D} : OutsR K F H [] vs ds
  | io {a : Addr} {d : D} {bs : List Bool} {vs : List V} {ds : List D} : F a = none → Ct K F H a d → OutsR K F H bs vs ds → OutsR K F H (true :: bs) (.ref a :: vs) (d :: ds)
  | no {v : V} {bs : List Bool} {vs : List V} {ds : List D} : OutsR K F H bs vs ds → OutsR K F H (false :: bs) (v :: vs) ds
def ios : List Bool → List V → List Addr
  | true :: bs, .ref a :: vs => a :: ios bs vs
  | _ :: bs, _ :: vs => ios bs vs
  | _, _ => []
structure Post (K : PySem.W.Frag) (ms : List Bool) (vs : List V) (H F H' F' : Hp) (outs : List D) : Prop where
  f : Sub F F'
  s : SubH F' H'
  n : ∀ a o, F' a = some o → F a = some o ∨ H a = none
  k : Kp (ios ms vs) H H'
  x : ∀ a ∈ ios ms vs, Sdx H H' a
  o : OutsR K F' H' ms vs outs
def PoR (K : PySem.W.Frag) (ms : List Bool) (vs : List V) (H F : Hp) (Q : VK) (E : XK) : RF → Prop
  | .rt r outs => ∀ v H' F', Post K ms vs H F H' F' outs → Rep K F' v r → Q v H'
  | .exc x outs => ∀ cls d H' F', Post K ms vs H F H' F' outs → ERep K F' x cls d → E cls d H'
  | .bad => False
def spD (K : PySem.W.Frag) (ms : List Bool) (sem : List D → RF) : Sp := fun vs H Q E => ∃ F ds, SubH F H ∧ ArgsR K F H ms vs ds ∧ (ios ms vs).Nodup ∧ PoR K ms vs H F Q E (sem ds)
theorem ArgsR.len {K : PySem.W.Frag} {F H : Hp} : ∀ {ms : List Bool} {vs : List V} {ds : List D}, ArgsR K F H ms vs ds → vs.length = ms.length ∧ ds.length = ms.length
  | _, _, _, .nil => ⟨rfl, rfl⟩
  | _, _, _, .cons _ t => by
    obtain ⟨a, b⟩ := ArgsR.len t
    exact ⟨by rw [List.length_cons, List.length_cons, a], by rw [List.length_cons, List.length_cons, b]⟩
def slot1 (b : Bool) (d : D) : Sl := if b = true then .ow false d else .fz d
def startS (n : Nat) (ms : List Bool) (ds : List D) : S := List.zipWith slot1 ms ds ++ List.replicate (n - ds.length) .no
def outsOf : List Bool → S → Option (List D)
  | [], _ => some []
  | true :: bs, .ow false d :: s => (outsOf bs s).map (d :: ·)
  | false :: bs, _ :: s => outsOf bs s
  | _, _ => none
def endF (ms : List Bool) : RS → RF
  | .nx s => match outsOf ms s with
    | some l => .rt .non l
    | none => .bad
  | .rt d s => (match outsOf ms s with
    | some l => .rt d l
    | none => .bad)
  | .exc x s => (match outsOf ms s with
    | some l => .exc x l
    | none => .bad)
  | _ => .bad
def runF (n : Nat) (ms : List Bool) (m : MS) (ds : List D) : RF := endF ms (m (startS n ms ds))
section
variable {K : PySem.W.Frag} {F H : Hp} {ms : List Bool} {vs : List V} {ds : List D}
theorem ArgsR.at : ∀ {ms : List Bool} {vs : List V} {ds : List D} (i : Nat) (b : Bool) (d : D), ArgsR K F H ms vs ds → ms[i]? = some b → ds[i]? = some d → ∃ v, vs[i]? = some v ∧ Arg K F H b v d
  | _, _, _, _, _, _, .nil, e, _ => by simp at e
  | _, _, _, 0, _, _, .cons a _, e, e' => by simp at e e'; subst e e'; exact ⟨_, rfl, a⟩
  | _, _, _, i + 1, b, d, .cons _ t, e, e' => by simpa using ArgsR.at i b d t (by simpa using e) (by simpa using e')
theorem ios_at : ∀ {ms : List Bool} {vs : List V} {i : Nat} {a : Addr}, ms[i]? = some true → vs[i]? = some (V.ref a) → a ∈ ios ms vs
  | true :: ms, .ref b :: vs, 0, a, _, e => by simp at e; subst e; exact List.mem_cons_self ..
  | m :: ms, v :: vs, i + 1, a, e, e' => by
    have ih := ios_at (i := i) (a := a) (ms := ms) (vs := vs) (by simpa using e) (by simpa using e')
    cases m with
    | true => cases v <;> first | exact List.mem_cons_of_mem _ ih | exact ih
    | false => exact ih
theorem ios_mem : ∀ {ms : List Bool} {vs : List V} {a : Addr}, a ∈ ios ms vs → ∃ i : Nat, ms[i]? = some true ∧ vs[i]? = some (V.ref a)
  | true :: ms, .ref b :: vs, a, h => by
    rcases List.mem_cons.mp h with rfl | h
    · exact ⟨0, rfl, rfl⟩
    · obtain ⟨i, h1, h2⟩ := ios_mem h
      exact ⟨i + 1, by simpa using h1, by simpa using h2⟩
  | true :: ms, .non :: vs, a, h | true :: ms, .bl _ :: vs, a, h | true :: ms, .int _ :: vs, a, h | true :: ms, .str _ :: vs, a, h | true :: ms, .byt _ :: vs, a, h | true :: ms, .flt _ :: vs, a, h | true :: ms, .ty _ :: vs, a, h => by
    obtain ⟨i, h1, h2⟩ := ios_mem (ms := ms) (vs := vs) h
    exact ⟨i + 1, by simpa using h1, by simpa using h2⟩
  | false :: ms, v :: vs, a, h => by
    obtain ⟨i, h1, h2⟩ := ios_mem (ms := ms) (vs := vs) h
    exact ⟨i + 1, by simpa using h1, by simpa using h2⟩
theorem ios_inj : ∀ {ms : List Bool} {vs : List V} {i j : Nat} {a : Addr}, (ios ms vs).Nodup → ms[i]? = some true → ms[j]? = some true → vs[i]? = some (V.ref a) → vs[j]? = some (V.ref a) → i = j
  | [], _, _, _, _, _, e, _, _, _ => by simp at e
  | _ :: _, [], _, _, _, _, _, _, e, _ => by simp at e
  | m :: ms, v :: vs, 0, 0, a, nd, h1, h2, h3, h4 => rfl
  | m :: ms, v :: vs, 0, j + 1, a, nd, h1, h2, h3, h4 => by
    simp at h1 h3
    subst h1 h3
    have h : a ∈ ios ms vs := ios_at (i := j) (by simpa using h2) (by simpa using h4)
    exact absurd h (List.nodup_cons.mp nd).1
  | m :: ms, v :: vs, i + 1, 0, a, nd, h1, h2, h3, h4 => by
    simp at h2 h4
    subst h2 h4
    have h : a ∈ ios ms vs := ios_at (i := i) (by simpa using h1) (by simpa using h3)
    exact absurd h (List.nodup_cons.mp nd).1
  | m :: ms, v :: vs, i + 1, j + 1, a, nd, h1, h2, h3, h4 => by
    have nd' : (ios ms vs).Nodup := by
      cases m with
      | true => cases v <;> first | exact (List.nodup_cons.mp nd).2 | exact nd
      | false => exact nd
    have := ios_inj (i := i) (j := j) (a := a) (ms := ms) (vs := vs) nd' (by simpa using h1) (by simpa using h2) (by simpa using h3) (by simpa using h4)
    omega
theorem startS_get {n i : Nat} {l : Sl} (hl : ms.length = ds.length) (h : (startS n ms ds)[i]? = some l) (hn : l ≠ .no) : ∃ b d, ms[i]? = some b ∧ ds[i]? = some d ∧ l = slot1 b d := by
  unfold startS at h
  by_cases hi : i < (List.zipWith slot1 ms ds).length
  · rw [List.getElem?_append_left hi, List.getElem?_zipWith] at h
    cases e1 : ms[i]? with
    | none => rw [e1] at h; cases h
    | some b =>
      cases e2 : ds[i]? with
      | none => rw [e1, e2] at h; cases h
      | some d => rw [e1, e2] at h; cases h; exact ⟨b, d, rfl, rfl, rfl⟩
  · rw [List.getElem?_append_right (by omega)] at h
    exact absurd (List.eq_of_mem_replicate (List.mem_of_getElem? h)) hn
theorem SR.start {N : List Str} (hs : SubH F H) (A : ArgsR K F H ms vs ds) (nd : (ios ms vs).Nodup) (hN : ms.length ≤ N.length) : SR K ⟨H, F, ios ms vs, fun i => match vs[i]? with | some (V.ref a) => some a | _ => none⟩ [] (L2.start N vs) H F (startS N.length ms ds) := by
  obtain ⟨l1, l2⟩ := A.len
  have gv : ∀ {i : Nat} {v : V}, vs[i]? = some v → (L2.start N vs)[i]? = some (some v) := fun {i v} e => by
    have hi := (List.getElem?_eq_some_iff.mp e).1
    unfold L2.start
    rw [List.getElem?_append_left (by simpa using hi), List.getElem?_map, e]
    rfl
  have ioE : ∀ a ∈ ios ms vs, ∃ d, F a = none ∧ Ct K F H a d := fun a ha => by
    obtain ⟨i, h1, h2⟩ := ios_mem ha
    have hi : i < ds.length := by rw [l2]; exact (List.getElem?_eq_some_iff.mp h1).1
    obtain ⟨v, e, q⟩ := A.at i true ds[i] h1 (List.getElem?_eq_getElem hi)
    rw [h2] at e; cases e
    obtain ⟨a', e', n, c⟩ := q
    cases e'
    exact ⟨_, n, c⟩
  have sl : ∀ (i : Nat) (b : Bool) (d : D), (startS N.length ms ds)[i]? = some (Sl.ow b d) → b = false ∧ ms[i]? = some true ∧ ∃ a, vs[i]? = some (V.ref a) ∧ F a = none ∧ Ct K F H a d := fun i b d e => by
    obtain ⟨m, d', h1, h2, h3⟩ := startS_get l2.symm e (fun z => nomatch z)
    cases m with
    | false => cases h3
    | true =>
      cases h3
      obtain ⟨v, e, q⟩ := A.at i true _ h1 h2
      obtain ⟨a, e', n, c⟩ := q
      exact ⟨rfl, h1, a, by rw [e, e'], n, c⟩
  refine ⟨hs, ?_, fun i d e => ?_, fun i b d e => ?_, fun i j b c d e a h1 h2 h3 h4 => ?_, fun p hp => (nomatch hp), List.nodup_nil, fun p hp => (nomatch hp), fun a o e _ => e, fun a h z => ?_, fun a h z => ?_, fun a h C dx fs e => ⟨C, fs, e⟩, Sub.refl F, hs, fun a o e => .inl e⟩
  · unfold startS L2.start
    rw [List.length_append, List.length_append, List.length_zipWith, List.length_map, List.length_replicate, List.length_replicate]
    omega
  · obtain ⟨m, d', h1, h2, h3⟩ := startS_get l2.symm e (fun z => nomatch z)
    cases m with
    | true => cases h3
    | false =>
      cases h3
      obtain ⟨v, e, q⟩ := A.at i false _ h1 h2
      exact ⟨v, gv e, q⟩
  · obtain ⟨rfl, h1, a, h2, h3, h4⟩ := sl i b d e
    exact ⟨a, gv h2, h4, h3, ios_at h1 h2, by simp only [h2]⟩
  · obtain ⟨_, k1, a1, k2, _⟩ := sl i b d h1
    obtain ⟨_, k3, a2, k4, _⟩ := sl j c e h2
    rw [gv k2] at h3
    rw [gv k4] at h4
    cases h3
    cases h4
    exact ios_inj nd k1 k3 k2 k4
  · obtain ⟨d, _, c⟩ := ioE a h
    obtain ⟨o, ho⟩ := c.ex
    have z : H a = none := z
    rw [ho] at z; cases z
  · obtain ⟨d, _, c⟩ := ioE a h
    obtain ⟨o, ho⟩ := c.ex
    rw [ho] at z; cases z
theorem outs_ok {G : Gd} {σ : L2.St} {s0 : S} {H' F' : Hp} (R : SR K G [] σ H' F' s0) : ∀ (ms : List Bool) (vs : List V) (s : S) (outs : List D) (n : Nat), (∀ i : Nat, s[i]? = s0[i + n]?) → (∀ (i : Nat) (a : Addr), ms[i]? = some true → vs[i]? = some (V.ref a) → G.ix (i + n) = some a) → (∀ i : Nat, ms[i]? = some true → ∃ a, vs[i]? = some (V.ref a)) → ms.length = vs.length → outsOf ms s = some outs → OutsR K F' H' ms vs outs
  | [], _, _, _, _, _, _, _, _, _ => .nil
  | true :: ms, v :: vs, l :: s, outs, n, hs, hx, hr, hl, e => by
    match l, e with
    | .ow false d, e =>
      cases q : outsOf ms s with
      | none => simp only [outsOf, q] at e; cases e
      | some l =>
        simp only [outsOf, q] at e
        cases e
        obtain ⟨a, ha⟩ := hr 0 rfl
        simp at ha
        subst ha
        have e0 : s0[n]? = some (Sl.ow false d) := by
          have := hs 0
          simpa using this.symm
        obtain ⟨a', h1, h2, h3, h4⟩ := R.ow n false d e0
        have h4 : a' ∈ G.io ∧ G.ix n = some a' := h4
        have e1 := hx 0 a rfl rfl
        rw [Nat.zero_add, h4.2] at e1
        cases e1
        exact .io h3 h2 (outs_ok R ms vs s l (n + 1) (fun i => by
          have := hs (i + 1)
          rw [Nat.add_right_comm] at this
          simpa [Nat.add_assoc] using this) (fun i a h1 h2 => by
          have := hx (i + 1) a (by simpa using h1) (by simpa using h2)
          rw [Nat.add_right_comm] at this
          simpa [Nat.add_assoc] using this) (fun i h => by
          obtain ⟨a, ha⟩ := hr (i + 1) (by simpa using h)
          exact ⟨a, by simpa using ha⟩) (by simpa using hl) q)
    | .no, e => cases e
    | .fz _, e => cases e
    | .ow true _, e => cases e
  | false :: ms, v :: vs, l :: s, outs, n, hs, hx, hr, hl, e => .no (outs_ok R ms vs s outs (n + 1) (fun i => by
      have := hs (i + 1)
      rw [Nat.add_right_comm] at this
      simpa [Nat.add_assoc] using this) (fun i a h1 h2 => by
      have := hx (i + 1) a (by simpa using h1) (by simpa using h2)
      rw [Nat.add_right_comm] at this
      simpa [Nat.add_assoc] using this) (fun i h => by
      obtain ⟨a, ha⟩ := hr (i + 1) (by simpa using h)
      exact ⟨a, by simpa using ha⟩) (by simpa using hl) e)
  | true :: _, _, [], _, _, _, _, _, _, e => by cases e
  | false :: _, _, [], _, _, _, _, _, _, e => by cases e
  | true :: _, [], _ :: _, _, _, _, _, _, hl, _ => by simp at hl
  | false :: _, [], _ :: _, _, _, _, _, _, hl, _ => by simp at hl
theorem SR.post {N : List Str} {σ : L2.St} {H' F' : Hp} {s : S} {outs : List D} (A : ArgsR K F H ms vs ds) (R : SR K ⟨H, F, ios ms vs, fun i => match vs[i]? with | some (V.ref a) => some a | _ => none⟩ [] σ H' F' s) (e : outsOf ms s = some outs) : Post K ms vs H F H' F' outs := by
  obtain ⟨l1, l2⟩ := A.len
  refine ⟨R.old, R.sub, R.nw, fun b o n e => R.fr b o e n, R.ioD, outs_ok R ms vs s outs 0 (fun i => rfl) (fun i a _ h2 => by simp only [Nat.add_zero, h2]) (fun i h => ?_) l1.symm e⟩
  have hi : i < ds.length := by rw [l2]; exact (List.getElem?_eq_some_iff.mp h).1
  obtain ⟨v, e, q⟩ := A.at i true ds[i] h (List.getElem?_eq_getElem hi)
  obtain ⟨a, e', _⟩ := q
  exact ⟨a, by rw [e, e']⟩
end
abbrev WE (E : XK) : WX := fun cls d _ H => E cls d H
section
variable {P : Program} {w : World} {K : PySem.W.Frag} {mg : Str → Option Value} {base : Heap} {x qual : Str} {params : Arguments} {body : List Stmt} {scope : Scope} {dvs : List V} {kws : List (Str × V)} {f : Addr} {fd : FuncData} {N ps : List Str} {k : Nat} {ms : List Bool} {m : MS}
theorem body_ok {X : Cx} {E : XK} {Q : VK} {vs : List V} {H : Hp} (hK : X.K = K) (hN : ms.length ≤ N.length) (hb : PSs X body (rS X.K (WE E) m)) (h : spD K ms (runF N.length ms m) vs H Q E) : ∃ t, PSs X body t ∧ t { nx := fun _ H' => Q .non H', rt := Q } (L2.start N vs) H := by
  subst hK
  refine ⟨_, hb, ?_⟩
  obtain ⟨F, ds, hs, A, nd, po⟩ := h
  refine ⟨_, _, _, _, SR.start (N := N) hs A nd hN, ?_⟩
  have po : PoR X.K ms vs H F Q E (endF ms (m (startS N.length ms ds))) := po
  cases q : m (startS N.length ms ds) with
  | nx s =>
    rw [q] at po
    cases z : outsOf ms s with
    | none => simp only [endF, z] at po; exact po.elim
    | some l => simp only [endF, z] at po; exact fun σ' H' F' f R' => po .non H' F' (SR.post (N := N) A R' z) .non
  | rt d s =>
    rw [q] at po
    cases z : outsOf ms s with
    | none => simp only [endF, z] at po; exact po.elim
    | some l => simp only [endF, z] at po; exact fun v σ' H' F' f R' r => po v H' F' (SR.post (N := N) A R' z) r
  | exc x s =>
    rw [q] at po
    cases z : outsOf ms s with
    | none => simp only [endF, z] at po; exact po.elim
    | some l => simp only [endF, z] at po; exact fun cls d σ' H' F' f R' r => po cls d H' F' (SR.post (N := N) A R' z) r
  | bk s => rw [q] at po; exact po.elim
  | ct s => rw [q] at po; exact po.elim
  | bad => rw [q] at po; exact po.elim
theorem spD_len {sem : List D → RF} (hl : ms.length = ps.length) : ∀ vs H Q E, spD K ms sem vs H Q E → vs.length = ps.length := fun vs H Q E ⟨F, ds, _, A, _⟩ => by rw [A.len.1, hl]
end
end Dl
namespace Lp
open PySem PySem.Spec PyProof.Rows L2 He
section
variable {X : Cx} {CX : CXT} {k : Nat} {C : Addr} {x m fld : Str} {ps : List Str} {sp : Sp} {E : L2.St → XK} {p pos apos : Pos} {e o : Expr} {es : List Expr} {te ta tb : TE} {t : TA} {i : Nat} {pl : Sem Bool}
def tFnS (sp : Sp) (E : L2.St → XK) (t : TA) : TE := fun σ H Q => t σ H fun vs H1 => sp vs H1 Q (E σ)
theorem pe_fnS (c : Cal X.prog X.w X.K X.mg X.base CX k x ps sp) (hr : Room k X.A) (hx : ∀ σ, PassesAt CX X σ (E σ)) (ha : PA X (e :: es) t) (hg : Gl X x := by rfl) (hdb : (x == ("__debug__" : Str)) = false := by decide)
    (he : starEach (e :: es) X.env = (false, eval e X.env) :: starEach es X.env := by rfl) (hpl : (backTo pos (starEach es X.env)).any (·.1) = false := by rfl) : PE X (.Call (.Name x p) (e :: es) [] pos) (tFnS sp E t) := by
  obtain ⟨f, fd, h1, h2, h3, h4⟩ := c.ex
  exact pe_imp (pe_callSD h4 hr hg h1 h2 h3 .nil hx (pa_up ha) hdb he hpl) fun σ H Q q => ⟨_, q, fun vs H1 h => by show sp (vs ++ []) H1 Q (E σ); rw [List.append_nil]; exact h⟩
end
end Lp
namespace Dl
open PySem PySem.Spec PyProof.Rows L2 He Lp
def argsD : List Bool → List Vl → S → Option (List D × List Nat)
  | [], [], _ => some ([], [])
  | false :: ms, .d d :: vs, s => (argsD ms vs s).map fun p => (d :: p.1, p.2)
  | true :: ms, .sl i :: vs, s => match s[i]? with
    | some (.ow _ d) => (argsD ms vs s).map fun p => (d :: p.1, i :: p.2)
    | _ => none
  | _, _, _ => none
def put1 (i : Nat) (d : D) (s : S) : S := match s[i]? with
  | some (.ow b _) => s.set i (.ow b d)
  | _ => s
def putO : List Nat → List D → S → S
  | i :: is, d :: ds, s => putO is ds (put1 i d s)
  | _, _, s => s
def retR (is : List Nat) (s : S) : RF → Res D
  | .rt r outs => .ok r (putO is outs s)
  | .exc x outs => .exc x (putO is outs s)
  | .bad => .bad
def callS (ms : List Bool) (sem : List D → RF) (vs : List Vl) (s : S) : Res D := match argsD ms vs s with
  | some (ds, is) => if is.Nodup then retR is s (sem ds) else .bad
  | none => .bad
def mFn (ms : List Bool) (sem : List D → RF) (ma : M (List Vl)) : M D := bnd ma (callS ms sem)
section
variable {K : PySem.W.Frag} {W : WX} {G : Gd} {T : Tm} {F H : Hp} {σ : L2.St} {s : S}
inductive CallA (K : PySem.W.Frag) (F H : Hp) (σ : L2.St) (s : S) : List Bool → List V → List D → List Nat → List Addr → Prop
  | nil : CallA K F H σ s [] [] [] [] []
  | val {v : V} {d : D} {ms : List Bool} {vs : List V} {ds : List D} {is : List Nat} {as : List Addr} : Rep K F v d → CallA K F H σ s ms vs ds is as → CallA K F H σ s (false :: ms) (v :: vs) (d :: ds) is as
  | io {a : Addr} {d : D} {i : Nat} {b : Bool} {ms : List Bool} {vs : List V} {ds : List D} {is : List Nat} {as : List Addr} : s[i]? = some (Sl.ow b d) → σ[i]? = some (some (V.ref a)) → F a = none → Ct K F H a d → CallA K F H σ s ms vs ds is as → CallA K F H σ s (true :: ms) (.ref a :: vs) (d :: ds) (i :: is) (a :: as)
theorem argsD_ok (R : SR K G T σ H F s) : ∀ {ms : List Bool} {vs : List Vl} {xs : List V} {ds : List D} {is : List Nat}, Paired (VR K F σ) xs vs → argsD ms vs s = some (ds, is) → ∃ as, CallA K F H σ s ms xs ds is as
  | [], _, _, _, _, .nil, e => by cases e; exact ⟨[], .nil⟩
  | [], _, _, _, _, .cons _ _, e => by cases e
  | m :: ms, _, _, _, _, .nil, e => by cases m <;> cases e
  | false :: ms, .d d :: vs, _, _, _, .cons r t, e => by
    cases q : argsD ms vs s with
    | none => simp only [argsD, q] at e; cases e
    | some p =>
      simp only [argsD, q] at e
      cases e
      obtain ⟨as, h⟩ := argsD_ok R (ds := p.1) (is := p.2) t (by rw [q])
      exact ⟨as, .val r h⟩
  | false :: ms, .sl i :: vs, _, _, _, .cons r t, e => by cases e
  | true :: ms, .d d :: vs, _, _, _, .cons r t, e => by cases e
  | true :: ms, .sl i :: vs, x :: _, _, _, .cons r t, e => by
    cases z : s[i]? with
    | none => simp only [argsD, z] at e; cases e
    | some l =>
      cases l with
      | no => simp only [argsD, z] at e; cases e
      | fz _ => simp only [argsD, z] at e; cases e
      | ow b d =>
        cases q : argsD ms vs s with
        | none => simp only [argsD, z, q] at e; cases e
        | some p =>
          simp only [argsD, z, q] at e
          cases e
          obtain ⟨as, h⟩ := argsD_ok R (ds := p.1) (is := p.2) t (by rw [q])
          obtain ⟨a, e1, c, n, _⟩ := R.ow i b d z
          have r : σ[i]? = some (some x) := r
          rw [r] at e1
          cases e1
          exact ⟨a :: as, .io z r n c h⟩
theorem CallA.args : ∀ {ms : List Bool} {vs : List V} {ds : List D} {is : List Nat} {as : List Addr}, CallA K F H σ s ms vs ds is as → ArgsR K F H ms vs ds ∧ ios ms vs = as
  | _, _, _, _, _, .nil => ⟨.nil, rfl⟩
  | _, _, _, _, _, .val r t => by
    obtain ⟨a, b⟩ := CallA.args t
    exact ⟨.cons r a, b⟩
  | _, _, _, _, _, .io (a := x) e1 e2 n c t => by
    obtain ⟨a, b⟩ := CallA.args t
    exact ⟨.cons ⟨x, rfl, n, c⟩ a, by rw [ios, b]⟩
theorem CallA.pair : ∀ {ms : List Bool} {vs : List V} {ds : List D} {is : List Nat} {as : List Addr}, CallA K F H σ s ms vs ds is as → is.length = as.length ∧ ∀ (j : Nat) (i : Nat) (a : Addr), is[j]? = some i → as[j]? = some a → ∃ b d, s[i]? = some (Sl.ow b d) ∧ σ[i]? = some (some (V.ref a))
  | _, _, _, _, _, .nil => ⟨rfl, fun j i a e _ => by simp at e⟩
  | _, _, _, _, _, .val _ t => CallA.pair t
  | _, _, _, _, _, .io (b := b) (d := d) e1 e2 n c t => by
    obtain ⟨h1, h2⟩ := CallA.pair t
    refine ⟨by rw [List.length_cons, List.length_cons, h1], fun j i a e e' => ?_⟩
    cases j with
    | zero => simp at e e'; subst e e'; exact ⟨b, d, e1, e2⟩
    | succ j => exact h2 j i a (by simpa using e) (by simpa using e')
theorem CallA.mem : ∀ {ms : List Bool} {vs : List V} {ds : List D} {is : List Nat} {as : List Addr} {a : Addr}, CallA K F H σ s ms vs ds is as → a ∈ as → ∃ i ∈ is, ∃ b d, s[i]? = some (Sl.ow b d) ∧ σ[i]? = some (some (V.ref a))
  | _, _, _, _, _, _, .nil, h => nomatch h
  | _, _, _, _, _, _, .val _ t, h => CallA.mem t h
  | _, _, _, _, _, a, .io (a := x) (i := i) (b := b) (d := d) e1 e2 n c t, h => by
    rcases List.mem_cons.mp h with rfl | h
    · exact ⟨i, List.mem_cons_self .., b, d, e1, e2⟩
    · obtain ⟨j, hj, q⟩ := CallA.mem t h
      exact ⟨j, List.mem_cons_of_mem _ hj, q⟩
theorem CallA.nodup (R : SR K G T σ H F s) : ∀ {ms : List Bool} {vs : List V} {ds : List D} {is : List Nat} {as : List Addr}, CallA K F H σ s ms vs ds is as → is.Nodup → as.Nodup
  | _, _, _, _, _, .nil, _ => List.nodup_nil
  | _, _, _, _, _, .val _ t, nd => CallA.nodup R t nd
  | _, _, _, _, _, .io (i := i) (b := b) (d := d) e1 e2 n c t, nd => by
    obtain ⟨n1, n2⟩ := List.nodup_cons.mp nd
    refine List.nodup_cons.mpr ⟨fun h => ?_, CallA.nodup R t n2⟩
    obtain ⟨j, hj, b', d', k1, k2⟩ := CallA.mem t h
    exact n1 (by rw [R.dj i j b b' d d' _ e1 k1 e2 k2]; exact hj)
inductive T3 (K : PySem.W.Frag) (F H : Hp) : List Nat → List Addr → List D → Prop
  | nil {ds : List D} : T3 K F H [] [] ds
  | cons {i : Nat} {a : Addr} {d : D} {is : List Nat} {as : List Addr} {ds : List D} : Ct K F H a d → T3 K F H is as ds → T3 K F H (i :: is) (a :: as) (d :: ds)
theorem CallA.t3 {F' H' : Hp} : ∀ {ms : List Bool} {vs : List V} {ds : List D} {is : List Nat} {as : List Addr} {outs : List D}, CallA K F H σ s ms vs ds is as → OutsR K F' H' ms vs outs → T3 K F' H' is as outs
  | _, _, _, _, _, _, .nil, _ => .nil
  | _, _, _, _, _, _, .val _ t, .no o => CallA.t3 t o
  | _, _, _, _, _, _, .io _ _ _ _ t, .io _ c o => .cons c (CallA.t3 t o)
theorem putO_ok {F' H' : Hp} : ∀ {is : List Nat} {as : List Addr} {outs : List D} {s : S}, T3 K F' H' is as outs → is.Nodup → (∀ (j : Nat) (i : Nat) (a : Addr), is[j]? = some i → as[j]? = some a → ∃ b d, s[i]? = some (Sl.ow b d) ∧ σ[i]? = some (some (V.ref a))) →
    (putO is outs s).length = s.length ∧ (∀ i, i ∉ is → (putO is outs s)[i]? = s[i]?) ∧ ∀ i ∈ is, ∃ (b : Bool) (d d' : D) (a : Addr), s[i]? = some (Sl.ow b d) ∧ (putO is outs s)[i]? = some (Sl.ow b d') ∧ σ[i]? = some (some (V.ref a)) ∧ Ct K F' H' a d'
  | _, _, _, s, .nil, _, _ => ⟨by cases ‹List D› <;> rfl, fun i _ => by cases ‹List D› <;> rfl, fun i h => nomatch h⟩
  | _, _, _, s, .cons (i := i) (a := a) (d := d) (is := is) (as := as) (ds := ds) c t, nd, hp => by
    obtain ⟨n1, n2⟩ := List.nodup_cons.mp nd
    obtain ⟨b, d0, e1, e2⟩ := hp 0 i a rfl rfl
    have hi : i < s.length := (List.getElem?_eq_some_iff.mp e1).1
    have ep : put1 i d s = s.set i (.ow b d) := by unfold put1; rw [e1]
    have ih := putO_ok (s := s.set i (.ow b d)) t n2 (fun j i' a' h1 h2 => by
      obtain ⟨b', d', k1, k2⟩ := hp (j + 1) i' a' (by simpa using h1) (by simpa using h2)
      have ne : i' ≠ i := fun z => n1 (by rw [← z]; exact List.mem_of_getElem? h1)
      exact ⟨b', d', by rw [List.getElem?_set_ne (Ne.symm ne)]; exact k1, k2⟩)
    obtain ⟨h1, h2, h3⟩ := ih
    have eo : putO (i :: is) (d :: ds) s = putO is ds (s.set i (.ow b d)) := by show putO is ds (put1 i d s) = _; rw [ep]
    rw [eo]
    refine ⟨by rw [h1]; simp, fun j hj => ?_, fun j hj => ?_⟩
    · rw [h2 j fun z => hj (List.mem_cons_of_mem _ z), List.getElem?_set_ne fun z => hj (by rw [z]; exact List.mem_cons_self ..)]
    · rcases List.mem_cons.mp hj with rfl | hj
      · exact ⟨b, d0, d, a, e1, by rw [h2 j n1]; simp [hi], e2, c⟩
      · obtain ⟨b', d1, d2, a', k1, k2, k3, k4⟩ := h3 j hj
        have ne : j ≠ i := fun z => n1 (by rw [← z]; exact hj)
        rw [List.getElem?_set_ne (Ne.symm ne)] at k1
        exact ⟨b', d1, d2, a', k1, k2, k3, k4⟩
theorem SR.called {F' H' : Hp} (R : SR K G T σ H F s) {ms : List Bool} {vs : List V} {ds : List D} {is : List Nat} {as : List Addr} {outs : List D} (A : CallA K F H σ s ms vs ds is as) (nd : is.Nodup) (P : Post K ms vs H F H' F' outs) : SR K G T σ H' F' (putO is outs s) := by
  obtain ⟨_, ea⟩ := A.args
  obtain ⟨hl, hp⟩ := A.pair
  obtain ⟨h1, h2, h3⟩ := putO_ok (s := s) (A.t3 P.o) nd hp
  have hk := P.k
  have hx := P.x
  rw [ea] at hk hx
  refine R.step hk P.f P.s P.n h1 hx (fun a ha => ?_) fun i => ?_
  · obtain ⟨i, _, b, d, e1, e2⟩ := A.mem ha
    exact ⟨i, b, d, e1, e2⟩
  · by_cases hi : i ∈ is
    · exact .inr (h3 i hi)
    · refine .inl ⟨h2 i hi, fun b d a e1 e2 ha => ?_⟩
      obtain ⟨j, hj, b', d', k1, k2⟩ := A.mem ha
      exact hi (by rw [R.dj i j b b' d d' a e1 k1 e2 k2]; exact hj)
theorem call_run {P : Res D → Prop} {F0 : Hp} (ip : IsP K W G T F0 σ P) (f0 : Sub F0 F) (R : SR K G T σ H F s) {ms : List Bool} {sem : List D → RF} {vl : List Vl} {xs : List V} {Q : VK} (r : Paired (VR K F σ) xs vl) (p : P (callS ms sem vl s))
    (hk : ∀ v H' F' s' d, Sub F0 F' → SR K G T σ H' F' s' → Rep K F' v d → P (.ok d s') → Q v H') : spD K ms sem xs H Q (fun cls d H' => W cls d σ H') := by
  unfold callS at p
  cases q : argsD ms vl s with
  | none => rw [q] at p; exact (ip.bad p).elim
  | some y =>
    obtain ⟨ds, is⟩ := y
    rw [q] at p
    simp only at p
    split at p
    case isFalse => exact (ip.bad p).elim
    rename_i nd
    obtain ⟨as, A⟩ := argsD_ok R r q
    obtain ⟨A1, A2⟩ := A.args
    refine ⟨F, ds, R.sub, A1, by rw [A2]; exact A.nodup R nd, ?_⟩
    cases z : sem ds with
    | bad => rw [z] at p; exact (ip.bad p).elim
    | rt d outs => rw [z] at p; exact fun v H' F' po rv => hk v H' F' _ d (f0.trans po.f) (R.called A nd po) rv p
    | exc x outs => rw [z] at p; exact fun cls d H' F' po rv => ip.exc x _ p cls d H' F' (f0.trans po.f) (R.called A nd po) rv
end
section
variable {X : Cx} {W : WX} {k : Nat} {x : Str} {ps : List Str} {ms : List Bool} {sem : List D → RF} {p pos : Pos} {e : Expr} {es : List Expr} {ma : M (List Vl)}
theorem passAt (tk : Takes X W) (σ : L2.St) : PassesAt (CX X.prog X.w) X σ (fun cls d H => W cls d σ H) := fun pins H s e s' I c => tk e s' (XE.of_call I (fun cls d H' h => h) c)
theorem pd_fn (c : Cal X.prog X.w X.K X.mg X.base (CX X.prog X.w) k x ps (spD X.K ms sem)) (hr : Room k X.A) (tk : Takes X W) (ha : PA X (e :: es) (rA X.K W ma)) (hg : Gl X x := by rfl) (hdb : (x == ("__debug__" : Str)) = false := by decide)
    (he : starEach (e :: es) X.env = (false, eval e X.env) :: starEach es X.env := by rfl) (hpl : (backTo pos (starEach es X.env)).any (·.1) = false := by rfl) : PE X (.Call (.Name x p) (e :: es) [] pos) (rE X.K W (dV (mFn ms sem ma))) :=
  pe_imp (pe_fnS (E := fun σ cls d H => W cls d σ H) c hr (passAt tk) ha hg hdb he hpl) fun σ H Q ⟨G, T, F, s, R, po⟩ => by
    have ip : IsP X.K W G T F σ (fun r : Res D => PoE X.K W G T F σ Q (bndR r fun d => ret (.d d))) := ⟨fun h => h, fun x s' h => h⟩
    exact rA_run ip (Sub.refl F) R po fun xs H1 F1 s1 vs f1 _ R1 v1 p1 => call_run ip f1 R1 v1 p1 fun v H2 F2 s2 d f2 R2 r2 p2 => p2 v H2 F2 f2 R2 r2
end
end Dl
namespace Dl
open PySem PySem.Spec PyProof.Rows L2 He Lp
def storeD : D → D → D → Option D
  | .lst ds, .int k, v => (ixN ds.length k).map fun j => .lst (ds.set j v)
  | .dct kds, k, v => (asK k).bind fun k => if kds.length < sizeLine then some (.dct (putD kds k v)) else none
  | _, _, _ => none
def rSetA : TSet := fun o i v H Q => tSetN o i v H Q ∨ rSetD o i v H Q
theorem set_A {X : Cx} (hu : X.A.units + 64 < cLine) : PSet X rSetA := fun pins s σ H o i v ov iv u Q I ro ri rv q => q.elim (set_listN pins s σ H o i v ov iv u Q I ro ri rv) (set_dict (by omega) pins s σ H o i v ov iv u Q I ro ri rv)
theorem storeD_ok {K : PySem.W.Frag} {F H : Hp} {a : Addr} {y v : V} {c k d c' : D} {Q : Hp → Prop} (hc : Ct K F H a c) (rk : Rep K F y k) (rv : Rep K F v d) (e : storeD c k d = some c') (hk : ∀ H', Kp [a] H H' → Sdx H H' a → Ct K F H' a c' → Q H') : rSetA (.ref a) y v H Q := by
  cases c with
  | lst ds =>
    cases k with
    | int j =>
      obtain ⟨vs, h1, r1⟩ := hc
      cases z : ixN ds.length j with
      | none => simp only [storeD, z] at e; cases e
      | some n =>
        simp only [storeD, z] at e
        cases e
        exact .inl ⟨a, vs, j, n, rfl, rep_int rk, h1, by rw [r1.len]; exact z, fun H' k1 e1 => hk H' k1 (sdx_of e1 fun _ _ _ z => nomatch z) ⟨_, e1, r1.set n rv⟩⟩
    | _ => cases e
  | dct kds =>
    cases z : asK k with
    | none => simp only [storeD, z] at e; cases e
    | some kk =>
      simp only [storeD, z, Option.bind_some] at e
      split at e
      · rename_i hl
        cases e
        obtain rfl := asK_some z
        obtain ⟨vs, h1, r1⟩ := hc
        refine .inr ⟨a, upd H a (.dK (putK vs kk v)), rfl, .inl ⟨vs, kk, h1, rep_kV rk, by rw [r1.len]; exact hl, rfl⟩, hk _ (Kp.put (List.mem_cons_self ..)) (sdx_of upd_same fun _ _ _ z => nomatch z) ⟨_, upd_same, r1.put kk rv⟩⟩
      · cases e
  | _ => cases e
def stS (i : Nat) (k v : D) (s : S) : Option Sl → RS
  | some (.ow b c) => match storeD c k v with
    | some c' => .nx (s.set i (.ow b c'))
    | none => .bad
  | _ => .bad
def mStore (i : Nat) (mk mv : M Vl) : MS := fun s => bndS (fzD mv s) fun v s1 => match s1[i]? with
  | some (.ow _ _) => bndS (fzD mk s1) fun k s2 => stS i k v s2 s2[i]?
  | _ => .bad
section
variable {X : Cx} {W : WX} {e k o value : Expr} {pos pos' apos : Pos}
theorem psd_store {i : Nat} {y : Str} {yp : Pos} {mk mv : M Vl} (hu : X.A.units + 64 < cLine) (ho : PE X (.Name y yp) (tVar i)) (hk : PE X k (rE X.K W mk)) (hv : PE X e (rE X.K W mv))
    (ha : ∀ v, assign (.Subscript (.Name y yp) k pos') X.env v = (do
      let ov ← holding [v] (eval (.Name y yp) X.env)
      let iv ← holding [v, ov] (eval k X.env)
      standAt pos'
      holding [v, ov, iv] (setItem ov iv v)
      release [v, ov, iv] []) := by intro _; rfl)
    (hs : swapsWithSole [.Subscript (.Name y yp) k pos'] e pos.line X.env = pure false := by rfl) (hw : swappedStores [.Subscript (.Name y yp) k pos'] e X.env = pure none := by rfl) (h1 : (assignEach [.Subscript (.Name y yp) k pos'] X.env).map (·.2) = [assign (.Subscript (.Name y yp) k pos') X.env] := by rfl) :
    PS X (.Assign [.Subscript (.Name y yp) k pos'] e pos) (rS X.K W (mStore i mk mv)) :=
  ps_imp (ps_asg (pd_fz hv) (pg_sub ho (pd_fz hk) (set_A hu) ha) hs hw h1) fun D σ H ⟨G, T, F, s, R, po⟩ => dV_runS (Sub.refl F) R po fun v H1 F1 s1 d f1 _ R1 r1 p1 => by
    cases q : s1[i]? with
    | none => simp only [q] at p1; exact p1.elim
    | some l =>
      simp only [q] at p1
      cases l with
      | no => exact p1.elim
      | fz _ => exact p1.elim
      | ow b c =>
        obtain ⟨a, e1, c1, n1, g1⟩ := R1.ow i b c q
        refine ⟨_, e1, dV_runS f1 R1 p1 fun kv H2 F2 s2 dk f2 g2 R2 r2 p2 => ?_⟩
        cases q2 : s2[i]? with
        | none => rw [q2] at p2; exact p2.elim
        | some l =>
          rw [q2] at p2
          cases l with
          | no => exact p2.elim
          | fz _ => exact p2.elim
          | ow b2 c2 =>
            obtain ⟨a2, e2, c2', n2, g2'⟩ := R2.ow i b2 c2 q2
            rw [e1] at e2; cases e2
            cases z : storeD c2 dk d with
            | none => simp only [stS, z] at p2; exact p2.elim
            | some c' =>
              simp only [stS, z] at p2
              exact storeD_ok c2' r2 (r1.mono g2) z fun H3 k1 k2 k3 => p2 σ H3 F2 f2 (R2.mut q2 e1 k1 k2 k3)
end
structure Flds (K : PySem.W.Frag) (cs : List Str) (f : Str) : Prop where
  h : ∀ c ∈ cs, Cls K (ga K c) ∧ NoAttr K (ga K c) f
def putFD (f : Str) (d : D) : List (Str × D) → List (Str × D)
  | [] => [(f, d)]
  | (g, x) :: r => if g = f then (g, d) :: r else (g, x) :: putFD f d r
theorem RepF.put {K : PySem.W.Frag} {F : Hp} {f : Str} {v : V} {d : D} (r : Rep K F v d) : ∀ {vs : List (Str × V)} {ds : List (Str × D)}, RepF K F vs ds → RepF K F (putF f v vs) (putFD f d ds)
  | _, _, .nil => .cons r .nil
  | _, _, .cons (k := g) q t => by
    unfold putF putFD
    split
    · exact .cons r t
    · exact .cons q (RepF.put r t)
section
variable {X : Cx} {W : WX} {e o value : Expr} {pos pos' apos : Pos} {f : Str} {cs : List Str}
def saS (cs : List Str) (i : Nat) (f : Str) (v : D) (s : S) : Option Sl → RS
  | some (.ow b (.obj c fs)) => if c ∈ cs ∧ fs.length < 1000 then .nx (s.set i (.ow b (.obj c (putFD f v fs)))) else .bad
  | _ => .bad
def mSetA (cs : List Str) (i : Nat) (f : Str) (mv : M Vl) : MS := fun s => bndS (fzD mv s) fun v s1 => saS cs i f v s1 s1[i]?
end
end Dl
namespace Dl
open PySem PySem.Spec PyProof.Rows L2 He Lp
section
variable {X : Cx} {K : PySem.W.Frag}
theorem p1 {F H : Hp} {xs : List V} {d : D} (h : Paired (View K F H) xs [d]) : ∃ x, xs = [x] ∧ View K F H x d := by
  cases h with
  | cons a t => cases t; exact ⟨_, rfl, a⟩
theorem p2 {F H : Hp} {xs : List V} {d e : D} (h : Paired (View K F H) xs [d, e]) : ∃ x y, xs = [x, y] ∧ View K F H x d ∧ View K F H y e := by
  cases h with
  | cons a t => cases t with
    | cons b t => cases t; exact ⟨_, _, rfl, a, b⟩
def lenD : List D → Option D
  | [.str z] => if z.length ≤ sizeLine then some (.int z.length) else none
  | [.dct kds] => some (.int kds.length)
  | [a] => (seqOf a).map fun ds => .int ds.length
  | _ => none
def rLenA (K : PySem.W.Frag) : List V → Hp → VK → Prop := fun xs H Q => ((∃ p ys, xs = [.ref p] ∧ (SqL K H p ys ∨ SqT K H p ys) ∧ Q (.int ys.length) H) ∨ (∃ z, xs = [.str z] ∧ z.length ≤ sizeLine ∧ Q (.int z.length) H)) ∨ (∃ a kvs, xs = [.ref a] ∧ Rd H a (.dK kvs) ∧ Q (.int kvs.length) H)
theorem call_lenA : CallR X (.builtin "len") (rLenA X.K) := callR_or (callR_or call_len_seq call_len_str) fun pins s σ H xs us Q I rx ⟨a, kvs, e, g, q⟩ => by
  subst e
  obtain ⟨u, rfl, ru⟩ := rx.one
  obtain rfl : u = Value.ref a := ru
  exact d_len I g fun t s' I' => ⟨.int kvs.length, H, I', ⟨t, rfl⟩, q⟩
theorem lenD_ok : CallD K (rLenA K) lenD := fun F H xs ds d Q hs hv e k => by
  unfold lenD at e
  split at e
  · split at e
    · rename_i hl
      cases e
      obtain ⟨x, rfl, v⟩ := p1 hv
      exact .inl (.inr ⟨_, by rw [view_str v], hl, nr_id hs k (.int _)⟩)
    · cases e
  · cases e
    obtain ⟨x, rfl, v⟩ := p1 hv
    obtain ⟨a, vs, rfl, h1, r⟩ := view_dct hs v
    exact .inr ⟨a, vs, rfl, h1, by rw [r.len]; exact nr_id hs k (.int _)⟩
  · rename_i a _ _
    cases z : seqOf a with
    | none => rw [z] at e; cases e
    | some l =>
      rw [z] at e
      cases e
      obtain ⟨x, rfl, v⟩ := p1 hv
      obtain ⟨p, vs, rfl, h1, r⟩ := view_seq hs v z
      exact .inl (.inl ⟨p, vs, rfl, h1, by rw [r.len]; exact nr_id hs k (.int _)⟩)
  · cases e
def absD : List D → Option D
  | [.int i] => some (.int (if i < 0 then -i else i))
  | _ => none
theorem absD_ok : CallD K (fun xs H Q => ∃ i, xs = [.int i] ∧ Q (.int (if i < 0 then -i else i)) H) absD := fun F H xs ds d Q hs hv e k => by
  unfold absD at e
  split at e
  · cases e; obtain ⟨x, rfl, v⟩ := p1 hv; exact ⟨_, by rw [view_int v], nr_id hs k (.int _)⟩
  · cases e
def max2D : List D → Option D
  | [.int i, .int j] => some (.int (if j > i then j else i))
  | _ => none
def min2D : List D → Option D
  | [.int i, .int j] => some (.int (if j < i then j else i))
  | _ => none
theorem max2D_ok : CallD K (fun xs H Q => ∃ i j, xs = [.int i, .int j] ∧ Q (.int (if j > i then j else i)) H) max2D := fun F H xs ds d Q hs hv e k => by
  unfold max2D at e
  split at e
  · cases e; obtain ⟨x, y, rfl, v, w⟩ := p2 hv; exact ⟨_, _, by rw [view_int v, view_int w], nr_id hs k (.int _)⟩
  · cases e
theorem min2D_ok : CallD K (fun xs H Q => ∃ i j, xs = [.int i, .int j] ∧ Q (.int (if j < i then j else i)) H) min2D := fun F H xs ds d Q hs hv e k => by
  unfold min2D at e
  split at e
  · cases e; obtain ⟨x, y, rfl, v, w⟩ := p2 hv; exact ⟨_, _, by rw [view_int v, view_int w], nr_id hs k (.int _)⟩
  · cases e
def listD : List D → Option D
  | [.dct kds] => some (.lst (keysD kds))
  | [a] => (seqOf a).map .lst
  | _ => none
def tupleD : List D → Option D
  | [a] => (seqOf a).map .tup
  | _ => none
theorem tupleD_ok : CallD K (fun xs H Q => ∃ p ys, xs = [.ref p] ∧ ((SqL K H p ys ∧ ∀ l, H l = none → Q (.ref l) (upd H l (.tup ys))) ∨ (SqT K H p ys ∧ Q (.ref p) H))) tupleD := fun F H xs ds d Q hs hv e k => by
  unfold tupleD at e
  split at e
  · rename_i a
    cases a with
    | lst l =>
      cases e
      obtain ⟨x, rfl, v⟩ := p1 hv
      obtain ⟨p, vs, rfl, h1, r⟩ := view_lst hs v
      exact ⟨p, vs, rfl, .inl ⟨.of h1, nr_new hs k (fun _ z => nomatch z) fun p H' a b c => Nc.tup hs a b c r⟩⟩
    | rol l =>
      cases e
      obtain ⟨x, rfl, v⟩ := p1 hv
      obtain ⟨p, vs, rfl, h1, r⟩ := view_rol hs v
      exact ⟨p, vs, rfl, .inl ⟨h1, nr_new hs k (fun _ z => nomatch z) fun p H' a b c => Nc.tup hs a b c r⟩⟩
    | tup l =>
      cases e
      obtain ⟨x, rfl, v⟩ := p1 hv
      obtain ⟨p, vs, rfl, h1, r⟩ := view_tup hs v
      exact ⟨p, vs, rfl, .inr ⟨h1, nr_id hs k (view_tupR v)⟩⟩
    | _ => cases e
  · cases e
end
end Dl
namespace Dl
open PySem PySem.Spec PyProof.Rows L2 He Lp
theorem SR.dropT {K : PySem.W.Frag} {G : Gd} {T : Tm} {F H : Hp} {σ : L2.St} {s : S} {p : Addr × D} (R : SR K G (p :: T) σ H F s) : SR K G T σ H F s :=
  ⟨R.sub, R.len, R.fz, R.ow, R.dj, fun q hq => R.tm q (List.mem_cons_of_mem _ hq), (List.nodup_cons.mp R.tn).2, fun q hq => R.td q (List.mem_cons_of_mem _ hq), R.fr, R.ioH, R.ioK, R.ioD, R.old, R.oldH, R.nw⟩
def slO (o : Bool) (d : D) : Sl := if o = true then .ow true d else .fz d
def mPar (i : Nat) (o1 : Bool) (m1 : M D) (j : Nat) (o2 : Bool) (m2 : M D) : MS := fun s => bndS (m1 s) fun d1 s1 => bndS (m2 s1) fun d2 s2 => .nx ((s2.set i (slO o1 d1)).set j (slO o2 d2))
def Tx (K : PySem.W.Frag) (F : Hp) (o : Bool) (x : V) (d : D) (T T' : Tm) : Prop := if o = true then ∃ a, x = .ref a ∧ T' = (a, d) :: T else Rep K F x d ∧ T' = T
section
variable {K : PySem.W.Frag} {W : WX} {G : Gd} {T T' : Tm} {F0 F F' H : Hp} {σ : L2.St} {s : S} {E : Ends}
theorem Tx.set {o : Bool} {x : V} {d : D} {T T2 : Tm} (h : Tx K F o x d T T2) (R : SR K G T2 σ H F s) (j : Nat) : SR K G T (σ.set j (some x)) H F (s.set j (slO o d)) := by
  cases o with
  | true =>
    obtain ⟨a, rfl, rfl⟩ := h
    exact R.setOw j
  | false =>
    obtain ⟨r, rfl⟩ := h
    exact R.setFz r
theorem Tx.mono {o : Bool} {x : V} {d : D} {T T2 : Tm} (f : Sub F F') (h : Tx K F o x d T T2) : Tx K F' o x d T T2 := by
  cases o with
  | true => exact h
  | false => exact ⟨h.1.mono f, h.2⟩
theorem Tx.drop {o : Bool} {x : V} {d : D} {T T2 : Tm} (h : Tx K F o x d T T2) {H' F' : Hp} {s' : S} (R : SR K G T2 σ H' F' s') : SR K G T σ H' F' s' := by
  cases o with
  | true => obtain ⟨a, _, rfl⟩ := h; exact R.dropT
  | false => obtain ⟨_, rfl⟩ := h; exact R
end
section
variable {X : Cx} {W : WX} {pos : Pos}
def mPar3 (i : Nat) (m1 : M Vl) (j : Nat) (m2 : M Vl) (l : Nat) (m3 : M Vl) : MS := fun s => bndS (fzD m1 s) fun d1 s1 => bndS (fzD m2 s1) fun d2 s2 => bndS (fzD m3 s2) fun d3 s3 => .nx (((s3.set i (.fz d1)).set j (.fz d2)).set l (.fz d3))
def mUnp (g : D → S → Option S) (m : M Vl) : MS := fun s => bndS (fzD m s) fun d s1 => match g d s1 with
  | some s2 => .nx s2
  | none => .bad
theorem psd_unp {tg e : Expr} {g : D → S → Option S} {m : M Vl} (hg : PG X tg (rG X.K g)) (he : PE X e (rE X.K W m)) (hs : swapsWithSole [tg] e pos.line X.env = pure false := by rfl) (hw : swappedStores [tg] e X.env = pure none := by rfl)
    (h1 : (assignEach [tg] X.env).map (·.2) = [assign tg X.env] := by rfl) : PS X (.Assign [tg] e pos) (rS X.K W (mUnp g m)) :=
  ps_imp (ps_asg (pd_fz he) hg hs hw h1) fun D σ H ⟨G, T, F, s, R, po⟩ => dV_runS (Sub.refl F) R po fun v H1 F1 s1 d f1 _ R1 r1 p1 => by
    cases q : g d s1 with
    | none => simp only [q] at p1; exact p1.elim
    | some s2 =>
      simp only [q] at p1
      exact ⟨G, T, F1, s1, d, R1, r1, s2, q, fun σ' H' F' f R' => p1 σ' H' F' (f1.trans f) R'⟩
end
theorem takes0 {X : Cx} : Takes X W0 := fun _ _ ⟨_, _, _, _, _, _, _, _, _, _, _, _, _, _, _, _, w⟩ => w.elim
end Dl
namespace Dl
open PySem PySem.Spec PyProof.Rows L2 He Lp
def isDct : D → Option Unit
  | .dct _ => some ()
  | _ => none
def getD1 (a b : D) : Option D := match a with
  | .dct kds => (asK b).map fun k => (valK kds k).getD .non
  | _ => none
def getD2 (a b x : D) : Option D := match a with
  | .dct kds => (asK b).map fun k => (valK kds k).getD x
  | _ => none
def mDGet1 (mo ma : M Vl) : M D := bnd mo fun vo => bnd (look vo) fun d0 => bnd (lift (isDct d0)) fun _ => bnd ma fun va => bnd (look vo) fun d => bnd (look va) fun b => lift (getD1 d b)
def mDGet2 (mo ma mx : M Vl) : M D := bnd mo fun vo => bnd (look vo) fun d0 => bnd (lift (isDct d0)) fun _ => bnd ma fun va => bnd (fzD mx) fun x => bnd (look vo) fun d => bnd (look va) fun b => lift (getD2 d b x)
section
variable {X : Cx} {W : WX} {o e f : Expr} {apos cpos : Pos} {mo ma mx : M Vl}
theorem isP_dV {K : PySem.W.Frag} {G : Gd} {T : Tm} {F : Hp} {σ : L2.St} {Q : VK} : IsP K W G T F σ (fun r : Res D => PoE K W G T F σ Q (bndR r fun d => ret (.d d))) := ⟨fun h => h, fun x s' h => h⟩
end
def insS (x : Str) : List Str → List Str
  | [] => [x]
  | y :: r => if sLt y x then y :: insS x r else x :: y :: r
def sortS : List Str → List Str
  | [] => []
  | x :: r => insS x (sortS r)
theorem insS_perm (x : Str) : ∀ l, (insS x l).Perm (x :: l)
  | [] => .refl _
  | y :: r => by
    unfold insS
    split
    · exact ((insS_perm x r).cons y).trans (.swap x y r)
    · exact .refl _
theorem sortS_perm : ∀ l, (sortS l).Perm l
  | [] => .refl _
  | x :: r => (insS_perm x _).trans ((sortS_perm r).cons x)
def keyStrs : List (Key × D) → Option (List Str)
  | [] => some []
  | (.inr x, _) :: r => (keyStrs r).map (x :: ·)
  | _ => none
section
variable {X : Cx} {W : WX} {pos : Pos} {x : Str}
end
end Dl
namespace Dl
open PySem PySem.Spec PyProof.Rows L2 He Lp
theorem Room.units1 {k : Nat} {A : Around} (r : Room k A) : A.units + 128 < cLine := by have := r.un; omega
inductive HitsV (K : PySem.W.Frag) (H : Hp) (ls : List (Key × V)) : List (Key × V) → Bool → Prop
  | nil : HitsV K H ls [] true
  | miss {k : Key} {v : V} {r : List (Key × V)} : valV ls k = none → HitsV K H ls ((k, v) :: r) false
  | hit {k : Key} {v u : V} {p q : PyData} {r : List (Key × V)} {b : Bool} : valV ls k = some u → Dp K H v p → Dp K H u q → SeqAt.shaped p = true → SeqAt.shaped q = true → HitsV K H ls r b → HitsV K H ls ((k, v) :: r) (PyData.eqv p q && b)
theorem hits_of {X : Cx} {pins : List (Addr × Obj)} {σ : L2.St} {H : Hp} {s : Shared} (I : Inv X pins σ H s) (hu : X.A.units + 128 < cLine) {ls : List (Key × V)} {vb : List (Key × Value)} (rb : KV ls vb) {ks : List (Key × V)} {va : List (Key × Value)} (ra : KV ks va) :
    ∀ {r : Bool}, HitsV X.K H ls ks r → PySem.W.KeqHits X.A.in1 s vb va r := by
  unfold KV at ra
  induction ra with
  | nil => intro r h; cases h; exact .nil
  | @cons p q ps qs h t ih =>
    intro r hr
    obtain ⟨h1, h2⟩ := h
    obtain ⟨k, v⟩ := q
    obtain ⟨k', v'⟩ := p
    have h1' : k' = k := h1
    subst h1'
    cases hr with
    | miss hn => exact .miss (RelO.none_of (by rw [← hn]; exact rb.val k'))
    | hit hv d1 d2 s1 s2 ht =>
      have rr := rb.val k'
      rw [hv] at rr
      obtain ⟨y, hy, ry⟩ := rr.some_of
      obtain ⟨as, r1⟩ := Dp.reads I _ _ _ d1 h2
      obtain ⟨bs, r2⟩ := Dp.reads I _ _ _ d2 ry
      exact .hit hy (PySem.W.keq_at r1 r2 s1 s2 (by show X.A.units + 1 + 64 < cLine; omega)) (ih ht)
def rEqK (K : PySem.W.Frag) (f : Bool → Bool) : R2 := fun x y H Q => ∃ a b ks ls r, x = .ref a ∧ y = .ref b ∧ Rd H a (.dK ks) ∧ Rd H b (.dK ls) ∧ (ks.length = ls.length → HitsV K H ls ks r) ∧ Q (.bl (f (ks.length == ls.length && r))) H
theorem op_eqK {X : Cx} (hu : X.A.units + 128 < cLine) : OpR X (compareOp .Eq) (rEqK X.K id) := by
  intro pins s σ H x y v u Q I rx ry h
  obtain ⟨a, b, ks, ls, r, rfl, rfl, ea, eb, hp, q⟩ := h
  obtain rfl : v = Value.ref a := rx
  obtain rfl : u = Value.ref b := ry
  obtain ⟨_, ya, va, ra, da⟩ := dk_rd I.hok ea
  obtain ⟨_, yb, vb, rb, db⟩ := dk_rd I.hok eb
  refine PySem.W.keq_eq (knd := mixKind X.prog X.w) (r := r) ya yb da db (by omega) (fun e => hits_of I hu rb ra (hp (by rw [ra.length, rb.length]; exact e))) ?_
  rw [← ra.length, ← rb.length]
  exact ⟨.bl _, H, I, rfl, q⟩
theorem op_neK {X : Cx} (hu : X.A.units + 128 < cLine) : OpR X (compareOp .NotEq) (rEqK X.K not) := by
  intro pins s σ H x y v u Q I rx ry h
  obtain ⟨a, b, ks, ls, r, rfl, rfl, ea, eb, hp, q⟩ := h
  obtain rfl : v = Value.ref a := rx
  obtain rfl : u = Value.ref b := ry
  obtain ⟨_, ya, va, ra, da⟩ := dk_rd I.hok ea
  obtain ⟨_, yb, vb, rb, db⟩ := dk_rd I.hok eb
  refine PySem.W.keq_ne (knd := mixKind X.prog X.w) (r := r) ya yb da db (by omega) (fun e => hits_of I hu rb ra (hp (by rw [ra.length, rb.length]; exact e))) ?_
  rw [← ra.length, ← rb.length]
  exact ⟨.bl _, H, I, rfl, q⟩
def hitsD (ls : List (Key × D)) : List (Key × D) → Option Bool
  | [] => some true
  | (k, v) :: r => match valK ls k with
    | none => some false
    | some u => (pyEq v u).bind fun e => (hitsD ls r).map fun b => e && b
def eqDct (ks ls : List (Key × D)) : Option Bool := if ks.length = ls.length then hitsD ls ks else some false
theorem hitsD_ok {K : PySem.W.Frag} {F H : Hp} (hs : SubH F H) {lv : List (Key × V)} {ls : List (Key × D)} (rl : RepK K F lv ls) : ∀ {kv : List (Key × V)} {ks : List (Key × D)} {b : Bool}, RepK K F kv ks → hitsD ls ks = some b → HitsV K H lv kv b
  | _, _, _, .nil, e => by cases e; exact .nil
  | _, _, _, .cons (k := k) (d := d) (ds := ds) r t, e => by
    unfold hitsD at e
    rcases rl.val k with ⟨e1, e2⟩ | ⟨u, uv, e1, e2, e3⟩
    · rw [e1] at e; cases e; exact .miss e2
    · rw [e1] at e
      simp only at e
      cases z : pyEq d u with
      | none => rw [z] at e; cases e
      | some c =>
        cases z2 : hitsD ls ds with
        | none => rw [z, z2] at e; cases e
        | some c2 =>
          rw [z, z2] at e; cases e
          obtain ⟨p, q, h1, h2, h3, h4, h5⟩ := pyEq_some z
          rw [← h5]
          exact .hit e2 (toPy_rep hs r h1) (toPy_rep hs e3 h2) h3 h4 (hitsD_ok hs rl t z2)
def rEqS (f : Bool → Bool) : R2 := fun x y H Q => ∃ a b : Str, x = .str a ∧ y = .str b ∧ Q (.bl (f (a == b))) H
theorem op_eqS {X : Cx} : OpR X (compareOp .Eq) (rEqS id) := by
  intro pins s σ H x y v u Q I rx ry h
  obtain ⟨a, b, rfl, rfl, q⟩ := h
  obtain ⟨t, rfl⟩ := rx
  obtain ⟨t', rfl⟩ := ry
  exact PyProof.Rows.eq_str ⟨.bl (a == b), H, I, rfl, q⟩
theorem op_neS {X : Cx} : OpR X (compareOp .NotEq) (rEqS not) := by
  intro pins s σ H x y v u Q I rx ry h
  obtain ⟨a, b, rfl, rfl, q⟩ := h
  obtain ⟨t, rfl⟩ := rx
  obtain ⟨t', rfl⟩ := ry
  exact PyProof.Rows.ne_str ⟨.bl (!(a == b)), H, I, rfl, q⟩
def eqAB (a b : D) : Option Bool := match a, b with
  | .dct ks, .dct ls => eqDct ks ls
  | .str a, .str b => some (a == b)
  | a, b => pyEq a b
def eqA (a b : D) : Option D := (eqAB a b).map .bl
def neA (a b : D) : Option D := (eqAB a b).map fun c => .bl (!c)
def rEqA (K : PySem.W.Frag) : R2 := fun x y H Q => (rEqD K x y H Q ∨ rEqK K id x y H Q) ∨ rEqS id x y H Q
def rNeA (K : PySem.W.Frag) : R2 := fun x y H Q => (rNeD K x y H Q ∨ rEqK K not x y H Q) ∨ rEqS not x y H Q
theorem op_eqA {X : Cx} (hu : X.A.units + 128 < cLine) : OpR X (compareOp .Eq) (rEqA X.K) := opR_or (opR_or (op_eqD (by omega)) (op_eqK hu)) op_eqS
theorem op_neA {X : Cx} (hu : X.A.units + 128 < cLine) : OpR X (compareOp .NotEq) (rNeA X.K) := opR_or (opR_or (op_neD (by omega)) (op_neK hu)) op_neS
theorem eqK_ok {K : PySem.W.Frag} {F H : Hp} {x y : V} {ks ls : List (Key × D)} {c : Bool} {f : Bool → Bool} {Q : VK} (hs : SubH F H) (va : View K F H x (.dct ks)) (vb : View K F H y (.dct ls)) (e : eqDct ks ls = some c) (k : Q (.bl (f c)) H) : rEqK K f x y H Q := by
  obtain ⟨a, kv, rfl, h1, r1⟩ := view_dct hs va
  obtain ⟨b, lv, rfl, h2, r2⟩ := view_dct hs vb
  unfold eqDct at e
  split at e
  · rename_i hl
    refine ⟨a, b, kv, lv, c, rfl, rfl, h1, h2, fun _ => hitsD_ok hs r2 r1 e, ?_⟩
    rw [r1.len, r2.len, hl, beq_self_eq_true, Bool.true_and]
    exact k
  · rename_i hl
    cases e
    refine ⟨a, b, kv, lv, false, rfl, rfl, h1, h2, fun z => absurd z (by rw [r1.len, r2.len]; exact hl), ?_⟩
    rw [Bool.and_false]
    exact k
theorem eqA_ok {K : PySem.W.Frag} : OpD K (rEqA K) eqA := fun F H x y a b d Q hs va vb e k => by
  unfold eqA at e
  cases h : eqAB a b with
  | none => rw [h] at e; cases e
  | some c =>
    rw [h] at e; cases e
    unfold eqAB at h
    split at h
    · exact .inl (.inr (eqK_ok (f := id) hs va vb h (nr_id hs k (.bl _))))
    · cases h; exact .inr ⟨_, _, view_str va, view_str vb, nr_id hs k (.bl _)⟩
    · obtain ⟨p, q, h1, h2, h3, h4, h5⟩ := pyEq_some h
      exact .inl (.inl ⟨p, q, toPy_view hs va h1, toPy_view hs vb h2, h3, h4, by rw [h5]; exact nr_id hs k (.bl _)⟩)
theorem neA_ok {K : PySem.W.Frag} : OpD K (rNeA K) neA := fun F H x y a b d Q hs va vb e k => by
  unfold neA at e
  cases h : eqAB a b with
  | none => rw [h] at e; cases e
  | some c =>
    rw [h] at e; cases e
    unfold eqAB at h
    split at h
    · exact .inl (.inr (eqK_ok (f := not) hs va vb h (nr_id hs k (.bl _))))
    · cases h; exact .inr ⟨_, _, view_str va, view_str vb, nr_id hs k (.bl _)⟩
    · obtain ⟨p, q, h1, h2, h3, h4, h5⟩ := pyEq_some h
      exact .inl (.inl ⟨p, q, toPy_view hs va h1, toPy_view hs vb h2, h3, h4, by rw [h5]; exact nr_id hs k (.bl _)⟩)
def PoRO (K : PySem.W.Frag) (ms : List Bool) (vs : List V) (H F : Hp) (Q : VK) (E : XK) : RF → Prop
  | .rt r outs => ∀ a H' F', Post K ms vs H F H' F' outs → F' a = none → Ct K F' H' a r → New H H' a → Q (.ref a) H'
  | .exc x outs => ∀ cls d H' F', Post K ms vs H F H' F' outs → ERep K F' x cls d → E cls d H'
  | .bad => False
def spO (K : PySem.W.Frag) (ms : List Bool) (sem : List D → RF) : Sp := fun vs H Q E => ∃ F ds, SubH F H ∧ ArgsR K F H ms vs ds ∧ (ios ms vs).Nodup ∧ PoRO K ms vs H F Q E (sem ds)
theorem spO_len {K : PySem.W.Frag} {ms : List Bool} {ps : List Str} {sem : List D → RF} (hl : ms.length = ps.length) : ∀ vs H Q E, spO K ms sem vs H Q E → vs.length = ps.length := fun vs H Q E ⟨F, ds, _, A, _⟩ => by rw [A.len.1, hl]
def PoSO (K : PySem.W.Frag) (W : WX) (G : Gd) (T : Tm) (F : Hp) (E : Ends) : Res D → Prop
  | .ok d s' => ∀ a σ' H' F', Sub F F' → SR K G ((a, d) :: T) σ' H' F' s' → E.rt (.ref a) H'
  | .exc x s' => ∀ cls d σ' H' F', Sub F F' → SR K G T σ' H' F' s' → ERep K F' x cls d → W cls d σ' H'
  | .bad => False
theorem PoSO.sub {K : PySem.W.Frag} {W : WX} {G : Gd} {T : Tm} {F F' : Hp} {E : Ends} (h : Sub F F') : ∀ {r : Res D}, PoSO K W G T F E r → PoSO K W G T F' E r
  | .ok _ _, p => fun a x H1 F1 e => p a x H1 F1 (h.trans e)
  | .exc _ _, p => fun x d s1 H1 F1 e => p x d s1 H1 F1 (h.trans e)
  | .bad, p => p
def rSO (K : PySem.W.Frag) (W : WX) (m : M D) : TS := fun E σ H => ∃ G T F s, SR K G T σ H F s ∧ PoSO K W G T F E (m s)
def seqO : RS → M D → Res D
  | .nx s, k => k s
  | .exc x s, _ => .exc x s
  | _, _ => .bad
def mSeqO (a : MS) (b : M D) : M D := fun s => seqO (a s) b
section
variable {X : Cx} {W : WX} {st : Stmt} {rest : List Stmt} {e : Expr} {pos : Pos}
theorem pso_cons {a : MS} {b : M D} (h : PS X st (rS X.K W a)) (t : PSs X rest (rSO X.K W b)) : PSs X (st :: rest) (rSO X.K W (mSeqO a b)) := pss_imp (pss_cons h t) fun D σ H ⟨G, T, F, s, R, po⟩ => by
  refine ⟨G, T, F, s, R, ?_⟩
  have po : PoSO X.K W G T F D (seqO (a s) b) := po
  cases q : a s with
  | nx s' => rw [q] at po; exact fun σ' H' F' f R' => ⟨G, T, F', s', R', PoSO.sub f po⟩
  | bk s' => rw [q] at po; exact po.elim
  | ct s' => rw [q] at po; exact po.elim
  | rt d s' => rw [q] at po; exact po.elim
  | exc x s' => rw [q] at po; exact po
  | bad => rw [q] at po; exact po
theorem pso_ret {m : M D} (h : PE X e (rF X.K W m)) : PSs X [.Return (some e) pos] (rSO X.K W m) := pss_imp (pss_one (ps_ret h)) fun D σ H ⟨G, T, F, s, R, po⟩ => by
  refine ⟨G, T, F, s, R, ?_⟩
  cases q : m s with
  | ok d s' => rw [q] at po; exact fun p H' F' f R' => po p σ H' F' f R'
  | exc x s' => rw [q] at po; exact fun cls d H' F' f R' r => po cls d σ H' F' f R' r
  | bad => rw [q] at po; exact po.elim
end
def endO (ms : List Bool) : Res D → RF
  | .ok d s => (match outsOf ms s with
    | some l => .rt d l
    | none => .bad)
  | .exc x s => (match outsOf ms s with
    | some l => .exc x l
    | none => .bad)
  | .bad => .bad
def runO (n : Nat) (ms : List Bool) (m : M D) (ds : List D) : RF := endO ms (m (startS n ms ds))
theorem body_okO {K : PySem.W.Frag} {body : List Stmt} {N : List Str} {ms : List Bool} {m : M D} {X : Cx} {E : XK} {Q : VK} {vs : List V} {H : Hp} (hK : X.K = K) (hN : ms.length ≤ N.length) (hb : PSs X body (rSO X.K (WE E) m)) (h : spO K ms (runO N.length ms m) vs H Q E) : ∃ t, PSs X body t ∧ t { nx := fun _ H' => Q .non H', rt := Q } (L2.start N vs) H := by
  subst hK
  refine ⟨_, hb, ?_⟩
  obtain ⟨F, ds, hs, A, nd, po⟩ := h
  refine ⟨_, _, _, _, SR.start (N := N) hs A nd hN, ?_⟩
  have po : PoRO X.K ms vs H F Q E (endO ms (m (startS N.length ms ds))) := po
  cases q : m (startS N.length ms ds) with
  | ok d s =>
    rw [q] at po
    cases z : outsOf ms s with
    | none => simp only [endO, z] at po; exact po.elim
    | some l =>
      simp only [endO, z] at po
      intro a σ' H' F' f R'
      obtain ⟨c, n, w⟩ := R'.tm _ (List.mem_cons_self ..)
      exact po a H' F' (SR.post (N := N) A R'.dropT z) n c w
  | exc x s =>
    rw [q] at po
    cases z : outsOf ms s with
    | none => simp only [endO, z] at po; exact po.elim
    | some l => simp only [endO, z] at po; exact fun cls d σ' H' F' f R' r => po cls d H' F' (SR.post (N := N) A R' z) r
  | bad => rw [q] at po; exact po.elim
theorem SR.addT {K : PySem.W.Frag} {G : Gd} {T : Tm} {F H : Hp} {σ : L2.St} {s : S} {a : Addr} {d : D} (R : SR K G T σ H F s) (c : Ct K F H a d) (n : F a = none) (w : New G.h H a) (ht : ∀ p ∈ T, p.1 ≠ a) (ho : ∀ (i : Nat) (b : Bool) (d : D), s[i]? = some (Sl.ow b d) → σ[i]? ≠ some (some (V.ref a))) : SR K G ((a, d) :: T) σ H F s := by
  refine ⟨R.sub, R.len, R.fz, R.ow, R.dj, fun q hq => ?_, List.nodup_cons.mpr ⟨fun z => ?_, R.tn⟩, fun q hq i b e h => ?_, R.fr, R.ioH, R.ioK, R.ioD, R.old, R.oldH, R.nw⟩
  · rcases List.mem_cons.mp hq with rfl | hq
    · exact ⟨c, n, w⟩
    · exact R.tm q hq
  · obtain ⟨q, hq, e⟩ := List.mem_map.mp z
    exact ht q hq e
  · rcases List.mem_cons.mp hq with rfl | hq
    · exact ho i b e h
    · exact R.td q hq i b e h
theorem SR.own_not {K : PySem.W.Frag} {G : Gd} {T : Tm} {F H : Hp} {σ : L2.St} {s : S} {a : Addr} (R : SR K G T σ H F s) (h : H a = none) : (∀ p ∈ T, p.1 ≠ a) ∧ ∀ (i : Nat) (b : Bool) (d : D), s[i]? = some (Sl.ow b d) → σ[i]? ≠ some (some (V.ref a)) := by
  refine ⟨fun p hp z => ?_, fun i b d e z => ?_⟩
  · obtain ⟨o, ho⟩ := (R.tm p hp).1.ex
    rw [z, h] at ho; cases ho
  · obtain ⟨a', e1, c, _⟩ := R.ow i b d e
    rw [z] at e1; cases e1
    obtain ⟨o, ho⟩ := c.ex
    rw [h] at ho; cases ho
end Dl
namespace Dl
open PySem PySem.Spec PyProof.Rows L2 He Lp
section
variable {K : PySem.W.Frag} {W : WX} {G : Gd} {T : Tm} {F H : Hp} {σ : L2.St} {s : S}
theorem call_runO {P : Res D → Prop} {F0 : Hp} (ip : IsP K W G T F0 σ P) (f0 : Sub F0 F) (R : SR K G T σ H F s) {ms : List Bool} {sem : List D → RF} {vl : List Vl} {xs : List V} {Q : VK} (r : Paired (VR K F σ) xs vl) (p : P (callS ms sem vl s))
    (hk : ∀ a H' F' s' d, Sub F0 F' → SR K G ((a, d) :: T) σ H' F' s' → P (.ok d s') → Q (.ref a) H') : spO K ms sem xs H Q (fun cls d H' => W cls d σ H') := by
  unfold callS at p
  cases q : argsD ms vl s with
  | none => rw [q] at p; exact (ip.bad p).elim
  | some y =>
    obtain ⟨ds, is⟩ := y
    rw [q] at p
    simp only at p
    split at p
    case isFalse => exact (ip.bad p).elim
    rename_i nd
    obtain ⟨as, A⟩ := argsD_ok R r q
    obtain ⟨A1, A2⟩ := A.args
    refine ⟨F, ds, R.sub, A1, by rw [A2]; exact A.nodup R nd, ?_⟩
    cases z : sem ds with
    | bad => rw [z] at p; exact (ip.bad p).elim
    | rt d outs =>
      rw [z] at p
      intro a H' F' po n c w
      obtain ⟨hl, hp⟩ := A.pair
      obtain ⟨h1, h2, h3⟩ := putO_ok (s := s) (A.t3 po.o) nd hp
      obtain ⟨n1, n2⟩ := R.own_not w.1
      refine hk a H' F' _ d (f0.trans po.f) ((R.called A nd po).addT c n ⟨(R.fresh w.1).1, fun C dx fs e => (R.fresh (w.2 C dx fs e)).1⟩ n1 fun i b u e => ?_) p
      by_cases hi : i ∈ is
      · obtain ⟨b', d1, _, _, e1, _⟩ := h3 i hi
        exact n2 i b' d1 e1
      · rw [h2 i hi] at e
        exact n2 i b u e
    | exc x outs => rw [z] at p; exact fun cls d H' F' po rv => ip.exc x _ p cls d H' F' (f0.trans po.f) (R.called A nd po) rv
end
section
variable {X : Cx} {W : WX} {k : Nat} {x m : Str} {ps : List Str} {ms : List Bool} {sem : List D → RF} {p pos apos : Pos} {e o : Expr} {es : List Expr} {ma : M (List Vl)} {mo : M Vl} {pl : Sem Bool}
theorem pd_fnO (c : Cal X.prog X.w X.K X.mg X.base (CX X.prog X.w) k x ps (spO X.K ms sem)) (hr : Room k X.A) (tk : Takes X W) (ha : PA X (e :: es) (rA X.K W ma)) (hg : Gl X x := by rfl) (hdb : (x == ("__debug__" : Str)) = false := by decide)
    (he : starEach (e :: es) X.env = (false, eval e X.env) :: starEach es X.env := by rfl) (hpl : (backTo pos (starEach es X.env)).any (·.1) = false := by rfl) : PE X (.Call (.Name x p) (e :: es) [] pos) (rF X.K W (mFn ms sem ma)) :=
  pe_imp (pe_fnS (E := fun σ cls d H => W cls d σ H) c hr (passAt tk) ha hg hdb he hpl) fun σ H Q ⟨G, T, F, s, R, po⟩ =>
    rA_run isP_F (Sub.refl F) R po fun xs H1 F1 s1 vs f1 _ R1 v1 p1 => call_runO isP_F f1 R1 v1 p1 fun v H2 F2 s2 d f2 R2 p2 => p2 v H2 F2 f2 R2
def isObj (c m : Str) : D → Option Unit
  | .obj c' fs => if c' = c ∧ fs.lookup m = none then some () else none
  | _ => none
def mMeth (c m : Str) (ms : List Bool) (sem : List D → RF) (mo : M Vl) (ma : M (List Vl)) : M D := bnd (fzD mo) fun o => bnd (lift (isObj c m o)) fun _ => bnd ma fun vs => callS (false :: ms) sem (.d o :: vs)
end
section
variable (P : Program) (w : World) (K : PySem.W.Frag) (mg : Str → Option Value) (base : Heap) (CX : CXT) (k : Nat)
structure CalCD (x : Str) (ps : List Str) (dvs : List V) (sp : Sp) : Prop where
  ex : ∃ (f : Addr) (fd : FuncData) (ds : List Value), Mk K (ga K x) f ∧ Binds K fd ps ds ∧ Vals dvs ds ∧ FnOk P w K mg base CX k f fd ps sp
  gl : mg x = some (.ref (ga K x))
end
section
variable {X : Cx} {CX : CXT} {k : Nat} {C f : Addr} {fd : FuncData} {ps : List Str} {sp : Sp} {ds : List Value} {dvs : List V}
variable {x : Str} {p pos : Pos} {e : Expr} {es : List Expr} {t : TA} {E : L2.St → XK}
end
def mkR (s : S) : RF → Res D
  | .rt .non [o] => .ok o s
  | .exc x _ => .exc x s
  | _ => .bad
def mMake (c : Str) (n : Nat) (sem : List D → RF) (dds : List D) (ma : M (List D)) : M D := bnd ma fun ds s => if (ds ++ dds).length = n then mkR s (sem (.obj c [] :: (ds ++ dds))) else .bad
section
variable {X : Cx} {W : WX} {k : Nat} {x : Str} {ps : List Str} {sem : List D → RF} {dvs : List V} {dds : List D} {n : Nat} {p pos : Pos} {e : Expr} {es : List Expr} {ma : M (List D)}
end
end Dl
namespace PySem.W
open PySem PySem.Spec PySem.Calls PyProof.Rows
section
variable {prog : Program} {w : World} {A : Around} {E : Value → Shared → Prop} {s : Shared} {K : Frag} {x C C2 L f : Addr} {h₀ : Heap} {m : Str → Option Value} {ox : Obj} {od : Option Obj}
end
end PySem.W
namespace Dl
open PySem PySem.Spec PyProof.Rows L2 He Lp
section
variable {X : Cx} {CX : CXT} {C C2 g : Addr} {n : Nat} {sp : Sp} {E : XK}
end
end Dl
namespace Dl
open PySem PySem.Spec PyProof.Rows L2 He Lp
def OpZ (K : PySem.W.Frag) (r : R2) (f : D → D → Option D) : Prop := ∀ (F H : Hp) (x y : V) (a b d : D) (Q : VK), SubH F H → Rep K F x a → Rep K F y b → f a b = some d → (∀ v H', Same H H' → Nr K F H H' v d → Q v H') → r x y H Q
theorem OpD.z {K : PySem.W.Frag} {r : R2} {f : D → D → Option D} (h : OpD K r f) : OpZ K r f := fun F H x y a b d Q hs ra rb e k => h F H x y a b d Q hs (.inl ra) (.inl rb) e k
def m2z (f : D → D → Option D) (ma mb : M Vl) : M D := bnd (fzD ma) fun a => bnd (fzD mb) fun b => lift (f a b)
section
variable {X : Cx} {W : WX} {a b : Expr} {pos : Pos} {r : R2} {f : D → D → Option D} {ma mb : M Vl}
end
inductive Kd where
  | b (n : String) | o (c : Str)
deriving DecidableEq
def kdOf : D → Option Kd
  | .non => some (.b "NoneType")
  | .bl _ => some (.b "bool")
  | .int _ => some (.b "int")
  | .str _ => some (.b "str")
  | .tup _ => some (.b "tuple")
  | .lst _ => some (.b "list")
  | .rol _ => some (.b "list")
  | .dct _ => some (.b "dict")
  | .obj c _ => some (.o c)
  | .fn _ => none
  | .emp => none
  | .ntp _ => some (.b "tuple")
  | .xer _ _ => none
def kdV (K : PySem.W.Frag) : Kd → Value
  | .b n => .type n
  | .o c => .ref (ga K c)
def okK (cs : List Str) : Kd → Bool
  | .b _ => true
  | .o c => decide (c ∈ cs)
abbrev Tab := List ((Kd × Kd) × Bool)
def TabOk (K : PySem.W.Frag) (tb : Tab) : Prop := ∀ p ∈ tb, PySem.W.kitOne K (kdV K p.1.1) (kdV K p.1.2) = some p.2
def isiD (cs : List Str) (tb : Tab) (t : Kd) (d : D) : Option D := (kdOf d).bind fun k => if okK cs k = true then (tb.lookup (k, t)).map .bl else none
def mIsi (cs : List Str) (tb : Tab) (t : Kd) (m : M Vl) : M D := bnd (fzD m) fun d => lift (isiD cs tb t d)
theorem lookup_mem {α β : Type} [BEq α] [LawfulBEq α] : ∀ {l : List (α × β)} {a : α} {b : β}, l.lookup a = some b → (a, b) ∈ l
  | [], _, _, h => by simp at h
  | (c, d) :: l, a, b, h => by
    rw [List.lookup_cons] at h
    cases q : a == c with
    | true => rw [q] at h; cases h; rw [beq_iff_eq.mp q]; exact List.mem_cons_self ..
    | false => rw [q] at h; exact List.mem_cons_of_mem _ (lookup_mem h)
section
variable {X : Cx} {W : WX} {e : Expr} {p1 p2 pos : Pos} {x : Str} {m : M Vl} {cs : List Str} {tb : Tab}
end
abbrev Qs := List (Str × (List D → RF))
abbrev XF : XK := fun _ _ _ => False
def NfOk (K : PySem.W.Frag) (nf : List (Str × Kd)) : Prop := ∀ p ∈ nf, PySem.W.notFirst K (ga K p.1) (kdV K p.2) = true
section
variable {X : Cx} {k : Nat} {qs : Qs}
end
section
variable {X : Cx} {W : WX} {k : Nat} {c : Str} {sem : List D → RF} {o e : Expr} {pos p : Pos} {ma mb : M Vl} {ps : List Str} {qs : Qs}
def mZ1 (f : D → Option D) (m : M Vl) : M D := bnd (fzD m) fun d => lift (f d)
end
end Dl
namespace PySem
open PySem.Spec PyProof.Rows
section
variable {prog : Program} {w : World} {K : Type} [DecidableEq K] {knd : KeyKind prog w K} {A : Around} {E : Value → Shared → Prop} {s : Shared}
end
end PySem
namespace Lp
open PySem PySem.Spec PyProof.Rows L2
section
variable {P : Program} {w : World} {A : Around} {E : Value → Shared → Prop} {s : Shared}
end
end Lp
namespace Dl
open PySem PySem.Spec PyProof.Rows L2 He Lp
def starD : D → Option D
  | .dct k => some (.dct k)
  | _ => none
def mDStar (m : M Vl) : M D := bnd (fzD m) fun d => lift (starD d)
section
variable {X : Cx} {W : WX} {e : Expr} {pos p : Pos} {m : M Vl}
def mRaise1 (c f : Str) (m : M Vl) : MS := fun s => bndS (fzD m s) fun d s => .exc ⟨.own c, [(f, d)]⟩ s
end
section
variable {X : Cx} {W : WX} {e : Expr} {pos : Pos} {m : M Vl}
end
def supS (cs : List Str) : Option Sl → Bool
  | some (.ow _ (.obj c _)) => decide (c ∈ cs)
  | _ => false
def mSup (cs : List Str) (ms : List Bool) (sem : List D → RF) (ma : M (List Vl)) : M D := fun s => if supS cs s[0]? = true then bndR (ma s) fun vs => callS (true :: ms) sem (.sl 0 :: vs) else .bad
section
variable {X : Cx} {k : Nat} {f cda cc Dc f2 : Addr} {E : XK} {e : Expr} {es : List Expr} {m : Str} {p0 p1 apos pos : Pos} {body : List Stmt} {pl : Sem Bool} {cs : List Str} {ms : List Bool} {sem : List D → RF} {ma : M (List Vl)}
structure SupF (P : Program) (w : World) (K : PySem.W.Frag) (mg : Str → Option Value) (base : Heap) (k : Nat) (f cda cc Dc : Addr) (m : Str) (cs : List Str) (sp : Sp) : Prop where
  S : SupK P K mg f cda cc Dc
  ex : ∃ f2, FnR P w K mg base (CX P w) k f2 sp ∧ PySem.W.fnIn K f2 = true ∧ PySem.W.isFn K (.ref f2) = true ∧ ∀ c ∈ cs, PySem.W.mroIn K (ga K c) (.ref Dc) = some true ∧ PySem.W.ks_superIn K (ga K c) Dc m = some (some (.ref f2))
end
section
variable {X : Cx} {W : WX} {c : Code} {st : Stmt} {rest : List Stmt} {e : Expr} {pos : Pos}
end
end Dl
namespace Dl
open PySem PySem.Spec PyProof.Rows L2 He Lp
def gUn (n : Nat) (gs : List D → S → Option S) : D → S → Option S
  | .lst ds, s => if ds.length = n then gs ds s else none
  | _, _ => none
theorem pgd_unl {X : Cx} {pos : Pos} {es : List Expr} {j : Nat} {gs : List D → S → Option S} {n : Nat} (hc : X.calm = true) (h : PGs X es (rGs X.K gs)) (hn : (assignEach es X.env).length = n := by rfl) (hst : (assignEach es X.env).findIdx? (·.1) = none := by rfl) : PG X (.Tuple es j pos) (rG X.K (gUn n gs)) :=
  pg_imp (pg_unl hc h hn hst) fun v σ H Q ⟨G, T, F, s, d, R, r, s', e, k⟩ => by
    cases d with
    | lst ds =>
      unfold gUn at e
      simp only at e
      split at e
      · rename_i hl
        cases r with
        | lst q r => exact ⟨_, _, rfl, .of (R.sub _ _ q), by rw [r.len]; exact hl, G, T, F, s, ds, R, r, s', e, k⟩
      · cases e
    | _ => cases e
end Dl
namespace Dl
open PySem PySem.Spec PyProof.Rows L2 He Lp
section
variable {X : Cx} {W : WX} {pos : Pos} {x : Str}
end
section
variable {X : Cx} {CX : CXT} {k i : Nat} {sp : Sp} {E : L2.St → XK} {x : Str} {p pos : Pos} {e : Expr} {es : List Expr} {t : TA}
end
abbrev Fts := List (Str × (List Bool × (List D → RF)))
def fnOf (ft : Fts) : Option Sl → Option (List Bool × (List D → RF))
  | some (.fz (.fn y)) => ft.lookup y
  | _ => none
def FtOk (P : Program) (w : World) (K : PySem.W.Frag) (mg : Str → Option Value) (base : Heap) (k : Nat) (ft : Fts) : Prop := ∀ y ms sem, ft.lookup y = some (ms, sem) → (∃ ps, Cal P w K mg base (CX P w) k y ps (spD K ms sem)) ∧ mg y = some (.ref (ga K y))
theorem FtOk.nil {P : Program} {w : World} {K : PySem.W.Frag} {mg : Str → Option Value} {base : Heap} {k : Nat} : FtOk P w K mg base k [] := fun y ms sem h => by cases h
theorem FtOk.cons {P : Program} {w : World} {K : PySem.W.Frag} {mg : Str → Option Value} {base : Heap} {j k : Nat} {ft : Fts} {y : Str} {ps : List Str} {ms : List Bool} {sem : List D → RF} (c : Cal P w K mg base (CX P w) j y ps (spD K ms sem)) (g : mg y = some (.ref (ga K y))) (h : j ≤ k) (t : FtOk P w K mg base k ft) : FtOk P w K mg base k ((y, ms, sem) :: ft) := fun z ms' sem' e => by
  rw [List.lookup_cons] at e
  by_cases q : z = y
  · subst q; simp at e; obtain ⟨rfl, rfl⟩ := e; exact ⟨⟨_, c.mono h⟩, g⟩
  · rw [beq_false_of_ne q] at e; exact t z ms' sem' e
section
variable {X : Cx} {W : WX} {k i : Nat} {x : Str} {p pos : Pos} {e : Expr} {es : List Expr} {ma : M (List Vl)} {ft : Fts}
end
abbrev Cts := List (Str × (Nat × (List D → RF) × List D))
def CtOk (P : Program) (w : World) (K : PySem.W.Frag) (mg : Str → Option Value) (base : Heap) (k : Nat) (ct : Cts) : Prop := ∀ y n sem dds, ct.lookup y = some (n, sem, dds) → ∃ ps dvs, (∀ F, Reps K F dvs dds) ∧ CalCD P w K mg base (CX P w) k y ps dvs (spD K (true :: List.replicate n false) sem)
theorem CtOk.nil {P : Program} {w : World} {K : PySem.W.Frag} {mg : Str → Option Value} {base : Heap} {k : Nat} : CtOk P w K mg base k [] := fun y n sem dds h => by cases h
theorem CtOk.cons {P : Program} {w : World} {K : PySem.W.Frag} {mg : Str → Option Value} {base : Heap} {j k : Nat} {ct : Cts} {y : Str} {ps : List Str} {n : Nat} {sem : List D → RF} {dvs : List V} {dds : List D} (c : CalCD P w K mg base (CX P w) j y ps dvs (spD K (true :: List.replicate n false) sem)) (hd : ∀ F, Reps K F dvs dds) (h : j ≤ k) (t : CtOk P w K mg base k ct) : CtOk P w K mg base k ((y, n, sem, dds) :: ct) := fun z n' sem' dds' e => by
  rw [List.lookup_cons] at e
  by_cases q : z = y
  · subst q
    simp at e
    obtain ⟨rfl, rfl, rfl⟩ := e
    obtain ⟨f, fd, ds, a, b, d, g⟩ := c.ex
    exact ⟨ps, dvs, hd, ⟨f, fd, ds, a, b, d, g.mono h⟩, c.gl⟩
  · rw [beq_false_of_ne q] at e; exact t z n' sem' dds' e
section
variable {X : Cx} {W : WX} {k i : Nat} {x : Str} {p pos : Pos} {e : Expr} {es : List Expr} {ma : M (List D)} {ct : Cts}
end
section
variable {X : Cx} {CX : CXT} {k : Nat} {C q g : Addr} {sp : Sp} {E : L2.St → XK} {x m : Str} {ps : List Str} {p pos apos : Pos} {o e : Expr} {es : List Expr} {ta : TE} {t : TA} {pl : Sem Bool}
end
section
variable {X : Cx} {W : WX} {k : Nat} {x m : Str} {ps : List Str} {ms : List Bool} {sem : List D → RF} {p pos apos : Pos} {e : Expr} {es : List Expr} {ma : M (List Vl)} {pl : Sem Bool}
end
end Dl
namespace Dl
open PySem PySem.Spec PyProof.Rows L2 He Lp
abbrev Xt := List ((Str × Str) × Bool)
def XtOk (K : PySem.W.Frag) (xt : Xt) : Prop := ∀ y c b, xt.lookup (y, c) = some b → PySem.W.exmOne K (.ref (ga K y)) (.ref (ga K c)) = some b
abbrev Hdl := Str × Nat × (Xc → MS)
section
variable {K : PySem.W.Frag} {W : WX} {G : Gd} {T : Tm} {F H : Hp} {σ : L2.St} {s : S}
end
def tHd (K : PySem.W.Frag) (i : Nat) (h : Xc → MS) (a : Addr) (cls : Value) (d : Option Addr) : TS := fun E σ H => σ[i]? = some (some (.ref a)) ∧ ∃ x G T F s, SR K G T σ H F s ∧ ERep K F x cls d ∧ PoS K W0 G T F E (h x s)
inductive HdsD (X : Cx) : List ExceptHandler → List Hdl → Prop
  | nil : HdsD X [] []
  | cons {x n : Str} {i : Nat} {h : Xc → MS} {b₀ : Stmt} {suite : List Stmt} {np pos' : Pos} {hds : List ExceptHandler} {l : List Hdl} (hi : X.N[i]? = some n) (hln : X.env.kindOf n = some .local) (hc : Names X x (.ref (ga X.K x)))
      (hsu : ∀ (a : Addr) (oe : Obj) (cls : Value) (d : Option Addr) (pn : List (Addr × Obj)), Zc cls d oe → (∃ vs, oe.data = .fields vs) → PSs (X.suite a ((a, oe) :: pn)) (b₀ :: suite) (tHd X.K i h a cls d)) (r : HdsD X hds l) :
      HdsD X (.ExceptHandler (some (.Name x np)) (some n) (b₀ :: suite) pos' :: hds) ((x, i, h) :: l)
section
variable {X : Cx} {W : WX} {body : List Stmt} {h₀ : ExceptHandler} {hds : List ExceptHandler} {l : List Hdl} {pos : Pos} {m : MS} {xt : Xt}
def XaOk (K : PySem.W.Frag) (xa : List (Str × Str)) : Prop := ∀ c f, (c, f) ∈ xa → XfC K (ga K c) ∧ NoAttr K (ga K c) f
theorem XaOk.nil {K : PySem.W.Frag} : XaOk K [] := fun _ _ h => nomatch h
theorem XaOk.cons {P : Program} {w : World} {K : PySem.W.Frag} {mg : Str → Option Value} {base : Heap} {k : Nat} {c f : Str} {xa : List (Str × Str)} (e : CalE P w K mg base k c (ga K c) f) (t : XaOk K xa) : XaOk K ((c, f) :: xa) := fun c' f' h => by
  rcases List.mem_cons.mp h with h | h
  · cases h; obtain ⟨_, _, h1, _⟩ := e.ex; exact ⟨h1.xf, e.no⟩
  · exact t c' f' h
end
end Dl
namespace Lp
open PySem PySem.Spec PyProof.Rows L2 He
theorem kx_key : PySem.W.KxsFacts "KeyError" "KeyError.__init__" := ⟨by show builtinType _ = _; rw [builtinType_eq_fast]; kernel_rfl, by first | kernel_rfl | rfl⟩
abbrev XkC (K : PySem.W.Frag) (C : Addr) : Prop := XoC K C "LookupError" "LookupError.__new__" "LookupError.__init__" "KeyError" "KeyError.__init__" [.type "LookupError", .type "Exception", .type "BaseException", .type "object"]
theorem ke_pass (u : Value) : refuseLoop u "__setattr__" keTail = pure () := by kernel_rfl
structure ErrK (K : PySem.W.Frag) (C f : Addr) : Prop where
  ox : XkC K C
  ty : PySem.W.typeIn K (.ref C) = some (.type "type")
  ic : PySem.W.findIn K (.ref C) "__init__" = some (some (.ref f))
  it : PySem.W.typeIn K (.ref f) = some (.type "function")
  ms : PySem.W.mroIn K C (.ref C) = some true
  si : PySem.W.ks_superIn K C C "__init__" = some (some (.builtin "KeyError.__init__"))
def oekB (K : PySem.W.Frag) (C : Addr) : Bool := match K.lookup C with
  | some ⟨.type "type", _, .cls cd, sl⟩ => (match cd.mro, sl.toList with
    | .ref C' :: bm, [_, _, _, _, some (.builtin n), _] => C' == C && (n == "LookupError.__new__" && (!cd.hasDel && (cd.hasDict && bm == keTail)))
    | _, _ => false)
  | _ => false
theorem oekB_ok {K : PySem.W.Frag} {C : Addr} (h : oekB K C = true) : ∃ nm q N bs sn sub ab col dd k0 k1 k2 k3 k5, K.lookup C = some (excClassObj nm q C N bs keTail true sn sub ab col dd k0 k1 k2 k3 k5 "LookupError.__new__") := by
  unfold oekB at h
  split at h
  · rename_i dd cd sl ho
    split at h
    · rename_i C' bm k0 k1 k2 k3 n k5 hm hs
      obtain ⟨h1, h⟩ := ba h
      obtain ⟨h2, h⟩ := ba h
      obtain ⟨h3, h⟩ := ba h
      obtain ⟨h4, h5⟩ := ba h
      obtain ⟨nm, bs, mro, ns, qn, hd, sn, sub, ab, col, del⟩ := cd
      dsimp only at hm h3 h4
      have h3 : del = false := by simpa using h3
      have e1 : C' = C := beq_iff_eq.mp h1
      have e2 : n = "LookupError.__new__" := beq_iff_eq.mp h2
      have e5 : bm = keTail := beq_iff_eq.mp h5
      subst hm h3 h4 e1 e2 e5
      have hsl : sl = #[k0, k1, k2, k3, some (.builtin "LookupError.__new__"), k5] := by
        obtain ⟨l⟩ := sl
        simp only at hs
        rw [hs]
      subst hsl
      exact ⟨nm, qn, ns, bs, sn, sub, ab, col, dd, k0, k1, k2, k3, k5, ho⟩
    · cases h
  · cases h
def errkB (K : PySem.W.Frag) (C f : Addr) : Bool := oekB K C && (excCB K C && (eqO (PySem.W.findIn K (.ref C) "__setattr__") (some (some (.builtin "object.__setattr__"))) && (decide (PySem.W.typeIn K (.ref C) = some (.type "type")) && (PySem.W.keepIn K (.ref C) &&
  (eqO (PySem.W.findIn K (.ref C) "__init__") (some (some (.ref f))) && (decide (PySem.W.typeIn K (.ref f) = some (.type "function")) && (decide (PySem.W.mroIn K C (.ref C) = some true) && eqO (PySem.W.ks_superIn K C C "__init__") (some (some (.builtin "KeyError.__init__"))))))))))
theorem errkB_ok {K : PySem.W.Frag} {C f : Addr} (h : errkB K C f = true) : ErrK K C f := by
  obtain ⟨h1, h⟩ := ba h
  obtain ⟨h2, h⟩ := ba h
  obtain ⟨h3, h⟩ := ba h
  obtain ⟨h4, h⟩ := ba h
  obtain ⟨h5, h⟩ := ba h
  obtain ⟨h6, h⟩ := ba h
  obtain ⟨h7, h⟩ := ba h
  obtain ⟨h8, h9⟩ := ba h
  obtain ⟨x1, x2⟩ := excCB_ok h2
  obtain ⟨nm, q, N, bs, sn, sub, ab, col, dd, k0, k1, k2, k3, k5, hl⟩ := oekB_ok h1
  refine ⟨⟨F.excBase_LookupError, initF_key, by decide +kernel, kx_key, ⟨nm, q, N, bs, keTail, sn, sub, ab, col, dd, k0, k1, k2, k3, k5, hl, ⟨by decide +kernel, by decide +kernel, by decide +kernel⟩, by decide +kernel, by decide +kernel, fun u => ?_⟩, eqO_ok h3, h5, x1, x2⟩, of_decide_eq_true h4, eqO_ok h6, of_decide_eq_true h7, of_decide_eq_true h8, eqO_ok h9⟩
  rw [refuseLoop_ref]
  exact ke_pass u
def spErrK (C : Addr) (f : Str) : Sp := fun vs H Q _ => ∃ a v, vs = [.ref a, v] ∧ H a = some (exo a C none) ∧ ∀ dx H', H dx = none → dx ≠ a → Kp [a] H H' → H' dx = some (exd dx [(f, v)]) → H' a = some (exo a C (some dx)) → Q .non H'
structure CalK (P : Program) (w : World) (K : PySem.W.Frag) (mg : Str → Option Value) (base : Heap) (k : Nat) (x : Str) (C : Addr) (fld : Str) : Prop where
  ex : ∃ (f : Addr) (fd : FuncData), ErrK K C f ∧ Binds K fd ["self", fld] [] ∧ FnOk P w K mg base CX0 k f fd ["self", fld] (spErrK C fld)
  gl : mg x = some (.ref C)
  no : NoAttr K C fld
end Lp
namespace Dl
open PySem PySem.Spec PyProof.Rows L2 He Lp
section
variable {X : Cx} {W : WX} {e : Expr} {m : M Vl} {p pos : Pos}
end
end Dl
namespace Lp
open PySem PySem.Spec PyProof.Rows L2 He
end Lp
namespace Lp
open PySem PySem.W PySem.Calls PyProof.Rows
theorem obsL_app {file : PySem.Str} {fb fb2 : List (PySem.W.Frag → Bool)} {fn fn2 : List DefL} {K : PySem.W.Frag} (h1 : obsL file fb fn K = valL fn) (h2 : obsL file fb2 fn2 K = valL fn2) : obsL file (fb ++ fb2) (fn ++ fn2) K = valL (fn ++ fn2) := by
  unfold obsL valL at *
  simp only [Prod.mk.injEq] at h1 h2
  have a1 := Bool.and_eq_true_iff.mp h1.1
  have a2 := Bool.and_eq_true_iff.mp h2.1
  rw [List.all_append, List.all_append, List.map_append, List.map_append, a1.1, a1.2, a2.1, a2.2, h1.2, h2.2]
  rfl
end Lp
namespace PySem.SeqAt
open AutoSeq1 (wpAny_loadPart')
open MeetsSeq MeetsSeq2 MeetsSeq3 SeqRoads2
end PySem.SeqAt
namespace Dl
open PySem PySem.Spec PyProof.Rows L2 He Lp
mutual
def nrm : D → D
  | .tup l => .tup (nrms l)
  | .lst l => .lst (nrms l)
  | .dct l => .dct (nrmK l)
  | .obj _ fs => .obj "" (nrmF fs)
  | .non => .non | .bl b => .bl b | .int i => .int i | .str x => .str x | .rol l => .rol l | .fn x => .fn x | .emp => .emp | .ntp l => .ntp l | .xer c fs => .xer c fs
def nrms : List D → List D
  | [] => []
  | d :: l => nrm d :: nrms l
def nrmK : List (Key × D) → List (Key × D)
  | [] => []
  | (k, d) :: l => (k, nrm d) :: nrmK l
def nrmF : List (Str × D) → List (Str × D)
  | [] => []
  | (k, d) :: l => (k, nrm d) :: nrmF l
end
mutual
def nice : D → Bool
  | .tup l => nices l
  | .lst l => nices l
  | .dct l => niceK l
  | .obj _ fs => niceF fs
  | .non => true | .bl _ => true | .int _ => true | .str _ => true | .rol _ => false | .fn _ => false | .emp => false | .ntp _ => false | .xer _ _ => false
def nices : List D → Bool
  | [] => true
  | d :: l => nice d && nices l
def niceK : List (Key × D) → Bool
  | [] => true
  | (_, d) :: l => nice d && niceK l
def niceF : List (Str × D) → Bool
  | [] => true
  | (_, d) :: l => nice d && niceF l
end
section
variable {X : Cx} {pins : List (Addr × Obj)} {σ : L2.St} {H F : Hp} {s : Shared}
theorem sqT_no (I : Inv X pins σ H s) (hs : SubH F H) {a : Addr} {vs : List V} {o : HO} (q : SqT X.K F a vs) (e : F a = some o) (h1 : ∀ l, o ≠ .tup l) (h2 : ∀ p l, o ≠ .frz p (.tup l)) : False := by
  rcases q with (q | ⟨p, q⟩) | ⟨p, its, n, hk, _⟩
  · rw [e] at q; cases q; exact h1 _ rfl
  · rw [e] at q; cases q; exact h2 _ _ rfl
  · have := (I.bs a p (I.ok.mod.kin a p hk)).2
    rw [hs a o e] at this
    cases this
mutual
theorem rep_nrm (I : Inv X pins σ H s) (hs : SubH F H) : ∀ {v : V} {a b : D}, Rep X.K F v a → Rep X.K F v b → nice a = true → nice b = true → nrm a = nrm b
  | _, _, _, .non, r, _, _ => by cases r; rfl
  | _, _, _, .bl b, r, _, _ => by cases r; rfl
  | _, _, _, .int i, r, _, _ => by cases r; rfl
  | _, _, _, .str x, r, _, _ => by cases r; rfl
  | _, _, _, .fn x, r, h, _ => by cases h
  | _, _, _, .emp _ _ _ _, r, h, _ => by cases h
  | _, _, _, .emp2 _ _ _ _, r, h, _ => by cases h
  | _, _, _, .ntp _ _ _ _, r, h, _ => by cases h
  | _, _, _, .xer _ _ _, r, h, _ => by cases h
  | _, _, _, .xen _, r, h, _ => by cases h
  | _, _, _, .rol _ _, r, h, _ => by cases h
  | _, _, _, .tup q t, r, h, k => by
    cases r with
    | fn => cases k
    | emp => cases k
    | emp2 => cases k
    | ntp => cases k
    | xer => cases k
    | xen => cases k
    | rol => cases k
    | tup q2 t2 =>
      have := I.tuple_inj (hs.sqT q) (hs.sqT q2)
      subst this
      simp only [nrm, reps_nrm I hs t t2 h k]
    | lst q2 t2 => exact (sqT_no I hs q q2 (fun _ z => nomatch z) (fun _ _ z => nomatch z)).elim
    | dct q2 t2 => exact (sqT_no I hs q q2 (fun _ z => nomatch z) (fun _ _ z => nomatch z)).elim
    | obj q2 o2 t2 => exact (sqT_no I hs q q2 (fun _ z => nomatch z) (fun _ _ z => nomatch z)).elim
  | _, _, _, .lst q t, r, h, k => by
    cases r with
    | fn => cases k
    | emp => cases k
    | emp2 => cases k
    | ntp => cases k
    | xer => cases k
    | xen => cases k
    | rol => cases k
    | tup q2 t2 => exact (sqT_no I hs q2 q (fun _ z => nomatch z) (fun _ _ z => nomatch z)).elim
    | lst q2 t2 =>
      rw [q] at q2
      cases q2
      simp only [nrm, reps_nrm I hs t t2 h k]
    | dct q2 t2 => rw [q] at q2; cases q2
    | obj q2 o2 t2 => rw [q] at q2; cases q2
  | _, _, _, .dct q t, r, h, k => by
    cases r with
    | fn => cases k
    | emp => cases k
    | emp2 => cases k
    | ntp => cases k
    | xer => cases k
    | xen => cases k
    | rol => cases k
    | tup q2 t2 => exact (sqT_no I hs q2 q (fun _ z => nomatch z) (fun _ _ z => nomatch z)).elim
    | lst q2 t2 => rw [q] at q2; cases q2
    | dct q2 t2 =>
      rw [q] at q2
      cases q2
      simp only [nrm, repK_nrm I hs t t2 h k]
    | obj q2 o2 t2 => rw [q] at q2; cases q2
  | _, _, _, .obj q o t, r, h, k => by
    cases r with
    | fn => cases k
    | emp => cases k
    | emp2 => cases k
    | ntp => cases k
    | xer => cases k
    | xen => cases k
    | rol => cases k
    | tup q2 t2 => exact (sqT_no I hs q2 q (fun _ z => nomatch z) (fun _ _ z => nomatch z)).elim
    | lst q2 t2 => rw [q] at q2; cases q2
    | dct q2 t2 => rw [q] at q2; cases q2
    | obj q2 o2 t2 =>
      rw [q] at q2
      injection q2 with q2
      injection q2 with _ _ q2
      subst q2
      simp only [nrm, repF_nrm I hs t t2 h k]
theorem reps_nrm (I : Inv X pins σ H s) (hs : SubH F H) : ∀ {vs : List V} {as bs : List D}, Reps X.K F vs as → Reps X.K F vs bs → nices as = true → nices bs = true → nrms as = nrms bs
  | _, _, _, .nil, r, _, _ => by cases r; rfl
  | _, _, _, .cons r t, r', h, k => by
    cases r' with
    | cons r2 t2 =>
      simp only [nices, Bool.and_eq_true] at h k
      simp only [nrms, rep_nrm I hs r r2 h.1 k.1, reps_nrm I hs t t2 h.2 k.2]
theorem repK_nrm (I : Inv X pins σ H s) (hs : SubH F H) : ∀ {vs : List (Key × V)} {as bs : List (Key × D)}, RepK X.K F vs as → RepK X.K F vs bs → niceK as = true → niceK bs = true → nrmK as = nrmK bs
  | _, _, _, .nil, r, _, _ => by cases r; rfl
  | _, _, _, .cons r t, r', h, k => by
    cases r' with
    | cons r2 t2 =>
      simp only [niceK, Bool.and_eq_true] at h k
      simp only [nrmK, rep_nrm I hs r r2 h.1 k.1, repK_nrm I hs t t2 h.2 k.2]
theorem repF_nrm (I : Inv X pins σ H s) (hs : SubH F H) : ∀ {vs : List (Str × V)} {as bs : List (Str × D)}, RepF X.K F vs as → RepF X.K F vs bs → niceF as = true → niceF bs = true → nrmF as = nrmF bs
  | _, _, _, .nil, r, _, _ => by cases r; rfl
  | _, _, _, .cons r t, r', h, k => by
    cases r' with
    | cons r2 t2 =>
      simp only [niceF, Bool.and_eq_true] at h k
      simp only [nrmF, rep_nrm I hs r r2 h.1 k.1, repF_nrm I hs t t2 h.2 k.2]
end
end
def de : D → D
  | .emp => .tup []
  | .ntp l => .tup l
  | .non => .non | .bl b => .bl b | .int i => .int i | .str x => .str x | .tup l => .tup l | .lst l => .lst l | .rol l => .rol l | .dct l => .dct l | .obj c fs => .obj c fs | .fn x => .fn x | .xer c fs => .xer c fs
theorem rep_de {K : PySem.W.Frag} {F : Hp} {v : V} {d : D} (r : Rep K F v d) : Rep K F v (de d) := by
  cases r with
  | emp h1 h2 h3 h4 => exact .tup (.inr ⟨_, #[], _, h1, h2, h4, by decide, .nil⟩) .nil
  | emp2 h1 h2 h3 h4 => exact .tup (.inl (.inr ⟨_, h1⟩)) .nil
  | ntp h1 h2 h3 t => exact .tup (.inl (.inr ⟨_, h1⟩)) t
  | xer h1 h2 h3 => exact .xer h1 h2 h3
  | xen h1 => exact .xen h1
  | non => exact .non
  | bl b => exact .bl b
  | int i => exact .int i
  | str x => exact .str x
  | fn x => exact .fn x
  | tup q t => exact .tup q t
  | lst q t => exact .lst q t
  | rol q t => exact .rol q t
  | dct q t => exact .dct q t
  | obj q o t => exact .obj q o t
open Classical in
section
variable {prog : Program} {w : World} {A : Around} {E : Value → Shared → Prop} {s : Shared}
end
end Dl
namespace Dl
open PySem PySem.Spec PyProof.Rows L2 He Lp
section
variable {X : Cx} {CX : CXT} {pins : List (Addr × Obj)} {σ : L2.St} {H F : Hp} {s : Shared} {A : Around} {k : Nat} {C : Addr} {ps : List Str} {sp : Sp} {E : XK} {x y : V} {v u : Value} {Q : VK}
end
section
variable {X : Cx} {k : Nat} {cs : List Str} {nf : List (Str × Kd)} {qs : Qs} {pins : List (Addr × Obj)} {σ : L2.St}
end
end Dl
namespace Dl
open PySem PySem.Spec PyProof.Rows L2 He Lp
section
variable {X : Cx} {k : Nat} {cs : List Str} {nf : List (Str × Kd)} {qs : Qs} {pins : List (Addr × Obj)} {σ : L2.St}
end
section
variable {X : Cx} {k : Nat} {cs : List Str} {nf : List (Str × Kd)} {qs : Qs}
end
end Dl
namespace Dl
open PySem PySem.Spec PyProof.Rows L2 He Lp
section
variable {P : Program} {w : World} {A : Around} {s : Shared}
end
section
variable {X : Cx}
end
end Dl
namespace Dl
open PySem PySem.Spec PyProof.Rows L2 He Lp
inductive Plain1 : V → PyData → Prop
  | non : Plain1 .non .none
  | bl (b : Bool) : Plain1 (.bl b) (.bool b)
  | int (i : Int) (h : (PyData.int i).showable = true) : Plain1 (.int i) (.int i)
  | str (x : Str) (h : (PyData.str x).shown.length ≤ sizeLine) : Plain1 (.str x) (.str x)
theorem boot_repr : bootBuiltins "repr" = some (.builtin "repr") := by decide +kernel
section
variable {X : Cx} {W : WX} {e : Expr} {p1 p2 pos : Pos} {x : Str} {n : String} {m : M Vl} {cs : List Str} {tb : Tab}
end
section
variable {X : Cx} {pos yp : Pos} {y : Str} {k : Expr} {i : Nat} {mk : M Vl}
end
end Dl
namespace Dl
open PySem PySem.Spec PyProof.Rows L2 He Lp
section
variable {X : Cx} {W : WX} {k v : Expr} {pos : Pos} {mk mv : M Vl}
end
def reprP : List D → Option D
  | [a] => (toPy a).bind fun p => if p.showable = true ∧ p.canLay0 = true ∧ p.depth ≤ 60 ∧ cntD p ≤ 8000 then some (.str p.shown) else none
  | _ => none
theorem reprP_ok {K : PySem.W.Frag} : CallD K (rReprD K) reprP := fun F H xs ds d Q hs hv e k => by
  unfold reprP at e
  split at e
  · rename_i a0
    cases z : toPy a0 with
    | none => rw [z] at e; cases e
    | some p =>
      rw [z] at e; simp only [Option.bind_some] at e
      split at e
      · rename_i h
        cases e
        obtain ⟨x, rfl, v⟩ := p1 hv
        exact ⟨_, p, rfl, toPy_view hs v z, h.1, h.2.1, h.2.2.1, h.2.2.2, nr_id hs k (.str _)⟩
      · cases e
  · cases e
section
variable {X : Cx} {CX : CXT} {k : Nat} {x : Str} {ps : List Str} {sp : Sp} {E : L2.St → XK} {p pos : Pos} {e : Expr} {es : List Expr} {t : TA}
end
section
variable {X : Cx} {W : WX} {k : Nat} {x : Str} {ps : List Str} {ms : List Bool} {sem : List D → RF} {p pos : Pos} {e : Expr} {es : List Expr} {ma : M (List Vl)}
end
theorem gok_cx0 {P : Program} {w : World} {K : PySem.W.Frag} {mg : Str → Option Value} {base : Heap} {k : Nat} {f : Addr} {fd : FuncData} {ps : List Str} {sp : Sp} (F : GOk P w K mg base (CX P w) k f fd ps sp) : GOk P w K mg base CX0 k f fd ps (fun vs H Q _ => sp vs H Q XF) := ⟨fun vs H Q E h => F.len vs H Q _ h, fun A outer s H args us vs Q E hg hr e0 hb r hsp => codeAny_mono (F.run A outer s H args us vs Q XF hg hr e0 hb r hsp) fun r s' hq => by
  cases r with
  | error e =>
    obtain ⟨_, _, _, z⟩ := (show CX P w outer H s XF e s' from hq)
    simp only [XF, false_and, and_false, exists_false] at z
  | ok fl => cases fl <;> exact hq⟩
section
variable {K : PySem.W.Frag} {W : WX} {G : Gd} {T : Tm} {F H : Hp} {σ : L2.St} {s : S}
end
section
variable {X : Cx} {W : WX} {k : Nat} {x : Str} {ps : List Str} {ms : List Bool} {sem : List D → RF} {p pos : Pos} {e : Expr} {es : List Expr} {ma : M (List Vl)}
end
end Dl
namespace Dl
open PySem PySem.Spec PyProof.Rows L2 He Lp
section
variable {K : PySem.W.Frag} {F F' H H' : Hp}
theorem Arg.grow {b : Bool} {v : V} {d : D} {p : Addr} {o : HO} (hs : SubH F H) (hp : H p = none) (h : Arg K F H b v d) : Arg K (upd F p o) (upd H p o) b v d := by
  have fp : F p = none := by
    cases q : F p with
    | none => rfl
    | some u => rw [hs p u q] at hp; cases hp
  have sub : Sub F (upd F p o) := fun b u e => by rw [upd_ne (ne_of_none e fp)]; exact e
  have hS : Same H (upd H p o) := fun b u e => by rw [upd_ne (ne_of_none e hp)]; exact e
  cases b with
  | false => exact Rep.mono sub h
  | true =>
    obtain ⟨a, rfl, h1, h2⟩ := h
    have hne : a ≠ p := fun z => by
      subst z
      cases d with
      | lst _ => obtain ⟨_, q, _⟩ := h2; rw [hp] at q; cases q
      | tup _ => obtain ⟨_, q, _⟩ := h2; rw [hp] at q; cases q
      | dct _ => obtain ⟨_, q, _⟩ := h2; rw [hp] at q; cases q
      | obj _ _ => obtain ⟨_, _, q, _⟩ := h2; rw [hp] at q; cases q
      | _ => exact h2.elim
    refine ⟨a, rfl, by rw [upd_ne hne]; exact h1, ?_⟩
    cases d with
    | lst _ => obtain ⟨x, q, r⟩ := h2; exact ⟨x, hS _ _ q, r.mono sub⟩
    | tup _ => obtain ⟨x, q, r⟩ := h2; exact ⟨x, hS _ _ q, r.mono sub⟩
    | dct _ => obtain ⟨x, q, r⟩ := h2; exact ⟨x, hS _ _ q, r.mono sub⟩
    | obj _ _ =>
      obtain ⟨dx, x, q, q2, q3, q4, r⟩ := h2
      refine ⟨dx, x, hS _ _ q, hS _ _ q2, ?_, q4, r.mono sub⟩
      rw [upd_ne (ne_of_none q2 hp)]; exact q3
    | _ => exact h2.elim
theorem ArgsR.grow {p : Addr} {o : HO} (hs : SubH F H) (hp : H p = none) : ∀ {ms : List Bool} {vs : List V} {ds : List D}, ArgsR K F H ms vs ds → ArgsR K (upd F p o) (upd H p o) ms vs ds
  | _, _, _, .nil => .nil
  | _, _, _, .cons a t => .cons (a.grow hs hp) (ArgsR.grow hs hp t)
end
end Dl
namespace Dl
open PySem PySem.Spec PyProof.Rows L2 He Lp
section
variable {X : Cx} {W : WX} {k : Nat} {m : Str} {ps : List Str} {ms : List Bool} {p pos apos : Pos} {e o fe : Expr} {es : List Expr} {ma : M (List Vl)} {mo : M Vl} {pl : Sem Bool}
end
end Dl
namespace Dl
open PySem PySem.Spec PyProof.Rows L2 He Lp
section
variable {X : Cx}
end
section
variable {X : Cx} {W : WX} {x : Str} {p pos kpos npos : Pos} {e : Expr} {id : String} {r : List V → List V → Hp → VK → Prop} {f : List D → Option D} {ms : M (List Vl)}
end
end Dl
namespace Dl
open PySem PySem.Spec PyProof.Rows L2 He Lp
section
variable {K : PySem.W.Frag} {F : Hp} {a b : Addr} {xs ys : List V} {ds es : List D}
end
section
variable {X : Cx} {W : WX} {p pos tpos : Pos} {e e2 : Expr} {es : List Expr} {elts : List Expr} {kk : Nat} {ms : M (List D)}
end
end Dl
namespace Dl
open PySem PySem.Spec PyProof.Rows L2 He Lp
end Dl
namespace Dl
open PySem PySem.Spec PyProof.Rows L2 He Lp
section
variable {X : Cx} {pos : Pos}
end
theorem bad_ok {P : Program} {w : World} {K : PySem.W.Frag} {mg : Str → Option Value} {base : Heap} {CX : CXT} {k : Nat} {f : Addr} {fd : FuncData} {ps : List Str} {ms : List Bool} (h : ms.length = ps.length) : FnOk P w K mg base CX k f fd ps (spD K ms fun _ => .bad) :=
  ⟨fun vs H Q E ⟨F, ds, _, _, _, po⟩ => po.elim, fun A outer s H args us vs Q E hr e0 hb r hsp => by
    obtain ⟨F, ds, _, _, _, po⟩ := hsp
    exact po.elim⟩
end Dl
namespace Dl
open PySem PySem.Spec PyProof.Rows L2 He Lp
section
variable {X : Cx} {pos : Pos}
end
end Dl
namespace PySem
open Sem (wp)
section
variable {prog : Program} {w : World} {A : Around} {E : Value → Shared → Prop} {s : Shared}
end
end PySem
namespace Dl
open PySem PySem.Spec PyProof.Rows L2 He Lp
section
variable {X : Cx} {K : PySem.W.Frag} {F : Hp} {W : WX} {p pos : Pos}
end
end Dl
namespace Dl
open PySem PySem.Spec PyProof.Rows L2 He Lp
def kP : Key → PyData
  | .inl i => .int i
  | .inr x => .str x
mutual
inductive Dz (K : PySem.W.Frag) (H : Hp) : V → PyData → Prop
  | non : Dz K H .non .none
  | bl (b : Bool) : Dz K H (.bl b) (.bool b)
  | int (i : Int) : Dz K H (.int i) (.int i)
  | str (x : Str) : Dz K H (.str x) (.str x)
  | tup {a : Addr} {xs : List V} {ds : List PyData} : SqT K H a xs → DzAll K H xs ds → Dz K H (.ref a) (.tuple ds)
  | dct {a : Addr} {kvs : List (Key × V)} {ps : List (PyData × PyData)} : Rd H a (.dK kvs) → DzKv K H kvs ps → Dz K H (.ref a) (.dict ps)
inductive DzAll (K : PySem.W.Frag) (H : Hp) : List V → List PyData → Prop
  | nil : DzAll K H [] []
  | cons {v : V} {vs : List V} {d : PyData} {ds : List PyData} : Dz K H v d → DzAll K H vs ds → DzAll K H (v :: vs) (d :: ds)
inductive DzKv (K : PySem.W.Frag) (H : Hp) : List (Key × V) → List (PyData × PyData) → Prop
  | nil : DzKv K H [] []
  | cons {k : Key} {v : V} {vs : List (Key × V)} {d : PyData} {ds : List (PyData × PyData)} : Dz K H v d → DzKv K H vs ds → DzKv K H ((k, v) :: vs) ((kP k, d) :: ds)
end
theorem pairs_keys {P : Program} {w : World} : ∀ {es : List DictEntry} {vs : List (Key × Value)} {kvs : List (Key × V)}, Pairs (mixKind P w) es vs → KV kvs vs → ∀ h : Heap, ReadsAll h (es.map (·.key)) (kvs.map fun p => kP p.1) []
  | _, _, _, .nil, .nil, _ => .nil
  | e :: es, (k', u) :: vs, (k, v) :: kvs, .cons h1 _ t, .cons r1 r2, h => by
    have e1 : k = k' := r1.1
    subst e1
    have hk : Reads h e.key (kP k) [] := by
      have h1 : keyIs k e.key = true := h1
      rcases keyIs_shape h1 with ⟨i, tk, rfl, q⟩ | ⟨x, tk, rfl, q⟩
      · rw [q]; exact .int _ _
      · rw [q]; exact .str _ _
    exact .cons hk (pairs_keys t r2 h)
theorem pairs_vals {P : Program} {w : World} {es : List DictEntry} {vs : List (Key × Value)} (h : Pairs (mixKind P w) es vs) : es.map (·.val) = vs.map (·.2) := by
  induction h with
  | nil => rfl
  | cons h1 h2 _ ih => rw [List.map_cons, List.map_cons, h2, ih]
section
variable {X : Cx} {pins : List (Addr × Obj)} {σ : L2.St} {H : Hp} {s : Shared}
theorem dzkv_keys {K : PySem.W.Frag} : ∀ {kvs : List (Key × V)} {ps : List (PyData × PyData)}, DzKv K H kvs ps → ps.map (·.1) = kvs.map fun p => kP p.1
  | _, _, .nil => rfl
  | _, _, .cons _ t => by rw [List.map_cons, List.map_cons, dzkv_keys t]
mutual
theorem Dz.reads (I : Inv X pins σ H s) : ∀ (d : PyData) (v : V) (u : Value), Dz X.K H v d → RelV v u → ∃ as, Reads s.heap u d as ∧ sysModules ∉ as
  | .none, _, _, h, r => by
    cases h
    cases r
    exact ⟨_, Reads.none, fun z => nomatch z⟩
  | .bool b, _, _, h, r => by
    cases h
    cases r
    exact ⟨_, Reads.bool b, fun z => nomatch z⟩
  | .int i, _, _, h, r => by
    cases h
    obtain ⟨t, rfl⟩ := r
    exact ⟨_, Reads.int i t, fun z => nomatch z⟩
  | .str x, _, _, h, r => by
    cases h
    obtain ⟨t, rfl⟩ := r
    exact ⟨_, Reads.str x t, fun z => nomatch z⟩
  | .list _, _, _, h, _ => by cases h
  | .tuple ds, _, _, h, r => by
    cases h with
    | tup hs ha =>
      cases r
      obtain ⟨its, rv, ⟨o, ho, hc, n, hd⟩, _⟩ := I.tuple hs
      obtain ⟨as, hr, hn⟩ := Dz.readsAll I ds _ its ha rv
      exact ⟨_, Reads.tuple ho hc hd hr, hn⟩
  | .dict ps, _, _, h, r => by
    cases h with
    | dct hd ha =>
      cases r
      obtain ⟨_, hz, vs, hkv, o, es, ep, ho, hx, hda, _, hp, _⟩ := dk_rd I.hok hd
      obtain ⟨as, hr, hn⟩ := Dz.readsKv I ps _ vs ha hkv
      have hk := pairs_keys hp hkv s.heap
      rw [← dzkv_keys ha] at hk
      rw [← pairs_vals hp] at hr
      refine ⟨_, Reads.dict ho hx.1 hda hk hr, fun z => ?_⟩
      rw [List.cons_append, List.nil_append] at z
      rcases List.mem_cons.mp z with z | z
      · rw [z] at hz; simp at hz
      · exact hn z
theorem Dz.readsAll (I : Inv X pins σ H s) : ∀ (ds : List PyData) (vs : List V) (us : List Value), DzAll X.K H vs ds → Vals vs us → ∃ as, ReadsAll s.heap us ds as ∧ sysModules ∉ as
  | [], _, _, h, r => by
    cases h
    cases r
    exact ⟨_, ReadsAll.nil, fun z => nomatch z⟩
  | d :: ds, _, _, h, r => by
    cases h with
    | cons h1 h2 =>
      cases r with
      | cons r1 r2 =>
        obtain ⟨as, q1, n1⟩ := Dz.reads I d _ _ h1 r1
        obtain ⟨bs, q2, n2⟩ := Dz.readsAll I ds _ _ h2 r2
        exact ⟨_, ReadsAll.cons q1 q2, fun z => (List.mem_append.mp z).elim n1 n2⟩
theorem Dz.readsKv (I : Inv X pins σ H s) : ∀ (ps : List (PyData × PyData)) (kvs : List (Key × V)) (us : List (Key × Value)), DzKv X.K H kvs ps → KV kvs us → ∃ as, ReadsAll s.heap (us.map (·.2)) (ps.map (·.2)) as ∧ sysModules ∉ as
  | [], _, _, h, r => by
    cases h
    cases r
    exact ⟨_, ReadsAll.nil, fun z => nomatch z⟩
  | (p, d) :: ps, _, _, h, r => by
    cases h with
    | cons h1 h2 =>
      cases r with
      | cons r1 r2 =>
        obtain ⟨as, q1, n1⟩ := Dz.reads I d _ _ h1 r1.2
        obtain ⟨bs, q2, n2⟩ := Dz.readsKv I ps _ _ h2 r2
        exact ⟨_, ReadsAll.cons q1 q2, fun z => (List.mem_append.mp z).elim n1 n2⟩
end
end
mutual
def wZ : PyData → Nat
  | .list xs | .tuple xs => wZs xs + 20
  | .dict kvs => wZk kvs + 20
  | .str x => 10 * x.length + 12
  | .int i => if i.natAbs < 1000000000000000000000000000000 then 40 else 2000
  | _ => 10
def wZs : List PyData → Nat
  | [] => 0
  | x :: xs => wZ x + wZs xs
def wZk : List (PyData × PyData) → Nat
  | [] => 0
  | (a, b) :: xs => wZ a + wZ b + wZk xs
end
mutual
def okZ : PyData → Bool
  | .list _ => false
  | .tuple xs => okZs xs
  | .dict kvs => okZk kvs
  | .str x => PyData.strOk x
  | .int i => decide (i.natAbs.log2 < 1920)
  | _ => true
def okZs : List PyData → Bool
  | [] => true
  | x :: xs => okZ x && okZs xs
def okZk : List (PyData × PyData) → Bool
  | [] => true
  | (a, b) :: xs => okZ a && okZ b && okZk xs
end
theorem dictText_le (ts : List Str) : (dictText ts).length ≤ piled ts + 10 := by
  unfold dictText
  rw [Lp.len_app, Lp.len_app]
  have e1 : ("{" : Str).length = 1 := by decide +kernel
  have e2 : ("}" : Str).length = 1 := by decide +kernel
  have e3 : (Str.join ", " ts).length ≤ piled ts := by
    by_cases h : ts = []
    · subst h
      decide +kernel
    · have := join_length_add ts h
      omega
  omega
mutual
theorem okZ_show : ∀ d : PyData, okZ d = true → d.showable = true
  | .none, _ => rfl
  | .bool _, _ => rfl
  | .int _, h => by simpa [okZ, PyData.showable] using h
  | .str _, _ => rfl
  | .list _, h => by simp [okZ] at h
  | .tuple xs, h => by
    have := okZs_show xs (by simpa [okZ] using h)
    simpa [PyData.showable] using this
  | .dict kvs, h => by
    have := okZk_show kvs (by simpa [okZ] using h)
    simpa [PyData.showable] using this
theorem okZs_show : ∀ ds : List PyData, okZs ds = true → PyData.showableAll ds = true
  | [], _ => rfl
  | d :: ds, h => by
    have h : okZ d = true ∧ okZs ds = true := by simpa [okZs] using h
    simp only [PyData.showableAll, okZ_show d h.1, okZs_show ds h.2, Bool.and_self]
theorem okZk_show : ∀ ds : List (PyData × PyData), okZk ds = true → PyData.showableKv ds = true
  | [], _ => rfl
  | (a, b) :: ds, h => by
    have h : (okZ a = true ∧ okZ b = true) ∧ okZk ds = true := by simpa [okZk] using h
    simp only [PyData.showableKv, okZ_show a h.1.1, okZ_show b h.1.2, okZk_show ds h.2, Bool.and_self]
end
mutual
theorem shownZ_le : ∀ d : PyData, okZ d = true → d.shown.length + 2 ≤ wZ d
  | .none, _ => by decide +kernel
  | .bool b, _ => by cases b <;> decide +kernel
  | .int i, h => by
    have h1 : i.natAbs.log2 < 1920 := by simpa [okZ] using h
    show (Str.ofString (toString i)).length + 2 ≤ if i.natAbs < 1000000000000000000000000000000 then 40 else 2000
    rw [PySem.ofString_length]
    split
    · rename_i hs
      have h2 := int_text_length_le10 (k := 30) (by decide) hs
      omega
    · have h2 := int_text_length_le (k := 1920) (by decide) h1
      omega
  | .str x, h => by
    have h1 := PySem.StrLaws.reprText_len x (Lp.strOk_lt (by simpa [okZ] using h))
    show (reprText x).length + 2 ≤ 10 * x.length + 12
    omega
  | .list _, h => by simp [okZ] at h
  | .tuple xs, h => by
    have h1 := shownZs_le xs (by simpa [okZ] using h)
    have h2 := Lp.tupleText_le (PyData.shownAll xs)
    show (tupleText (PyData.shownAll xs)).length + 2 ≤ wZs xs + 20
    omega
  | .dict kvs, h => by
    have h1 := shownZk_le kvs (by simpa [okZ] using h)
    have h2 := dictText_le (PyData.shownKv kvs)
    show (dictText (PyData.shownKv kvs)).length + 2 ≤ wZk kvs + 20
    omega
theorem shownZs_le : ∀ ds : List PyData, okZs ds = true → piled (PyData.shownAll ds) ≤ wZs ds
  | [], _ => by decide +kernel
  | d :: ds, h => by
    have e1 : okZ d = true ∧ okZs ds = true := by simpa [okZs] using h
    have h1 := shownZ_le d e1.1
    have h2 := shownZs_le ds e1.2
    simp only [PyData.shownAll, wZs, piled_cons]
    omega
theorem shownZk_le : ∀ ds : List (PyData × PyData), okZk ds = true → piled (PyData.shownKv ds) ≤ wZk ds
  | [], _ => by decide +kernel
  | (a, b) :: ds, h => by
    have e1 : (okZ a = true ∧ okZ b = true) ∧ okZk ds = true := by simpa [okZk] using h
    have h1 := shownZ_le a e1.1.1
    have h1' := shownZ_le b e1.1.2
    have h2 := shownZk_le ds e1.2
    have e3 : (": " : Str).length = 2 := by decide +kernel
    simp only [PyData.shownKv, wZk, piled_cons]
    rw [Lp.len_app, Lp.len_app, e3]
    omega
end
mutual
def toPz : D → Option PyData
  | .non => some .none
  | .bl b => some (.bool b)
  | .int i => some (.int i)
  | .str x => some (.str x)
  | .tup ds => (toPzs ds).map .tuple
  | .dct kds => (toPzk kds).map .dict
  | .emp => some (.tuple [])
  | _ => none
def toPzs : List D → Option (List PyData)
  | [] => some []
  | d :: ds => match toPz d, toPzs ds with
    | some p, some ps => some (p :: ps)
    | _, _ => none
def toPzk : List (Key × D) → Option (List (PyData × PyData))
  | [] => some []
  | (k, d) :: ds => match toPz d, toPzk ds with
    | some p, some ps => some ((kP k, p) :: ps)
    | _, _ => none
end
mutual
theorem toPz_rep {K : PySem.W.Frag} {F H : Hp} (hs : SubH F H) : ∀ {d : D} {v : V} {p : PyData}, Rep K F v d → toPz d = some p → Dz K H v p
  | .non, _, _, .non, e => by cases e; exact .non
  | .bl b, _, _, .bl _, e => by cases e; exact .bl b
  | .int i, _, _, .int _, e => by cases e; exact .int i
  | .str x, _, _, .str _, e => by cases e; exact .str x
  | .tup ds, _, _, .tup q r, e => by
    cases h : toPzs ds with
    | none => simp only [toPz, h] at e; cases e
    | some ps => simp only [toPz, h] at e; cases e; exact .tup (hs.sqT q) (toPzs_rep hs r h)
  | .dct ds, _, _, .dct q r, e => by
    cases h : toPzk ds with
    | none => simp only [toPz, h] at e; cases e
    | some ps => simp only [toPz, h] at e; cases e; exact .dct (.inr ⟨_, hs _ _ q⟩) (toPzk_rep hs r h)
  | .lst _, _, _, _, e => by simp only [toPz] at e; cases e
  | .rol _, _, _, _, e => by simp only [toPz] at e; cases e
  | .obj _ _, _, _, _, e => by simp only [toPz] at e; cases e
  | .fn _, _, _, _, e => by simp only [toPz] at e; cases e
  | .emp, _, _, r, e => by
    simp only [toPz] at e
    cases e
    cases rep_de r with
    | tup q t => cases t; exact .tup (hs.sqT q) .nil
theorem toPzs_rep {K : PySem.W.Frag} {F H : Hp} (hs : SubH F H) : ∀ {ds : List D} {vs : List V} {ps : List PyData}, Reps K F vs ds → toPzs ds = some ps → DzAll K H vs ps
  | [], _, _, .nil, e => by cases e; exact .nil
  | d :: ds, _, _, .cons r t, e => by
    cases h : toPz d with
    | none => simp only [toPzs, h] at e; cases e
    | some p =>
      cases h2 : toPzs ds with
      | none => simp only [toPzs, h, h2] at e; cases e
      | some ps =>
        simp only [toPzs, h, h2] at e
        cases e
        exact .cons (toPz_rep hs r h) (toPzs_rep hs t h2)
theorem toPzk_rep {K : PySem.W.Frag} {F H : Hp} (hs : SubH F H) : ∀ {ds : List (Key × D)} {vs : List (Key × V)} {ps : List (PyData × PyData)}, RepK K F vs ds → toPzk ds = some ps → DzKv K H vs ps
  | [], _, _, .nil, e => by cases e; exact .nil
  | (k, d) :: ds, _, _, .cons r t, e => by
    cases h : toPz d with
    | none => simp only [toPzk, h] at e; cases e
    | some p =>
      cases h2 : toPzk ds with
      | none => simp only [toPzk, h, h2] at e; cases e
      | some ps =>
        simp only [toPzk, h, h2] at e
        cases e
        exact .cons (toPz_rep hs r h) (toPzk_rep hs t h2)
end
section
variable {X : Cx} {W : WX} {k : Nat} {f : Str} {ps : List Str} {ms : List Bool} {pos apos : Pos} {e o : Expr} {es : List Expr} {ma : M (List Vl)} {mo : M Vl} {pl : Sem Bool} {cs : List Str}
end
end Dl
namespace Dl
open PySem PySem.Spec PyProof.Rows L2 He Lp
end Dl
namespace Dl
open PySem PySem.Spec PyProof.Rows L2 He Lp
end Dl
namespace Dl
open PySem PySem.Spec PyProof.Rows L2 He Lp
section
variable {X : Cx} {k : Nat} {pins : List (Addr × Obj)} {σ : L2.St}
end
end Dl
namespace Dl
open PySem PySem.Spec PyProof.Rows L2 He Lp
end Dl
namespace Dl
open PySem PySem.Spec PyProof.Rows L2 He Lp
section
variable {X : Cx} {W : WX} {o e : Expr} {es : List Expr} {to : TE} {t : TA} {name : Str} {apos cpos : Pos} {id : String} {r : V → List V → Hp → VK → Prop}
end
section
variable {X : Cx} {W : WX} {o e : Expr} {apos cpos : Pos} {mo : M Vl} {ms : M (List Vl)}
end
end Dl
namespace Dl
open PySem PySem.Spec PyProof.Rows L2 He Lp
def PoSR (K : PySem.W.Frag) (W : WX) (G : Gd) (T : Tm) (F : Hp) (E : Ends) : RS → Prop
  | .nx s' => ∀ σ' H' F', Sub F F' → SR K G T σ' H' F' s' → E.nx σ' H'
  | .rt d s' => ∀ a σ' H' F', Sub F F' → SR K G ((a, d) :: T) σ' H' F' s' → E.rt (.ref a) H'
  | .exc x s' => ∀ cls d σ' H' F', Sub F F' → SR K G T σ' H' F' s' → ERep K F' x cls d → W cls d σ' H'
  | _ => False
theorem PoSR.sub {K : PySem.W.Frag} {W : WX} {G : Gd} {T : Tm} {F F' : Hp} {E : Ends} (h : Sub F F') : ∀ {r : RS}, PoSR K W G T F E r → PoSR K W G T F' E r
  | .nx _, p => fun x H1 F1 e => p x H1 F1 (h.trans e)
  | .rt _ _, p => fun a x H1 F1 e => p a x H1 F1 (h.trans e)
  | .exc _ _, p => fun x d s1 H1 F1 e => p x d s1 H1 F1 (h.trans e)
  | .bk _, p => p
  | .ct _, p => p
  | .bad, p => p
section
variable {X : Cx} {W : WX} {st : Stmt} {rest as bs : List Stmt} {e c : Expr} {pos : Pos}
end
section
variable {X : Cx} {W : WX} {e : Expr} {lo hi : Option Expr} {pos p2 : Pos}
end
section
variable {X : Cx} {W : WX} {k : Nat} {m : Str} {ps : List Str} {sem : List D → RF} {o : Expr} {mo : M Vl} {pos apos : Pos} {pl : Sem Bool}
end
end Dl
namespace Dl
open PySem PySem.Spec PyProof.Rows L2 He Lp
end Dl
namespace Lp
open PySem PySem.Spec PyProof.Rows L2
section
variable {X : Cx} {CX : CXT} {n : Nat} {g C : Addr} {ps : List Str} {sp : Sp} {E : L2.St → XK} {o e : Expr} {pos : Pos} {ta tb : TE} {pins : List (Addr × Obj)} {σ : L2.St} {H : Hp} {s : Shared}
end
end Lp
namespace Dl
open PySem PySem.Spec PyProof.Rows L2 He Lp
section
variable {X : Cx} {W : WX} {k : Nat} {c : Str} {sem : List D → RF} {o e : Expr} {pos : Pos} {mo mi : M Vl} {ps : List Str}
end
end Dl
namespace Dl
open PySem PySem.Spec PyProof.Rows L2 He Lp
section
variable {X : Cx} {pos : Pos}
end
end Dl
namespace PySem.SeqAt
open AutoSeq1 (wpAny_loadPart')
open MeetsSeq MeetsSeq2 MeetsSeq3 SeqRoads2
section
variable {prog : Program} {w : World} (l b : Addr) (N : Nat)
end
end PySem.SeqAt
namespace Dl
open PySem PySem.Spec PyProof.Rows L2 He Lp
section
variable {X : Cx} {k : Nat} {cs : List Str} {nf : List (Str × Kd)} {qs : Qs} {pins : List (Addr × Obj)} {σ : L2.St}
end
end Dl
namespace Dl
open PySem PySem.Spec PyProof.Rows L2 He Lp
end Dl
namespace PySem
open Sem (wp)
section
variable {M : Model} {A : Around} {R : GenEnd} {Y : Protocol} {n : Nat} {s₀ : Shared} {c : Code} {fs : List Frame} {s : Shared} {env : Env}
  {K : Flow → Sem Fin} {H : Value → Sem Fin} {gd : Bool → Bool} {lv : List Value → List Value}
end
section
variable {prog : Program} {w : World} {A : Around} {R : GenEnd} {Y : Protocol} {n : Nat} {s₀ : Shared} {fs : List Frame} {s : Shared} {env : Env}
end
end PySem
namespace Lp
open PySem PySem.Spec PyProof.Rows L2 GenW
section
variable {X : Cx}
end
end Lp
namespace Lp
open PySem PySem.Spec PyProof.Rows L2 GenW
end Lp
namespace Dl
open PySem PySem.Spec PyProof.Rows L2 He Lp
inductive RG where
  | nx (ys : List D) (s : S) | bk (ys : List D) (s : S) | ct (ys : List D) (s : S) | exc (x : Xc) (s : S) | bad
abbrev MG := List D → S → RG
def PoG (K : PySem.W.Frag) (W : WX) (G : Gd) (T : Tm) (F : Hp) (E : GEnds) : RG → Prop
  | .nx ys s' => ∀ vs σ' H' F', Sub F F' → SR K G T σ' H' F' s' → Reps K F' vs ys → E.nx vs σ' H'
  | .bk ys s' => ∀ vs σ' H' F', Sub F F' → SR K G T σ' H' F' s' → Reps K F' vs ys → E.bk vs σ' H'
  | .ct ys s' => ∀ vs σ' H' F', Sub F F' → SR K G T σ' H' F' s' → Reps K F' vs ys → E.ct vs σ' H'
  | .exc x s' => ∀ cls d σ' H' F', Sub F F' → SR K G T σ' H' F' s' → ERep K F' x cls d → W cls d σ' H'
  | .bad => False
section
variable {K : PySem.W.Frag} {W : WX} {G : Gd} {T : Tm} {F F' : Hp}
theorem PoG.sub {E : GEnds} (h : Sub F F') : ∀ {r : RG}, PoG K W G T F E r → PoG K W G T F' E r
  | .nx _ _, p => fun v x H1 F1 e => p v x H1 F1 (h.trans e)
  | .bk _ _, p => fun v x H1 F1 e => p v x H1 F1 (h.trans e)
  | .ct _ _, p => fun v x H1 F1 e => p v x H1 F1 (h.trans e)
  | .exc _ _, p => fun c d x H1 F1 e => p c d x H1 F1 (h.trans e)
  | .bad, p => p
end
section
variable {X : Cx} {W : WX} {st : Stmt} {sts : List Stmt} {pos yp : Pos}
end
end Dl
namespace Dl
open PySem PySem.Spec PyProof.Rows L2 He Lp
inductive RGF where
  | ok (ys : List D) | exc (x : Xc) | bad
section
variable {P : Program} {w : World} {K : PySem.W.Frag} {mg : Str → Option Value} {base : Heap} {x qual : Str} {params : Arguments} {body : List Stmt} {scope : Scope} {dvs : List V} {kws : List (Str × V)} {f : Addr} {fd : FuncData} {N ps : List Str} {k : Nat} {ms : List Bool} {m : MG}
end
structure CalGM (P : Program) (w : World) (K : PySem.W.Frag) (mg : Str → Option Value) (base : Heap) (k : Nat) (C : Addr) (m : Str) (ps : List Str) (dvs : List V) (sp : SpG) : Prop where
  ex : ∃ (f : Addr) (fd : FuncData) (ds : List Value), Meth K C m f ∧ Binds K fd ps ds ∧ Vals dvs ds ∧ GFn P w K mg base k f fd ps sp
  cl : Cls K C
section
variable {X : Cx} {W : WX} {k : Nat} {c m : Str} {ps : List Str} {ms : List Bool} {dvs : List V} {dd : List D} {sem : List D → RGF} {o e : Expr} {es : List Expr} {mo : M Vl} {ma : M (List Vl)} {apos p pos pos' : Pos} {pl : Sem Bool}
end
end Dl
namespace Dl
open PySem PySem.Spec PyProof.Rows L2 He Lp
section
variable {X : Cx} {W : WX} {tg a b : Expr} {ma mb : M Vl} {p p2 pos pos' : Pos}
end
end Dl
namespace Dl
open PySem PySem.Spec PyProof.Rows L2 He Lp
section
variable {X : Cx} {W : WX} {k i : Nat} {c m : Str} {ps : List Str} {ms : List Bool} {sem : List D → RF} {o e : Expr} {es : List Expr} {ma : M (List Vl)} {apos pos : Pos} {pl : Sem Bool}
end
end Dl
namespace Dl
open PySem PySem.Spec PyProof.Rows L2 He Lp
section
variable {X : Cx} {W : WX}
end
end Dl
namespace Dl
open PySem PySem.Spec PyProof.Rows L2 He Lp
section
variable {X : Cx} {W : WX}
end
end Dl
namespace Dl
open PySem PySem.Spec PyProof.Rows L2 He Lp
section
variable {P : Program} {w : World} {K : PySem.W.Frag} {mg : Str → Option Value} {base : Heap} {k j : Nat} {f : Addr} {fd : FuncData} {ps : List Str} {sp : Sp}
end
section
variable {K : PySem.W.Frag} {x qual : Str} {params : Arguments} {body : List Stmt} {scope : Scope} {dvs : List V} {D cda cc f : Addr} {fd : FuncData} {kws : List (Str × V)} {ps : List Str}
end
def ownAllB (K : PySem.W.Frag) (cs : List Str) : Bool := cs.all fun c => ownB K (ga K c)
theorem ownAllB_ok {K : PySem.W.Frag} {cs : List Str} (h : ownAllB K cs = true) : ∀ c ∈ cs, Own K (ga K c) := fun c hc => ownB_ok (List.all_eq_true.mp h c hc)
def tabB (K : PySem.W.Frag) (tb : Tab) : Bool := tb.all fun p => decide (PySem.W.kitOne K (kdV K p.1.1) (kdV K p.1.2) = some p.2)
theorem tabB_ok {K : PySem.W.Frag} {tb : Tab} (h : tabB K tb = true) : TabOk K tb := fun p hp => of_decide_eq_true (List.all_eq_true.mp h p hp)
def nfB (K : PySem.W.Frag) (nf : List (Str × Kd)) : Bool := nf.all fun p => PySem.W.notFirst K (ga K p.1) (kdV K p.2)
theorem nfB_ok {K : PySem.W.Frag} {nf : List (Str × Kd)} (h : nfB K nf = true) : NfOk K nf := fun p hp => List.all_eq_true.mp h p hp
theorem reps_ints {K : PySem.W.Frag} {F : Hp} : ∀ ns : List Int, Reps K F (ns.map V.int) (ns.map D.int)
  | [] => .nil
  | n :: ns => .cons (.int n) (reps_ints ns)
theorem law_sp {K : PySem.W.Frag} {sem : List D → RF} {H : Hp} {a : Addr} {ns : List Int} (hS : SqL K H a (ns.map V.int)) (h : sem [.rol (ns.map .int)] = .rt (.bl true) []) : spD K [false] sem [.ref a] H (fun v _ => v = .bl true) XF := by
  refine ⟨H, [.rol (ns.map .int)], Sub.refl H, .cons (.rol hS (reps_ints ns)) .nil, List.nodup_nil, ?_⟩
  rw [h]
  intro v H' F' _ r
  cases r
  rfl
end Dl
namespace Dl
open PySem PySem.Spec PyProof.Rows L2 He Lp
section
variable {X : Cx}
end
end Dl
namespace Lp
open PySem PySem.HandSPX
section
variable {M : Model} {A : Around} {E : Value → Shared → Prop} {h : Heap} {g : Array GenState} {d : Drawn} {t : Nat} {os : OsState}
variable {nm q : Str} {C N : Addr} {bs bm bmO : List Value} {hdct : Bool} {sn : List Str} {sub : List Value} {ab : Bool} {col : Option Bool} {dd : Option Addr} {k0 k1 k2 k3 k5 : Option Value} {O newId initO : String} {kw : List (Str × Value)}
theorem chk_newK (F : ExcBaseFacts O newId initO bmO) (hB : bm.contains (.type O) = true) {rest : List Value} {Q : Unit → Shared → Prop} (hC : h.get? C = some (excClassObj nm q C N bs bm hdct sn sub ab col dd k0 k1 k2 k3 k5 newId))
    (z : Q () ⟨h, g, d, t, os⟩) : wpAny M A (checkBuiltinCall newId ⟨.ref C :: rest, kw⟩) Q E ⟨h, g, d, t, os⟩ := by
  have c1 : (Value.ref C :: bm).contains (.type O) = true := by rw [List.contains_cons, hB, Bool.or_true]
  have c2 := F.noStar
  simp only [checkBuiltinCall, F.newKind, F.newSplit, F.newRow]
  repeat (first
    | refine wpAny_loadPart_at hC ?_
    | (refine wpAny_isSubtype_exc hC ?_; rw [c1])
    | refine wpAny_staticBase_exc hC ?_
    | refine wpAny_madeBy_exc hC ?_
    | simp only [bne_self_eq_false, Bool.false_eq_true, if_false]
    | wp_step)
  exact z
theorem chk_tcK {rest : List Value} {Q : Unit → Shared → Prop} (hC : h.get? C = some (excClassObj nm q C N bs bm hdct sn sub ab col dd k0 k1 k2 k3 k5 newId))
    (z : Q () ⟨h, g, d, t, os⟩) : wpAny M A (checkBuiltinCall "type.__call__" ⟨.ref C :: rest, kw⟩) Q E ⟨h, g, d, t, os⟩ := by
  have f3 := tc_sub
  have ty : (⟨h, g, d, t, os⟩ : Shared).TypeIs (.ref C) "type" := ⟨_, hC, rfl⟩
  simp only [checkBuiltinCall, tc_kind, tc_split]
  repeat (any_goals (first
    | assumption
    | with_reducible refine wpAny_loadPart_at hC ?_
    | with_reducible refine wpAny_onRaise ?_
    | with_reducible refine wpAny_map ?_
    | wp_step))
end
section
variable {prog : Program} {w : World} {A : Around} {E : Value → Shared → Prop} {R : Result → Shared → Prop} {h : Heap} {g : Array GenState} {d : Drawn} {t : Nat} {os : OsState}
variable {nm q : Str} {C N : Addr} {bs bm bmO : List Value} {hdct : Bool} {sn : List Str} {sub : List Value} {ab : Bool} {col : Option Bool} {dd : Option Addr} {k0 k1 k2 k3 k5 : Option Value} {O newId initO : String} {kw : List (Str × Value)}
theorem run_newK (F : ExcBaseFacts O newId initO bmO) (L : LineOk bm O) {rest : List Value} (hC : h.get? C = some (excClassObj nm q C N bs bm hdct sn sub ab col dd k0 k1 k2 k3 k5 newId))
    (z : R (.ok (.ret (.ref (h.objs.size + 1)))) ⟨(h.push (W.kdv_tup rest)).push (excO C h.objs.size), g, d, t, os⟩) (hl : rest.length ≤ sizeLine) :
    codeAny (model prog w) A (.builtin newId ⟨.ref C :: rest, kw⟩) R ⟨h, g, d, t, os⟩ := by
  have c0 := F.ends
  have c1 : (Value.ref C :: bm).contains (.type O) = true := by rw [List.contains_cons, L.b, Bool.or_true]
  have c2 : (Value.ref C :: bm).contains (.type "AttributeError") = false := by rw [List.contains_cons, L.a] <;> rfl
  have c3 : (Value.ref C :: bm).contains (.type "NameError") = false := by rw [List.contains_cons, L.n] <;> rfl
  refine codeAny_builtinAt F.entry ?_
  unfold Builtin.«BaseException.__new__»
  refine wpAt_bind ?_
  show wpAt _ _ _ (stack >>= _) _ _ _
  refine wpAt_bind (wpAt_stack fun p u => wpAt_of_wpAny ?_)
  wp_walk
  refine wpAt_of_wpAny ?_
  rw [F.owner]
  repeat (first
    | with_reducible refine wpAny_madeHere_exc F.canon hC ?_
    | with_reducible refine wpAny_loadPart_at hC ?_
    | (with_reducible refine wpAny_isSubtype_exc hC ?_; first | rw [c1] | rw [c2] | rw [c3])
    | wp_step)
  show R _ _
  rw [Heap.size_push]
  exact z
theorem tcall_xK (F : ExcBaseFacts O newId initO bmO) (L : LineOk bm O) {rest : List Value} {fI : Addr} {Q : Fin → Shared → Prop} (hC : h.get? C = some (excClassObj nm q C N bs bm hdct sn sub ab col dd k0 k1 k2 k3 k5 newId))
    (hi : W.Looks (model prog w) h (typeLookup (.ref C) "__init__") (some (.ref fI))) (hb : ∀ u, W.Looks (model prog w) h (bindSpecial (.ref fI) u) (.ref fI, [u])) (hl : rest.length ≤ sizeLine)
    (hq : codeAny (model prog w) A (.call (.ref fI) ⟨.ref (h.objs.size + 1) :: rest, kw⟩) (fun r s' => match r with
      | .ok (.ret v) => v = .none ∧ Q (.done (.ret (.ref (h.objs.size + 1)))) s'
      | .ok _ => False
      | .error e => E e s') ⟨(h.push (W.kdv_tup rest)).push (excO C h.objs.size), g, d, t, os⟩) :
    wpAny (model prog w) A (Builtin.«type.__call__» ⟨.ref C :: rest, kw⟩) Q E ⟨h, g, d, t, os⟩ := by
  repeat (first
    | with_reducible refine wpAny_loadPart_at hC ?_
    | with_reducible refine wpAny_madeBy_exc hC ?_
    | wp_step)
  refine codeAny_call_builtin_code (Code.quiet_builtin _ F.quiet) (chk_newK F L.b hC (run_newK F L hC ?_ hl))
  show wpAny _ _ _ _ _ _
  have kk : ∀ b o, h.get? b = some o → ((h.push (W.kdv_tup rest)).push (excO C h.objs.size)).get? b = some o := fun b o e => Heap.get?_push_of_some _ (Heap.get?_push_of_some _ e)
  have hD := kk _ _ hC
  have hx : ((h.push (W.kdv_tup rest)).push (excO C h.objs.size)).get? (h.objs.size + 1) = some (excO C h.objs.size) := by heap_get
  have cc : (Value.ref C :: bm).contains (.ref C) = true := by simp
  have j1 := hi.keeps kk
  have j2 := (hb (.ref (h.objs.size + 1))).keeps kk
  unfold isInstance
  repeat (first
    | with_reducible refine wpAny_loadPart_at hx ?_
    | (with_reducible refine wpAny_isSubtype_exc hD ?_; rw [cc])
    | wp_step)
  show wpAny _ _ (typeLookup (.ref C) _) _ _ _
  refine j1.at ?_
  refine wpAny_holding (wpAny_bind (j2.at (wpAny_bind (wpAny_call (codeAny_mono hq fun r s' z => ?_)))))
  rcases r with e | (v | _ | _ | _) <;> first
    | exact z
    | exact z.elim
    | skip
  obtain ⟨rfl, z⟩ := z
  first
    | exact wpAny_pure (wpAny_pure z)
    | (wp_walk; exact z)
theorem call_xK (F : ExcBaseFacts O newId initO bmO) (L : LineOk bm O) {rest : List Value} {fI : Addr} (hC : h.get? C = some (excClassObj nm q C N bs bm hdct sn sub ab col dd k0 k1 k2 k3 k5 newId))
    (hi : W.Looks (model prog w) h (typeLookup (.ref C) "__init__") (some (.ref fI))) (hb : ∀ u, W.Looks (model prog w) h (bindSpecial (.ref fI) u) (.ref fI, [u])) (hl : rest.length ≤ sizeLine)
    (hq : codeAny (model prog w) (A.under (.builtin "type.__call__" ⟨.ref C :: rest, kw⟩)) (.call (.ref fI) ⟨.ref (h.objs.size + 1) :: rest, kw⟩) (W.InitBack (h.objs.size + 1) R) ⟨(h.push (W.kdv_tup rest)).push (excO C h.objs.size), g, d, t, os⟩) :
    codeAny (model prog w) A (.call (.ref C) ⟨rest, kw⟩) R ⟨h, g, d, t, os⟩ := by
  have f1 := tc_lookup
  have f2 := tc_bind (.ref C)
  have ty : (⟨h, g, d, t, os⟩ : Shared).TypeIs (.ref C) "type" := ⟨_, hC, rfl⟩
  refine codeAny_of_tree ?_
  show wpAny _ _ (callAny (.ref C) _) _ _ _
  repeat (any_goals (first
    | assumption
    | with_reducible refine wpAny_loadPart_at hC ?_
    | wp_step))
  refine ⟨rfl, codeAny_call_builtin_at (Code.quiet_builtin _ (by decide +kernel)) entry_typeCall (chk_tcK hC (tcall_xK F L hC hi hb hl (codeAny_mono hq fun r s' z => ?_)))⟩
  rcases r with e | (v | _ | _ | _) <;> exact z
end
end Lp
namespace Lp
open PySem PySem.Spec PyProof.Rows L2 He
theorem xo_err {K : PySem.W.Frag} {C f : Addr} (T : Err K C f) : XoC K C "ValueError" "ValueError.__new__" "ValueError.__init__" "ValueError" "ValueError.__init__" PySem.HandSPX.veTail := by
  obtain ⟨nm, q, N, bs, bm, sn, sub, ab, col, dd, k0, k1, k2, k3, k5, hl, hb⟩ := T.ox.cls
  have c := fun x => PySem.HandSPX.refsVE_contains x bm hb
  refine ⟨F.excBase_ValueError, initF_of F.excBase_ValueError, by decide +kernel, ⟨by show builtinType _ = _; rw [builtinType_eq_fast]; kernel_rfl, by first | kernel_rfl | rfl⟩, ⟨nm, q, N, bs, bm, sn, sub, ab, col, dd, k0, k1, k2, k3, k5, hl, ⟨?_, ?_, ?_⟩, ?_, ?_, fun u => PySem.HandSPX.refsVE_pass u _ (show PySem.HandSPX.refsVE (.ref C :: bm) = true from hb)⟩, T.ox.sa, T.ox.kC, T.xf, T.ec⟩
  all_goals rw [c]; decide +kernel
def spErrN (C : Addr) (fs : List Str) : Sp := fun vs H Q _ => ∃ a ws, vs = .ref a :: ws ∧ ws.length = fs.length ∧ H a = some (exo a C none) ∧ (fs = [] → Q .non H) ∧
  (fs ≠ [] → ∀ dx H', H dx = none → dx ≠ a → Kp [a] H H' → H' dx = some (exd dx (fs.zip ws).reverse) → H' a = some (exo a C (some dx)) → Q .non H')
theorem errn_len {C : Addr} {fs : List Str} {vs : List V} {H : Hp} {Q : VK} {E : XK} (h : spErrN C fs vs H Q E) : vs.length = (("self" : Str) :: fs).length := by
  obtain ⟨a, ws, rfl, l, _⟩ := h
  rw [List.length_cons, List.length_cons, l]
structure ErrX (K : PySem.W.Frag) (C f : Addr) (O newId initO B initId : String) (bmO : List Value) : Prop where
  ox : XoC K C O newId initO B initId bmO
  ic : PySem.W.findIn K (.ref C) "__init__" = some (some (.ref f))
  it : PySem.W.typeIn K (.ref f) = some (.type "function")
  ms : PySem.W.mroIn K C (.ref C) = some true
  si : PySem.W.ks_superIn K C C "__init__" = some (some (.builtin initId))
theorem errX_v {K : PySem.W.Frag} {C f : Addr} (T : Err K C f) : ErrX K C f "ValueError" "ValueError.__new__" "ValueError.__init__" "ValueError" "ValueError.__init__" PySem.HandSPX.veTail := ⟨xo_err T, T.ic, T.it, T.ms, T.si⟩
theorem errX_k {K : PySem.W.Frag} {C f : Addr} (T : ErrK K C f) : ErrX K C f "LookupError" "LookupError.__new__" "LookupError.__init__" "KeyError" "KeyError.__init__" [.type "LookupError", .type "Exception", .type "BaseException", .type "object"] := ⟨T.ox, T.ic, T.it, T.ms, T.si⟩
section
variable {K : PySem.W.Frag} {C fa : Addr} {f g i msg : Str} {vs : List V} {H : Hp} {Q : VK} {E : XK} {O newId initO B initId : String} {bmO : List Value} {N : List Str}
theorem errn_reads0 (T : ErrX K C fa O newId initO B initId bmO) (h : spErrN C [] vs H Q E) :
    tDrop (tSupY K C initId (tCons (tC (.str msg)) tNil)) { nx := fun _ H' => Q .non H', rt := Q } (L2.start ["self"] vs) H := by
  obtain ⟨a, ws, rfl, l, ha, q, _⟩ := h
  exact ⟨a, rfl, ha, T.ms, T.si, by show 1 ≤ 1000; decide, ha, q rfl⟩
theorem errn_reads1 (T : ErrX K C fa O newId initO B initId bmO) (h : spErrN C [f] vs H Q E) :
    tSeq (tDrop (tSupY K C initId (tCons (tC (.str msg)) tNil))) (tStx C f (tVar 0) (tVar 1)) { nx := fun _ H' => Q .non H', rt := Q } (L2.start ["self", f] vs) H := by
  obtain ⟨a, ws, rfl, l, ha, _, q⟩ := h
  match ws, l with
  | [v], _ =>
    exact ⟨a, rfl, ha, T.ms, T.si, by show 1 ≤ 1000; decide, ha, v, rfl, _, rfl, a, rfl, .inl ⟨ha, fun dx H' hdx ne kp h1 h2 => q (by simp) dx H' hdx ne kp h1 h2⟩⟩
theorem errn_reads3 (T : ErrX K C fa O newId initO B initId bmO) (h : spErrN C [f, g, i] vs H Q E) :
    tSeq (tDrop (tSupY K C initId (tCons (tC (.str msg)) tNil))) (tSeq (tStx C f (tVar 0) (tVar 1)) (tSeq (tStx C g (tVar 0) (tVar 2)) (tStx C i (tVar 0) (tVar 3)))) { nx := fun _ H' => Q .non H', rt := Q } (L2.start ["self", f, g, i] vs) H := by
  obtain ⟨a, ws, rfl, l, ha, _, q⟩ := h
  match ws, l with
  | [v, u, y], _ =>
    refine ⟨a, rfl, ha, T.ms, T.si, by show 1 ≤ 1000; decide, ha, v, rfl, _, rfl, a, rfl, .inl ⟨ha, fun dx H1 hdx ne kp h1 h2 => ?_⟩⟩
    refine ⟨u, rfl, _, rfl, a, rfl, .inr ⟨dx, _, h2, h1, by show 1 ≤ 900; decide, fun H2 kp2 h3 => ?_⟩⟩
    have h4 := kp2 a _ (fun z => ne (List.mem_singleton.mp z).symm) h2
    refine ⟨y, rfl, _, rfl, a, rfl, .inr ⟨dx, _, h4, h3, by show 2 ≤ 900; decide, fun H3 kp3 h5 => ?_⟩⟩
    have h6 := kp3 a _ (fun z => ne (List.mem_singleton.mp z).symm) h4
    refine q (by simp) dx H3 hdx ne (fun b o nb hb => ?_) h5 h6
    have nd : b ∉ [dx] := fun z => by
      rw [List.mem_singleton.mp z, hdx] at hb
      cases hb
    exact kp3 b o nd (kp2 b o nd (kp b o nb hb))
end
theorem vals_rev : ∀ {vs : List V} {us : List Value}, Vals vs us → Vals vs.reverse us.reverse
  | _, _, .nil => .nil
  | _, _, .cons (a := v) (b := u) r t => by
    rw [List.reverse_cons, List.reverse_cons]
    exact (vals_rev t).append (.cons r .nil)
theorem FunS.kbnR {K : PySem.W.Frag} {x qual : Str} {params : Arguments} {body : List Stmt} {scope : Scope} {D cda cc f : Addr} {fd : FuncData} {ps ks : List Str} (F : FunS K x qual params body scope [] D cda cc f fd)
    (h : ∀ (kV doc pm : Value) (an : Option Addr) (ct : Value) (us ws : List Value), us.length = 1 → ws.length = ks.length → bindArgs (PySem.W.ksFn x qual params body scope .none kV doc pm an (.ref cda) ct cc) ⟨us, ks.zip ws⟩ = pure (ps.zip (us ++ ws.reverse))) :
    KBn K fd ps 1 ks (fun us ws => us ++ ws.reverse) (fun vs zs => vs ++ zs.reverse) := by
  obtain ⟨oc, od, dV, kV, doc, pm, an, ct, osl, ocell, rfl, lk, hcd, hD, hc, hcc⟩ := F.ex
  rcases hD with ⟨_, rfl⟩ | ⟨e, _⟩
  · refine ⟨fun s us ws X l1 l2 => BindsTo.of_looks fun M => ?_, fun r1 r2 => r1.append (vals_rev r2)⟩
    rw [h kV doc pm an ct us ws l1 l2]
    exact .of_pure rfl
  · exact absurd rfl e
structure CalX (P : Program) (w : World) (K : PySem.W.Frag) (mg : Str → Option Value) (base : Heap) (k : Nat) (x : Str) (C : Addr) (fs : List Str) : Prop where
  ex : ∃ (f : Addr) (fd : FuncData) (O newId initO B initId : String) (bmO : List Value), ErrX K C f O newId initO B initId bmO ∧ Binds K fd (("self" : Str) :: fs) [] ∧ FnOk P w K mg base CX0 k f fd (("self" : Str) :: fs) (spErrN C fs) ∧
    KBn K fd (("self" : Str) :: fs) 1 fs.reverse (fun us ws => us ++ ws.reverse) (fun vs zs => vs ++ zs.reverse)
  gl : mg x = some (.ref C)
  le : fs.length ≤ 1000
def tXnewK (C : Addr) (n : Nat) (sp : Sp) (t : TA) : TE := fun σ H Q => t σ H fun vs H1 => vs.length = n ∧ vs.length ≤ 1000 ∧ ∀ a H2, H1 a = none → Same H1 H2 → H2 a = some (exo a C none) → sp (.ref a :: vs.reverse) H2 (fun v H3 => v = .non ∧ Q (.ref a) H3) (fun _ _ _ => False)
section
variable {X : Cx} {e : Expr} {es : List Expr} {kws : List Keyword} {t : TA} {p pos : Pos} {x : Str} {C fI : Addr} {k : Nat} {fd : FuncData} {ps ks fs : List Str} {sp : Sp} {O newId initO B initId : String} {bmO : List Value} {pins : List (Addr × Obj)} {σ : L2.St} {H1 : Hp} {Q : VK} {us ws : List Value} {vs zs : List V} {s1 : Shared} {CX : CXT}
theorem run_xnewK (T : XoC X.K C O newId initO B initId bmO) (iC : PySem.W.findIn X.K (.ref C) "__init__" = some (some (.ref fI))) (tI : PySem.W.typeIn X.K (.ref fI) = some (.type "function")) (F1 : FnOk X.prog X.w X.K X.mg X.base CX k fI fd ps sp) (hr : Room (k + 1) X.A)
    (hb : KBn X.K fd ps 1 ks (fun us ws => us ++ ws.reverse) (fun vs zs => vs ++ zs.reverse)) (hx : Passes CX X (fun _ _ _ => False))
    (I1 : Inv X pins σ H1 s1) (r1 : Vals zs ws) (l : zs.length = ks.length) (q1 : ∀ a H2, H1 a = none → Same H1 H2 → H2 a = some (exo a C none) → sp (.ref a :: zs.reverse) H2 (fun v H3 => v = .non ∧ Q (.ref a) H3) (fun _ _ _ => False)) :
    wpAny (model X.prog X.w) X.A (call (.ref C) [] (ks.zip ws)) (EP X pins σ Q) X.xe s1 := by
  obtain ⟨nm, q, N, bs, bm, sn, sub, ab, col, dd, k0, k1, k2, k3, k5, hC, hLn, _, _, _⟩ := T.cls
  obtain ⟨hp, g, dr, tk, os⟩ := s1
  have hsz : hp.objs.size ≤ hp.objs.size + 1 := Nat.le_succ _
  have hn : H1 (hp.objs.size + 1) = none := I1.hok.fresh hsz
  have hq := q1 (hp.objs.size + 1) (upd H1 (hp.objs.size + 1) (exo (hp.objs.size + 1) C none)) hn (fun b u e => by rw [upd_ne (ne_of_none e hn)]; exact e) upd_same
  have kk : ∀ b o, hp.get? b = some o → ((hp.push (PySem.W.kdv_tup [])).push (PySem.HandSPX.excO C hp.objs.size)).get? b = some o := fun b o e => Heap.get?_push_of_some _ (Heap.get?_push_of_some _ e)
  have hget : ((hp.push (PySem.W.kdv_tup [])).push (PySem.HandSPX.excO C hp.objs.size)).get? (hp.objs.size + 1) = some (PySem.HandSPX.excO C hp.objs.size) := by heap_get
  have I2 : Inv X pins σ (upd H1 (hp.objs.size + 1) (exo (hp.objs.size + 1) C none)) ⟨(hp.push (PySem.W.kdv_tup [])).push (PySem.HandSPX.excO C hp.objs.size), g, dr, tk, os⟩ :=
    I1.laid (t' := tk) (a := hp.objs.size + 1) (o := exo (hp.objs.size + 1) C none) (h' := (hp.push (PySem.W.kdv_tup [])).push (PySem.HandSPX.excO C hp.objs.size)) kk hsz (exo_ok hget)
  have r2 : Vals (V.ref (hp.objs.size + 1) :: zs.reverse) (Value.ref (hp.objs.size + 1) :: ws.reverse) := .cons rfl (vals_rev r1)
  have e2 : ws.length = ks.length := r1.length.symm.trans l
  have hbd := hb.to _ [Value.ref (hp.objs.size + 1)] ws I2.kIn rfl e2
  refine wpAny_call (call_xK (rest := []) (kw := ks.zip ws) T.fO hLn (I1.kIn _ _ hC) (PySem.W.looks_findIn I1.kIn iC) (fun self => PySem.W.bind_fn I1.kIn self tI) (Nat.zero_le _)
    (codeAny_mono (F1.run _ X.stack _ _ ⟨[Value.ref (hp.objs.size + 1)], ks.zip ws⟩ (Value.ref (hp.objs.size + 1) :: ws.reverse) _ _ (fun _ _ _ => False) (hr.make C [] (ks.zip ws)) (I2.env0.make C [] (ks.zip ws)) hbd r2 hq) fun r s' hq' => ?_))
  cases r with
  | error er => exact hx pins σ _ _ er s' I2 hq'
  | ok fl =>
    cases fl with
    | ret u =>
      obtain ⟨v, H2, os2, bare2, un2, hok2, rv, ev, q2⟩ := hq'
      subst ev
      obtain ⟨h2, g2, d2, t2, os'⟩ := s'
      exact ⟨rv, .ref (hp.objs.size + 1), H2, I2.call' (ch := []) os2 un2 hok2 bare2 (fun b z => absurd z (by simp)), rfl, q2⟩
    | next => exact False.elim hq'
    | brk => exact False.elim hq'
    | cont => exact False.elim hq'
theorem pe_xnew (c : CalX X.prog X.w X.K X.mg X.base k x C fs) (hr : Room (k + 1) X.A) (ha : PA X (e :: es) t) (hg : Gl X x := by rfl) (hdb : (x == ("__debug__" : Str)) = false := by decide)
    (he : starEach (e :: es) X.env = (false, eval e X.env) :: starEach es X.env := by rfl) (hpl : (backTo pos (starEach es X.env)).any (·.1) = false := by rfl) : PE X (.Call (.Name x p) (e :: es) [] pos) (tXnew C (spErrN C fs) t) := by
  obtain ⟨f, fd, O, nI, iO, B, iB, bmO, T, b, F1, _⟩ := c.ex
  refine ⟨fun pins s σ H Q I h => wpAny_Call_Name_kw (ld_glob I hg c.gl ?_ hdb)⟩
  exact PySem.W.callWith_K (h₀ := X.base) I.ok.mod.kin T.ox.kC (thn (ha.run pos pins s σ H _ I h) fun us s1 ⟨vs, H1, I1, r1, hz, q1⟩ => ⟨I1.kIn, run_xnew T.ox T.ic T.it F1 hr b pass0 I1 r1 hz q1⟩) he hpl
theorem pe_xnew0 (c : CalX X.prog X.w X.K X.mg X.base k x C fs) (hr : Room (k + 1) X.A) (hg : Gl X x := by rfl) (hdb : (x == ("__debug__" : Str)) = false := by decide) : PE X (.Call (.Name x p) [] [] pos) (tXnew C (spErrN C fs) tNil) := by
  obtain ⟨f, fd, O, nI, iO, B, iB, bmO, T, b, F1, _⟩ := c.ex
  refine ⟨fun pins s σ H Q I h => wpAny_Call_Name_kw (ld_glob I hg c.gl ?_ hdb)⟩
  exact PySem.W.callWith_K0 I.kIn T.ox.kC (run_xnew T.ox T.ic T.it F1 hr b pass0 I .nil h.1 h.2)
theorem pe_xnewK (c : CalX X.prog X.w X.K X.mg X.base k x C fs) (hr : Room (k + 1) X.A) (ha : PK X kws t) (hks : (backToKw pos (keywordEach kws X.env)).filterMap (·.1) = fs.reverse := by rfl) (hall : (backToKw pos (keywordEach kws X.env)).all (·.1.isSome) = true := by rfl)
    (hg : Gl X x := by rfl) (hdb : (x == ("__debug__" : Str)) = false := by decide)
    (hpl : ((backTo pos (starEach [] X.env)).any (·.1) || (backToKw pos (keywordEach kws X.env)).any (·.1.isNone)) = false := by rfl) : PE X (.Call (.Name x p) [] kws pos) (tXnewK C fs.length (spErrN C fs) t) := by
  obtain ⟨f, fd, O, nI, iO, B, iB, bmO, T, _, F1, b⟩ := c.ex
  refine ⟨fun pins s σ H Q I h => wpAny_Call_Name_kw (ld_glob I hg c.gl ?_ hdb)⟩
  refine PySem.W.callWith_KW0 (h₀ := X.base) I.ok.mod.kin T.ox.kC hall (thn (ha.run pos pins s σ H _ I h) fun us s1 ⟨vs, H1, I1, r1, l, hz, q1⟩ => ⟨I1.kIn, ?_⟩) hpl
  rw [hks]
  exact run_xnewK T.ox T.ic T.it F1 hr b pass0 I1 r1 (by rw [l, List.length_reverse]) q1
def tXfv (K : PySem.W.Frag) (f : Str) (te : TE) : TE := fun σ H Q => te σ H fun x H1 => ∃ (a C dd : Addr) (fs : List (Str × V)) (v : V), x = .ref a ∧ XfC K C ∧ NoAttr K C f ∧ H1 a = some (exo a C (some dd)) ∧ H1 dd = some (exd dd fs) ∧ fs.lookup f = some v ∧ Q v H1
theorem pe_xfv {te : TE} {f : Str} (h : PE X e te) (hb : attributeBase e f X.env (eval e X.env) = eval e X.env := by rfl) : PE X (.Attribute e f pos) (tXfv X.K f te) := by
  refine ⟨fun pins s σ H Q I h0 => attr_of hb (thn (h.run pins s σ H _ I h0) fun u s1 hh => ?_)⟩
  obtain ⟨x, H1, I1, rx, a, C, dd, fs, v, ex, T, hno, ea, ed, l, q⟩ := hh
  subst ex
  obtain rfl : u = Value.ref a := rx
  obtain ⟨t1, ha⟩ := exo_at I1.hok ea
  obtain ⟨mA, hns, hr⟩ := exd_at I1.hok ed
  obtain ⟨od, ho, hl⟩ := lookIn_ns hns
  obtain ⟨u, hu, ru⟩ := RelO.some_of (v := v) (o := mA f) (by rw [← l]; exact hr f)
  have J : PySem.W.InstAt s1.heap a _ C (some od) := ⟨ha, rfl, rfl, ho⟩
  exact HandSPX.exc_get I1.kIn J T.ga T.gg T.exC (PySem.W.findObj_own T.hdC hno rfl (by rw [hl, hu])) (handed_of ru) ⟨v, H1, I1.tok _, ru, q⟩
def rIsX (K : PySem.W.Frag) : List V → Hp → VK → Prop := fun xs H Q => ∃ (a D : Addr) (d : Option Addr) (c : V) (u : Value) (b : Bool), xs = [.ref a, c] ∧ ExcC K D ∧ H a = some (exo a D d) ∧ (∀ dd, d = some dd → ∃ fs, H dd = some (exd dd fs)) ∧ ClsV c u ∧ PySem.W.kitOne K (.ref D) u = some b ∧ Q (.bl b) H
theorem call_isX : CallR X (.builtin "isinstance") (rIsX X.K) := by
  intro pins s σ H xs us Q I r h
  obtain ⟨a, D, d, c, u, b, rfl, C, ea, hdd, k, e, q⟩ := h
  obtain ⟨u1, u2, rfl, r1, r2⟩ := vals2 r
  cases (show u1 = Value.ref a from r1)
  have e2 := k.eq r2
  subst e2
  obtain ⟨t1, ha⟩ := exo_at I.hok ea
  have J : ∃ ox odd, PySem.W.InstAt s.heap a ox D odd := by
    cases d with
    | none => exact ⟨_, none, ha, rfl, rfl, trivial⟩
    | some dd =>
      obtain ⟨fs, hfs⟩ := hdd dd rfl
      obtain ⟨mA, ⟨o, _, _, ho, _⟩, _⟩ := exd_at I.hok hfs
      exact ⟨_, some o, ha, rfl, rfl, ho⟩
  exact PySem.W.kia_one (PySem.W.lp_kitx_exc C.hg C.hk C.hs C.hd C.ha C.hn C.ht C.hm) I.kIn J e (fun z => nomatch z) fun tk => ⟨.bl b, H, I.kept (t' := tk) fun _ _ z => z, rfl, q⟩
end
end Lp
namespace Dl
open PySem PySem.Spec PyProof.Rows L2 He Lp
theorem RepF.zip {K : PySem.W.Frag} {F : Hp} : ∀ {fs : List Str} {vs : List V} {ds : List D}, Reps K F vs ds → RepF K F (fs.zip vs) (fs.zip ds)
  | [], _, _, _ => .nil
  | _ :: _, _, _, .nil => .nil
  | _ :: _, _, _, .cons r t => .cons r (RepF.zip t)
theorem RepF.app {K : PySem.W.Frag} {F : Hp} : ∀ {vs ws : List (Str × V)} {ds es : List (Str × D)}, RepF K F vs ds → RepF K F ws es → RepF K F (vs ++ ws) (ds ++ es)
  | _, _, _, _, .nil, s => s
  | _, _, _, _, .cons r t, s => .cons r (RepF.app t s)
theorem RepF.rev {K : PySem.W.Frag} {F : Hp} : ∀ {vs : List (Str × V)} {ds : List (Str × D)}, RepF K F vs ds → RepF K F vs.reverse ds.reverse
  | _, _, .nil => .nil
  | _, _, .cons r t => by
    rw [List.reverse_cons, List.reverse_cons]
    exact (RepF.rev t).app (.cons r .nil)
def xerD (c : Str) (fs : List Str) (ds : List D) : Option D := if ds.length = fs.length then some (.xer c (fs.zip ds).reverse) else none
def mXer (c : Str) (fs : List Str) (ma : M (List D)) : M D := bnd ma fun ds => lift (xerD c fs ds)
def mXerK (c : Str) (fs : List Str) (ma : M (List D)) : M D := bnd ma fun ds => lift (xerD c fs ds.reverse)
section
variable {X : Cx} {W : WX} {e : Expr} {es : List Expr} {p p1 p2 pos : Pos} {x c f : Str} {k : Nat} {fs : List Str} {m : M Vl} {ma : M (List D)}
theorem xer_run {K : PySem.W.Frag} {G : Gd} {T : Tm} {F H : Hp} {σ : L2.St} {s : S} {Q : VK} {vs : List V} {ds : List D} {d : D} (R : SR K G T σ H F s) (r : Reps K F vs ds) (e1 : xerD c fs ds = some d) (p : ∀ v H' F', Sub F F' → SR K G T σ H' F' s → Rep K F' v d → Q v H')
    (a : Addr) (H2 : Hp) (ha : H a = none) (hS : Same H H2) (h2 : H2 a = some (exo a (ga K c) none)) : spErrN (ga K c) fs (.ref a :: vs) H2 (fun v H3 => v = .non ∧ Q (.ref a) H3) (fun _ _ _ => False) := by
  unfold xerD at e1
  split at e1
  · rename_i l
    cases e1
    have fa : F a = none := (R.fresh ha).2.1
    have sub1 : ∀ u, Sub F (upd F a u) := fun u b y z => by rw [upd_ne (ne_of_none z fa)]; exact z
    refine ⟨a, vs, rfl, by rw [r.len, l], h2, fun ef => ?_, fun _ dx H' hx ne kp h3 h4 => ?_⟩
    · subst ef
      refine ⟨rfl, p _ H2 (upd F a (exo a (ga K c) none)) (sub1 _) (R.grow hS (sub1 _) (fun b u z => ?_) (fun b u z => ?_)) (.xen upd_same)⟩
      · by_cases y : b = a
        · subst y
          rw [upd_same] at z
          cases z
          exact h2
        · rw [upd_ne y] at z
          exact hS b u (R.sub b u z)
      · by_cases y : b = a
        · subst y
          exact .inr ha
        · rw [upd_ne y] at z
          exact .inl z
    · have hx1 : H dx = none := by
        cases q : H dx with
        | none => rfl
        | some o => rw [hS dx o q] at hx; cases hx
      have fx : F dx = none := (R.fresh hx1).2.1
      have hS' : Same H H' := fun b o q => kp b o (fun z => by rw [List.mem_singleton.mp z, ha] at q; cases q) (hS b o q)
      have sub2 : Sub F (upd (upd F a (exo a (ga K c) (some dx))) dx (exd dx (fs.zip vs).reverse)) := fun b y z => by rw [upd_ne (ne_of_none z fx), upd_ne (ne_of_none z fa)]; exact z
      refine ⟨rfl, p _ H' (upd (upd F a (exo a (ga K c) (some dx))) dx (exd dx (fs.zip vs).reverse)) sub2 (R.grow hS' sub2 (fun b u z => ?_) (fun b u z => ?_)) (.xer (dx := dx) (by rw [upd_ne (Ne.symm ne), upd_same]) upd_same ((RepF.zip (r.mono sub2)).rev))⟩
      · by_cases y : b = dx
        · subst y
          rw [upd_same] at z
          cases z
          exact h3
        · rw [upd_ne y] at z
          by_cases y2 : b = a
          · subst y2
            rw [upd_same] at z
            cases z
            exact h4
          · rw [upd_ne y2] at z
            exact hS' b u (R.sub b u z)
      · by_cases y : b = dx
        · subst y
          exact .inr hx1
        · rw [upd_ne y] at z
          by_cases y2 : b = a
          · subst y2
            exact .inr ha
          · rw [upd_ne y2] at z
            exact .inl z
  · cases e1
theorem xer_len {ds : List D} {d : D} (e1 : xerD c fs ds = some d) : ds.length = fs.length := by
  unfold xerD at e1
  split at e1
  · assumption
  · cases e1
theorem pd_xer (cl : CalX X.prog X.w X.K X.mg X.base k x (ga X.K x) fs) (hr : Room (k + 1) X.A) (ha : PA X (e :: es) (rA X.K W (dVs ma))) (hg : Gl X x := by rfl) (hdb : (x == ("__debug__" : Str)) = false := by decide)
    (he : starEach (e :: es) X.env = (false, eval e X.env) :: starEach es X.env := by rfl) (hpl : (backTo pos (starEach es X.env)).any (·.1) = false := by rfl) : PE X (.Call (.Name x p) (e :: es) [] pos) (rE X.K W (dV (mXer x fs ma))) :=
  pe_imp (pe_xnew cl hr ha hg hdb he hpl) fun σ H Q ⟨G, T, F, s, R, po⟩ => dVs_run isP_dV (Sub.refl F) R po fun vs H1 F1 s1 ds f1 _ R1 r1 p1 => by
    obtain ⟨q, e1, p2⟩ := lift_last isP_dV p1
    exact ⟨by rw [r1.len, xer_len e1]; exact cl.le, fun a H2 h1 h2 h3 => xer_run R1 r1 e1 (fun v H' F' f' R' r' => p2 v H' F' (f1.trans f') R' r') a H2 h1 h2 h3⟩
theorem pd_xer0 (cl : CalX X.prog X.w X.K X.mg X.base k x (ga X.K x) fs) (hr : Room (k + 1) X.A) (hg : Gl X x := by rfl) (hdb : (x == ("__debug__" : Str)) = false := by decide) : PE X (.Call (.Name x p) [] [] pos) (rE X.K W (dV (mXer x fs (ret [])))) :=
  pe_imp (pe_xnew0 cl hr hg hdb) fun σ H Q ⟨G, T, F, s, R, po⟩ => by
    obtain ⟨q, e1, p2⟩ := lift_last (isP_dV (F := F)) (show _ from po)
    exact ⟨Nat.zero_le _, fun a H2 h1 h2 h3 => xer_run R .nil e1 (fun v H' F' f' R' r' => p2 v H' F' f' R' r') a H2 h1 h2 h3⟩
theorem pkd_nil : PK X [] (rA X.K W (dVs (ret []))) := ⟨fun pos pins s σ H Q I h => pk_nil.run pos pins s σ H Q I (by
  obtain ⟨G, T, F, s, R, po⟩ := h
  exact po [] H F (Sub.refl F) R .nil)⟩
theorem pk_imp {kws : List Keyword} {t t' : TA} (h : PK X kws t) (i : ∀ σ H Q, t' σ H Q → t σ H Q) : PK X kws t' := ⟨fun pos pins sh σ H Q I q => h.run pos pins sh σ H Q I (i σ H Q q)⟩
theorem pd_xerK {kws : List Keyword} (cl : CalX X.prog X.w X.K X.mg X.base k x (ga X.K x) fs) (hr : Room (k + 1) X.A) (ha : PK X kws (rA X.K W (dVs ma))) (hks : (backToKw pos (keywordEach kws X.env)).filterMap (·.1) = fs.reverse := by rfl) (hall : (backToKw pos (keywordEach kws X.env)).all (·.1.isSome) = true := by rfl)
    (hg : Gl X x := by rfl) (hdb : (x == ("__debug__" : Str)) = false := by decide)
    (hpl : ((backTo pos (starEach [] X.env)).any (·.1) || (backToKw pos (keywordEach kws X.env)).any (·.1.isNone)) = false := by rfl) : PE X (.Call (.Name x p) [] kws pos) (rE X.K W (dV (mXerK x fs ma))) :=
  pe_imp (pe_xnewK cl hr ha hks hall hg hdb hpl) fun σ H Q ⟨G, T, F, s, R, po⟩ => dVs_run isP_dV (Sub.refl F) R po fun vs H1 F1 s1 ds f1 _ R1 r1 p1 => by
    obtain ⟨q, e1, p2⟩ := lift_last isP_dV p1
    have l := xer_len e1
    rw [List.length_reverse] at l
    exact ⟨by rw [r1.len, l], by rw [r1.len, l]; exact cl.le, fun a H2 h1 h2 h3 => xer_run R1 r1.rev e1 (fun v H' F' f' R' r' => p2 v H' F' (f1.trans f') R' r') a H2 h1 h2 h3⟩
theorem pkd_cons {nm : Option Str} {kpos : Pos} {kws : List Keyword} {ms : M (List D)} (h : PE X e (rE X.K W m)) (t : PK X kws (rA X.K W (dVs ms))) : PK X (⟨nm, e, kpos⟩ :: kws) (rA X.K W (dVs (mConsD m ms))) :=
  pk_imp (pk_cons (pd_fz h) t) fun σ H Q ⟨G, T, F, s, R, po⟩ => by
    have po : PoA X.K W G T F σ Q (bndR (bndR (fzD m s) fun d => bnd ms fun ds => ret (d :: ds)) fun ds => ret (ds.map Vl.d)) := po
    refine ⟨G, T, F, s, R, ?_⟩
    have u0 : fz m s = bndR (fzD m s) fun d => ret (.d d) := rfl
    rw [u0]
    cases e1 : fzD m s with
    | bad => rw [e1] at po; exact po
    | exc x s' => rw [e1] at po; exact po
    | ok v s1 =>
      rw [e1] at po
      intro x H1 F1 f1 R1 v1
      have po : PoA X.K W G T F σ Q (bndR (bndR (ms s1) fun ds => ret (v :: ds)) fun ds => ret (ds.map Vl.d)) := po
      refine ⟨G, T, F1, s1, R1, ?_⟩
      have u : dVs ms s1 = bndR (ms s1) fun ds => ret (ds.map Vl.d) := rfl
      rw [u]
      cases e2 : ms s1 with
      | bad => rw [e2] at po; exact po
      | exc y s' => rw [e2] at po; exact fun cls d H' F' f R' r => po cls d H' F' (f1.trans f) R' r
      | ok ds s2 =>
        rw [e2] at po
        intro xs H2 F2 f2 R2 v2
        exact po (x :: xs) H2 F2 (f1.trans f2) R2 (.cons (v1.mono f2) v2)
theorem boot_ValueError : bootBuiltins "ValueError" = some (.type "ValueError") := by kernel_rfl
theorem boot_KeyError : bootBuiltins "KeyError" = some (.type "KeyError") := by kernel_rfl
def xfD (xa : List (Str × Str)) (f : Str) : D → Option D
  | .xer c fs => if (c, f) ∈ xa then fs.lookup f else none
  | _ => none
def mXfl (xa : List (Str × Str)) (f : Str) (m : M Vl) : M D := bnd (fzD m) fun d => lift (xfD xa f d)
theorem pd_xfl {xa : List (Str × Str)} (xo : XaOk X.K xa) (h : PE X e (rE X.K W m)) (hb : attributeBase e f X.env (eval e X.env) = eval e X.env := by rfl) : PE X (.Attribute e f pos) (rE X.K W (dV (mXfl xa f m))) :=
  pe_imp (pe_xfv (pd_fz h) hb) fun σ H Q ⟨G, T, F, s, R, po⟩ => by
    refine dV_run (m := fzD m) isP_dV (Sub.refl F) R po fun v H1 F1 s1 d f1 _ R1 r1 p1 => ?_
    obtain ⟨q, e1, p2⟩ := lift_last isP_dV p1
    unfold xfD at e1
    split at e1
    · rename_i c fds
      split at e1
      · rename_i hm
        cases r1 with
        | xer q1 q2 r2 =>
          obtain ⟨y, l, ry⟩ := r2.lookup e1
          exact ⟨_, _, _, _, y, rfl, (xo _ _ hm).1, (xo _ _ hm).2, R1.sub _ _ q1, R1.sub _ _ q2, l, p2 _ _ F1 f1 R1 ry⟩
        | xen _ => cases e1
      · cases e1
    · cases e1
def XcOk (K : PySem.W.Frag) (xc : List Str) : Prop := ∀ c ∈ xc, ExcC K (ga K c)
def noAllB (K : PySem.W.Frag) (C : Addr) (fs : List Str) : Bool := fs.all fun f => noB K C f
theorem noAllB_ok {K : PySem.W.Frag} {C : Addr} {fs : List Str} (h : noAllB K C fs = true) : ∀ q ∈ fs, NoAttr K C q := fun q hq => noB_ok (List.all_eq_true.mp h q hq)
def xcB (K : PySem.W.Frag) (xc : List Str) : Bool := xc.all fun c => excCB K (ga K c)
theorem xcB_ok {K : PySem.W.Frag} {xc : List Str} (h : xcB K xc = true) : XcOk K xc := fun c hc => (excCB_ok (List.all_eq_true.mp h c hc)).2
def xaB (K : PySem.W.Frag) (xa : List (Str × Str)) : Bool := xa.all fun q => excCB K (ga K q.1) && noB K (ga K q.1) q.2
theorem xaB_ok {K : PySem.W.Frag} {xa : List (Str × Str)} (h : xaB K xa = true) : XaOk K xa := fun c f hc => by
  have z := List.all_eq_true.mp h (c, f) hc
  obtain ⟨z1, z2⟩ := Bool.and_eq_true_iff.mp z
  exact ⟨(excCB_ok z1).1, noB_ok z2⟩
def xisD (xc : List Str) (tb : Tab) (t : Kd) : D → Option D
  | .xer c _ => if c ∈ xc then (tb.lookup (.o c, t)).map .bl else none
  | _ => none
def mXis (xc : List Str) (tb : Tab) (t : Kd) (m : M Vl) : M D := bnd (fzD m) fun d => lift (xisD xc tb t d)
theorem xis_run {K : PySem.W.Frag} {xc : List Str} {tb : Tab} (O : XcOk K xc) (hT : TabOk K tb) {t : Kd} {c : V} (hc : ClsV c (kdV K t)) {G : Gd} {T : Tm} {F H : Hp} {σ : L2.St} {s : S} {Q : VK} (R : SR K G T σ H F s) (po : PoE K W G T F σ Q (dV (mXis xc tb t m) s)) :
    rE K W (fz m) σ H fun v H1 => rIsX K [v, c] H1 Q := by
  refine dV_run (m := fzD m) isP_dV (Sub.refl F) R po fun v H1 F1 s1 d f1 _ R1 r1 p1 => ?_
  obtain ⟨q, e1, p2⟩ := lift_last isP_dV p1
  unfold xisD at e1
  split at e1
  · rename_i n fds
    split at e1
    · rename_i hm
      cases z2 : tb.lookup (.o n, t) with
      | none => rw [z2] at e1; cases e1
      | some bb =>
        rw [z2] at e1
        cases e1
        have ho := hT ((.o n, t), bb) (lookup_mem z2)
        cases r1 with
        | xer q1 q2 _ => exact ⟨_, _, _, c, _, bb, rfl, O _ hm, R1.sub _ _ q1, fun dd ed => by cases ed; exact ⟨_, R1.sub _ _ q2⟩, hc, ho, p2 _ _ F1 f1 R1 (.bl bb)⟩
        | xen q1 => exact ⟨_, _, _, c, _, bb, rfl, O _ hm, R1.sub _ _ q1, (fun dd ed => nomatch ed), hc, ho, p2 _ _ F1 f1 R1 (.bl bb)⟩
    · cases e1
  · cases e1
theorem pd_xis {xc : List Str} {tb : Tab} (O : XcOk X.K xc) (hT : TabOk X.K tb) (hm : X.mg "isinstance" = none) (hx : X.mg x = some (.ref (ga X.K x))) (h : PE X e (rE X.K W m)) (hg : Gl X "isinstance" := by rfl) (hgx : Gl X x := by rfl) (hdb : (x == ("__debug__" : Str)) = false := by decide)
    (he : starEach [e, .Name x p1] X.env = (false, eval e X.env) :: starEach [.Name x p1] X.env := by rfl) (he2 : starEach [.Name x p1] X.env = (false, eval (.Name x p1) X.env) :: starEach [] X.env := by rfl) (hpl : (backTo pos (starEach [.Name x p1] X.env)).any (·.1) = false := by rfl) :
    PE X (.Call (.Name "isinstance" p2) [e, .Name x p1] [] pos) (rE X.K W (dV (mXis xc tb (.o x) m))) :=
  pe_imp (pe_callB call_isX hg hm boot_isinstance (pa_cons (pd_fz h) (pa_cons (pe_glob (v := .ref (ga X.K x)) hgx hx rfl hdb) pa_nil he2) he) (by decide) (by decide) he hpl) fun σ H Q ⟨G, T, F, s, R, po⟩ => xis_run (t := .o x) O hT (.own _) R po
theorem pd_xisB {xc : List Str} {tb : Tab} {n : String} (O : XcOk X.K xc) (hT : TabOk X.K tb) (hm : X.mg "isinstance" = none) (hx : X.mg x = none) (hv : bootBuiltins x = some (.type n)) (h : PE X e (rE X.K W m)) (hg : Gl X "isinstance" := by rfl) (hgx : Gl X x := by rfl) (hnn : x ≠ "__name__" := by decide) (hdb : (x == ("__debug__" : Str)) = false := by decide)
    (he : starEach [e, .Name x p1] X.env = (false, eval e X.env) :: starEach [.Name x p1] X.env := by rfl) (he2 : starEach [.Name x p1] X.env = (false, eval (.Name x p1) X.env) :: starEach [] X.env := by rfl) (hpl : (backTo pos (starEach [.Name x p1] X.env)).any (·.1) = false := by rfl) :
    PE X (.Call (.Name "isinstance" p2) [e, .Name x p1] [] pos) (rE X.K W (dV (mXis xc tb (.b n) m))) :=
  pe_imp (pe_callB call_isX hg hm boot_isinstance (pa_cons (pd_fz h) (pa_cons (pe_bltn (v := .ty n) hgx hx hv rfl hnn hdb) pa_nil he2) he) (by decide) (by decide) he hpl) fun σ H Q ⟨G, T, F, s, R, po⟩ => xis_run (t := .b n) O hT (.ty n) R po
end
end Dl
namespace Dl
open PySem PySem.Spec PyProof.Rows L2 He Lp
def topk01 (i : Nat) : Stmt := PySem.Challenge.pw_lateplace_k01_errors.main.body.getD i (.Pass ⟨0, 0, 0, 0⟩)
abbrev FnP (K : PySem.W.Frag) (x qual : Str) (st : Stmt) (f : Addr) (fd : FuncData) : Prop := FunD K x qual (defArgs st) (defBody st) (defScope st) [] [] f fd
def cs_all : List Str := []
def tb_all : Tab := ([((.o "InvalidName", .o "InvalidName"), true), ((.o "InvalidName", .o "InvalidText"), false), ((.o "InvalidName", .o "InvalidProgram"), false), ((.o "InvalidName", .o "NoPlace"), false), ((.o "InvalidName", .o "Taken"), false), ((.o "InvalidName", .o "Over"), false), ((.o "InvalidName", .o "NoMark"), false), ((.o "InvalidName", .o "Refused"), false), ((.o "InvalidName", .o "Firm"), false), ((.o "InvalidName", .o "NoPage"), false), ((.o "InvalidName", .o "NoRoom"), false), ((.o "InvalidName", .o "TooMany"), false), ((.o "InvalidName", .o "NoHand"), false), ((.o "InvalidName", .o "Held"), false), ((.o "InvalidName", .o "NotBranch"), false), ((.o "InvalidName", .o "InvalidCommand"), false), ((.o "InvalidName", .o "StoreError"), true), ((.o "InvalidName", .b "ValueError"), true), ((.o "InvalidName", .b "KeyError"), false), ((.o "InvalidText", .o "InvalidName"), false), ((.o "InvalidText", .o "InvalidText"), true), ((.o "InvalidText", .o "InvalidProgram"), false), ((.o "InvalidText", .o "NoPlace"), false), ((.o "InvalidText", .o "Taken"), false), ((.o "InvalidText", .o "Over"), false), ((.o "InvalidText", .o "NoMark"), false), ((.o "InvalidText", .o "Refused"), false), ((.o "InvalidText", .o "Firm"), false), ((.o "InvalidText", .o "NoPage"), false), ((.o "InvalidText", .o "NoRoom"), false)] : Tab) ++ ([((.o "InvalidText", .o "TooMany"), false), ((.o "InvalidText", .o "NoHand"), false), ((.o "InvalidText", .o "Held"), false), ((.o "InvalidText", .o "NotBranch"), false), ((.o "InvalidText", .o "InvalidCommand"), false), ((.o "InvalidText", .o "StoreError"), true), ((.o "InvalidText", .b "ValueError"), true), ((.o "InvalidText", .b "KeyError"), false), ((.o "InvalidProgram", .o "InvalidName"), false), ((.o "InvalidProgram", .o "InvalidText"), false), ((.o "InvalidProgram", .o "InvalidProgram"), true), ((.o "InvalidProgram", .o "NoPlace"), false), ((.o "InvalidProgram", .o "Taken"), false), ((.o "InvalidProgram", .o "Over"), false), ((.o "InvalidProgram", .o "NoMark"), false), ((.o "InvalidProgram", .o "Refused"), false), ((.o "InvalidProgram", .o "Firm"), false), ((.o "InvalidProgram", .o "NoPage"), false), ((.o "InvalidProgram", .o "NoRoom"), false), ((.o "InvalidProgram", .o "TooMany"), false), ((.o "InvalidProgram", .o "NoHand"), false), ((.o "InvalidProgram", .o "Held"), false), ((.o "InvalidProgram", .o "NotBranch"), false), ((.o "InvalidProgram", .o "InvalidCommand"), false), ((.o "InvalidProgram", .o "StoreError"), true), ((.o "InvalidProgram", .b "ValueError"), true), ((.o "InvalidProgram", .b "KeyError"), false), ((.o "NoPlace", .o "InvalidName"), false), ((.o "NoPlace", .o "InvalidText"), false), ((.o "NoPlace", .o "InvalidProgram"), false)] : Tab) ++ ([((.o "NoPlace", .o "NoPlace"), true), ((.o "NoPlace", .o "Taken"), false), ((.o "NoPlace", .o "Over"), false), ((.o "NoPlace", .o "NoMark"), false), ((.o "NoPlace", .o "Refused"), false), ((.o "NoPlace", .o "Firm"), false), ((.o "NoPlace", .o "NoPage"), false), ((.o "NoPlace", .o "NoRoom"), false), ((.o "NoPlace", .o "TooMany"), false), ((.o "NoPlace", .o "NoHand"), false), ((.o "NoPlace", .o "Held"), false), ((.o "NoPlace", .o "NotBranch"), false), ((.o "NoPlace", .o "InvalidCommand"), false), ((.o "NoPlace", .o "StoreError"), true), ((.o "NoPlace", .b "ValueError"), true), ((.o "NoPlace", .b "KeyError"), false), ((.o "Taken", .o "InvalidName"), false), ((.o "Taken", .o "InvalidText"), false), ((.o "Taken", .o "InvalidProgram"), false), ((.o "Taken", .o "NoPlace"), false), ((.o "Taken", .o "Taken"), true), ((.o "Taken", .o "Over"), false), ((.o "Taken", .o "NoMark"), false), ((.o "Taken", .o "Refused"), false), ((.o "Taken", .o "Firm"), false), ((.o "Taken", .o "NoPage"), false), ((.o "Taken", .o "NoRoom"), false), ((.o "Taken", .o "TooMany"), false), ((.o "Taken", .o "NoHand"), false), ((.o "Taken", .o "Held"), false)] : Tab) ++ ([((.o "Taken", .o "NotBranch"), false), ((.o "Taken", .o "InvalidCommand"), false), ((.o "Taken", .o "StoreError"), true), ((.o "Taken", .b "ValueError"), true), ((.o "Taken", .b "KeyError"), false), ((.o "Over", .o "InvalidName"), false), ((.o "Over", .o "InvalidText"), false), ((.o "Over", .o "InvalidProgram"), false), ((.o "Over", .o "NoPlace"), false), ((.o "Over", .o "Taken"), false), ((.o "Over", .o "Over"), true), ((.o "Over", .o "NoMark"), false), ((.o "Over", .o "Refused"), false), ((.o "Over", .o "Firm"), false), ((.o "Over", .o "NoPage"), false), ((.o "Over", .o "NoRoom"), false), ((.o "Over", .o "TooMany"), false), ((.o "Over", .o "NoHand"), false), ((.o "Over", .o "Held"), false), ((.o "Over", .o "NotBranch"), false), ((.o "Over", .o "InvalidCommand"), false), ((.o "Over", .o "StoreError"), true), ((.o "Over", .b "ValueError"), true), ((.o "Over", .b "KeyError"), false), ((.o "NoMark", .o "InvalidName"), false), ((.o "NoMark", .o "InvalidText"), false), ((.o "NoMark", .o "InvalidProgram"), false), ((.o "NoMark", .o "NoPlace"), false), ((.o "NoMark", .o "Taken"), false), ((.o "NoMark", .o "Over"), false)] : Tab) ++ ([((.o "NoMark", .o "NoMark"), true), ((.o "NoMark", .o "Refused"), false), ((.o "NoMark", .o "Firm"), false), ((.o "NoMark", .o "NoPage"), false), ((.o "NoMark", .o "NoRoom"), false), ((.o "NoMark", .o "TooMany"), false), ((.o "NoMark", .o "NoHand"), false), ((.o "NoMark", .o "Held"), false), ((.o "NoMark", .o "NotBranch"), false), ((.o "NoMark", .o "InvalidCommand"), false), ((.o "NoMark", .o "StoreError"), true), ((.o "NoMark", .b "ValueError"), true), ((.o "NoMark", .b "KeyError"), false), ((.o "Refused", .o "InvalidName"), false), ((.o "Refused", .o "InvalidText"), false), ((.o "Refused", .o "InvalidProgram"), false), ((.o "Refused", .o "NoPlace"), false), ((.o "Refused", .o "Taken"), false), ((.o "Refused", .o "Over"), false), ((.o "Refused", .o "NoMark"), false), ((.o "Refused", .o "Refused"), true), ((.o "Refused", .o "Firm"), false), ((.o "Refused", .o "NoPage"), false), ((.o "Refused", .o "NoRoom"), false), ((.o "Refused", .o "TooMany"), false), ((.o "Refused", .o "NoHand"), false), ((.o "Refused", .o "Held"), false), ((.o "Refused", .o "NotBranch"), false), ((.o "Refused", .o "InvalidCommand"), false), ((.o "Refused", .o "StoreError"), true)] : Tab) ++ ([((.o "Refused", .b "ValueError"), true), ((.o "Refused", .b "KeyError"), false), ((.o "Firm", .o "InvalidName"), false), ((.o "Firm", .o "InvalidText"), false), ((.o "Firm", .o "InvalidProgram"), false), ((.o "Firm", .o "NoPlace"), false), ((.o "Firm", .o "Taken"), false), ((.o "Firm", .o "Over"), false), ((.o "Firm", .o "NoMark"), false), ((.o "Firm", .o "Refused"), false), ((.o "Firm", .o "Firm"), true), ((.o "Firm", .o "NoPage"), false), ((.o "Firm", .o "NoRoom"), false), ((.o "Firm", .o "TooMany"), false), ((.o "Firm", .o "NoHand"), false), ((.o "Firm", .o "Held"), false), ((.o "Firm", .o "NotBranch"), false), ((.o "Firm", .o "InvalidCommand"), false), ((.o "Firm", .o "StoreError"), true), ((.o "Firm", .b "ValueError"), true), ((.o "Firm", .b "KeyError"), false), ((.o "NoPage", .o "InvalidName"), false), ((.o "NoPage", .o "InvalidText"), false), ((.o "NoPage", .o "InvalidProgram"), false), ((.o "NoPage", .o "NoPlace"), false), ((.o "NoPage", .o "Taken"), false), ((.o "NoPage", .o "Over"), false), ((.o "NoPage", .o "NoMark"), false), ((.o "NoPage", .o "Refused"), false), ((.o "NoPage", .o "Firm"), false)] : Tab) ++ ([((.o "NoPage", .o "NoPage"), true), ((.o "NoPage", .o "NoRoom"), false), ((.o "NoPage", .o "TooMany"), false), ((.o "NoPage", .o "NoHand"), false), ((.o "NoPage", .o "Held"), false), ((.o "NoPage", .o "NotBranch"), false), ((.o "NoPage", .o "InvalidCommand"), false), ((.o "NoPage", .o "StoreError"), true), ((.o "NoPage", .b "ValueError"), true), ((.o "NoPage", .b "KeyError"), false), ((.o "NoRoom", .o "InvalidName"), false), ((.o "NoRoom", .o "InvalidText"), false), ((.o "NoRoom", .o "InvalidProgram"), false), ((.o "NoRoom", .o "NoPlace"), false), ((.o "NoRoom", .o "Taken"), false), ((.o "NoRoom", .o "Over"), false), ((.o "NoRoom", .o "NoMark"), false), ((.o "NoRoom", .o "Refused"), false), ((.o "NoRoom", .o "Firm"), false), ((.o "NoRoom", .o "NoPage"), false), ((.o "NoRoom", .o "NoRoom"), true), ((.o "NoRoom", .o "TooMany"), false), ((.o "NoRoom", .o "NoHand"), false), ((.o "NoRoom", .o "Held"), false), ((.o "NoRoom", .o "NotBranch"), false), ((.o "NoRoom", .o "InvalidCommand"), false), ((.o "NoRoom", .o "StoreError"), true), ((.o "NoRoom", .b "ValueError"), true), ((.o "NoRoom", .b "KeyError"), false), ((.o "TooMany", .o "InvalidName"), false)] : Tab) ++ ([((.o "TooMany", .o "InvalidText"), false), ((.o "TooMany", .o "InvalidProgram"), false), ((.o "TooMany", .o "NoPlace"), false), ((.o "TooMany", .o "Taken"), false), ((.o "TooMany", .o "Over"), false), ((.o "TooMany", .o "NoMark"), false), ((.o "TooMany", .o "Refused"), false), ((.o "TooMany", .o "Firm"), false), ((.o "TooMany", .o "NoPage"), false), ((.o "TooMany", .o "NoRoom"), false), ((.o "TooMany", .o "TooMany"), true), ((.o "TooMany", .o "NoHand"), false), ((.o "TooMany", .o "Held"), false), ((.o "TooMany", .o "NotBranch"), false), ((.o "TooMany", .o "InvalidCommand"), false), ((.o "TooMany", .o "StoreError"), true), ((.o "TooMany", .b "ValueError"), true), ((.o "TooMany", .b "KeyError"), false), ((.o "NoHand", .o "InvalidName"), false), ((.o "NoHand", .o "InvalidText"), false), ((.o "NoHand", .o "InvalidProgram"), false), ((.o "NoHand", .o "NoPlace"), false), ((.o "NoHand", .o "Taken"), false), ((.o "NoHand", .o "Over"), false), ((.o "NoHand", .o "NoMark"), false), ((.o "NoHand", .o "Refused"), false), ((.o "NoHand", .o "Firm"), false), ((.o "NoHand", .o "NoPage"), false), ((.o "NoHand", .o "NoRoom"), false), ((.o "NoHand", .o "TooMany"), false)] : Tab) ++ ([((.o "NoHand", .o "NoHand"), true), ((.o "NoHand", .o "Held"), false), ((.o "NoHand", .o "NotBranch"), false), ((.o "NoHand", .o "InvalidCommand"), false), ((.o "NoHand", .o "StoreError"), false), ((.o "NoHand", .b "ValueError"), false), ((.o "NoHand", .b "KeyError"), true), ((.o "Held", .o "InvalidName"), false), ((.o "Held", .o "InvalidText"), false), ((.o "Held", .o "InvalidProgram"), false), ((.o "Held", .o "NoPlace"), false), ((.o "Held", .o "Taken"), false), ((.o "Held", .o "Over"), false), ((.o "Held", .o "NoMark"), false), ((.o "Held", .o "Refused"), false), ((.o "Held", .o "Firm"), false), ((.o "Held", .o "NoPage"), false), ((.o "Held", .o "NoRoom"), false), ((.o "Held", .o "TooMany"), false), ((.o "Held", .o "NoHand"), false), ((.o "Held", .o "Held"), true), ((.o "Held", .o "NotBranch"), false), ((.o "Held", .o "InvalidCommand"), false), ((.o "Held", .o "StoreError"), true), ((.o "Held", .b "ValueError"), true), ((.o "Held", .b "KeyError"), false), ((.o "NotBranch", .o "InvalidName"), false), ((.o "NotBranch", .o "InvalidText"), false), ((.o "NotBranch", .o "InvalidProgram"), false), ((.o "NotBranch", .o "NoPlace"), false)] : Tab) ++ ([((.o "NotBranch", .o "Taken"), false), ((.o "NotBranch", .o "Over"), false), ((.o "NotBranch", .o "NoMark"), false), ((.o "NotBranch", .o "Refused"), false), ((.o "NotBranch", .o "Firm"), false), ((.o "NotBranch", .o "NoPage"), false), ((.o "NotBranch", .o "NoRoom"), false), ((.o "NotBranch", .o "TooMany"), false), ((.o "NotBranch", .o "NoHand"), false), ((.o "NotBranch", .o "Held"), false), ((.o "NotBranch", .o "NotBranch"), true), ((.o "NotBranch", .o "InvalidCommand"), false), ((.o "NotBranch", .o "StoreError"), true), ((.o "NotBranch", .b "ValueError"), true), ((.o "NotBranch", .b "KeyError"), false), ((.o "InvalidCommand", .o "InvalidName"), false), ((.o "InvalidCommand", .o "InvalidText"), false), ((.o "InvalidCommand", .o "InvalidProgram"), false), ((.o "InvalidCommand", .o "NoPlace"), false), ((.o "InvalidCommand", .o "Taken"), false), ((.o "InvalidCommand", .o "Over"), false), ((.o "InvalidCommand", .o "NoMark"), false), ((.o "InvalidCommand", .o "Refused"), false), ((.o "InvalidCommand", .o "Firm"), false), ((.o "InvalidCommand", .o "NoPage"), false), ((.o "InvalidCommand", .o "NoRoom"), false), ((.o "InvalidCommand", .o "TooMany"), false), ((.o "InvalidCommand", .o "NoHand"), false), ((.o "InvalidCommand", .o "Held"), false), ((.o "InvalidCommand", .o "NotBranch"), false)] : Tab) ++ ([((.o "InvalidCommand", .o "InvalidCommand"), true), ((.o "InvalidCommand", .o "StoreError"), true), ((.o "InvalidCommand", .b "ValueError"), true), ((.o "InvalidCommand", .b "KeyError"), false)] : Tab)
def nf_all : List (Str × Kd) := []
def xc_all : List Str := ["InvalidName", "InvalidText", "InvalidProgram", "NoPlace", "Taken", "Over", "NoMark", "Refused", "Firm", "NoPage", "NoRoom", "TooMany", "NoHand", "Held", "NotBranch", "InvalidCommand"]
def xa_all : List (Str × Str) := [("InvalidName", "name"), ("InvalidText", "at"), ("InvalidProgram", "index"), ("NoPlace", "place"), ("Taken", "name"), ("Over", "name"), ("NoMark", "mark"), ("Refused", "runs"), ("Firm", "name"), ("NoPage", "number"), ("NoRoom", "lacking"), ("TooMany", "most"), ("NoHand", "name"), ("Held", "name"), ("Held", "index"), ("Held", "answer")]
def xt_all : Xt := []
structure GE (K : PySem.W.Frag) (mg : Str → Option Value) : Prop where
  n_KeyError : mg "KeyError" = none
  n_ValueError : mg "ValueError" = none
  n_abs : mg "abs" = none
  n_enumerate : mg "enumerate" = none
  n_isinstance : mg "isinstance" = none
  n_len : mg "len" = none
  n_max : mg "max" = none
  n_min : mg "min" = none
  n_range : mg "range" = none
  n_repr : mg "repr" = none
  n_tuple : mg "tuple" = none
  c_Firm : mg "Firm" = some (.ref (ga K "Firm"))
  c_Held : mg "Held" = some (.ref (ga K "Held"))
  c_InvalidCommand : mg "InvalidCommand" = some (.ref (ga K "InvalidCommand"))
  c_InvalidName : mg "InvalidName" = some (.ref (ga K "InvalidName"))
  c_InvalidProgram : mg "InvalidProgram" = some (.ref (ga K "InvalidProgram"))
  c_InvalidText : mg "InvalidText" = some (.ref (ga K "InvalidText"))
  c_NoHand : mg "NoHand" = some (.ref (ga K "NoHand"))
  c_NoMark : mg "NoMark" = some (.ref (ga K "NoMark"))
  c_NoPage : mg "NoPage" = some (.ref (ga K "NoPage"))
  c_NoPlace : mg "NoPlace" = some (.ref (ga K "NoPlace"))
  c_NoRoom : mg "NoRoom" = some (.ref (ga K "NoRoom"))
  c_NotBranch : mg "NotBranch" = some (.ref (ga K "NotBranch"))
  c_Over : mg "Over" = some (.ref (ga K "Over"))
  c_Refused : mg "Refused" = some (.ref (ga K "Refused"))
  c_StoreError : mg "StoreError" = some (.ref (ga K "StoreError"))
  c_Taken : mg "Taken" = some (.ref (ga K "Taken"))
  c_TooMany : mg "TooMany" = some (.ref (ga K "TooMany"))
  own : ∀ c ∈ cs_all, Own K (ga K c)
  tab : TabOk K tb_all
  nf : NfOk K nf_all
  xt : XtOk K xt_all
  xc : XcOk K xc_all
  xa : XaOk K xa_all
abbrev st__law_feed : Stmt := topk01 19
abbrev nn__law_feed : List Str := ["_law_script", "_law_k", "_law_cell", "_law_own"]
theorem sc__law_feed : FnScope nn__law_feed ["_law_script", "_law_k"] (defScope st__law_feed) := ⟨rfl, rfl, rfl, by decide +kernel, rfl, by decide +kernel, by decide +kernel⟩
def m__law_feed : M D :=
  (mSeqO (mSet 2 (dV (m2 addD (dV (m2 mulD (ret (.d (.int 7919))) (mVar 1))) (ret (.d (.int 30103))))))
  (mSeqO (mIf (mB (m2 ltD (mVar 1) (dV (mCall lenD (mCons (mVar 0) (ret [])))))) (mSet 2 (dV (mCall absD (mCons (dV (m2 ixD (mVar 0) (mVar 1))) (ret []))))) (mIf (mB (m2 gtD (dV (mCall lenD (mCons (mVar 0) (ret [])))) (ret (.d (.int 0))))) (mSet 2 (dV (m2 addD (dV (m2 mulD (dV (m2 modD (dV (mCall absD (mCons (dV (m2 ixD (mVar 0) (dV (m2 modD (mVar 1) (dV (mCall lenD (mCons (mVar 0) (ret [])))))))) (ret [])))) (ret (.d (.int 2147483629))))) (ret (.d (.int 31))))) (dV (m2 mulD (ret (.d (.int 7919))) (mVar 1)))))) mSkip))
  (mSeqO (mSet 3 (ret (.d (.int 0))))
  (mSeqO (mIf (mB (m2 geD (mVar 2) (dV (m2 powD (ret (.d (.int 10))) (ret (.d (.int 18))))))) (mSet 3 (mVar 2)) mSkip)
  (mLst (mConsD (mVar 3) (mConsD (dV (m2 addD (dV (m2 modD (dV (m2 addD (dV (m2 mulD (dV (m2 modD (mVar 2) (ret (.d (.int 2147483629))))) (ret (.d (.int 48271))))) (dV (m2 mulD (ret (.d (.int 40692))) (mVar 1))))) (ret (.d (.int 2147483629))))) (ret (.d (.int 1))))) (ret []))))))))
def sem__law_feed : List D → RF := runO 4 [false, false] m__law_feed
theorem ok__law_feed {P : Program} {w : World} {K : PySem.W.Frag} {mg : Str → Option Value} {base : Heap} {f : Addr} {fd : FuncData} (F : FnP K "_law_feed" "_law_feed" st__law_feed f fd) (E : GE K mg) : FnOk P w K mg base (CX P w) 1 f fd ["_law_script", "_law_k"] (spO K [false, false] sem__law_feed) := by
  refine F.ok sc__law_feed (spO_len rfl) (fun cdv A outer s H vs Q E' hr h => ?_)
  exact body_okO (m := m__law_feed) (ms := [false, false]) rfl (by decide) (pso_cons (psd_set (i := 2) sc__law_feed.nd rfl (by first | exact Or.inl rfl | exact Or.inr rfl) (pd_bin op_addD addD_ok (pd_bin op_mulD mulD_ok pd_int (pd_var (pv 1))) pd_int))
  (pso_cons (psd_if (ptd_cmp op_ltD ltD_ok (pd_var (pv 1)) (pd_callB call_lenA lenD_ok E.n_len boot_len (pad_cons (pd_var (pv 0)) pad_nil))) (psd_one (psd_set (i := 2) sc__law_feed.nd rfl (by first | exact Or.inl rfl | exact Or.inr rfl) (pd_callB call_abs absD_ok E.n_abs boot_abs (pad_cons (pd_ix hr.units (pd_var (pv 0)) (pd_var (pv 1))) pad_nil)))) (psd_one (psd_if (ptd_cmp op_gtD gtD_ok (pd_callB call_lenA lenD_ok E.n_len boot_len (pad_cons (pd_var (pv 0)) pad_nil)) pd_int) (psd_one (psd_set (i := 2) sc__law_feed.nd rfl (by first | exact Or.inl rfl | exact Or.inr rfl) (pd_bin op_addD addD_ok (pd_bin op_mulD mulD_ok (pd_bin op_mod modD_ok (pd_callB call_abs absD_ok E.n_abs boot_abs (pad_cons (pd_ix hr.units (pd_var (pv 0)) (pd_bin op_mod modD_ok (pd_var (pv 1)) (pd_callB call_lenA lenD_ok E.n_len boot_len (pad_cons (pd_var (pv 0)) pad_nil)))) pad_nil)) pd_int) pd_int) (pd_bin op_mulD mulD_ok pd_int (pd_var (pv 1)))))) psd_nil)))
  (pso_cons (psd_set (i := 3) sc__law_feed.nd rfl (by first | exact Or.inl rfl | exact Or.inr rfl) pd_int)
  (pso_cons (psd_if (ptd_cmp op_geD geD_ok (pd_var (pv 2)) (pd_bin op_pow powD_ok pd_int pd_int)) (psd_one (psd_set (i := 3) sc__law_feed.nd rfl (by first | exact Or.inl rfl | exact Or.inr rfl) (pd_var (pv 2)))) psd_nil)
  (pso_ret (pd_lstF (padD_cons (pd_var (pv 3)) (padD_cons (pd_bin op_addD addD_ok (pd_bin op_mod modD_ok (pd_bin op_addD addD_ok (pd_bin op_mulD mulD_ok (pd_bin op_mod modD_ok (pd_var (pv 2)) pd_int) pd_int) (pd_bin op_mulD mulD_ok pd_int (pd_var (pv 1)))) pd_int) pd_int) padD_nil)))))))) h
abbrev st__law_take : Stmt := topk01 20
abbrev nn__law_take : List Str := ["_law_feed_here", "_law_many", "_law_digit", "_law_one"]
theorem sc__law_take : FnScope nn__law_take ["_law_feed_here", "_law_many"] (defScope st__law_take) := ⟨rfl, rfl, rfl, by decide +kernel, rfl, by decide +kernel, by decide +kernel⟩
def m__law_take : MS :=
  (mSeq (mIf (mB (m2 gtD (dV (m2 ixD (mVar 0) (ret (.d (.int 0))))) (ret (.d (.int 0))))) (mSeq (mSet 2 (dV (m2 modD (dV (m2 ixD (mVar 0) (ret (.d (.int 0))))) (mVar 1))))
  (mSeq (mStore 0 (ret (.d (.int 0))) (dV (m2 fdivD (dV (m2 ixD (mVar 0) (ret (.d (.int 0))))) (mVar 1))))
  (mRet (mVar 2)))) mSkip)
  (mSeq (mSet 3 (dV (m2 modD (dV (m2 mulD (dV (m2 ixD (mVar 0) (ret (.d (.int 1))))) (ret (.d (.int 48271))))) (ret (.d (.int 2147483647))))))
  (mSeq (mStore 0 (ret (.d (.int 1))) (dV (m2 addD (dV (m2 modD (dV (m2 addD (dV (m2 mulD (mVar 3) (ret (.d (.int 40692))))) (ret (.d (.int 30103))))) (ret (.d (.int 2147483399))))) (ret (.d (.int 1))))))
  (mRet (dV (m2 modD (dV (m2 fdivD (dV (m2 addD (dV (m2 mulD (mVar 3) (ret (.d (.int 2147483647))))) (dV (m2 ixD (mVar 0) (ret (.d (.int 1))))))) (ret (.d (.int 8191))))) (mVar 1)))))))
def sem__law_take : List D → RF := runF 4 [true, false] m__law_take
theorem ok__law_take {P : Program} {w : World} {K : PySem.W.Frag} {mg : Str → Option Value} {base : Heap} {f : Addr} {fd : FuncData} (F : FnP K "_law_take" "_law_take" st__law_take f fd) (E : GE K mg) : FnOk P w K mg base (CX P w) 1 f fd ["_law_feed_here", "_law_many"] (spD K [true, false] sem__law_take) := by
  refine F.ok sc__law_take (spD_len rfl) (fun cdv A outer s H vs Q E' hr h => ?_)
  exact body_ok (m := m__law_take) (ms := [true, false]) rfl (by decide) (psd_cons (psd_if (ptd_cmp op_gtD gtD_ok (pd_ix hr.units (pd_var (pv 0)) pd_int) pd_int) (psd_cons (psd_set (i := 2) sc__law_take.nd rfl (by first | exact Or.inl rfl | exact Or.inr rfl) (pd_bin op_mod modD_ok (pd_ix hr.units (pd_var (pv 0)) pd_int) (pd_var (pv 1))))
  (psd_cons (psd_store (i := 0) hr.units (pv 0) pd_int (pd_bin op_fdivW fdivD_ok (pd_ix hr.units (pd_var (pv 0)) pd_int) (pd_var (pv 1))))
  (psd_one (psd_ret (pd_var (pv 2)))))) psd_nil)
  (psd_cons (psd_set (i := 3) sc__law_take.nd rfl (by first | exact Or.inl rfl | exact Or.inr rfl) (pd_bin op_mod modD_ok (pd_bin op_mulD mulD_ok (pd_ix hr.units (pd_var (pv 0)) pd_int) pd_int) pd_int))
  (psd_cons (psd_store (i := 0) hr.units (pv 0) pd_int (pd_bin op_addD addD_ok (pd_bin op_mod modD_ok (pd_bin op_addD addD_ok (pd_bin op_mulD mulD_ok (pd_var (pv 3)) pd_int) pd_int) pd_int) pd_int))
  (psd_one (psd_ret (pd_bin op_mod modD_ok (pd_bin op_fdivW fdivD_ok (pd_bin op_addD addD_ok (pd_bin op_mulD mulD_ok (pd_var (pv 3)) pd_int) (pd_ix hr.units (pd_var (pv 0)) pd_int)) pd_int) (pd_var (pv 1)))))))) h
def sem__law_value_r0 : List D → RF := fun _ => .bad
theorem ok__law_value_r0 {P : Program} {w : World} {K : PySem.W.Frag} {mg : Str → Option Value} {base : Heap} {f : Addr} {fd : FuncData} : FnOk P w K mg base (CX P w) 1 f fd ["_law_feed_here", "_law_deep"] (spD K [true, false] sem__law_value_r0) := bad_ok rfl
abbrev st__law_value_r1 : Stmt := topk01 21
abbrev nn__law_value_r1 : List Str := ["_law_feed_here", "_law_deep", "_law_form", "_law_turn", "_law_some"]
theorem sc__law_value_r1 : FnScope nn__law_value_r1 ["_law_feed_here", "_law_deep"] (defScope st__law_value_r1) := ⟨rfl, rfl, rfl, by decide +kernel, rfl, by decide +kernel, by decide +kernel⟩
def m__law_value_r1 : MS :=
  (mSeq (mSet 2 (dV (mFn [true, false] sem__law_take (mCons (mVar 0) (mCons (fz (ret (.d (.int 9)))) (ret []))))))
  (mSeq (mIf (mAnd (mB (m2 ltD (mVar 2) (ret (.d (.int 2))))) (mB (m2 gtD (mVar 1) (ret (.d (.int 0)))))) (mRet (dV (mCall tupleD (mCons (dV (mLc [3] (mIter rng1 (mCons (dV (mFn [true, false] sem__law_take (mCons (mVar 0) (mCons (fz (ret (.d (.int 4)))) (ret []))))) (ret []))) (gN 3) mYes (dV (mFn [true, false] sem__law_value_r0 (mCons (mVar 0) (mCons (fz (dV (m2 subD (mVar 1) (ret (.d (.int 1)))))) (ret []))))))) (ret []))))) mSkip)
  (mSeq (mSet 4 (dV (mLst (mConsD (dV (mFn [true, false] sem__law_take (mCons (mVar 0) (mCons (fz (dV (m2 powD (ret (.d (.int 10))) (ret (.d (.int 20)))))) (ret []))))) (mConsD (dV (m2 subD (ret (.d (.int 0))) (dV (mFn [true, false] sem__law_take (mCons (mVar 0) (mCons (fz (ret (.d (.int 9)))) (ret []))))))) (mConsD (ret (.d (.str ""))) (mConsD (ret (.d (.str "a"))) (mConsD (ret (.d (.str "zz 9"))) (mConsD (ret (.d (.bl true))) (mConsD (ret (.d (.bl false))) (mConsD (ret (.d .non)) (mConsD (dV (m2 powD (ret (.d (.int 10))) (ret (.d (.int 30))))) (ret [])))))))))))))
  (mRet (dV (m2 ixD (mVar 4) (mVar 2)))))))
def sem__law_value_r1 : List D → RF := runF 5 [true, false] m__law_value_r1
theorem ok__law_value_r1 {P : Program} {w : World} {K : PySem.W.Frag} {mg : Str → Option Value} {base : Heap} {f : Addr} {fd : FuncData} (F : FnP K "_law_value" "_law_value" st__law_value_r1 f fd) (E : GE K mg) (c_fn__law_take : Cal P w K mg base (CX P w) 1 "_law_take" ["_law_feed_here", "_law_many"] (spD K [true, false] sem__law_take)) (c_fn__law_value_r0 : Cal P w K mg base (CX P w) 1 "_law_value" ["_law_feed_here", "_law_deep"] (spD K [true, false] sem__law_value_r0)) : FnOk P w K mg base (CX P w) 2 f fd ["_law_feed_here", "_law_deep"] (spD K [true, false] sem__law_value_r1) := by
  refine F.ok sc__law_value_r1 (spD_len rfl) (fun cdv A outer s H vs Q E' hr h => ?_)
  have tk := takes_of (X := cxOf (CX P w) P w K mg base nn__law_value_r1 "_law_value" (defScope st__law_value_r1) f cdv A outer s H E') (E := E') rfl rfl rfl rfl
  exact body_ok (m := m__law_value_r1) (ms := [true, false]) rfl (by decide) (psd_cons (psd_set (i := 2) sc__law_value_r1.nd rfl (by first | exact Or.inl rfl | exact Or.inr rfl) (pd_fn c_fn__law_take (hr.mono (by decide)) tk (pad_cons (pd_var (pv 0)) (pad_cons (pd_fz pd_int) pad_nil))))
  (psd_cons (psd_if (ptd_pw (pwd_and (ptd_cmp op_ltD ltD_ok (pd_var (pv 2)) pd_int) (pwd_and1 (ptd_cmp op_gtD gtD_ok (pd_var (pv 1)) pd_int)))) (psd_one (psd_ret (pd_callTy call_tuple_of tupleD_ok E.n_tuple boot_tuple (pad_cons (pd_fresh (pd_lc (own := [("_law_turn", 3)]) rfl sc__law_value_r1.nd (pid_range1 E.n_range (pad_cons (pd_fn c_fn__law_take (hr.mono (by decide)) tk (pad_cons (pd_var (pv 0)) (pad_cons (pd_fz pd_int) pad_nil))) pad_nil)) (blkOk_by (N := nn__law_value_r1) (sc := defScope st__law_value_r1) (own := [("_law_turn", 3)]) (by decide +kernel)) (fun _ _ _ _ _ => (pgw_name (i := 3) sc__law_value_r1.nd rfl (by first | exact Or.inl rfl | exact Or.inr rfl))) (fun _ _ _ _ _ => ptsd_nil) (fun _ _ _ _ _ => (pd_fn c_fn__law_value_r0 (hr.mono (by decide)) takes0 (pad_cons (pd_var (pv 0)) (pad_cons (pd_fz (pd_bin op_sub subD_ok (pd_var (pv 1)) pd_int)) pad_nil)))))) pad_nil)))) psd_nil)
  (psd_cons (psd_set (i := 4) sc__law_value_r1.nd rfl (by first | exact Or.inl rfl | exact Or.inr rfl) (pd_fresh (pd_lstF (padD_cons (pd_fn c_fn__law_take (hr.mono (by decide)) tk (pad_cons (pd_var (pv 0)) (pad_cons (pd_fz (pd_bin op_pow powD_ok pd_int pd_int)) pad_nil))) (padD_cons (pd_bin op_sub subD_ok pd_int (pd_fn c_fn__law_take (hr.mono (by decide)) tk (pad_cons (pd_var (pv 0)) (pad_cons (pd_fz pd_int) pad_nil)))) (padD_cons pd_str (padD_cons pd_str (padD_cons pd_str (padD_cons pd_bl (padD_cons pd_bl (padD_cons pd_non (padD_cons (pd_bin op_pow powD_ok pd_int pd_int) padD_nil))))))))))))
  (psd_one (psd_ret (pd_ix hr.units (pd_var (pv 4)) (pd_var (pv 2)))))))) h
abbrev st__law_value_r2 : Stmt := topk01 21
abbrev nn__law_value_r2 : List Str := ["_law_feed_here", "_law_deep", "_law_form", "_law_turn", "_law_some"]
theorem sc__law_value_r2 : FnScope nn__law_value_r2 ["_law_feed_here", "_law_deep"] (defScope st__law_value_r2) := ⟨rfl, rfl, rfl, by decide +kernel, rfl, by decide +kernel, by decide +kernel⟩
def m__law_value_r2 : MS :=
  (mSeq (mSet 2 (dV (mFn [true, false] sem__law_take (mCons (mVar 0) (mCons (fz (ret (.d (.int 9)))) (ret []))))))
  (mSeq (mIf (mAnd (mB (m2 ltD (mVar 2) (ret (.d (.int 2))))) (mB (m2 gtD (mVar 1) (ret (.d (.int 0)))))) (mRet (dV (mCall tupleD (mCons (dV (mLc [3] (mIter rng1 (mCons (dV (mFn [true, false] sem__law_take (mCons (mVar 0) (mCons (fz (ret (.d (.int 4)))) (ret []))))) (ret []))) (gN 3) mYes (dV (mFn [true, false] sem__law_value_r1 (mCons (mVar 0) (mCons (fz (dV (m2 subD (mVar 1) (ret (.d (.int 1)))))) (ret []))))))) (ret []))))) mSkip)
  (mSeq (mSet 4 (dV (mLst (mConsD (dV (mFn [true, false] sem__law_take (mCons (mVar 0) (mCons (fz (dV (m2 powD (ret (.d (.int 10))) (ret (.d (.int 20)))))) (ret []))))) (mConsD (dV (m2 subD (ret (.d (.int 0))) (dV (mFn [true, false] sem__law_take (mCons (mVar 0) (mCons (fz (ret (.d (.int 9)))) (ret []))))))) (mConsD (ret (.d (.str ""))) (mConsD (ret (.d (.str "a"))) (mConsD (ret (.d (.str "zz 9"))) (mConsD (ret (.d (.bl true))) (mConsD (ret (.d (.bl false))) (mConsD (ret (.d .non)) (mConsD (dV (m2 powD (ret (.d (.int 10))) (ret (.d (.int 30))))) (ret [])))))))))))))
  (mRet (dV (m2 ixD (mVar 4) (mVar 2)))))))
def sem__law_value_r2 : List D → RF := runF 5 [true, false] m__law_value_r2
theorem ok__law_value_r2 {P : Program} {w : World} {K : PySem.W.Frag} {mg : Str → Option Value} {base : Heap} {f : Addr} {fd : FuncData} (F : FnP K "_law_value" "_law_value" st__law_value_r2 f fd) (E : GE K mg) (c_fn__law_take : Cal P w K mg base (CX P w) 1 "_law_take" ["_law_feed_here", "_law_many"] (spD K [true, false] sem__law_take)) (c_fn__law_value_r1 : Cal P w K mg base (CX P w) 2 "_law_value" ["_law_feed_here", "_law_deep"] (spD K [true, false] sem__law_value_r1)) : FnOk P w K mg base (CX P w) 3 f fd ["_law_feed_here", "_law_deep"] (spD K [true, false] sem__law_value_r2) := by
  refine F.ok sc__law_value_r2 (spD_len rfl) (fun cdv A outer s H vs Q E' hr h => ?_)
  have tk := takes_of (X := cxOf (CX P w) P w K mg base nn__law_value_r2 "_law_value" (defScope st__law_value_r2) f cdv A outer s H E') (E := E') rfl rfl rfl rfl
  exact body_ok (m := m__law_value_r2) (ms := [true, false]) rfl (by decide) (psd_cons (psd_set (i := 2) sc__law_value_r2.nd rfl (by first | exact Or.inl rfl | exact Or.inr rfl) (pd_fn c_fn__law_take (hr.mono (by decide)) tk (pad_cons (pd_var (pv 0)) (pad_cons (pd_fz pd_int) pad_nil))))
  (psd_cons (psd_if (ptd_pw (pwd_and (ptd_cmp op_ltD ltD_ok (pd_var (pv 2)) pd_int) (pwd_and1 (ptd_cmp op_gtD gtD_ok (pd_var (pv 1)) pd_int)))) (psd_one (psd_ret (pd_callTy call_tuple_of tupleD_ok E.n_tuple boot_tuple (pad_cons (pd_fresh (pd_lc (own := [("_law_turn", 3)]) rfl sc__law_value_r2.nd (pid_range1 E.n_range (pad_cons (pd_fn c_fn__law_take (hr.mono (by decide)) tk (pad_cons (pd_var (pv 0)) (pad_cons (pd_fz pd_int) pad_nil))) pad_nil)) (blkOk_by (N := nn__law_value_r2) (sc := defScope st__law_value_r2) (own := [("_law_turn", 3)]) (by decide +kernel)) (fun _ _ _ _ _ => (pgw_name (i := 3) sc__law_value_r2.nd rfl (by first | exact Or.inl rfl | exact Or.inr rfl))) (fun _ _ _ _ _ => ptsd_nil) (fun _ _ _ _ _ => (pd_fn c_fn__law_value_r1 (hr.mono (by decide)) takes0 (pad_cons (pd_var (pv 0)) (pad_cons (pd_fz (pd_bin op_sub subD_ok (pd_var (pv 1)) pd_int)) pad_nil)))))) pad_nil)))) psd_nil)
  (psd_cons (psd_set (i := 4) sc__law_value_r2.nd rfl (by first | exact Or.inl rfl | exact Or.inr rfl) (pd_fresh (pd_lstF (padD_cons (pd_fn c_fn__law_take (hr.mono (by decide)) tk (pad_cons (pd_var (pv 0)) (pad_cons (pd_fz (pd_bin op_pow powD_ok pd_int pd_int)) pad_nil))) (padD_cons (pd_bin op_sub subD_ok pd_int (pd_fn c_fn__law_take (hr.mono (by decide)) tk (pad_cons (pd_var (pv 0)) (pad_cons (pd_fz pd_int) pad_nil)))) (padD_cons pd_str (padD_cons pd_str (padD_cons pd_str (padD_cons pd_bl (padD_cons pd_bl (padD_cons pd_non (padD_cons (pd_bin op_pow powD_ok pd_int pd_int) padD_nil))))))))))))
  (psd_one (psd_ret (pd_ix hr.units (pd_var (pv 4)) (pd_var (pv 2)))))))) h
abbrev st__law_value_r3 : Stmt := topk01 21
abbrev nn__law_value_r3 : List Str := ["_law_feed_here", "_law_deep", "_law_form", "_law_turn", "_law_some"]
theorem sc__law_value_r3 : FnScope nn__law_value_r3 ["_law_feed_here", "_law_deep"] (defScope st__law_value_r3) := ⟨rfl, rfl, rfl, by decide +kernel, rfl, by decide +kernel, by decide +kernel⟩
def m__law_value_r3 : MS :=
  (mSeq (mSet 2 (dV (mFn [true, false] sem__law_take (mCons (mVar 0) (mCons (fz (ret (.d (.int 9)))) (ret []))))))
  (mSeq (mIf (mAnd (mB (m2 ltD (mVar 2) (ret (.d (.int 2))))) (mB (m2 gtD (mVar 1) (ret (.d (.int 0)))))) (mRet (dV (mCall tupleD (mCons (dV (mLc [3] (mIter rng1 (mCons (dV (mFn [true, false] sem__law_take (mCons (mVar 0) (mCons (fz (ret (.d (.int 4)))) (ret []))))) (ret []))) (gN 3) mYes (dV (mFn [true, false] sem__law_value_r2 (mCons (mVar 0) (mCons (fz (dV (m2 subD (mVar 1) (ret (.d (.int 1)))))) (ret []))))))) (ret []))))) mSkip)
  (mSeq (mSet 4 (dV (mLst (mConsD (dV (mFn [true, false] sem__law_take (mCons (mVar 0) (mCons (fz (dV (m2 powD (ret (.d (.int 10))) (ret (.d (.int 20)))))) (ret []))))) (mConsD (dV (m2 subD (ret (.d (.int 0))) (dV (mFn [true, false] sem__law_take (mCons (mVar 0) (mCons (fz (ret (.d (.int 9)))) (ret []))))))) (mConsD (ret (.d (.str ""))) (mConsD (ret (.d (.str "a"))) (mConsD (ret (.d (.str "zz 9"))) (mConsD (ret (.d (.bl true))) (mConsD (ret (.d (.bl false))) (mConsD (ret (.d .non)) (mConsD (dV (m2 powD (ret (.d (.int 10))) (ret (.d (.int 30))))) (ret [])))))))))))))
  (mRet (dV (m2 ixD (mVar 4) (mVar 2)))))))
def sem__law_value_r3 : List D → RF := runF 5 [true, false] m__law_value_r3
theorem ok__law_value_r3 {P : Program} {w : World} {K : PySem.W.Frag} {mg : Str → Option Value} {base : Heap} {f : Addr} {fd : FuncData} (F : FnP K "_law_value" "_law_value" st__law_value_r3 f fd) (E : GE K mg) (c_fn__law_take : Cal P w K mg base (CX P w) 1 "_law_take" ["_law_feed_here", "_law_many"] (spD K [true, false] sem__law_take)) (c_fn__law_value_r2 : Cal P w K mg base (CX P w) 3 "_law_value" ["_law_feed_here", "_law_deep"] (spD K [true, false] sem__law_value_r2)) : FnOk P w K mg base (CX P w) 4 f fd ["_law_feed_here", "_law_deep"] (spD K [true, false] sem__law_value_r3) := by
  refine F.ok sc__law_value_r3 (spD_len rfl) (fun cdv A outer s H vs Q E' hr h => ?_)
  have tk := takes_of (X := cxOf (CX P w) P w K mg base nn__law_value_r3 "_law_value" (defScope st__law_value_r3) f cdv A outer s H E') (E := E') rfl rfl rfl rfl
  exact body_ok (m := m__law_value_r3) (ms := [true, false]) rfl (by decide) (psd_cons (psd_set (i := 2) sc__law_value_r3.nd rfl (by first | exact Or.inl rfl | exact Or.inr rfl) (pd_fn c_fn__law_take (hr.mono (by decide)) tk (pad_cons (pd_var (pv 0)) (pad_cons (pd_fz pd_int) pad_nil))))
  (psd_cons (psd_if (ptd_pw (pwd_and (ptd_cmp op_ltD ltD_ok (pd_var (pv 2)) pd_int) (pwd_and1 (ptd_cmp op_gtD gtD_ok (pd_var (pv 1)) pd_int)))) (psd_one (psd_ret (pd_callTy call_tuple_of tupleD_ok E.n_tuple boot_tuple (pad_cons (pd_fresh (pd_lc (own := [("_law_turn", 3)]) rfl sc__law_value_r3.nd (pid_range1 E.n_range (pad_cons (pd_fn c_fn__law_take (hr.mono (by decide)) tk (pad_cons (pd_var (pv 0)) (pad_cons (pd_fz pd_int) pad_nil))) pad_nil)) (blkOk_by (N := nn__law_value_r3) (sc := defScope st__law_value_r3) (own := [("_law_turn", 3)]) (by decide +kernel)) (fun _ _ _ _ _ => (pgw_name (i := 3) sc__law_value_r3.nd rfl (by first | exact Or.inl rfl | exact Or.inr rfl))) (fun _ _ _ _ _ => ptsd_nil) (fun _ _ _ _ _ => (pd_fn c_fn__law_value_r2 (hr.mono (by decide)) takes0 (pad_cons (pd_var (pv 0)) (pad_cons (pd_fz (pd_bin op_sub subD_ok (pd_var (pv 1)) pd_int)) pad_nil)))))) pad_nil)))) psd_nil)
  (psd_cons (psd_set (i := 4) sc__law_value_r3.nd rfl (by first | exact Or.inl rfl | exact Or.inr rfl) (pd_fresh (pd_lstF (padD_cons (pd_fn c_fn__law_take (hr.mono (by decide)) tk (pad_cons (pd_var (pv 0)) (pad_cons (pd_fz (pd_bin op_pow powD_ok pd_int pd_int)) pad_nil))) (padD_cons (pd_bin op_sub subD_ok pd_int (pd_fn c_fn__law_take (hr.mono (by decide)) tk (pad_cons (pd_var (pv 0)) (pad_cons (pd_fz pd_int) pad_nil)))) (padD_cons pd_str (padD_cons pd_str (padD_cons pd_str (padD_cons pd_bl (padD_cons pd_bl (padD_cons pd_non (padD_cons (pd_bin op_pow powD_ok pd_int pd_int) padD_nil))))))))))))
  (psd_one (psd_ret (pd_ix hr.units (pd_var (pv 4)) (pd_var (pv 2)))))))) h
abbrev st__law_value : Stmt := topk01 21
abbrev nn__law_value : List Str := ["_law_feed_here", "_law_deep", "_law_form", "_law_turn", "_law_some"]
theorem sc__law_value : FnScope nn__law_value ["_law_feed_here", "_law_deep"] (defScope st__law_value) := ⟨rfl, rfl, rfl, by decide +kernel, rfl, by decide +kernel, by decide +kernel⟩
def m__law_value : MS :=
  (mSeq (mSet 2 (dV (mFn [true, false] sem__law_take (mCons (mVar 0) (mCons (fz (ret (.d (.int 9)))) (ret []))))))
  (mSeq (mIf (mAnd (mB (m2 ltD (mVar 2) (ret (.d (.int 2))))) (mB (m2 gtD (mVar 1) (ret (.d (.int 0)))))) (mRet (dV (mCall tupleD (mCons (dV (mLc [3] (mIter rng1 (mCons (dV (mFn [true, false] sem__law_take (mCons (mVar 0) (mCons (fz (ret (.d (.int 4)))) (ret []))))) (ret []))) (gN 3) mYes (dV (mFn [true, false] sem__law_value_r3 (mCons (mVar 0) (mCons (fz (dV (m2 subD (mVar 1) (ret (.d (.int 1)))))) (ret []))))))) (ret []))))) mSkip)
  (mSeq (mSet 4 (dV (mLst (mConsD (dV (mFn [true, false] sem__law_take (mCons (mVar 0) (mCons (fz (dV (m2 powD (ret (.d (.int 10))) (ret (.d (.int 20)))))) (ret []))))) (mConsD (dV (m2 subD (ret (.d (.int 0))) (dV (mFn [true, false] sem__law_take (mCons (mVar 0) (mCons (fz (ret (.d (.int 9)))) (ret []))))))) (mConsD (ret (.d (.str ""))) (mConsD (ret (.d (.str "a"))) (mConsD (ret (.d (.str "zz 9"))) (mConsD (ret (.d (.bl true))) (mConsD (ret (.d (.bl false))) (mConsD (ret (.d .non)) (mConsD (dV (m2 powD (ret (.d (.int 10))) (ret (.d (.int 30))))) (ret [])))))))))))))
  (mRet (dV (m2 ixD (mVar 4) (mVar 2)))))))
def sem__law_value : List D → RF := runF 5 [true, false] m__law_value
theorem ok__law_value {P : Program} {w : World} {K : PySem.W.Frag} {mg : Str → Option Value} {base : Heap} {f : Addr} {fd : FuncData} (F : FnP K "_law_value" "_law_value" st__law_value f fd) (E : GE K mg) (c_fn__law_take : Cal P w K mg base (CX P w) 1 "_law_take" ["_law_feed_here", "_law_many"] (spD K [true, false] sem__law_take)) (c_fn__law_value_r3 : Cal P w K mg base (CX P w) 4 "_law_value" ["_law_feed_here", "_law_deep"] (spD K [true, false] sem__law_value_r3)) : FnOk P w K mg base (CX P w) 5 f fd ["_law_feed_here", "_law_deep"] (spD K [true, false] sem__law_value) := by
  refine F.ok sc__law_value (spD_len rfl) (fun cdv A outer s H vs Q E' hr h => ?_)
  have tk := takes_of (X := cxOf (CX P w) P w K mg base nn__law_value "_law_value" (defScope st__law_value) f cdv A outer s H E') (E := E') rfl rfl rfl rfl
  exact body_ok (m := m__law_value) (ms := [true, false]) rfl (by decide) (psd_cons (psd_set (i := 2) sc__law_value.nd rfl (by first | exact Or.inl rfl | exact Or.inr rfl) (pd_fn c_fn__law_take (hr.mono (by decide)) tk (pad_cons (pd_var (pv 0)) (pad_cons (pd_fz pd_int) pad_nil))))
  (psd_cons (psd_if (ptd_pw (pwd_and (ptd_cmp op_ltD ltD_ok (pd_var (pv 2)) pd_int) (pwd_and1 (ptd_cmp op_gtD gtD_ok (pd_var (pv 1)) pd_int)))) (psd_one (psd_ret (pd_callTy call_tuple_of tupleD_ok E.n_tuple boot_tuple (pad_cons (pd_fresh (pd_lc (own := [("_law_turn", 3)]) rfl sc__law_value.nd (pid_range1 E.n_range (pad_cons (pd_fn c_fn__law_take (hr.mono (by decide)) tk (pad_cons (pd_var (pv 0)) (pad_cons (pd_fz pd_int) pad_nil))) pad_nil)) (blkOk_by (N := nn__law_value) (sc := defScope st__law_value) (own := [("_law_turn", 3)]) (by decide +kernel)) (fun _ _ _ _ _ => (pgw_name (i := 3) sc__law_value.nd rfl (by first | exact Or.inl rfl | exact Or.inr rfl))) (fun _ _ _ _ _ => ptsd_nil) (fun _ _ _ _ _ => (pd_fn c_fn__law_value_r3 (hr.mono (by decide)) takes0 (pad_cons (pd_var (pv 0)) (pad_cons (pd_fz (pd_bin op_sub subD_ok (pd_var (pv 1)) pd_int)) pad_nil)))))) pad_nil)))) psd_nil)
  (psd_cons (psd_set (i := 4) sc__law_value.nd rfl (by first | exact Or.inl rfl | exact Or.inr rfl) (pd_fresh (pd_lstF (padD_cons (pd_fn c_fn__law_take (hr.mono (by decide)) tk (pad_cons (pd_var (pv 0)) (pad_cons (pd_fz (pd_bin op_pow powD_ok pd_int pd_int)) pad_nil))) (padD_cons (pd_bin op_sub subD_ok pd_int (pd_fn c_fn__law_take (hr.mono (by decide)) tk (pad_cons (pd_var (pv 0)) (pad_cons (pd_fz pd_int) pad_nil)))) (padD_cons pd_str (padD_cons pd_str (padD_cons pd_str (padD_cons pd_bl (padD_cons pd_bl (padD_cons pd_non (padD_cons (pd_bin op_pow powD_ok pd_int pd_int) padD_nil))))))))))))
  (psd_one (psd_ret (pd_ix hr.units (pd_var (pv 4)) (pd_var (pv 2)))))))) h
abbrev st__law_by_position : Stmt := topk01 22
abbrev nn__law_by_position : List Str := ["_law_a", "_law_b", "_law_c", "_law_some"]
theorem sc__law_by_position : FnScope nn__law_by_position ["_law_a", "_law_b", "_law_c"] (defScope st__law_by_position) := ⟨rfl, rfl, rfl, by decide +kernel, rfl, by decide +kernel, by decide +kernel⟩
def m__law_by_position : MS :=
  (mSeq (mSet 3 (dV (mLst (mConsD (dV (mXer "InvalidName" ["name"] (mConsD (mVar 0) (ret [])))) (mConsD (dV (mXer "InvalidText" ["at"] (mConsD (mVar 0) (ret [])))) (mConsD (dV (mXer "InvalidProgram" ["index"] (mConsD (mVar 0) (ret [])))) (mConsD (dV (mXer "NoPlace" ["place"] (mConsD (mVar 0) (ret [])))) (mConsD (dV (mXer "Taken" ["name"] (mConsD (mVar 0) (ret [])))) (mConsD (dV (mXer "Over" ["name"] (mConsD (mVar 0) (ret [])))) (mConsD (dV (mXer "NoMark" ["mark"] (mConsD (mVar 0) (ret [])))) (mConsD (dV (mXer "Refused" ["runs"] (mConsD (mVar 0) (ret [])))) (ret []))))))))))))
  (mSeq (mSet 3 (dV (m2 addD (mVar 3) (dV (mLst (mConsD (dV (mXer "Firm" ["name"] (mConsD (mVar 0) (ret [])))) (mConsD (dV (mXer "NoPage" ["number"] (mConsD (mVar 0) (ret [])))) (mConsD (dV (mXer "NoRoom" ["lacking"] (mConsD (mVar 0) (ret [])))) (mConsD (dV (mXer "TooMany" ["most"] (mConsD (mVar 0) (ret [])))) (mConsD (dV (mXer "NoHand" ["name"] (mConsD (mVar 0) (ret [])))) (mConsD (dV (mXer "Held" ["name", "index", "answer"] (mConsD (mVar 0) (mConsD (mVar 1) (mConsD (mVar 2) (ret [])))))) (ret []))))))))))))
  (mRet (dV (m2 addD (mVar 3) (dV (mLst (mConsD (dV (mXer "NotBranch" [] (ret []))) (mConsD (dV (mXer "InvalidCommand" [] (ret []))) (ret []))))))))))
def sem__law_by_position : List D → RF := runF 4 [false, false, false] m__law_by_position
theorem ok__law_by_position {P : Program} {w : World} {K : PySem.W.Frag} {mg : Str → Option Value} {base : Heap} {f : Addr} {fd : FuncData} (F : FnP K "_law_by_position" "_law_by_position" st__law_by_position f fd) (E : GE K mg) (c_xer_InvalidCommand : CalX P w K mg base 1 "InvalidCommand" (ga K "InvalidCommand") []) (c_xer_NotBranch : CalX P w K mg base 1 "NotBranch" (ga K "NotBranch") []) (c_xer_Held : CalX P w K mg base 1 "Held" (ga K "Held") ["name", "index", "answer"]) (c_xer_NoHand : CalX P w K mg base 1 "NoHand" (ga K "NoHand") ["name"]) (c_xer_TooMany : CalX P w K mg base 1 "TooMany" (ga K "TooMany") ["most"]) (c_xer_NoRoom : CalX P w K mg base 1 "NoRoom" (ga K "NoRoom") ["lacking"]) (c_xer_NoPage : CalX P w K mg base 1 "NoPage" (ga K "NoPage") ["number"]) (c_xer_Firm : CalX P w K mg base 1 "Firm" (ga K "Firm") ["name"]) (c_xer_Refused : CalX P w K mg base 1 "Refused" (ga K "Refused") ["runs"]) (c_xer_NoMark : CalX P w K mg base 1 "NoMark" (ga K "NoMark") ["mark"]) (c_xer_Over : CalX P w K mg base 1 "Over" (ga K "Over") ["name"]) (c_xer_Taken : CalX P w K mg base 1 "Taken" (ga K "Taken") ["name"]) (c_xer_NoPlace : CalX P w K mg base 1 "NoPlace" (ga K "NoPlace") ["place"]) (c_xer_InvalidProgram : CalX P w K mg base 1 "InvalidProgram" (ga K "InvalidProgram") ["index"]) (c_xer_InvalidText : CalX P w K mg base 1 "InvalidText" (ga K "InvalidText") ["at"]) (c_xer_InvalidName : CalX P w K mg base 1 "InvalidName" (ga K "InvalidName") ["name"]) : FnOk P w K mg base (CX P w) 3 f fd ["_law_a", "_law_b", "_law_c"] (spD K [false, false, false] sem__law_by_position) := by
  refine F.ok sc__law_by_position (spD_len rfl) (fun cdv A outer s H vs Q E' hr h => ?_)
  exact body_ok (m := m__law_by_position) (ms := [false, false, false]) rfl (by decide) (psd_cons (psd_set (i := 3) sc__law_by_position.nd rfl (by first | exact Or.inl rfl | exact Or.inr rfl) (pd_fresh (pd_lstF (padD_cons (pd_xer c_xer_InvalidName (hr.mono (by decide)) (padD_cons (pd_var (pv 0)) padD_nil)) (padD_cons (pd_xer c_xer_InvalidText (hr.mono (by decide)) (padD_cons (pd_var (pv 0)) padD_nil)) (padD_cons (pd_xer c_xer_InvalidProgram (hr.mono (by decide)) (padD_cons (pd_var (pv 0)) padD_nil)) (padD_cons (pd_xer c_xer_NoPlace (hr.mono (by decide)) (padD_cons (pd_var (pv 0)) padD_nil)) (padD_cons (pd_xer c_xer_Taken (hr.mono (by decide)) (padD_cons (pd_var (pv 0)) padD_nil)) (padD_cons (pd_xer c_xer_Over (hr.mono (by decide)) (padD_cons (pd_var (pv 0)) padD_nil)) (padD_cons (pd_xer c_xer_NoMark (hr.mono (by decide)) (padD_cons (pd_var (pv 0)) padD_nil)) (padD_cons (pd_xer c_xer_Refused (hr.mono (by decide)) (padD_cons (pd_var (pv 0)) padD_nil)) padD_nil)))))))))))
  (psd_cons (psd_set (i := 3) sc__law_by_position.nd rfl (by first | exact Or.inl rfl | exact Or.inr rfl) (pd_bin op_addD addD_ok (pd_var (pv 3)) (pd_fresh (pd_lstF (padD_cons (pd_xer c_xer_Firm (hr.mono (by decide)) (padD_cons (pd_var (pv 0)) padD_nil)) (padD_cons (pd_xer c_xer_NoPage (hr.mono (by decide)) (padD_cons (pd_var (pv 0)) padD_nil)) (padD_cons (pd_xer c_xer_NoRoom (hr.mono (by decide)) (padD_cons (pd_var (pv 0)) padD_nil)) (padD_cons (pd_xer c_xer_TooMany (hr.mono (by decide)) (padD_cons (pd_var (pv 0)) padD_nil)) (padD_cons (pd_xer c_xer_NoHand (hr.mono (by decide)) (padD_cons (pd_var (pv 0)) padD_nil)) (padD_cons (pd_xer c_xer_Held (hr.mono (by decide)) (padD_cons (pd_var (pv 0)) (padD_cons (pd_var (pv 1)) (padD_cons (pd_var (pv 2)) padD_nil)))) padD_nil))))))))))
  (psd_one (psd_ret (pd_bin op_addD addD_ok (pd_var (pv 3)) (pd_fresh (pd_lstF (padD_cons (pd_xer0 c_xer_NotBranch (hr.mono (by decide))) (padD_cons (pd_xer0 c_xer_InvalidCommand (hr.mono (by decide))) padD_nil))))))))) h
abbrev st__law_by_name : Stmt := topk01 23
abbrev nn__law_by_name : List Str := ["_law_a", "_law_b", "_law_c", "_law_some"]
theorem sc__law_by_name : FnScope nn__law_by_name ["_law_a", "_law_b", "_law_c"] (defScope st__law_by_name) := ⟨rfl, rfl, rfl, by decide +kernel, rfl, by decide +kernel, by decide +kernel⟩
def m__law_by_name : MS :=
  (mSeq (mSet 3 (dV (mLst (mConsD (dV (mXerK "InvalidName" ["name"] (mConsD (mVar 0) (ret [])))) (mConsD (dV (mXerK "InvalidText" ["at"] (mConsD (mVar 0) (ret [])))) (mConsD (dV (mXerK "InvalidProgram" ["index"] (mConsD (mVar 0) (ret [])))) (mConsD (dV (mXerK "NoPlace" ["place"] (mConsD (mVar 0) (ret [])))) (mConsD (dV (mXerK "Taken" ["name"] (mConsD (mVar 0) (ret [])))) (ret [])))))))))
  (mSeq (mSet 3 (dV (m2 addD (mVar 3) (dV (mLst (mConsD (dV (mXerK "Over" ["name"] (mConsD (mVar 0) (ret [])))) (mConsD (dV (mXerK "NoMark" ["mark"] (mConsD (mVar 0) (ret [])))) (mConsD (dV (mXerK "Refused" ["runs"] (mConsD (mVar 0) (ret [])))) (mConsD (dV (mXerK "Firm" ["name"] (mConsD (mVar 0) (ret [])))) (mConsD (dV (mXerK "NoPage" ["number"] (mConsD (mVar 0) (ret [])))) (mConsD (dV (mXerK "NoRoom" ["lacking"] (mConsD (mVar 0) (ret [])))) (ret []))))))))))))
  (mRet (dV (m2 addD (mVar 3) (dV (mLst (mConsD (dV (mXerK "TooMany" ["most"] (mConsD (mVar 0) (ret [])))) (mConsD (dV (mXerK "NoHand" ["name"] (mConsD (mVar 0) (ret [])))) (mConsD (dV (mXerK "Held" ["name", "index", "answer"] (mConsD (mVar 2) (mConsD (mVar 1) (mConsD (mVar 0) (ret [])))))) (mConsD (dV (mXer "NotBranch" [] (ret []))) (mConsD (dV (mXer "InvalidCommand" [] (ret []))) (ret [])))))))))))))
def sem__law_by_name : List D → RF := runF 4 [false, false, false] m__law_by_name
theorem ok__law_by_name {P : Program} {w : World} {K : PySem.W.Frag} {mg : Str → Option Value} {base : Heap} {f : Addr} {fd : FuncData} (F : FnP K "_law_by_name" "_law_by_name" st__law_by_name f fd) (E : GE K mg) (c_xer_InvalidCommand : CalX P w K mg base 1 "InvalidCommand" (ga K "InvalidCommand") []) (c_xer_NotBranch : CalX P w K mg base 1 "NotBranch" (ga K "NotBranch") []) (c_xer_Held : CalX P w K mg base 1 "Held" (ga K "Held") ["name", "index", "answer"]) (c_xer_NoHand : CalX P w K mg base 1 "NoHand" (ga K "NoHand") ["name"]) (c_xer_TooMany : CalX P w K mg base 1 "TooMany" (ga K "TooMany") ["most"]) (c_xer_NoRoom : CalX P w K mg base 1 "NoRoom" (ga K "NoRoom") ["lacking"]) (c_xer_NoPage : CalX P w K mg base 1 "NoPage" (ga K "NoPage") ["number"]) (c_xer_Firm : CalX P w K mg base 1 "Firm" (ga K "Firm") ["name"]) (c_xer_Refused : CalX P w K mg base 1 "Refused" (ga K "Refused") ["runs"]) (c_xer_NoMark : CalX P w K mg base 1 "NoMark" (ga K "NoMark") ["mark"]) (c_xer_Over : CalX P w K mg base 1 "Over" (ga K "Over") ["name"]) (c_xer_Taken : CalX P w K mg base 1 "Taken" (ga K "Taken") ["name"]) (c_xer_NoPlace : CalX P w K mg base 1 "NoPlace" (ga K "NoPlace") ["place"]) (c_xer_InvalidProgram : CalX P w K mg base 1 "InvalidProgram" (ga K "InvalidProgram") ["index"]) (c_xer_InvalidText : CalX P w K mg base 1 "InvalidText" (ga K "InvalidText") ["at"]) (c_xer_InvalidName : CalX P w K mg base 1 "InvalidName" (ga K "InvalidName") ["name"]) : FnOk P w K mg base (CX P w) 3 f fd ["_law_a", "_law_b", "_law_c"] (spD K [false, false, false] sem__law_by_name) := by
  refine F.ok sc__law_by_name (spD_len rfl) (fun cdv A outer s H vs Q E' hr h => ?_)
  exact body_ok (m := m__law_by_name) (ms := [false, false, false]) rfl (by decide) (psd_cons (psd_set (i := 3) sc__law_by_name.nd rfl (by first | exact Or.inl rfl | exact Or.inr rfl) (pd_fresh (pd_lstF (padD_cons (pd_xerK c_xer_InvalidName (hr.mono (by decide)) (pkd_cons (pd_var (pv 0)) pkd_nil)) (padD_cons (pd_xerK c_xer_InvalidText (hr.mono (by decide)) (pkd_cons (pd_var (pv 0)) pkd_nil)) (padD_cons (pd_xerK c_xer_InvalidProgram (hr.mono (by decide)) (pkd_cons (pd_var (pv 0)) pkd_nil)) (padD_cons (pd_xerK c_xer_NoPlace (hr.mono (by decide)) (pkd_cons (pd_var (pv 0)) pkd_nil)) (padD_cons (pd_xerK c_xer_Taken (hr.mono (by decide)) (pkd_cons (pd_var (pv 0)) pkd_nil)) padD_nil))))))))
  (psd_cons (psd_set (i := 3) sc__law_by_name.nd rfl (by first | exact Or.inl rfl | exact Or.inr rfl) (pd_bin op_addD addD_ok (pd_var (pv 3)) (pd_fresh (pd_lstF (padD_cons (pd_xerK c_xer_Over (hr.mono (by decide)) (pkd_cons (pd_var (pv 0)) pkd_nil)) (padD_cons (pd_xerK c_xer_NoMark (hr.mono (by decide)) (pkd_cons (pd_var (pv 0)) pkd_nil)) (padD_cons (pd_xerK c_xer_Refused (hr.mono (by decide)) (pkd_cons (pd_var (pv 0)) pkd_nil)) (padD_cons (pd_xerK c_xer_Firm (hr.mono (by decide)) (pkd_cons (pd_var (pv 0)) pkd_nil)) (padD_cons (pd_xerK c_xer_NoPage (hr.mono (by decide)) (pkd_cons (pd_var (pv 0)) pkd_nil)) (padD_cons (pd_xerK c_xer_NoRoom (hr.mono (by decide)) (pkd_cons (pd_var (pv 0)) pkd_nil)) padD_nil))))))))))
  (psd_one (psd_ret (pd_bin op_addD addD_ok (pd_var (pv 3)) (pd_fresh (pd_lstF (padD_cons (pd_xerK c_xer_TooMany (hr.mono (by decide)) (pkd_cons (pd_var (pv 0)) pkd_nil)) (padD_cons (pd_xerK c_xer_NoHand (hr.mono (by decide)) (pkd_cons (pd_var (pv 0)) pkd_nil)) (padD_cons (pd_xerK c_xer_Held (hr.mono (by decide)) (pkd_cons (pd_var (pv 2)) (pkd_cons (pd_var (pv 1)) (pkd_cons (pd_var (pv 0)) pkd_nil)))) (padD_cons (pd_xer0 c_xer_NotBranch (hr.mono (by decide))) (padD_cons (pd_xer0 c_xer_InvalidCommand (hr.mono (by decide))) padD_nil)))))))))))) h
abbrev st__law_kept : Stmt := topk01 24
abbrev nn__law_kept : List Str := ["_law_some", "_law_found"]
theorem sc__law_kept : FnScope nn__law_kept ["_law_some"] (defScope st__law_kept) := ⟨rfl, rfl, rfl, by decide +kernel, rfl, by decide +kernel, by decide +kernel⟩
def m__law_kept : MS :=
  (mSeq (mSet 1 (dV (mLst (mConsD (dV (mXfl xa_all "name" (dV (m2 ixD (mVar 0) (ret (.d (.int 0))))))) (mConsD (dV (mXfl xa_all "at" (dV (m2 ixD (mVar 0) (ret (.d (.int 1))))))) (mConsD (dV (mXfl xa_all "index" (dV (m2 ixD (mVar 0) (ret (.d (.int 2))))))) (mConsD (dV (mXfl xa_all "place" (dV (m2 ixD (mVar 0) (ret (.d (.int 3))))))) (mConsD (dV (mXfl xa_all "name" (dV (m2 ixD (mVar 0) (ret (.d (.int 4))))))) (mConsD (dV (mXfl xa_all "name" (dV (m2 ixD (mVar 0) (ret (.d (.int 5))))))) (mConsD (dV (mXfl xa_all "mark" (dV (m2 ixD (mVar 0) (ret (.d (.int 6))))))) (ret [])))))))))))
  (mSeq (mSet 1 (dV (m2 addD (mVar 1) (dV (mLst (mConsD (dV (mXfl xa_all "runs" (dV (m2 ixD (mVar 0) (ret (.d (.int 7))))))) (mConsD (dV (mXfl xa_all "name" (dV (m2 ixD (mVar 0) (ret (.d (.int 8))))))) (mConsD (dV (mXfl xa_all "number" (dV (m2 ixD (mVar 0) (ret (.d (.int 9))))))) (mConsD (dV (mXfl xa_all "lacking" (dV (m2 ixD (mVar 0) (ret (.d (.int 10))))))) (mConsD (dV (mXfl xa_all "most" (dV (m2 ixD (mVar 0) (ret (.d (.int 11))))))) (mConsD (dV (mXfl xa_all "name" (dV (m2 ixD (mVar 0) (ret (.d (.int 12))))))) (ret []))))))))))))
  (mRet (dV (m2 addD (mVar 1) (dV (mLst (mConsD (dV (mXfl xa_all "name" (dV (m2 ixD (mVar 0) (ret (.d (.int 13))))))) (mConsD (dV (mXfl xa_all "index" (dV (m2 ixD (mVar 0) (ret (.d (.int 13))))))) (mConsD (dV (mXfl xa_all "answer" (dV (m2 ixD (mVar 0) (ret (.d (.int 13))))))) (ret [])))))))))))
def sem__law_kept : List D → RF := runF 2 [false] m__law_kept
theorem ok__law_kept {P : Program} {w : World} {K : PySem.W.Frag} {mg : Str → Option Value} {base : Heap} {f : Addr} {fd : FuncData} (F : FnP K "_law_kept" "_law_kept" st__law_kept f fd) (E : GE K mg) : FnOk P w K mg base (CX P w) 1 f fd ["_law_some"] (spD K [false] sem__law_kept) := by
  refine F.ok sc__law_kept (spD_len rfl) (fun cdv A outer s H vs Q E' hr h => ?_)
  exact body_ok (m := m__law_kept) (ms := [false]) rfl (by decide) (psd_cons (psd_set (i := 1) sc__law_kept.nd rfl (by first | exact Or.inl rfl | exact Or.inr rfl) (pd_fresh (pd_lstF (padD_cons (pd_xfl E.xa (pd_ix hr.units (pd_var (pv 0)) pd_int)) (padD_cons (pd_xfl E.xa (pd_ix hr.units (pd_var (pv 0)) pd_int)) (padD_cons (pd_xfl E.xa (pd_ix hr.units (pd_var (pv 0)) pd_int)) (padD_cons (pd_xfl E.xa (pd_ix hr.units (pd_var (pv 0)) pd_int)) (padD_cons (pd_xfl E.xa (pd_ix hr.units (pd_var (pv 0)) pd_int)) (padD_cons (pd_xfl E.xa (pd_ix hr.units (pd_var (pv 0)) pd_int)) (padD_cons (pd_xfl E.xa (pd_ix hr.units (pd_var (pv 0)) pd_int)) padD_nil))))))))))
  (psd_cons (psd_set (i := 1) sc__law_kept.nd rfl (by first | exact Or.inl rfl | exact Or.inr rfl) (pd_bin op_addD addD_ok (pd_var (pv 1)) (pd_fresh (pd_lstF (padD_cons (pd_xfl E.xa (pd_ix hr.units (pd_var (pv 0)) pd_int)) (padD_cons (pd_xfl E.xa (pd_ix hr.units (pd_var (pv 0)) pd_int)) (padD_cons (pd_xfl E.xa (pd_ix hr.units (pd_var (pv 0)) pd_int)) (padD_cons (pd_xfl E.xa (pd_ix hr.units (pd_var (pv 0)) pd_int)) (padD_cons (pd_xfl E.xa (pd_ix hr.units (pd_var (pv 0)) pd_int)) (padD_cons (pd_xfl E.xa (pd_ix hr.units (pd_var (pv 0)) pd_int)) padD_nil))))))))))
  (psd_one (psd_ret (pd_bin op_addD addD_ok (pd_var (pv 1)) (pd_fresh (pd_lstF (padD_cons (pd_xfl E.xa (pd_ix hr.units (pd_var (pv 0)) pd_int)) (padD_cons (pd_xfl E.xa (pd_ix hr.units (pd_var (pv 0)) pd_int)) (padD_cons (pd_xfl E.xa (pd_ix hr.units (pd_var (pv 0)) pd_int)) padD_nil)))))))))) h
abbrev st__law_classes : Stmt := topk01 25
abbrev nn__law_classes : List Str := ["_law_e", "_law_found"]
theorem sc__law_classes : FnScope nn__law_classes ["_law_e"] (defScope st__law_classes) := ⟨rfl, rfl, rfl, by decide +kernel, rfl, by decide +kernel, by decide +kernel⟩
def m__law_classes : MS :=
  (mSeq (mSet 1 (dV (mLst (mConsD (dV (mXis xc_all tb_all (.o "InvalidName") (mVar 0))) (mConsD (dV (mXis xc_all tb_all (.o "InvalidText") (mVar 0))) (mConsD (dV (mXis xc_all tb_all (.o "InvalidProgram") (mVar 0))) (ret [])))))))
  (mSeq (mSet 1 (dV (m2 addD (mVar 1) (dV (mLst (mConsD (dV (mXis xc_all tb_all (.o "NoPlace") (mVar 0))) (mConsD (dV (mXis xc_all tb_all (.o "Taken") (mVar 0))) (mConsD (dV (mXis xc_all tb_all (.o "Over") (mVar 0))) (mConsD (dV (mXis xc_all tb_all (.o "NoMark") (mVar 0))) (ret []))))))))))
  (mSeq (mSet 1 (dV (m2 addD (mVar 1) (dV (mLst (mConsD (dV (mXis xc_all tb_all (.o "Refused") (mVar 0))) (mConsD (dV (mXis xc_all tb_all (.o "Firm") (mVar 0))) (mConsD (dV (mXis xc_all tb_all (.o "NoPage") (mVar 0))) (mConsD (dV (mXis xc_all tb_all (.o "NoRoom") (mVar 0))) (ret []))))))))))
  (mSeq (mSet 1 (dV (m2 addD (mVar 1) (dV (mLst (mConsD (dV (mXis xc_all tb_all (.o "TooMany") (mVar 0))) (mConsD (dV (mXis xc_all tb_all (.o "NoHand") (mVar 0))) (mConsD (dV (mXis xc_all tb_all (.o "Held") (mVar 0))) (mConsD (dV (mXis xc_all tb_all (.o "NotBranch") (mVar 0))) (ret []))))))))))
  (mSeq (mSet 1 (dV (m2 addD (mVar 1) (dV (mLst (mConsD (dV (mXis xc_all tb_all (.o "InvalidCommand") (mVar 0))) (mConsD (dV (mXis xc_all tb_all (.o "StoreError") (mVar 0))) (mConsD (dV (mXis xc_all tb_all (.b "ValueError") (mVar 0))) (ret [])))))))))
  (mRet (dV (m2 addD (mVar 1) (dV (mLst (mConsD (dV (mXis xc_all tb_all (.b "KeyError") (mVar 0))) (ret []))))))))))))
def sem__law_classes : List D → RF := runF 2 [false] m__law_classes
theorem ok__law_classes {P : Program} {w : World} {K : PySem.W.Frag} {mg : Str → Option Value} {base : Heap} {f : Addr} {fd : FuncData} (F : FnP K "_law_classes" "_law_classes" st__law_classes f fd) (E : GE K mg) : FnOk P w K mg base (CX P w) 1 f fd ["_law_e"] (spD K [false] sem__law_classes) := by
  refine F.ok sc__law_classes (spD_len rfl) (fun cdv A outer s H vs Q E' hr h => ?_)
  exact body_ok (m := m__law_classes) (ms := [false]) rfl (by decide) (psd_cons (psd_set (i := 1) sc__law_classes.nd rfl (by first | exact Or.inl rfl | exact Or.inr rfl) (pd_fresh (pd_lstF (padD_cons (pd_xis E.xc E.tab E.n_isinstance E.c_InvalidName (pd_var (pv 0))) (padD_cons (pd_xis E.xc E.tab E.n_isinstance E.c_InvalidText (pd_var (pv 0))) (padD_cons (pd_xis E.xc E.tab E.n_isinstance E.c_InvalidProgram (pd_var (pv 0))) padD_nil))))))
  (psd_cons (psd_set (i := 1) sc__law_classes.nd rfl (by first | exact Or.inl rfl | exact Or.inr rfl) (pd_bin op_addD addD_ok (pd_var (pv 1)) (pd_fresh (pd_lstF (padD_cons (pd_xis E.xc E.tab E.n_isinstance E.c_NoPlace (pd_var (pv 0))) (padD_cons (pd_xis E.xc E.tab E.n_isinstance E.c_Taken (pd_var (pv 0))) (padD_cons (pd_xis E.xc E.tab E.n_isinstance E.c_Over (pd_var (pv 0))) (padD_cons (pd_xis E.xc E.tab E.n_isinstance E.c_NoMark (pd_var (pv 0))) padD_nil))))))))
  (psd_cons (psd_set (i := 1) sc__law_classes.nd rfl (by first | exact Or.inl rfl | exact Or.inr rfl) (pd_bin op_addD addD_ok (pd_var (pv 1)) (pd_fresh (pd_lstF (padD_cons (pd_xis E.xc E.tab E.n_isinstance E.c_Refused (pd_var (pv 0))) (padD_cons (pd_xis E.xc E.tab E.n_isinstance E.c_Firm (pd_var (pv 0))) (padD_cons (pd_xis E.xc E.tab E.n_isinstance E.c_NoPage (pd_var (pv 0))) (padD_cons (pd_xis E.xc E.tab E.n_isinstance E.c_NoRoom (pd_var (pv 0))) padD_nil))))))))
  (psd_cons (psd_set (i := 1) sc__law_classes.nd rfl (by first | exact Or.inl rfl | exact Or.inr rfl) (pd_bin op_addD addD_ok (pd_var (pv 1)) (pd_fresh (pd_lstF (padD_cons (pd_xis E.xc E.tab E.n_isinstance E.c_TooMany (pd_var (pv 0))) (padD_cons (pd_xis E.xc E.tab E.n_isinstance E.c_NoHand (pd_var (pv 0))) (padD_cons (pd_xis E.xc E.tab E.n_isinstance E.c_Held (pd_var (pv 0))) (padD_cons (pd_xis E.xc E.tab E.n_isinstance E.c_NotBranch (pd_var (pv 0))) padD_nil))))))))
  (psd_cons (psd_set (i := 1) sc__law_classes.nd rfl (by first | exact Or.inl rfl | exact Or.inr rfl) (pd_bin op_addD addD_ok (pd_var (pv 1)) (pd_fresh (pd_lstF (padD_cons (pd_xis E.xc E.tab E.n_isinstance E.c_InvalidCommand (pd_var (pv 0))) (padD_cons (pd_xis E.xc E.tab E.n_isinstance E.c_StoreError (pd_var (pv 0))) (padD_cons (pd_xisB E.xc E.tab E.n_isinstance E.n_ValueError boot_ValueError (pd_var (pv 0))) padD_nil)))))))
  (psd_one (psd_ret (pd_bin op_addD addD_ok (pd_var (pv 1)) (pd_fresh (pd_lstF (padD_cons (pd_xisB E.xc E.tab E.n_isinstance E.n_KeyError boot_KeyError (pd_var (pv 0))) padD_nil))))))))))) h
abbrev st__law_right : Stmt := topk01 26
abbrev nn__law_right : List Str := ["_law_some", "_law_spot", "_law_e", "_law_due", "_law_k"]
theorem sc__law_right : FnScope nn__law_right ["_law_some"] (defScope st__law_right) := ⟨rfl, rfl, rfl, by decide +kernel, rfl, by decide +kernel, by decide +kernel⟩
def m__law_right : MS :=
  (mSeq (mFor (mEnum (mVar 0)) (gTup 2 (gCons (gN 1) (gCons (gN 2) gNil))) (mSeq (mSet 3 (dV (m2 addD (dV (mLc [4] (mIter rng1 (mCons (ret (.d (.int 16))) (ret []))) (gN 4) mYes (dV (m2 eqA (mVar 4) (mVar 1))))) (dV (mLst (mConsD (dV (m2 neA (mVar 1) (ret (.d (.int 12))))) (mConsD (dV (m2 neA (mVar 1) (ret (.d (.int 12))))) (mConsD (dV (m2 eqA (mVar 1) (ret (.d (.int 12))))) (ret [])))))))))
  (mIf (mB (m2 neA (dV (mFn [false] sem__law_classes (mCons (fz (mVar 2)) (ret [])))) (mVar 3))) (mRet (ret (.d (.bl false)))) mSkip)))
  (mRet (ret (.d (.bl true)))))
def sem__law_right : List D → RF := runF 5 [false] m__law_right
theorem ok__law_right {P : Program} {w : World} {K : PySem.W.Frag} {mg : Str → Option Value} {base : Heap} {f : Addr} {fd : FuncData} (F : FnP K "_law_right" "_law_right" st__law_right f fd) (E : GE K mg) (c_fn__law_classes : Cal P w K mg base (CX P w) 1 "_law_classes" ["_law_e"] (spD K [false] sem__law_classes)) : FnOk P w K mg base (CX P w) 2 f fd ["_law_some"] (spD K [false] sem__law_right) := by
  refine F.ok sc__law_right (spD_len rfl) (fun cdv A outer s H vs Q E' hr h => ?_)
  have tk := takes_of (X := cxOf (CX P w) P w K mg base nn__law_right "_law_right" (defScope st__law_right) f cdv A outer s H E') (E := E') rfl rfl rfl rfl
  have pw := passes_of (X := cxOf (CX P w) P w K mg base nn__law_right "_law_right" (defScope st__law_right) f cdv A outer s H E') rfl
  exact body_ok (m := m__law_right) (ms := [false]) rfl (by decide) (psd_cons (psd_for pw rfl (pid_enum E.n_enumerate (pd_var (pv 0))) (pgd_tup rfl (pgsd_cons (pgd_name (i := 1) sc__law_right.nd rfl (by first | exact Or.inl rfl | exact Or.inr rfl)) (pgsd_cons (pgd_name (i := 2) sc__law_right.nd rfl (by first | exact Or.inl rfl | exact Or.inr rfl)) pgsd_nil))) (psd_cons (psd_set (i := 3) sc__law_right.nd rfl (by first | exact Or.inl rfl | exact Or.inr rfl) (pd_bin op_addD addD_ok (pd_fresh (pd_lc (own := [("_law_k", 4)]) rfl sc__law_right.nd (pid_range1 E.n_range (pad_cons pd_int pad_nil)) (blkOk_by (N := nn__law_right) (sc := defScope st__law_right) (own := [("_law_k", 4)]) (by decide +kernel)) (fun _ _ _ _ _ => (pgw_name (i := 4) sc__law_right.nd rfl (by first | exact Or.inl rfl | exact Or.inr rfl))) (fun _ _ _ _ _ => ptsd_nil) (fun _ _ _ _ _ => (pd_cmp (op_eqA (Room.units1 hr)) eqA_ok (pd_var (pv 4)) (pd_var (pv 1)))))) (pd_fresh (pd_lstF (padD_cons (pd_cmp (op_neA (Room.units1 hr)) neA_ok (pd_var (pv 1)) pd_int) (padD_cons (pd_cmp (op_neA (Room.units1 hr)) neA_ok (pd_var (pv 1)) pd_int) (padD_cons (pd_cmp (op_eqA (Room.units1 hr)) eqA_ok (pd_var (pv 1)) pd_int) padD_nil)))))))
  (psd_one (psd_if (ptd_cmp (op_neA (Room.units1 hr)) neA_ok (pd_fn c_fn__law_classes (hr.mono (by decide)) tk (pad_cons (pd_fz (pd_var (pv 2))) pad_nil)) (pd_var (pv 3))) (psd_one (psd_ret pd_bl)) psd_nil))))
  (psd_one (psd_ret pd_bl))) h
abbrev st_law : Stmt := topk01 27
abbrev nn_law : List Str := ["_law_script", "_law_k", "_law_feed_here", "_law_a", "_law_b", "_law_c", "_law_turn", "_law_some"]
theorem sc_law : FnScope nn_law ["_law_script"] (defScope st_law) := ⟨rfl, rfl, rfl, by decide +kernel, rfl, by decide +kernel, by decide +kernel⟩
def m_law : MS :=
  (mSeq (mFor (mIter rng1 (mCons (dV (mCall max2D (mCons (ret (.d (.int 1))) (mCons (dV (mCall min2D (mCons (ret (.d (.int 6))) (mCons (dV (mCall lenD (mCons (mVar 0) (ret [])))) (ret []))))) (ret []))))) (ret []))) (gN 1) (mSeq (mSetO 2 (mFn [false, false] sem__law_feed (mCons (fz (mVar 0)) (mCons (fz (mVar 1)) (ret [])))))
  (mSeq (mUnp (gUn 3 (gCons (gN 3) (gCons (gN 4) (gCons (gN 5) gNil)))) (dV (mLc [6] (mIter rng1 (mCons (ret (.d (.int 3))) (ret []))) (gN 6) mYes (dV (mFn [true, false] sem__law_value (mCons (mVar 2) (mCons (fz (ret (.d (.int 3)))) (ret []))))))))
  (mFor (mItems (dV (mTup (mConsD (dV (mFn [false, false, false] sem__law_by_position (mCons (fz (mVar 3)) (mCons (fz (mVar 4)) (mCons (fz (mVar 5)) (ret [])))))) (mConsD (dV (mFn [false, false, false] sem__law_by_name (mCons (fz (mVar 3)) (mCons (fz (mVar 4)) (mCons (fz (mVar 5)) (ret [])))))) (ret [])))))) (gN 7) (mIf (mOr (mB (m2 neA (dV (mCall reprP (mCons (dV (mFn [false] sem__law_kept (mCons (fz (mVar 7)) (ret [])))) (ret [])))) (dV (mCall reprP (mCons (dV (m2 addD (dV (m2 mulD (dV (mLst (mConsD (mVar 3) (ret [])))) (ret (.d (.int 13))))) (dV (mLst (mConsD (mVar 3) (mConsD (mVar 4) (mConsD (mVar 5) (ret [])))))))) (ret [])))))) (mNot (mTru (dV (mFn [false] sem__law_right (mCons (fz (mVar 7)) (ret []))))))) (mRet (ret (.d (.bl false)))) mSkip)))))
  (mRet (ret (.d (.bl true)))))
def sem_law : List D → RF := runF 8 [false] m_law
theorem ok_law {P : Program} {w : World} {K : PySem.W.Frag} {mg : Str → Option Value} {base : Heap} {f : Addr} {fd : FuncData} (F : FnP K "law" "law" st_law f fd) (E : GE K mg) (c_fn__law_by_name : Cal P w K mg base (CX P w) 3 "_law_by_name" ["_law_a", "_law_b", "_law_c"] (spD K [false, false, false] sem__law_by_name)) (c_fn__law_by_position : Cal P w K mg base (CX P w) 3 "_law_by_position" ["_law_a", "_law_b", "_law_c"] (spD K [false, false, false] sem__law_by_position)) (c_fn__law_right : Cal P w K mg base (CX P w) 2 "_law_right" ["_law_some"] (spD K [false] sem__law_right)) (c_fn__law_kept : Cal P w K mg base (CX P w) 1 "_law_kept" ["_law_some"] (spD K [false] sem__law_kept)) (c_fn__law_value : Cal P w K mg base (CX P w) 5 "_law_value" ["_law_feed_here", "_law_deep"] (spD K [true, false] sem__law_value)) (c_own__law_feed : Cal P w K mg base (CX P w) 1 "_law_feed" ["_law_script", "_law_k"] (spO K [false, false] sem__law_feed)) : GOk P w K mg base (CX P w) 6 f fd ["_law_script"] (spD K [false] sem_law) := by
  refine funD_okG F sc_law (spD_len rfl) (fun cdv A outer s H vs Q E' hgu hr h => ?_)
  have tk := takes_of (X := cxOf (CX P w) P w K mg base nn_law "law" (defScope st_law) f cdv A outer s H E') (E := E') rfl rfl rfl rfl
  have pw := passes_of (X := cxOf (CX P w) P w K mg base nn_law "law" (defScope st_law) f cdv A outer s H E') rfl
  exact body_ok (m := m_law) (ms := [false]) rfl (by decide) (psd_cons (psd_for pw rfl (pid_range1 E.n_range (pad_cons (pd_callB (call_max2 rfl) max2D_ok E.n_max boot_max (pad_cons pd_int (pad_cons (pd_callB (call_min2 rfl) min2D_ok E.n_min boot_min (pad_cons pd_int (pad_cons (pd_callB call_lenA lenD_ok E.n_len boot_len (pad_cons (pd_var (pv 0)) pad_nil)) pad_nil))) pad_nil))) pad_nil)) (pgd_name (i := 1) sc_law.nd rfl (by first | exact Or.inl rfl | exact Or.inr rfl)) (psd_cons (psd_setO (i := 2) sc_law.nd rfl (by first | exact Or.inl rfl | exact Or.inr rfl) (pd_fnO c_own__law_feed (hr.mono (by decide)) tk (pad_cons (pd_fz (pd_var (pv 0))) (pad_cons (pd_fz (pd_var (pv 1))) pad_nil))))
  (psd_cons (psd_unp (pgd_unl rfl (pgsd_cons (pgd_name (i := 3) sc_law.nd rfl (by first | exact Or.inl rfl | exact Or.inr rfl)) (pgsd_cons (pgd_name (i := 4) sc_law.nd rfl (by first | exact Or.inl rfl | exact Or.inr rfl)) (pgsd_cons (pgd_name (i := 5) sc_law.nd rfl (by first | exact Or.inl rfl | exact Or.inr rfl)) pgsd_nil)))) (pd_fresh (pd_lc (own := [("_law_turn", 6)]) rfl sc_law.nd (pid_range1 E.n_range (pad_cons pd_int pad_nil)) (blkOk_by (N := nn_law) (sc := defScope st_law) (own := [("_law_turn", 6)]) (by decide +kernel)) (fun _ _ _ _ _ => (pgw_name (i := 6) sc_law.nd rfl (by first | exact Or.inl rfl | exact Or.inr rfl))) (fun _ _ _ _ _ => ptsd_nil) (fun _ _ _ _ _ => (pd_fn c_fn__law_value (hr.mono (by decide)) takes0 (pad_cons (pd_var (pv 2)) (pad_cons (pd_fz pd_int) pad_nil)))))))
  (psd_one (psd_for pw rfl (pid_items (pd_fresh (pd_tupF (padD_cons (pd_fn c_fn__law_by_position (hr.mono (by decide)) tk (pad_cons (pd_fz (pd_var (pv 3))) (pad_cons (pd_fz (pd_var (pv 4))) (pad_cons (pd_fz (pd_var (pv 5))) pad_nil)))) (padD_cons (pd_fn c_fn__law_by_name (hr.mono (by decide)) tk (pad_cons (pd_fz (pd_var (pv 3))) (pad_cons (pd_fz (pd_var (pv 4))) (pad_cons (pd_fz (pd_var (pv 5))) pad_nil)))) padD_nil))))) (pgd_name (i := 7) sc_law.nd rfl (by first | exact Or.inl rfl | exact Or.inr rfl)) (psd_one (psd_if (ptd_pw (pwd_or (ptd_cmp (op_neA (Room.units1 hr)) neA_ok (pd_callB (call_reprD hgu hr.units) reprP_ok E.n_repr boot_repr (pad_cons (pd_fn c_fn__law_kept (hr.mono (by decide)) tk (pad_cons (pd_fz (pd_var (pv 7))) pad_nil)) pad_nil)) (pd_callB (call_reprD hgu hr.units) reprP_ok E.n_repr boot_repr (pad_cons (pd_bin op_addD addD_ok (pd_bin op_mulD mulD_ok (pd_fresh (pd_lstF (padD_cons (pd_var (pv 3)) padD_nil))) pd_int) (pd_fresh (pd_lstF (padD_cons (pd_var (pv 3)) (padD_cons (pd_var (pv 4)) (padD_cons (pd_var (pv 5)) padD_nil)))))) pad_nil))) (pwd_or1 (ptd_not (ptd_tru (pd_fn c_fn__law_right (hr.mono (by decide)) tk (pad_cons (pd_fz (pd_var (pv 7))) pad_nil))))))) (psd_one (psd_ret pd_bl)) psd_nil)))))))
  (psd_one (psd_ret pd_bl))) h
end Dl
namespace Dl
open PySem PySem.Spec PyProof.Rows L2 He Lp
def xtB (K : PySem.W.Frag) (xt : Xt) : Bool := xt.all fun p => decide (PySem.W.exmOne K (.ref (ga K p.1.1)) (.ref (ga K p.1.2)) = some p.2)
theorem xtB_ok {K : PySem.W.Frag} {xt : Xt} (h : xtB K xt = true) : XtOk K xt := fun y c b e => of_decide_eq_true (List.all_eq_true.mp h _ (lookup_mem e))
end Dl
namespace Dl
open PySem PySem.Spec PyProof.Rows L2 He Lp
abbrev st_InvalidCommand___init__ : Stmt := inClass (topk01 16) 0
theorem sc_InvalidCommand___init__ : SScope ["self"] ["self"] (defScope st_InvalidCommand___init__) := sscope_by (by decide +kernel)
theorem ok_InvalidCommand___init__ {P : Program} {w : World} {K : PySem.W.Frag} {mg : Str → Option Value} {base : Heap} {N f cda cc : Addr} {fd : FuncData} {O nI iO B iB : String} {bmO : List Value} (F : FunS K "__init__" "InvalidCommand.__init__" (defArgs st_InvalidCommand___init__) (defBody st_InvalidCommand___init__) (defScope st_InvalidCommand___init__) [] N cda cc f fd) (U : SupK P K mg f cda cc N) (T : ErrX K N f O nI iO B iB bmO) (hno : ∀ q ∈ ([] : List Str), NoAttr K N q) : FnOk P w K mg base CX0 1 f fd ["self"] (spErrN N []) := by
  refine F.ok sc_InvalidCommand___init__ (fun vs H Q E h => errn_len h) (fun A outer s H vs Q E hr h => ⟨_, (psa_one (psa_expr (pea_superY T.ox U (pa_cons pe_str pa_nil)))), ?_⟩)
  exact errn_reads0 T h
abbrev st_NotBranch___init__ : Stmt := inClass (topk01 12) 0
theorem sc_NotBranch___init__ : SScope ["self"] ["self"] (defScope st_NotBranch___init__) := sscope_by (by decide +kernel)
theorem ok_NotBranch___init__ {P : Program} {w : World} {K : PySem.W.Frag} {mg : Str → Option Value} {base : Heap} {N f cda cc : Addr} {fd : FuncData} {O nI iO B iB : String} {bmO : List Value} (F : FunS K "__init__" "NotBranch.__init__" (defArgs st_NotBranch___init__) (defBody st_NotBranch___init__) (defScope st_NotBranch___init__) [] N cda cc f fd) (U : SupK P K mg f cda cc N) (T : ErrX K N f O nI iO B iB bmO) (hno : ∀ q ∈ ([] : List Str), NoAttr K N q) : FnOk P w K mg base CX0 1 f fd ["self"] (spErrN N []) := by
  refine F.ok sc_NotBranch___init__ (fun vs H Q E h => errn_len h) (fun A outer s H vs Q E hr h => ⟨_, (psa_one (psa_expr (pea_superY T.ox U (pa_cons pe_str pa_nil)))), ?_⟩)
  exact errn_reads0 T h
abbrev st_Held___init__ : Stmt := inClass (topk01 10) 0
theorem sc_Held___init__ : SScope ["self", "name", "index", "answer"] ["self", "name", "index", "answer"] (defScope st_Held___init__) := sscope_by (by decide +kernel)
theorem ok_Held___init__ {P : Program} {w : World} {K : PySem.W.Frag} {mg : Str → Option Value} {base : Heap} {N f cda cc : Addr} {fd : FuncData} {O nI iO B iB : String} {bmO : List Value} (F : FunS K "__init__" "Held.__init__" (defArgs st_Held___init__) (defBody st_Held___init__) (defScope st_Held___init__) [] N cda cc f fd) (U : SupK P K mg f cda cc N) (T : ErrX K N f O nI iO B iB bmO) (hno : ∀ q ∈ (["name", "index", "answer"] : List Str), NoAttr K N q) : FnOk P w K mg base CX0 1 f fd ["self", "name", "index", "answer"] (spErrN N ["name", "index", "answer"]) := by
  refine F.ok sc_Held___init__ (fun vs H Q E h => errn_len h) (fun A outer s H vs Q E hr h => ⟨_, (psa_cons (psa_expr (pea_superY T.ox U (pa_cons pe_str pa_nil))) (PSsA.of (pss_cons (ps_stx T.ox (hno _ (by simp)) (pv 0) (pv 1)) (pss_cons (ps_stx T.ox (hno _ (by simp)) (pv 0) (pv 2)) (pss_one (ps_stx T.ox (hno _ (by simp)) (pv 0) (pv 3))))))), ?_⟩)
  exact errn_reads3 T h
abbrev st_NoHand___init__ : Stmt := inClass (topk01 17) 0
theorem sc_NoHand___init__ : SScope ["self", "name"] ["self", "name"] (defScope st_NoHand___init__) := sscope_by (by decide +kernel)
theorem ok_NoHand___init__ {P : Program} {w : World} {K : PySem.W.Frag} {mg : Str → Option Value} {base : Heap} {N f cda cc : Addr} {fd : FuncData} {O nI iO B iB : String} {bmO : List Value} (F : FunS K "__init__" "NoHand.__init__" (defArgs st_NoHand___init__) (defBody st_NoHand___init__) (defScope st_NoHand___init__) [] N cda cc f fd) (U : SupK P K mg f cda cc N) (T : ErrX K N f O nI iO B iB bmO) (hno : ∀ q ∈ (["name"] : List Str), NoAttr K N q) : FnOk P w K mg base CX0 1 f fd ["self", "name"] (spErrN N ["name"]) := by
  refine F.ok sc_NoHand___init__ (fun vs H Q E h => errn_len h) (fun A outer s H vs Q E hr h => ⟨_, (psa_cons (psa_expr (pea_superY T.ox U (pa_cons pe_str pa_nil))) (PSsA.of (pss_one (ps_stx T.ox (hno _ (by simp)) (pv 0) (pv 1))))), ?_⟩)
  exact errn_reads1 T h
abbrev st_TooMany___init__ : Stmt := inClass (topk01 15) 0
theorem sc_TooMany___init__ : SScope ["self", "most"] ["self", "most"] (defScope st_TooMany___init__) := sscope_by (by decide +kernel)
theorem ok_TooMany___init__ {P : Program} {w : World} {K : PySem.W.Frag} {mg : Str → Option Value} {base : Heap} {N f cda cc : Addr} {fd : FuncData} {O nI iO B iB : String} {bmO : List Value} (F : FunS K "__init__" "TooMany.__init__" (defArgs st_TooMany___init__) (defBody st_TooMany___init__) (defScope st_TooMany___init__) [] N cda cc f fd) (U : SupK P K mg f cda cc N) (T : ErrX K N f O nI iO B iB bmO) (hno : ∀ q ∈ (["most"] : List Str), NoAttr K N q) : FnOk P w K mg base CX0 1 f fd ["self", "most"] (spErrN N ["most"]) := by
  refine F.ok sc_TooMany___init__ (fun vs H Q E h => errn_len h) (fun A outer s H vs Q E hr h => ⟨_, (psa_cons (psa_expr (pea_superY T.ox U (pa_cons pe_str pa_nil))) (PSsA.of (pss_one (ps_stx T.ox (hno _ (by simp)) (pv 0) (pv 1))))), ?_⟩)
  exact errn_reads1 T h
abbrev st_NoRoom___init__ : Stmt := inClass (topk01 14) 0
theorem sc_NoRoom___init__ : SScope ["self", "lacking"] ["self", "lacking"] (defScope st_NoRoom___init__) := sscope_by (by decide +kernel)
theorem ok_NoRoom___init__ {P : Program} {w : World} {K : PySem.W.Frag} {mg : Str → Option Value} {base : Heap} {N f cda cc : Addr} {fd : FuncData} {O nI iO B iB : String} {bmO : List Value} (F : FunS K "__init__" "NoRoom.__init__" (defArgs st_NoRoom___init__) (defBody st_NoRoom___init__) (defScope st_NoRoom___init__) [] N cda cc f fd) (U : SupK P K mg f cda cc N) (T : ErrX K N f O nI iO B iB bmO) (hno : ∀ q ∈ (["lacking"] : List Str), NoAttr K N q) : FnOk P w K mg base CX0 1 f fd ["self", "lacking"] (spErrN N ["lacking"]) := by
  refine F.ok sc_NoRoom___init__ (fun vs H Q E h => errn_len h) (fun A outer s H vs Q E hr h => ⟨_, (psa_cons (psa_expr (pea_superY T.ox U (pa_cons pe_str pa_nil))) (PSsA.of (pss_one (ps_stx T.ox (hno _ (by simp)) (pv 0) (pv 1))))), ?_⟩)
  exact errn_reads1 T h
abbrev st_NoPage___init__ : Stmt := inClass (topk01 13) 0
theorem sc_NoPage___init__ : SScope ["self", "number"] ["self", "number"] (defScope st_NoPage___init__) := sscope_by (by decide +kernel)
theorem ok_NoPage___init__ {P : Program} {w : World} {K : PySem.W.Frag} {mg : Str → Option Value} {base : Heap} {N f cda cc : Addr} {fd : FuncData} {O nI iO B iB : String} {bmO : List Value} (F : FunS K "__init__" "NoPage.__init__" (defArgs st_NoPage___init__) (defBody st_NoPage___init__) (defScope st_NoPage___init__) [] N cda cc f fd) (U : SupK P K mg f cda cc N) (T : ErrX K N f O nI iO B iB bmO) (hno : ∀ q ∈ (["number"] : List Str), NoAttr K N q) : FnOk P w K mg base CX0 1 f fd ["self", "number"] (spErrN N ["number"]) := by
  refine F.ok sc_NoPage___init__ (fun vs H Q E h => errn_len h) (fun A outer s H vs Q E hr h => ⟨_, (psa_cons (psa_expr (pea_superY T.ox U (pa_cons pe_str pa_nil))) (PSsA.of (pss_one (ps_stx T.ox (hno _ (by simp)) (pv 0) (pv 1))))), ?_⟩)
  exact errn_reads1 T h
abbrev st_Firm___init__ : Stmt := inClass (topk01 11) 0
theorem sc_Firm___init__ : SScope ["self", "name"] ["self", "name"] (defScope st_Firm___init__) := sscope_by (by decide +kernel)
theorem ok_Firm___init__ {P : Program} {w : World} {K : PySem.W.Frag} {mg : Str → Option Value} {base : Heap} {N f cda cc : Addr} {fd : FuncData} {O nI iO B iB : String} {bmO : List Value} (F : FunS K "__init__" "Firm.__init__" (defArgs st_Firm___init__) (defBody st_Firm___init__) (defScope st_Firm___init__) [] N cda cc f fd) (U : SupK P K mg f cda cc N) (T : ErrX K N f O nI iO B iB bmO) (hno : ∀ q ∈ (["name"] : List Str), NoAttr K N q) : FnOk P w K mg base CX0 1 f fd ["self", "name"] (spErrN N ["name"]) := by
  refine F.ok sc_Firm___init__ (fun vs H Q E h => errn_len h) (fun A outer s H vs Q E hr h => ⟨_, (psa_cons (psa_expr (pea_superY T.ox U (pa_cons pe_str pa_nil))) (PSsA.of (pss_one (ps_stx T.ox (hno _ (by simp)) (pv 0) (pv 1))))), ?_⟩)
  exact errn_reads1 T h
abbrev st_Refused___init__ : Stmt := inClass (topk01 9) 0
theorem sc_Refused___init__ : SScope ["self", "runs"] ["self", "runs"] (defScope st_Refused___init__) := sscope_by (by decide +kernel)
theorem ok_Refused___init__ {P : Program} {w : World} {K : PySem.W.Frag} {mg : Str → Option Value} {base : Heap} {N f cda cc : Addr} {fd : FuncData} {O nI iO B iB : String} {bmO : List Value} (F : FunS K "__init__" "Refused.__init__" (defArgs st_Refused___init__) (defBody st_Refused___init__) (defScope st_Refused___init__) [] N cda cc f fd) (U : SupK P K mg f cda cc N) (T : ErrX K N f O nI iO B iB bmO) (hno : ∀ q ∈ (["runs"] : List Str), NoAttr K N q) : FnOk P w K mg base CX0 1 f fd ["self", "runs"] (spErrN N ["runs"]) := by
  refine F.ok sc_Refused___init__ (fun vs H Q E h => errn_len h) (fun A outer s H vs Q E hr h => ⟨_, (psa_cons (psa_expr (pea_superY T.ox U (pa_cons pe_str pa_nil))) (PSsA.of (pss_one (ps_stx T.ox (hno _ (by simp)) (pv 0) (pv 1))))), ?_⟩)
  exact errn_reads1 T h
abbrev st_NoMark___init__ : Stmt := inClass (topk01 8) 0
theorem sc_NoMark___init__ : SScope ["self", "mark"] ["self", "mark"] (defScope st_NoMark___init__) := sscope_by (by decide +kernel)
theorem ok_NoMark___init__ {P : Program} {w : World} {K : PySem.W.Frag} {mg : Str → Option Value} {base : Heap} {N f cda cc : Addr} {fd : FuncData} {O nI iO B iB : String} {bmO : List Value} (F : FunS K "__init__" "NoMark.__init__" (defArgs st_NoMark___init__) (defBody st_NoMark___init__) (defScope st_NoMark___init__) [] N cda cc f fd) (U : SupK P K mg f cda cc N) (T : ErrX K N f O nI iO B iB bmO) (hno : ∀ q ∈ (["mark"] : List Str), NoAttr K N q) : FnOk P w K mg base CX0 1 f fd ["self", "mark"] (spErrN N ["mark"]) := by
  refine F.ok sc_NoMark___init__ (fun vs H Q E h => errn_len h) (fun A outer s H vs Q E hr h => ⟨_, (psa_cons (psa_expr (pea_superY T.ox U (pa_cons pe_str pa_nil))) (PSsA.of (pss_one (ps_stx T.ox (hno _ (by simp)) (pv 0) (pv 1))))), ?_⟩)
  exact errn_reads1 T h
abbrev st_Over___init__ : Stmt := inClass (topk01 7) 0
theorem sc_Over___init__ : SScope ["self", "name"] ["self", "name"] (defScope st_Over___init__) := sscope_by (by decide +kernel)
theorem ok_Over___init__ {P : Program} {w : World} {K : PySem.W.Frag} {mg : Str → Option Value} {base : Heap} {N f cda cc : Addr} {fd : FuncData} {O nI iO B iB : String} {bmO : List Value} (F : FunS K "__init__" "Over.__init__" (defArgs st_Over___init__) (defBody st_Over___init__) (defScope st_Over___init__) [] N cda cc f fd) (U : SupK P K mg f cda cc N) (T : ErrX K N f O nI iO B iB bmO) (hno : ∀ q ∈ (["name"] : List Str), NoAttr K N q) : FnOk P w K mg base CX0 1 f fd ["self", "name"] (spErrN N ["name"]) := by
  refine F.ok sc_Over___init__ (fun vs H Q E h => errn_len h) (fun A outer s H vs Q E hr h => ⟨_, (psa_cons (psa_expr (pea_superY T.ox U (pa_cons pe_str pa_nil))) (PSsA.of (pss_one (ps_stx T.ox (hno _ (by simp)) (pv 0) (pv 1))))), ?_⟩)
  exact errn_reads1 T h
abbrev st_Taken___init__ : Stmt := inClass (topk01 6) 0
theorem sc_Taken___init__ : SScope ["self", "name"] ["self", "name"] (defScope st_Taken___init__) := sscope_by (by decide +kernel)
theorem ok_Taken___init__ {P : Program} {w : World} {K : PySem.W.Frag} {mg : Str → Option Value} {base : Heap} {N f cda cc : Addr} {fd : FuncData} {O nI iO B iB : String} {bmO : List Value} (F : FunS K "__init__" "Taken.__init__" (defArgs st_Taken___init__) (defBody st_Taken___init__) (defScope st_Taken___init__) [] N cda cc f fd) (U : SupK P K mg f cda cc N) (T : ErrX K N f O nI iO B iB bmO) (hno : ∀ q ∈ (["name"] : List Str), NoAttr K N q) : FnOk P w K mg base CX0 1 f fd ["self", "name"] (spErrN N ["name"]) := by
  refine F.ok sc_Taken___init__ (fun vs H Q E h => errn_len h) (fun A outer s H vs Q E hr h => ⟨_, (psa_cons (psa_expr (pea_superY T.ox U (pa_cons pe_str pa_nil))) (PSsA.of (pss_one (ps_stx T.ox (hno _ (by simp)) (pv 0) (pv 1))))), ?_⟩)
  exact errn_reads1 T h
abbrev st_NoPlace___init__ : Stmt := inClass (topk01 5) 0
theorem sc_NoPlace___init__ : SScope ["self", "place"] ["self", "place"] (defScope st_NoPlace___init__) := sscope_by (by decide +kernel)
theorem ok_NoPlace___init__ {P : Program} {w : World} {K : PySem.W.Frag} {mg : Str → Option Value} {base : Heap} {N f cda cc : Addr} {fd : FuncData} {O nI iO B iB : String} {bmO : List Value} (F : FunS K "__init__" "NoPlace.__init__" (defArgs st_NoPlace___init__) (defBody st_NoPlace___init__) (defScope st_NoPlace___init__) [] N cda cc f fd) (U : SupK P K mg f cda cc N) (T : ErrX K N f O nI iO B iB bmO) (hno : ∀ q ∈ (["place"] : List Str), NoAttr K N q) : FnOk P w K mg base CX0 1 f fd ["self", "place"] (spErrN N ["place"]) := by
  refine F.ok sc_NoPlace___init__ (fun vs H Q E h => errn_len h) (fun A outer s H vs Q E hr h => ⟨_, (psa_cons (psa_expr (pea_superY T.ox U (pa_cons pe_str pa_nil))) (PSsA.of (pss_one (ps_stx T.ox (hno _ (by simp)) (pv 0) (pv 1))))), ?_⟩)
  exact errn_reads1 T h
abbrev st_InvalidProgram___init__ : Stmt := inClass (topk01 4) 0
theorem sc_InvalidProgram___init__ : SScope ["self", "index"] ["self", "index"] (defScope st_InvalidProgram___init__) := sscope_by (by decide +kernel)
theorem ok_InvalidProgram___init__ {P : Program} {w : World} {K : PySem.W.Frag} {mg : Str → Option Value} {base : Heap} {N f cda cc : Addr} {fd : FuncData} {O nI iO B iB : String} {bmO : List Value} (F : FunS K "__init__" "InvalidProgram.__init__" (defArgs st_InvalidProgram___init__) (defBody st_InvalidProgram___init__) (defScope st_InvalidProgram___init__) [] N cda cc f fd) (U : SupK P K mg f cda cc N) (T : ErrX K N f O nI iO B iB bmO) (hno : ∀ q ∈ (["index"] : List Str), NoAttr K N q) : FnOk P w K mg base CX0 1 f fd ["self", "index"] (spErrN N ["index"]) := by
  refine F.ok sc_InvalidProgram___init__ (fun vs H Q E h => errn_len h) (fun A outer s H vs Q E hr h => ⟨_, (psa_cons (psa_expr (pea_superY T.ox U (pa_cons pe_str pa_nil))) (PSsA.of (pss_one (ps_stx T.ox (hno _ (by simp)) (pv 0) (pv 1))))), ?_⟩)
  exact errn_reads1 T h
abbrev st_InvalidText___init__ : Stmt := inClass (topk01 3) 0
theorem sc_InvalidText___init__ : SScope ["self", "at"] ["self", "at"] (defScope st_InvalidText___init__) := sscope_by (by decide +kernel)
theorem ok_InvalidText___init__ {P : Program} {w : World} {K : PySem.W.Frag} {mg : Str → Option Value} {base : Heap} {N f cda cc : Addr} {fd : FuncData} {O nI iO B iB : String} {bmO : List Value} (F : FunS K "__init__" "InvalidText.__init__" (defArgs st_InvalidText___init__) (defBody st_InvalidText___init__) (defScope st_InvalidText___init__) [] N cda cc f fd) (U : SupK P K mg f cda cc N) (T : ErrX K N f O nI iO B iB bmO) (hno : ∀ q ∈ (["at"] : List Str), NoAttr K N q) : FnOk P w K mg base CX0 1 f fd ["self", "at"] (spErrN N ["at"]) := by
  refine F.ok sc_InvalidText___init__ (fun vs H Q E h => errn_len h) (fun A outer s H vs Q E hr h => ⟨_, (psa_cons (psa_expr (pea_superY T.ox U (pa_cons pe_str pa_nil))) (PSsA.of (pss_one (ps_stx T.ox (hno _ (by simp)) (pv 0) (pv 1))))), ?_⟩)
  exact errn_reads1 T h
abbrev st_InvalidName___init__ : Stmt := inClass (topk01 2) 0
theorem sc_InvalidName___init__ : SScope ["self", "name"] ["self", "name"] (defScope st_InvalidName___init__) := sscope_by (by decide +kernel)
theorem ok_InvalidName___init__ {P : Program} {w : World} {K : PySem.W.Frag} {mg : Str → Option Value} {base : Heap} {N f cda cc : Addr} {fd : FuncData} {O nI iO B iB : String} {bmO : List Value} (F : FunS K "__init__" "InvalidName.__init__" (defArgs st_InvalidName___init__) (defBody st_InvalidName___init__) (defScope st_InvalidName___init__) [] N cda cc f fd) (U : SupK P K mg f cda cc N) (T : ErrX K N f O nI iO B iB bmO) (hno : ∀ q ∈ (["name"] : List Str), NoAttr K N q) : FnOk P w K mg base CX0 1 f fd ["self", "name"] (spErrN N ["name"]) := by
  refine F.ok sc_InvalidName___init__ (fun vs H Q E h => errn_len h) (fun A outer s H vs Q E hr h => ⟨_, (psa_cons (psa_expr (pea_superY T.ox U (pa_cons pe_str pa_nil))) (PSsA.of (pss_one (ps_stx T.ox (hno _ (by simp)) (pv 0) (pv 1))))), ?_⟩)
  exact errn_reads1 T h
def fbk01 : List (PySem.W.Frag → Bool) := [
  fun K => (Fa.free "super").ok K,
  fun K => eqO (PySem.W.nsIn K cStatics "thirdparty.any") (some none),
  fun K => (Fa.glo "law").ok K,
  fun K => (Fa.free "KeyError").ok K,
  fun K => (Fa.free "ValueError").ok K,
  fun K => (Fa.free "abs").ok K,
  fun K => (Fa.free "enumerate").ok K,
  fun K => (Fa.free "isinstance").ok K,
  fun K => (Fa.free "len").ok K,
  fun K => (Fa.free "max").ok K,
  fun K => (Fa.free "min").ok K,
  fun K => (Fa.free "range").ok K,
  fun K => (Fa.free "repr").ok K,
  fun K => (Fa.free "tuple").ok K,
  fun K => (Fa.glo "Firm").ok K,
  fun K => (Fa.glo "Held").ok K,
  fun K => (Fa.glo "InvalidCommand").ok K,
  fun K => (Fa.glo "InvalidName").ok K,
  fun K => (Fa.glo "InvalidProgram").ok K,
  fun K => (Fa.glo "InvalidText").ok K,
  fun K => (Fa.glo "NoHand").ok K,
  fun K => (Fa.glo "NoMark").ok K,
  fun K => (Fa.glo "NoPage").ok K,
  fun K => (Fa.glo "NoPlace").ok K,
  fun K => (Fa.glo "NoRoom").ok K,
  fun K => (Fa.glo "NotBranch").ok K,
  fun K => (Fa.glo "Over").ok K,
  fun K => (Fa.glo "Refused").ok K,
  fun K => (Fa.glo "StoreError").ok K,
  fun K => (Fa.glo "Taken").ok K,
  fun K => (Fa.glo "TooMany").ok K,
  fun K => ownAllB K cs_all,
  fun K => tabB K tb_all,
  fun K => nfB K nf_all,
  fun K => xtB K xt_all,
  fun K => xcB K xc_all,
  fun K => xaB K xa_all,
  fun K => errB K (ga K "InvalidCommand") (ma K (ga K "InvalidCommand") "__init__"),
  fun K => noAllB K (ga K "InvalidCommand") [],
  fun K => errB K (ga K "NotBranch") (ma K (ga K "NotBranch") "__init__"),
  fun K => noAllB K (ga K "NotBranch") [],
  fun K => errB K (ga K "Held") (ma K (ga K "Held") "__init__"),
  fun K => noAllB K (ga K "Held") ["name", "index", "answer"],
  fun K => errkB K (ga K "NoHand") (ma K (ga K "NoHand") "__init__"),
  fun K => noAllB K (ga K "NoHand") ["name"],
  fun K => errB K (ga K "TooMany") (ma K (ga K "TooMany") "__init__"),
  fun K => noAllB K (ga K "TooMany") ["most"],
  fun K => errB K (ga K "NoRoom") (ma K (ga K "NoRoom") "__init__"),
  fun K => noAllB K (ga K "NoRoom") ["lacking"],
  fun K => errB K (ga K "NoPage") (ma K (ga K "NoPage") "__init__"),
  fun K => noAllB K (ga K "NoPage") ["number"],
  fun K => errB K (ga K "Firm") (ma K (ga K "Firm") "__init__"),
  fun K => noAllB K (ga K "Firm") ["name"],
  fun K => errB K (ga K "Refused") (ma K (ga K "Refused") "__init__"),
  fun K => noAllB K (ga K "Refused") ["runs"],
  fun K => errB K (ga K "NoMark") (ma K (ga K "NoMark") "__init__"),
  fun K => noAllB K (ga K "NoMark") ["mark"],
  fun K => errB K (ga K "Over") (ma K (ga K "Over") "__init__"),
  fun K => noAllB K (ga K "Over") ["name"],
  fun K => errB K (ga K "Taken") (ma K (ga K "Taken") "__init__"),
  fun K => noAllB K (ga K "Taken") ["name"],
  fun K => errB K (ga K "NoPlace") (ma K (ga K "NoPlace") "__init__"),
  fun K => noAllB K (ga K "NoPlace") ["place"],
  fun K => errB K (ga K "InvalidProgram") (ma K (ga K "InvalidProgram") "__init__"),
  fun K => noAllB K (ga K "InvalidProgram") ["index"],
  fun K => errB K (ga K "InvalidText") (ma K (ga K "InvalidText") "__init__"),
  fun K => noAllB K (ga K "InvalidText") ["at"],
  fun K => errB K (ga K "InvalidName") (ma K (ga K "InvalidName") "__init__"),
  fun K => noAllB K (ga K "InvalidName") ["name"],
  fun K => (Fa.glo "_law_take").ok K,
  fun K => (Fa.glo "_law_value").ok K,
  fun K => (Fa.glo "_law_classes").ok K,
  fun K => (Fa.glo "_law_by_name").ok K,
  fun K => (Fa.glo "_law_by_position").ok K,
  fun K => (Fa.glo "_law_right").ok K,
  fun K => (Fa.glo "_law_kept").ok K,
  fun K => (Fa.glo "_law_feed").ok K]
def d_InvalidCommand___init__ : DefL := ⟨.meth "InvalidCommand" "__init__", "__init__", "InvalidCommand.__init__", defArgs st_InvalidCommand___init__, defBody st_InvalidCommand___init__, defScope st_InvalidCommand___init__, [], some "InvalidCommand"⟩
def d_NotBranch___init__ : DefL := ⟨.meth "NotBranch" "__init__", "__init__", "NotBranch.__init__", defArgs st_NotBranch___init__, defBody st_NotBranch___init__, defScope st_NotBranch___init__, [], some "NotBranch"⟩
def d_Held___init__ : DefL := ⟨.meth "Held" "__init__", "__init__", "Held.__init__", defArgs st_Held___init__, defBody st_Held___init__, defScope st_Held___init__, [], some "Held"⟩
def d_NoHand___init__ : DefL := ⟨.meth "NoHand" "__init__", "__init__", "NoHand.__init__", defArgs st_NoHand___init__, defBody st_NoHand___init__, defScope st_NoHand___init__, [], some "NoHand"⟩
def d_TooMany___init__ : DefL := ⟨.meth "TooMany" "__init__", "__init__", "TooMany.__init__", defArgs st_TooMany___init__, defBody st_TooMany___init__, defScope st_TooMany___init__, [], some "TooMany"⟩
def d_NoRoom___init__ : DefL := ⟨.meth "NoRoom" "__init__", "__init__", "NoRoom.__init__", defArgs st_NoRoom___init__, defBody st_NoRoom___init__, defScope st_NoRoom___init__, [], some "NoRoom"⟩
def d_NoPage___init__ : DefL := ⟨.meth "NoPage" "__init__", "__init__", "NoPage.__init__", defArgs st_NoPage___init__, defBody st_NoPage___init__, defScope st_NoPage___init__, [], some "NoPage"⟩
def d_Firm___init__ : DefL := ⟨.meth "Firm" "__init__", "__init__", "Firm.__init__", defArgs st_Firm___init__, defBody st_Firm___init__, defScope st_Firm___init__, [], some "Firm"⟩
def d_Refused___init__ : DefL := ⟨.meth "Refused" "__init__", "__init__", "Refused.__init__", defArgs st_Refused___init__, defBody st_Refused___init__, defScope st_Refused___init__, [], some "Refused"⟩
def d_NoMark___init__ : DefL := ⟨.meth "NoMark" "__init__", "__init__", "NoMark.__init__", defArgs st_NoMark___init__, defBody st_NoMark___init__, defScope st_NoMark___init__, [], some "NoMark"⟩
def d_Over___init__ : DefL := ⟨.meth "Over" "__init__", "__init__", "Over.__init__", defArgs st_Over___init__, defBody st_Over___init__, defScope st_Over___init__, [], some "Over"⟩
def d_Taken___init__ : DefL := ⟨.meth "Taken" "__init__", "__init__", "Taken.__init__", defArgs st_Taken___init__, defBody st_Taken___init__, defScope st_Taken___init__, [], some "Taken"⟩
def d_NoPlace___init__ : DefL := ⟨.meth "NoPlace" "__init__", "__init__", "NoPlace.__init__", defArgs st_NoPlace___init__, defBody st_NoPlace___init__, defScope st_NoPlace___init__, [], some "NoPlace"⟩
def d_InvalidProgram___init__ : DefL := ⟨.meth "InvalidProgram" "__init__", "__init__", "InvalidProgram.__init__", defArgs st_InvalidProgram___init__, defBody st_InvalidProgram___init__, defScope st_InvalidProgram___init__, [], some "InvalidProgram"⟩
def d_InvalidText___init__ : DefL := ⟨.meth "InvalidText" "__init__", "__init__", "InvalidText.__init__", defArgs st_InvalidText___init__, defBody st_InvalidText___init__, defScope st_InvalidText___init__, [], some "InvalidText"⟩
def d_InvalidName___init__ : DefL := ⟨.meth "InvalidName" "__init__", "__init__", "InvalidName.__init__", defArgs st_InvalidName___init__, defBody st_InvalidName___init__, defScope st_InvalidName___init__, [], some "InvalidName"⟩
def d__law_feed : DefL := ⟨.glo "_law_feed", "_law_feed", "_law_feed", defArgs st__law_feed, defBody st__law_feed, defScope st__law_feed, [], none⟩
def d__law_take : DefL := ⟨.glo "_law_take", "_law_take", "_law_take", defArgs st__law_take, defBody st__law_take, defScope st__law_take, [], none⟩
def d__law_value : DefL := ⟨.glo "_law_value", "_law_value", "_law_value", defArgs st__law_value, defBody st__law_value, defScope st__law_value, [], none⟩
def d__law_by_position : DefL := ⟨.glo "_law_by_position", "_law_by_position", "_law_by_position", defArgs st__law_by_position, defBody st__law_by_position, defScope st__law_by_position, [], none⟩
def d__law_by_name : DefL := ⟨.glo "_law_by_name", "_law_by_name", "_law_by_name", defArgs st__law_by_name, defBody st__law_by_name, defScope st__law_by_name, [], none⟩
def d__law_kept : DefL := ⟨.glo "_law_kept", "_law_kept", "_law_kept", defArgs st__law_kept, defBody st__law_kept, defScope st__law_kept, [], none⟩
def d__law_classes : DefL := ⟨.glo "_law_classes", "_law_classes", "_law_classes", defArgs st__law_classes, defBody st__law_classes, defScope st__law_classes, [], none⟩
def d__law_right : DefL := ⟨.glo "_law_right", "_law_right", "_law_right", defArgs st__law_right, defBody st__law_right, defScope st__law_right, [], none⟩
def d_law : DefL := ⟨.glo "law", "law", "law", defArgs st_law, defBody st_law, defScope st_law, [], none⟩
def fnk01 : List DefL := [d_InvalidCommand___init__, d_NotBranch___init__, d_Held___init__, d_NoHand___init__, d_TooMany___init__, d_NoRoom___init__, d_NoPage___init__, d_Firm___init__, d_Refused___init__, d_NoMark___init__, d_Over___init__, d_Taken___init__, d_NoPlace___init__, d_InvalidProgram___init__, d_InvalidText___init__, d_InvalidName___init__, d__law_feed, d__law_take, d__law_value, d__law_by_position, d__law_by_name, d__law_kept, d__law_classes, d__law_right, d_law]
abbrev Rk01 : PySem.W.OpenRow := PySem.W.OpenLaw.row PySem.Challenge.rw_lateplace_k01_errors
def namesk01 : List PySem.Str := (["StoreError", "InvalidName", "InvalidText", "InvalidProgram", "NoPlace", "Taken", "Over", "NoMark", "Refused", "Held", "Firm", "NotBranch", "NoPage", "NoRoom", "TooMany", "InvalidCommand", "NoHand", "_law_feed", "_law_take", "_law_value", "_law_by_position", "_law_by_name", "_law_kept", "_law_classes", "_law_right"] : List String).map PySem.Str.ofString
end Dl
namespace Dl
open PySem PySem.Spec PyProof.Rows L2 He Lp
theorem factsk01 {w : World} {K : PySem.W.Frag} {h : Heap} {mg : Str → Option Value} {f : Addr} (X : K.In h) (G : h.Ns mainGlobals mg) (hfa : mg ("law" : Str) = some (.ref f)) (c : SaysL (Rk01.prog.main.file) fbk01 fnk01 K) :
    ∃ fd : FuncData, (∀ (s : Shared) (v : Value), BindsTo s fd ⟨[v], []⟩ [("_law_script", v)]) ∧ ∀ base : Heap, K.In base → base.Ns mainGlobals mg → GOk Rk01.prog w K mg base CX0 6 f fd ["_law_script"] (fun vs H Q _ => spD K [false] sem_law vs H Q XF) := by
  obtain ⟨cda_InvalidCommand___init__, cc_InvalidCommand___init__, fd_InvalidCommand___init__, F_InvalidCommand___init__, U_InvalidCommand___init__⟩ := DefL.funS (P := Rk01.prog) (mg := mg) (x := "InvalidCommand") rfl (c.defE 0 (d := d_InvalidCommand___init__) rfl).1 (c.defE 0 (d := d_InvalidCommand___init__) rfl).2 rfl (free_ok X G (c.fact 0)) (by decide +kernel) (eqO_ok (c.fact 1))
  have b_InvalidCommand___init__ : Binds K fd_InvalidCommand___init__ ["self"] [] := FunS.bindsN0 F_InvalidCommand___init__ fun _ _ _ _ _ us hl => match us, hl with | [_], _ => rfl
  obtain ⟨cda_NotBranch___init__, cc_NotBranch___init__, fd_NotBranch___init__, F_NotBranch___init__, U_NotBranch___init__⟩ := DefL.funS (P := Rk01.prog) (mg := mg) (x := "NotBranch") rfl (c.defE 1 (d := d_NotBranch___init__) rfl).1 (c.defE 1 (d := d_NotBranch___init__) rfl).2 rfl (free_ok X G (c.fact 0)) (by decide +kernel) (eqO_ok (c.fact 1))
  have b_NotBranch___init__ : Binds K fd_NotBranch___init__ ["self"] [] := FunS.bindsN0 F_NotBranch___init__ fun _ _ _ _ _ us hl => match us, hl with | [_], _ => rfl
  obtain ⟨cda_Held___init__, cc_Held___init__, fd_Held___init__, F_Held___init__, U_Held___init__⟩ := DefL.funS (P := Rk01.prog) (mg := mg) (x := "Held") rfl (c.defE 2 (d := d_Held___init__) rfl).1 (c.defE 2 (d := d_Held___init__) rfl).2 rfl (free_ok X G (c.fact 0)) (by decide +kernel) (eqO_ok (c.fact 1))
  have b_Held___init__ : Binds K fd_Held___init__ ["self", "name", "index", "answer"] [] := FunS.bindsN0 F_Held___init__ fun _ _ _ _ _ us hl => match us, hl with | [_, _, _, _], _ => rfl
  obtain ⟨cda_NoHand___init__, cc_NoHand___init__, fd_NoHand___init__, F_NoHand___init__, U_NoHand___init__⟩ := DefL.funS (P := Rk01.prog) (mg := mg) (x := "NoHand") rfl (c.defE 3 (d := d_NoHand___init__) rfl).1 (c.defE 3 (d := d_NoHand___init__) rfl).2 rfl (free_ok X G (c.fact 0)) (by decide +kernel) (eqO_ok (c.fact 1))
  have b_NoHand___init__ : Binds K fd_NoHand___init__ ["self", "name"] [] := FunS.bindsN0 F_NoHand___init__ fun _ _ _ _ _ us hl => match us, hl with | [_, _], _ => rfl
  obtain ⟨cda_TooMany___init__, cc_TooMany___init__, fd_TooMany___init__, F_TooMany___init__, U_TooMany___init__⟩ := DefL.funS (P := Rk01.prog) (mg := mg) (x := "TooMany") rfl (c.defE 4 (d := d_TooMany___init__) rfl).1 (c.defE 4 (d := d_TooMany___init__) rfl).2 rfl (free_ok X G (c.fact 0)) (by decide +kernel) (eqO_ok (c.fact 1))
  have b_TooMany___init__ : Binds K fd_TooMany___init__ ["self", "most"] [] := FunS.bindsN0 F_TooMany___init__ fun _ _ _ _ _ us hl => match us, hl with | [_, _], _ => rfl
  obtain ⟨cda_NoRoom___init__, cc_NoRoom___init__, fd_NoRoom___init__, F_NoRoom___init__, U_NoRoom___init__⟩ := DefL.funS (P := Rk01.prog) (mg := mg) (x := "NoRoom") rfl (c.defE 5 (d := d_NoRoom___init__) rfl).1 (c.defE 5 (d := d_NoRoom___init__) rfl).2 rfl (free_ok X G (c.fact 0)) (by decide +kernel) (eqO_ok (c.fact 1))
  have b_NoRoom___init__ : Binds K fd_NoRoom___init__ ["self", "lacking"] [] := FunS.bindsN0 F_NoRoom___init__ fun _ _ _ _ _ us hl => match us, hl with | [_, _], _ => rfl
  obtain ⟨cda_NoPage___init__, cc_NoPage___init__, fd_NoPage___init__, F_NoPage___init__, U_NoPage___init__⟩ := DefL.funS (P := Rk01.prog) (mg := mg) (x := "NoPage") rfl (c.defE 6 (d := d_NoPage___init__) rfl).1 (c.defE 6 (d := d_NoPage___init__) rfl).2 rfl (free_ok X G (c.fact 0)) (by decide +kernel) (eqO_ok (c.fact 1))
  have b_NoPage___init__ : Binds K fd_NoPage___init__ ["self", "number"] [] := FunS.bindsN0 F_NoPage___init__ fun _ _ _ _ _ us hl => match us, hl with | [_, _], _ => rfl
  obtain ⟨cda_Firm___init__, cc_Firm___init__, fd_Firm___init__, F_Firm___init__, U_Firm___init__⟩ := DefL.funS (P := Rk01.prog) (mg := mg) (x := "Firm") rfl (c.defE 7 (d := d_Firm___init__) rfl).1 (c.defE 7 (d := d_Firm___init__) rfl).2 rfl (free_ok X G (c.fact 0)) (by decide +kernel) (eqO_ok (c.fact 1))
  have b_Firm___init__ : Binds K fd_Firm___init__ ["self", "name"] [] := FunS.bindsN0 F_Firm___init__ fun _ _ _ _ _ us hl => match us, hl with | [_, _], _ => rfl
  obtain ⟨cda_Refused___init__, cc_Refused___init__, fd_Refused___init__, F_Refused___init__, U_Refused___init__⟩ := DefL.funS (P := Rk01.prog) (mg := mg) (x := "Refused") rfl (c.defE 8 (d := d_Refused___init__) rfl).1 (c.defE 8 (d := d_Refused___init__) rfl).2 rfl (free_ok X G (c.fact 0)) (by decide +kernel) (eqO_ok (c.fact 1))
  have b_Refused___init__ : Binds K fd_Refused___init__ ["self", "runs"] [] := FunS.bindsN0 F_Refused___init__ fun _ _ _ _ _ us hl => match us, hl with | [_, _], _ => rfl
  obtain ⟨cda_NoMark___init__, cc_NoMark___init__, fd_NoMark___init__, F_NoMark___init__, U_NoMark___init__⟩ := DefL.funS (P := Rk01.prog) (mg := mg) (x := "NoMark") rfl (c.defE 9 (d := d_NoMark___init__) rfl).1 (c.defE 9 (d := d_NoMark___init__) rfl).2 rfl (free_ok X G (c.fact 0)) (by decide +kernel) (eqO_ok (c.fact 1))
  have b_NoMark___init__ : Binds K fd_NoMark___init__ ["self", "mark"] [] := FunS.bindsN0 F_NoMark___init__ fun _ _ _ _ _ us hl => match us, hl with | [_, _], _ => rfl
  obtain ⟨cda_Over___init__, cc_Over___init__, fd_Over___init__, F_Over___init__, U_Over___init__⟩ := DefL.funS (P := Rk01.prog) (mg := mg) (x := "Over") rfl (c.defE 10 (d := d_Over___init__) rfl).1 (c.defE 10 (d := d_Over___init__) rfl).2 rfl (free_ok X G (c.fact 0)) (by decide +kernel) (eqO_ok (c.fact 1))
  have b_Over___init__ : Binds K fd_Over___init__ ["self", "name"] [] := FunS.bindsN0 F_Over___init__ fun _ _ _ _ _ us hl => match us, hl with | [_, _], _ => rfl
  obtain ⟨cda_Taken___init__, cc_Taken___init__, fd_Taken___init__, F_Taken___init__, U_Taken___init__⟩ := DefL.funS (P := Rk01.prog) (mg := mg) (x := "Taken") rfl (c.defE 11 (d := d_Taken___init__) rfl).1 (c.defE 11 (d := d_Taken___init__) rfl).2 rfl (free_ok X G (c.fact 0)) (by decide +kernel) (eqO_ok (c.fact 1))
  have b_Taken___init__ : Binds K fd_Taken___init__ ["self", "name"] [] := FunS.bindsN0 F_Taken___init__ fun _ _ _ _ _ us hl => match us, hl with | [_, _], _ => rfl
  obtain ⟨cda_NoPlace___init__, cc_NoPlace___init__, fd_NoPlace___init__, F_NoPlace___init__, U_NoPlace___init__⟩ := DefL.funS (P := Rk01.prog) (mg := mg) (x := "NoPlace") rfl (c.defE 12 (d := d_NoPlace___init__) rfl).1 (c.defE 12 (d := d_NoPlace___init__) rfl).2 rfl (free_ok X G (c.fact 0)) (by decide +kernel) (eqO_ok (c.fact 1))
  have b_NoPlace___init__ : Binds K fd_NoPlace___init__ ["self", "place"] [] := FunS.bindsN0 F_NoPlace___init__ fun _ _ _ _ _ us hl => match us, hl with | [_, _], _ => rfl
  obtain ⟨cda_InvalidProgram___init__, cc_InvalidProgram___init__, fd_InvalidProgram___init__, F_InvalidProgram___init__, U_InvalidProgram___init__⟩ := DefL.funS (P := Rk01.prog) (mg := mg) (x := "InvalidProgram") rfl (c.defE 13 (d := d_InvalidProgram___init__) rfl).1 (c.defE 13 (d := d_InvalidProgram___init__) rfl).2 rfl (free_ok X G (c.fact 0)) (by decide +kernel) (eqO_ok (c.fact 1))
  have b_InvalidProgram___init__ : Binds K fd_InvalidProgram___init__ ["self", "index"] [] := FunS.bindsN0 F_InvalidProgram___init__ fun _ _ _ _ _ us hl => match us, hl with | [_, _], _ => rfl
  obtain ⟨cda_InvalidText___init__, cc_InvalidText___init__, fd_InvalidText___init__, F_InvalidText___init__, U_InvalidText___init__⟩ := DefL.funS (P := Rk01.prog) (mg := mg) (x := "InvalidText") rfl (c.defE 14 (d := d_InvalidText___init__) rfl).1 (c.defE 14 (d := d_InvalidText___init__) rfl).2 rfl (free_ok X G (c.fact 0)) (by decide +kernel) (eqO_ok (c.fact 1))
  have b_InvalidText___init__ : Binds K fd_InvalidText___init__ ["self", "at"] [] := FunS.bindsN0 F_InvalidText___init__ fun _ _ _ _ _ us hl => match us, hl with | [_, _], _ => rfl
  obtain ⟨cda_InvalidName___init__, cc_InvalidName___init__, fd_InvalidName___init__, F_InvalidName___init__, U_InvalidName___init__⟩ := DefL.funS (P := Rk01.prog) (mg := mg) (x := "InvalidName") rfl (c.defE 15 (d := d_InvalidName___init__) rfl).1 (c.defE 15 (d := d_InvalidName___init__) rfl).2 rfl (free_ok X G (c.fact 0)) (by decide +kernel) (eqO_ok (c.fact 1))
  have b_InvalidName___init__ : Binds K fd_InvalidName___init__ ["self", "name"] [] := FunS.bindsN0 F_InvalidName___init__ fun _ _ _ _ _ us hl => match us, hl with | [_, _], _ => rfl
  obtain ⟨fd__law_feed, F__law_feed⟩ := DefL.funD (d := d__law_feed) rfl (c.defE 16 rfl).1 (c.defE 16 rfl).2
  have b__law_feed : Binds K fd__law_feed ["_law_script", "_law_k"] [] := FunD.bindsN F__law_feed fun _ _ _ _ _ _ us hl => match us, hl with | [_, _], _ => rfl
  obtain ⟨fd__law_take, F__law_take⟩ := DefL.funD (d := d__law_take) rfl (c.defE 17 rfl).1 (c.defE 17 rfl).2
  have b__law_take : Binds K fd__law_take ["_law_feed_here", "_law_many"] [] := FunD.bindsN F__law_take fun _ _ _ _ _ _ us hl => match us, hl with | [_, _], _ => rfl
  obtain ⟨fd__law_value, F__law_value⟩ := DefL.funD (d := d__law_value) rfl (c.defE 18 rfl).1 (c.defE 18 rfl).2
  have b__law_value : Binds K fd__law_value ["_law_feed_here", "_law_deep"] [] := FunD.bindsN F__law_value fun _ _ _ _ _ _ us hl => match us, hl with | [_, _], _ => rfl
  obtain ⟨fd__law_by_position, F__law_by_position⟩ := DefL.funD (d := d__law_by_position) rfl (c.defE 19 rfl).1 (c.defE 19 rfl).2
  have b__law_by_position : Binds K fd__law_by_position ["_law_a", "_law_b", "_law_c"] [] := FunD.bindsN F__law_by_position fun _ _ _ _ _ _ us hl => match us, hl with | [_, _, _], _ => rfl
  obtain ⟨fd__law_by_name, F__law_by_name⟩ := DefL.funD (d := d__law_by_name) rfl (c.defE 20 rfl).1 (c.defE 20 rfl).2
  have b__law_by_name : Binds K fd__law_by_name ["_law_a", "_law_b", "_law_c"] [] := FunD.bindsN F__law_by_name fun _ _ _ _ _ _ us hl => match us, hl with | [_, _, _], _ => rfl
  obtain ⟨fd__law_kept, F__law_kept⟩ := DefL.funD (d := d__law_kept) rfl (c.defE 21 rfl).1 (c.defE 21 rfl).2
  have b__law_kept : Binds K fd__law_kept ["_law_some"] [] := FunD.bindsN F__law_kept fun _ _ _ _ _ _ us hl => match us, hl with | [_], _ => rfl
  obtain ⟨fd__law_classes, F__law_classes⟩ := DefL.funD (d := d__law_classes) rfl (c.defE 22 rfl).1 (c.defE 22 rfl).2
  have b__law_classes : Binds K fd__law_classes ["_law_e"] [] := FunD.bindsN F__law_classes fun _ _ _ _ _ _ us hl => match us, hl with | [_], _ => rfl
  obtain ⟨fd__law_right, F__law_right⟩ := DefL.funD (d := d__law_right) rfl (c.defE 23 rfl).1 (c.defE 23 rfl).2
  have b__law_right : Binds K fd__law_right ["_law_some"] [] := FunD.bindsN F__law_right fun _ _ _ _ _ _ us hl => match us, hl with | [_], _ => rfl
  obtain ⟨fd_law, F_law⟩ := DefL.funD (d := d_law) rfl (c.defE 24 rfl).1 (c.defE 24 rfl).2
  have b_law : Binds K fd_law ["_law_script"] [] := FunD.bindsN F_law fun _ _ _ _ _ _ us hl => match us, hl with | [_], _ => rfl
  have gl : ∀ {x : Str}, (Fa.glo x).ok K = true → mg x = some (.ref (ga K x)) := fun h => glo_ok X G h
  have fr : ∀ {x : Str}, (Fa.free x).ok K = true → mg x = none := fun h => free_ok X G h
  have e := hfa.symm.trans (gl (c.fact 2))
  cases e
  have E : GE K mg := { n_KeyError := (fr (c.fact 3)), n_ValueError := (fr (c.fact 4)), n_abs := (fr (c.fact 5)), n_enumerate := (fr (c.fact 6)), n_isinstance := (fr (c.fact 7)), n_len := (fr (c.fact 8)), n_max := (fr (c.fact 9)), n_min := (fr (c.fact 10)), n_range := (fr (c.fact 11)), n_repr := (fr (c.fact 12)), n_tuple := (fr (c.fact 13)), c_Firm := (gl (c.fact 14)), c_Held := (gl (c.fact 15)), c_InvalidCommand := (gl (c.fact 16)), c_InvalidName := (gl (c.fact 17)), c_InvalidProgram := (gl (c.fact 18)), c_InvalidText := (gl (c.fact 19)), c_NoHand := (gl (c.fact 20)), c_NoMark := (gl (c.fact 21)), c_NoPage := (gl (c.fact 22)), c_NoPlace := (gl (c.fact 23)), c_NoRoom := (gl (c.fact 24)), c_NotBranch := (gl (c.fact 25)), c_Over := (gl (c.fact 26)), c_Refused := (gl (c.fact 27)), c_StoreError := (gl (c.fact 28)), c_Taken := (gl (c.fact 29)), c_TooMany := (gl (c.fact 30)), own := ownAllB_ok (c.fact 31), tab := tabB_ok (c.fact 32), nf := nfB_ok (c.fact 33), xt := xtB_ok (c.fact 34), xc := xcB_ok (c.fact 35), xa := xaB_ok (c.fact 36) }
  have bl := FunD.bindsA (ps := ["_law_script"]) F_law fun _ _ _ _ _ _ us hl => match us, hl with | [_], _ => rfl
  refine ⟨fd_law, fun s v => bl s [v] rfl, fun base _ _ => ?_⟩
  have er_InvalidCommand := errB_ok (c.fact 37)
  have no_InvalidCommand := noAllB_ok (c.fact 38)
  have kb_InvalidCommand___init__ : KBn K fd_InvalidCommand___init__ ["self"] 1 [] (fun us ws => us ++ ws.reverse) (fun vs zs => vs ++ zs.reverse) := FunS.kbnR F_InvalidCommand___init__ fun _ _ _ _ _ us ws h1 h2 => match us, h1, ws, h2 with | [_], _, [], _ => rfl
  have c_xer_InvalidCommand : CalX Rk01.prog w K mg base 1 "InvalidCommand" (ga K "InvalidCommand") [] := ⟨⟨_, fd_InvalidCommand___init__, _, _, _, _, _, _, errX_v er_InvalidCommand, b_InvalidCommand___init__, ok_InvalidCommand___init__ F_InvalidCommand___init__ U_InvalidCommand___init__ (errX_v er_InvalidCommand) no_InvalidCommand, kb_InvalidCommand___init__⟩, (gl (c.fact 16)), by decide⟩
  have er_NotBranch := errB_ok (c.fact 39)
  have no_NotBranch := noAllB_ok (c.fact 40)
  have kb_NotBranch___init__ : KBn K fd_NotBranch___init__ ["self"] 1 [] (fun us ws => us ++ ws.reverse) (fun vs zs => vs ++ zs.reverse) := FunS.kbnR F_NotBranch___init__ fun _ _ _ _ _ us ws h1 h2 => match us, h1, ws, h2 with | [_], _, [], _ => rfl
  have c_xer_NotBranch : CalX Rk01.prog w K mg base 1 "NotBranch" (ga K "NotBranch") [] := ⟨⟨_, fd_NotBranch___init__, _, _, _, _, _, _, errX_v er_NotBranch, b_NotBranch___init__, ok_NotBranch___init__ F_NotBranch___init__ U_NotBranch___init__ (errX_v er_NotBranch) no_NotBranch, kb_NotBranch___init__⟩, (gl (c.fact 25)), by decide⟩
  have er_Held := errB_ok (c.fact 41)
  have no_Held := noAllB_ok (c.fact 42)
  have kb_Held___init__ : KBn K fd_Held___init__ ["self", "name", "index", "answer"] 1 ["answer", "index", "name"] (fun us ws => us ++ ws.reverse) (fun vs zs => vs ++ zs.reverse) := FunS.kbnR F_Held___init__ fun _ _ _ _ _ us ws h1 h2 => match us, h1, ws, h2 with | [_], _, [_, _, _], _ => rfl
  have c_xer_Held : CalX Rk01.prog w K mg base 1 "Held" (ga K "Held") ["name", "index", "answer"] := ⟨⟨_, fd_Held___init__, _, _, _, _, _, _, errX_v er_Held, b_Held___init__, ok_Held___init__ F_Held___init__ U_Held___init__ (errX_v er_Held) no_Held, kb_Held___init__⟩, (gl (c.fact 15)), by decide⟩
  have er_NoHand := errkB_ok (c.fact 43)
  have no_NoHand := noAllB_ok (c.fact 44)
  have kb_NoHand___init__ : KBn K fd_NoHand___init__ ["self", "name"] 1 ["name"] (fun us ws => us ++ ws.reverse) (fun vs zs => vs ++ zs.reverse) := FunS.kbnR F_NoHand___init__ fun _ _ _ _ _ us ws h1 h2 => match us, h1, ws, h2 with | [_], _, [_], _ => rfl
  have c_xer_NoHand : CalX Rk01.prog w K mg base 1 "NoHand" (ga K "NoHand") ["name"] := ⟨⟨_, fd_NoHand___init__, _, _, _, _, _, _, errX_k er_NoHand, b_NoHand___init__, ok_NoHand___init__ F_NoHand___init__ U_NoHand___init__ (errX_k er_NoHand) no_NoHand, kb_NoHand___init__⟩, (gl (c.fact 20)), by decide⟩
  have er_TooMany := errB_ok (c.fact 45)
  have no_TooMany := noAllB_ok (c.fact 46)
  have kb_TooMany___init__ : KBn K fd_TooMany___init__ ["self", "most"] 1 ["most"] (fun us ws => us ++ ws.reverse) (fun vs zs => vs ++ zs.reverse) := FunS.kbnR F_TooMany___init__ fun _ _ _ _ _ us ws h1 h2 => match us, h1, ws, h2 with | [_], _, [_], _ => rfl
  have c_xer_TooMany : CalX Rk01.prog w K mg base 1 "TooMany" (ga K "TooMany") ["most"] := ⟨⟨_, fd_TooMany___init__, _, _, _, _, _, _, errX_v er_TooMany, b_TooMany___init__, ok_TooMany___init__ F_TooMany___init__ U_TooMany___init__ (errX_v er_TooMany) no_TooMany, kb_TooMany___init__⟩, (gl (c.fact 30)), by decide⟩
  have er_NoRoom := errB_ok (c.fact 47)
  have no_NoRoom := noAllB_ok (c.fact 48)
  have kb_NoRoom___init__ : KBn K fd_NoRoom___init__ ["self", "lacking"] 1 ["lacking"] (fun us ws => us ++ ws.reverse) (fun vs zs => vs ++ zs.reverse) := FunS.kbnR F_NoRoom___init__ fun _ _ _ _ _ us ws h1 h2 => match us, h1, ws, h2 with | [_], _, [_], _ => rfl
  have c_xer_NoRoom : CalX Rk01.prog w K mg base 1 "NoRoom" (ga K "NoRoom") ["lacking"] := ⟨⟨_, fd_NoRoom___init__, _, _, _, _, _, _, errX_v er_NoRoom, b_NoRoom___init__, ok_NoRoom___init__ F_NoRoom___init__ U_NoRoom___init__ (errX_v er_NoRoom) no_NoRoom, kb_NoRoom___init__⟩, (gl (c.fact 24)), by decide⟩
  have er_NoPage := errB_ok (c.fact 49)
  have no_NoPage := noAllB_ok (c.fact 50)
  have kb_NoPage___init__ : KBn K fd_NoPage___init__ ["self", "number"] 1 ["number"] (fun us ws => us ++ ws.reverse) (fun vs zs => vs ++ zs.reverse) := FunS.kbnR F_NoPage___init__ fun _ _ _ _ _ us ws h1 h2 => match us, h1, ws, h2 with | [_], _, [_], _ => rfl
  have c_xer_NoPage : CalX Rk01.prog w K mg base 1 "NoPage" (ga K "NoPage") ["number"] := ⟨⟨_, fd_NoPage___init__, _, _, _, _, _, _, errX_v er_NoPage, b_NoPage___init__, ok_NoPage___init__ F_NoPage___init__ U_NoPage___init__ (errX_v er_NoPage) no_NoPage, kb_NoPage___init__⟩, (gl (c.fact 22)), by decide⟩
  have er_Firm := errB_ok (c.fact 51)
  have no_Firm := noAllB_ok (c.fact 52)
  have kb_Firm___init__ : KBn K fd_Firm___init__ ["self", "name"] 1 ["name"] (fun us ws => us ++ ws.reverse) (fun vs zs => vs ++ zs.reverse) := FunS.kbnR F_Firm___init__ fun _ _ _ _ _ us ws h1 h2 => match us, h1, ws, h2 with | [_], _, [_], _ => rfl
  have c_xer_Firm : CalX Rk01.prog w K mg base 1 "Firm" (ga K "Firm") ["name"] := ⟨⟨_, fd_Firm___init__, _, _, _, _, _, _, errX_v er_Firm, b_Firm___init__, ok_Firm___init__ F_Firm___init__ U_Firm___init__ (errX_v er_Firm) no_Firm, kb_Firm___init__⟩, (gl (c.fact 14)), by decide⟩
  have er_Refused := errB_ok (c.fact 53)
  have no_Refused := noAllB_ok (c.fact 54)
  have kb_Refused___init__ : KBn K fd_Refused___init__ ["self", "runs"] 1 ["runs"] (fun us ws => us ++ ws.reverse) (fun vs zs => vs ++ zs.reverse) := FunS.kbnR F_Refused___init__ fun _ _ _ _ _ us ws h1 h2 => match us, h1, ws, h2 with | [_], _, [_], _ => rfl
  have c_xer_Refused : CalX Rk01.prog w K mg base 1 "Refused" (ga K "Refused") ["runs"] := ⟨⟨_, fd_Refused___init__, _, _, _, _, _, _, errX_v er_Refused, b_Refused___init__, ok_Refused___init__ F_Refused___init__ U_Refused___init__ (errX_v er_Refused) no_Refused, kb_Refused___init__⟩, (gl (c.fact 27)), by decide⟩
  have er_NoMark := errB_ok (c.fact 55)
  have no_NoMark := noAllB_ok (c.fact 56)
  have kb_NoMark___init__ : KBn K fd_NoMark___init__ ["self", "mark"] 1 ["mark"] (fun us ws => us ++ ws.reverse) (fun vs zs => vs ++ zs.reverse) := FunS.kbnR F_NoMark___init__ fun _ _ _ _ _ us ws h1 h2 => match us, h1, ws, h2 with | [_], _, [_], _ => rfl
  have c_xer_NoMark : CalX Rk01.prog w K mg base 1 "NoMark" (ga K "NoMark") ["mark"] := ⟨⟨_, fd_NoMark___init__, _, _, _, _, _, _, errX_v er_NoMark, b_NoMark___init__, ok_NoMark___init__ F_NoMark___init__ U_NoMark___init__ (errX_v er_NoMark) no_NoMark, kb_NoMark___init__⟩, (gl (c.fact 21)), by decide⟩
  have er_Over := errB_ok (c.fact 57)
  have no_Over := noAllB_ok (c.fact 58)
  have kb_Over___init__ : KBn K fd_Over___init__ ["self", "name"] 1 ["name"] (fun us ws => us ++ ws.reverse) (fun vs zs => vs ++ zs.reverse) := FunS.kbnR F_Over___init__ fun _ _ _ _ _ us ws h1 h2 => match us, h1, ws, h2 with | [_], _, [_], _ => rfl
  have c_xer_Over : CalX Rk01.prog w K mg base 1 "Over" (ga K "Over") ["name"] := ⟨⟨_, fd_Over___init__, _, _, _, _, _, _, errX_v er_Over, b_Over___init__, ok_Over___init__ F_Over___init__ U_Over___init__ (errX_v er_Over) no_Over, kb_Over___init__⟩, (gl (c.fact 26)), by decide⟩
  have er_Taken := errB_ok (c.fact 59)
  have no_Taken := noAllB_ok (c.fact 60)
  have kb_Taken___init__ : KBn K fd_Taken___init__ ["self", "name"] 1 ["name"] (fun us ws => us ++ ws.reverse) (fun vs zs => vs ++ zs.reverse) := FunS.kbnR F_Taken___init__ fun _ _ _ _ _ us ws h1 h2 => match us, h1, ws, h2 with | [_], _, [_], _ => rfl
  have c_xer_Taken : CalX Rk01.prog w K mg base 1 "Taken" (ga K "Taken") ["name"] := ⟨⟨_, fd_Taken___init__, _, _, _, _, _, _, errX_v er_Taken, b_Taken___init__, ok_Taken___init__ F_Taken___init__ U_Taken___init__ (errX_v er_Taken) no_Taken, kb_Taken___init__⟩, (gl (c.fact 29)), by decide⟩
  have er_NoPlace := errB_ok (c.fact 61)
  have no_NoPlace := noAllB_ok (c.fact 62)
  have kb_NoPlace___init__ : KBn K fd_NoPlace___init__ ["self", "place"] 1 ["place"] (fun us ws => us ++ ws.reverse) (fun vs zs => vs ++ zs.reverse) := FunS.kbnR F_NoPlace___init__ fun _ _ _ _ _ us ws h1 h2 => match us, h1, ws, h2 with | [_], _, [_], _ => rfl
  have c_xer_NoPlace : CalX Rk01.prog w K mg base 1 "NoPlace" (ga K "NoPlace") ["place"] := ⟨⟨_, fd_NoPlace___init__, _, _, _, _, _, _, errX_v er_NoPlace, b_NoPlace___init__, ok_NoPlace___init__ F_NoPlace___init__ U_NoPlace___init__ (errX_v er_NoPlace) no_NoPlace, kb_NoPlace___init__⟩, (gl (c.fact 23)), by decide⟩
  have er_InvalidProgram := errB_ok (c.fact 63)
  have no_InvalidProgram := noAllB_ok (c.fact 64)
  have kb_InvalidProgram___init__ : KBn K fd_InvalidProgram___init__ ["self", "index"] 1 ["index"] (fun us ws => us ++ ws.reverse) (fun vs zs => vs ++ zs.reverse) := FunS.kbnR F_InvalidProgram___init__ fun _ _ _ _ _ us ws h1 h2 => match us, h1, ws, h2 with | [_], _, [_], _ => rfl
  have c_xer_InvalidProgram : CalX Rk01.prog w K mg base 1 "InvalidProgram" (ga K "InvalidProgram") ["index"] := ⟨⟨_, fd_InvalidProgram___init__, _, _, _, _, _, _, errX_v er_InvalidProgram, b_InvalidProgram___init__, ok_InvalidProgram___init__ F_InvalidProgram___init__ U_InvalidProgram___init__ (errX_v er_InvalidProgram) no_InvalidProgram, kb_InvalidProgram___init__⟩, (gl (c.fact 18)), by decide⟩
  have er_InvalidText := errB_ok (c.fact 65)
  have no_InvalidText := noAllB_ok (c.fact 66)
  have kb_InvalidText___init__ : KBn K fd_InvalidText___init__ ["self", "at"] 1 ["at"] (fun us ws => us ++ ws.reverse) (fun vs zs => vs ++ zs.reverse) := FunS.kbnR F_InvalidText___init__ fun _ _ _ _ _ us ws h1 h2 => match us, h1, ws, h2 with | [_], _, [_], _ => rfl
  have c_xer_InvalidText : CalX Rk01.prog w K mg base 1 "InvalidText" (ga K "InvalidText") ["at"] := ⟨⟨_, fd_InvalidText___init__, _, _, _, _, _, _, errX_v er_InvalidText, b_InvalidText___init__, ok_InvalidText___init__ F_InvalidText___init__ U_InvalidText___init__ (errX_v er_InvalidText) no_InvalidText, kb_InvalidText___init__⟩, (gl (c.fact 19)), by decide⟩
  have er_InvalidName := errB_ok (c.fact 67)
  have no_InvalidName := noAllB_ok (c.fact 68)
  have kb_InvalidName___init__ : KBn K fd_InvalidName___init__ ["self", "name"] 1 ["name"] (fun us ws => us ++ ws.reverse) (fun vs zs => vs ++ zs.reverse) := FunS.kbnR F_InvalidName___init__ fun _ _ _ _ _ us ws h1 h2 => match us, h1, ws, h2 with | [_], _, [_], _ => rfl
  have c_xer_InvalidName : CalX Rk01.prog w K mg base 1 "InvalidName" (ga K "InvalidName") ["name"] := ⟨⟨_, fd_InvalidName___init__, _, _, _, _, _, _, errX_v er_InvalidName, b_InvalidName___init__, ok_InvalidName___init__ F_InvalidName___init__ U_InvalidName___init__ (errX_v er_InvalidName) no_InvalidName, kb_InvalidName___init__⟩, (gl (c.fact 17)), by decide⟩
  have ok__law_feed' := ok__law_feed (P := Rk01.prog) (w := w) (base := base) F__law_feed E
  have ok__law_take' := ok__law_take (P := Rk01.prog) (w := w) (base := base) F__law_take E
  have ok__law_value_r0' : ∀ {f : Addr}, FnOk Rk01.prog w K mg base (CX Rk01.prog w) 1 f fd__law_value ["_law_feed_here", "_law_deep"] (spD K [true, false] sem__law_value_r0) := ok__law_value_r0
  have c_fn__law_take : Cal Rk01.prog w K mg base (CX Rk01.prog w) 1 "_law_take" ["_law_feed_here", "_law_many"] (spD K [true, false] sem__law_take) := ⟨_, fd__law_take, (gl (c.fact 69)), F__law_take.kp, b__law_take, ok__law_take'⟩
  have c_fn__law_value_r0 : Cal Rk01.prog w K mg base (CX Rk01.prog w) 1 "_law_value" ["_law_feed_here", "_law_deep"] (spD K [true, false] sem__law_value_r0) := ⟨_, fd__law_value, (gl (c.fact 70)), F__law_value.kp, b__law_value, ok__law_value_r0'⟩
  have ok__law_value_r1' := ok__law_value_r1 (P := Rk01.prog) (w := w) (base := base) F__law_value E c_fn__law_take c_fn__law_value_r0
  have c_fn__law_value_r1 : Cal Rk01.prog w K mg base (CX Rk01.prog w) 2 "_law_value" ["_law_feed_here", "_law_deep"] (spD K [true, false] sem__law_value_r1) := ⟨_, fd__law_value, (gl (c.fact 70)), F__law_value.kp, b__law_value, ok__law_value_r1'⟩
  have ok__law_value_r2' := ok__law_value_r2 (P := Rk01.prog) (w := w) (base := base) F__law_value E c_fn__law_take c_fn__law_value_r1
  have c_fn__law_value_r2 : Cal Rk01.prog w K mg base (CX Rk01.prog w) 3 "_law_value" ["_law_feed_here", "_law_deep"] (spD K [true, false] sem__law_value_r2) := ⟨_, fd__law_value, (gl (c.fact 70)), F__law_value.kp, b__law_value, ok__law_value_r2'⟩
  have ok__law_value_r3' := ok__law_value_r3 (P := Rk01.prog) (w := w) (base := base) F__law_value E c_fn__law_take c_fn__law_value_r2
  have c_fn__law_value_r3 : Cal Rk01.prog w K mg base (CX Rk01.prog w) 4 "_law_value" ["_law_feed_here", "_law_deep"] (spD K [true, false] sem__law_value_r3) := ⟨_, fd__law_value, (gl (c.fact 70)), F__law_value.kp, b__law_value, ok__law_value_r3'⟩
  have ok__law_value' := ok__law_value (P := Rk01.prog) (w := w) (base := base) F__law_value E c_fn__law_take c_fn__law_value_r3
  have ok__law_by_position' := ok__law_by_position (P := Rk01.prog) (w := w) (base := base) F__law_by_position E c_xer_InvalidCommand c_xer_NotBranch c_xer_Held c_xer_NoHand c_xer_TooMany c_xer_NoRoom c_xer_NoPage c_xer_Firm c_xer_Refused c_xer_NoMark c_xer_Over c_xer_Taken c_xer_NoPlace c_xer_InvalidProgram c_xer_InvalidText c_xer_InvalidName
  have ok__law_by_name' := ok__law_by_name (P := Rk01.prog) (w := w) (base := base) F__law_by_name E c_xer_InvalidCommand c_xer_NotBranch c_xer_Held c_xer_NoHand c_xer_TooMany c_xer_NoRoom c_xer_NoPage c_xer_Firm c_xer_Refused c_xer_NoMark c_xer_Over c_xer_Taken c_xer_NoPlace c_xer_InvalidProgram c_xer_InvalidText c_xer_InvalidName
  have ok__law_kept' := ok__law_kept (P := Rk01.prog) (w := w) (base := base) F__law_kept E
  have ok__law_classes' := ok__law_classes (P := Rk01.prog) (w := w) (base := base) F__law_classes E
  have c_fn__law_classes : Cal Rk01.prog w K mg base (CX Rk01.prog w) 1 "_law_classes" ["_law_e"] (spD K [false] sem__law_classes) := ⟨_, fd__law_classes, (gl (c.fact 71)), F__law_classes.kp, b__law_classes, ok__law_classes'⟩
  have ok__law_right' := ok__law_right (P := Rk01.prog) (w := w) (base := base) F__law_right E c_fn__law_classes
  have c_fn__law_by_name : Cal Rk01.prog w K mg base (CX Rk01.prog w) 3 "_law_by_name" ["_law_a", "_law_b", "_law_c"] (spD K [false, false, false] sem__law_by_name) := ⟨_, fd__law_by_name, (gl (c.fact 72)), F__law_by_name.kp, b__law_by_name, ok__law_by_name'⟩
  have c_fn__law_by_position : Cal Rk01.prog w K mg base (CX Rk01.prog w) 3 "_law_by_position" ["_law_a", "_law_b", "_law_c"] (spD K [false, false, false] sem__law_by_position) := ⟨_, fd__law_by_position, (gl (c.fact 73)), F__law_by_position.kp, b__law_by_position, ok__law_by_position'⟩
  have c_fn__law_right : Cal Rk01.prog w K mg base (CX Rk01.prog w) 2 "_law_right" ["_law_some"] (spD K [false] sem__law_right) := ⟨_, fd__law_right, (gl (c.fact 74)), F__law_right.kp, b__law_right, ok__law_right'⟩
  have c_fn__law_kept : Cal Rk01.prog w K mg base (CX Rk01.prog w) 1 "_law_kept" ["_law_some"] (spD K [false] sem__law_kept) := ⟨_, fd__law_kept, (gl (c.fact 75)), F__law_kept.kp, b__law_kept, ok__law_kept'⟩
  have c_fn__law_value : Cal Rk01.prog w K mg base (CX Rk01.prog w) 5 "_law_value" ["_law_feed_here", "_law_deep"] (spD K [true, false] sem__law_value) := ⟨_, fd__law_value, (gl (c.fact 70)), F__law_value.kp, b__law_value, ok__law_value'⟩
  have c_own__law_feed : Cal Rk01.prog w K mg base (CX Rk01.prog w) 1 "_law_feed" ["_law_script", "_law_k"] (spO K [false, false] sem__law_feed) := ⟨_, fd__law_feed, (gl (c.fact 76)), F__law_feed.kp, b__law_feed, ok__law_feed'⟩
  have ok_law' := ok_law (P := Rk01.prog) (w := w) (base := base) F_law E c_fn__law_by_name c_fn__law_by_position c_fn__law_right c_fn__law_kept c_fn__law_value c_own__law_feed
  exact gok_cx0 ok_law'
end Dl
namespace Dl
open PySem PySem.Spec PyProof.Rows L2 He Lp
section
variable {α β : Type} {s s1 : S} {a : α}
theorem a_bnd (m : M α) (k : α → M β) : bnd m k s = bndR (m s) k := rfl
theorem a_bok (k : α → M β) : bndR (.ok a s) k = k a s := rfl
theorem a_bexc (x : Xc) (k : α → M β) : bndR (.exc x s) k = .exc x s := rfl
theorem a_ret : ret a s = .ok a s := rfl
theorem a_some : lift (some a) s = .ok a s := rfl
theorem a_sok (k : α → MS) : bndS (.ok a s) k = k a s := rfl
theorem a_sexc (x : Xc) (k : α → MS) : bndS (.exc x s) k = .exc x s := rfl
end
section
variable {s : S} {d e : D} {i : Nat} {b : Bool}
theorem a_seq (x y : MS) : mSeq x y s = seqR (x s) y := rfl
theorem a_nx (k : MS) : seqR (.nx s) k = k s := rfl
theorem a_rt (k : MS) : seqR (.rt d s) k = .rt d s := rfl
theorem a_ex (x : Xc) (k : MS) : seqR (.exc x s) k = .exc x s := rfl
theorem a_seqO (x : MS) (y : M D) : mSeqO x y s = seqO (x s) y := rfl
theorem a_nxO (k : M D) : seqO (.nx s) k = k s := rfl
theorem a_skip : mSkip s = .nx s := rfl
theorem a_if (t : M Bool) (x y : MS) : mIf t x y s = bndS (t s) fun c => if c = true then x else y := rfl
theorem a_ite (c : Bool) (x y : MS) : (if c = true then x else y) s = if c = true then x s else y s := by cases c <;> rfl
theorem a_iteM {α : Type} (c : Bool) (x y : M α) : (if c = true then x else y) s = if c = true then x s else y s := by cases c <;> rfl
theorem a_set (m : M Vl) : mSet i m s = bndS (fzD m s) fun d s => .nx (s.set i (.fz d)) := rfl
theorem a_setO (m : M D) : mSetO i m s = bndS (m s) fun d s => .nx (s.set i (.ow true d)) := rfl
theorem a_mret (m : M Vl) : mRet m s = bndS (fzD m s) fun d s => .rt d s := rfl
theorem a_mretN : mRetN s = .rt .non s := rfl
theorem a_drop (m : M Vl) : mDrop m s = bndS (m s) fun _ s => .nx s := rfl
theorem a_var : mVar i s = vrS i s[i]? s := rfl
theorem a_vfz : vrS i (some (.fz d)) s = .ok (.d d) s := rfl
theorem a_vow : vrS i (some (.ow b d)) s = .ok (.sl i) s := rfl
theorem a_lkd : look (.d d) s = .ok d s := rfl
theorem a_lks : look (.sl i) s = lkS s[i]? s := rfl
theorem a_l1 (l : List D) : lkS (some (.ow b (.lst l))) s = .ok (.lst l) s := rfl
theorem a_l2 (l : List (Key × D)) : lkS (some (.ow b (.dct l))) s = .ok (.dct l) s := rfl
theorem a_l3 (c : Str) (l : List (Str × D)) : lkS (some (.ow b (.obj c l))) s = .ok (.obj c l) s := rfl
theorem a_fd : frz (.d d) s = .ok d s := rfl
theorem a_fs : frz (.sl i) s = fzS i s[i]? s := rfl
theorem a_fso : fzS i (some (.ow true d)) s = .ok d (s.set i (.fz d)) := rfl
theorem a_fzD (m : M Vl) : fzD m s = bndR (m s) frz := rfl
theorem a_fz (m : M Vl) : fz m s = bndR (fzD m s) fun d => ret (.d d) := rfl
theorem a_dV (m : M D) : dV m s = bndR (m s) fun d => ret (.d d) := rfl
theorem a_dVs (m : M (List D)) : dVs m s = bndR (m s) fun ds => ret (ds.map Vl.d) := rfl
theorem a_m2 (f : D → D → Option D) (x y : M Vl) : m2 f x y s = bndR (x s) fun va => bnd y fun vb => bnd (look va) fun a => bnd (look vb) fun b => lift (f a b) := rfl
theorem a_m1 (f : D → Option D) (x : M Vl) : m1 f x s = bndR (x s) fun va => bnd (look va) fun a => lift (f a) := rfl
theorem a_m2z (f : D → D → Option D) (x y : M Vl) : m2z f x y s = bndR (fzD x s) fun a => bnd (fzD y) fun b => lift (f a b) := rfl
theorem a_z1 (f : D → Option D) (x : M Vl) : mZ1 f x s = bndR (fzD x s) fun a => lift (f a) := rfl
theorem a_mB (m : M D) : mB m s = bndR (m s) fun d => lift (asB d) := rfl
theorem a_asB (c : Bool) : asB (.bl c) = some c := rfl
theorem a_not (m : M Bool) : mNot m s = bndR (m s) fun b => ret (!b) := rfl
theorem a_and (x y : M Bool) : mAnd x y s = bndR (x s) fun c => if c = true then y else ret false := rfl
theorem a_or (x y : M Bool) : mOr x y s = bndR (x s) fun c => if c = true then ret true else y := rfl
theorem a_andV (x : M D) (y : M Vl) : mAndV x y s = bndR (x s) fun d => bnd (lift (asB d)) fun c => if c = true then y else ret (.d (.bl false)) := rfl
theorem a_orV (x : M D) (y : M Vl) : mOrV x y s = bndR (x s) fun d => bnd (lift (asB d)) fun c => if c = true then ret (.d (.bl true)) else y := rfl
theorem a_ifE (t : M Bool) (x y : M Vl) : mIfE t x y s = bndR (t s) fun c => if c = true then x else y := rfl
theorem a_tru (m : M Vl) : mTru m s = bndR (m s) fun v => bnd (look v) fun d => lift (truD d) := rfl
theorem a_chain (f g : D → D → Option D) (ma mb mc : M Vl) : mChain f g ma mb mc s = bndR (ma s) fun va => bnd mb fun vb => bnd (look va) fun a => bnd (look vb) fun b => bnd (lift (f a b)) fun d => bnd (lift (asB d)) fun k => if k = true then bnd mc fun vc => bnd (look vb) fun b => bnd (look vc) fun c => lift (g b c) else ret (.bl false) := rfl
theorem a_cons (m : M Vl) (ms : M (List Vl)) : mCons m ms s = bndR (m s) fun v => bnd ms fun vs => ret (v :: vs) := rfl
theorem a_consD (m : M Vl) (ms : M (List D)) : mConsD m ms s = bndR (fzD m s) fun d => bnd ms fun ds => ret (d :: ds) := rfl
theorem a_call (f : List D → Option D) (ms : M (List Vl)) : mCall f ms s = bndR (ms s) fun vs => bnd (lookAll vs) fun ds => lift (f ds) := rfl
theorem a_la0 : lookAll [] s = .ok [] s := rfl
theorem a_la1 (v : Vl) (vs : List Vl) : lookAll (v :: vs) s = bndR (look v s) fun d => bnd (lookAll vs) fun ds => ret (d :: ds) := rfl
theorem a_tup (ms : M (List D)) : mTup ms s = bndR (ms s) fun ds => lift (if ds.length ≤ sizeLine then some (.tup ds) else none) := rfl
theorem a_lst (ms : M (List D)) : mLst ms s = bndR (ms s) fun ds => lift (if ds.length ≤ sizeLine then some (.lst ds) else none) := rfl
theorem a_fn (ms : List Bool) (sem : List D → RF) (ma : M (List Vl)) : mFn ms sem ma s = bndR (ma s) (callS ms sem) := rfl
theorem a_callS (ms : List Bool) (sem : List D → RF) (vs : List Vl) : callS ms sem vs s = match argsD ms vs s with
  | some (ds, is) => if is.Nodup then retR is s (sem ds) else .bad
  | none => .bad := rfl
theorem a_ag0 : argsD [] [] s = some ([], []) := rfl
theorem a_ag1 (ms : List Bool) (vs : List Vl) : argsD (false :: ms) (.d d :: vs) s = (argsD ms vs s).map fun p => (d :: p.1, p.2) := rfl
def agO (i : Nat) (r : Option (List D × List Nat)) : Option Sl → Option (List D × List Nat)
  | some (.ow _ d) => r.map fun p => (d :: p.1, i :: p.2)
  | _ => none
theorem a_ag2 (ms : List Bool) (vs : List Vl) : argsD (true :: ms) (.sl i :: vs) s = agO i (argsD ms vs s) s[i]? := by
  cases h : s[i]? with
  | none => simp only [argsD, h, agO]
  | some l => cases l <;> simp only [argsD, h, agO]
theorem a_ag3 (r : Option (List D × List Nat)) : agO i r (some (.ow b d)) = r.map fun p => (d :: p.1, i :: p.2) := rfl
def puO (i : Nat) (d : D) (s : S) : Option Sl → S
  | some (.ow b _) => s.set i (.ow b d)
  | _ => s
theorem a_rt1 (is : List Nat) (outs : List D) : retR is s (.rt d outs) = .ok d (putO is outs s) := rfl
theorem a_rt2 (is : List Nat) (x : Xc) (outs : List D) : retR is s (.exc x outs) = .exc x (putO is outs s) := rfl
theorem a_po0 (ds : List D) : putO [] ds s = s := by cases ds <;> rfl
theorem a_po1 (is : List Nat) (ds : List D) : putO (i :: is) (d :: ds) s = putO is ds (put1 i d s) := rfl
theorem a_p1 : put1 i d s = puO i d s s[i]? := by
  cases h : s[i]? with
  | none => simp only [put1, h, puO]
  | some l => cases l <;> simp only [put1, h, puO]
theorem a_p2 : puO i d s (some (.ow b e)) = s.set i (.ow b d) := rfl
theorem a_store (mk mv : M Vl) : mStore i mk mv s = bndS (fzD mv s) fun v s1 => match s1[i]? with
  | some (.ow _ _) => bndS (fzD mk s1) fun k s2 => stS i k v s2 s2[i]?
  | _ => .bad := rfl
theorem a_mut (T : String) (f : D → List D → Option (D × D)) (ms : M (List D)) : mMut T f i ms s = if owS T s[i]? = true then bndR (ms s) fun ds s1 => mutS f i ds s1 s1[i]? else .bad := rfl
theorem a_ow1 (l : List D) : owS "list" (some (.ow b (.lst l))) = true := rfl
theorem a_ow2 (l : List (Key × D)) : owS "dict" (some (.ow b (.dct l))) = true := rfl
theorem a_mutS (f : D → List D → Option (D × D)) (ds : List D) : mutS f i ds s (some (.ow b d)) = match f d ds with
  | some (d', q) => .ok (.d q) (s.set i (.ow b d'))
  | none => .bad := rfl
theorem a_for (mi : M (List D)) (tg : D → S → Option S) (x : MS) : mFor mi tg x s = bndS (mi s) (forL tg x) := rfl
theorem a_for0 (tg : D → S → Option S) (x : MS) : forL tg x [] s = .nx s := rfl
theorem a_for1 (tg : D → S → Option S) (x : MS) (ds : List D) : forL tg x (d :: ds) s = match tg d s with
  | none => .bad
  | some s1 => fNext (x s1) (forL tg x ds) := rfl
theorem a_gN : gN i d s = some (s.set i (.fz d)) := rfl
theorem a_iter (f : List D → Option (List D)) (ms : M (List Vl)) : mIter f ms s = bndR (ms s) fun vs => bnd (lookAll vs) fun ds => lift (f ds) := rfl
theorem a_items (m : M Vl) : mItems m s = bndR (fzD m s) fun d => lift (itemsD d) := rfl
theorem a_par (j : Nat) (o1 o2 : Bool) (x y : M D) : mPar i o1 x j o2 y s = bndS (x s) fun d1 s1 => bndS (y s1) fun d2 s2 => .nx ((s2.set i (slO o1 d1)).set j (slO o2 d2)) := rfl
theorem a_slT : slO true d = .ow true d := rfl
theorem a_slF : slO false d = .fz d := rfl
theorem a_par3 (j l : Nat) (x y z : M Vl) : mPar3 i x j y l z s = bndS (fzD x s) fun d1 s1 => bndS (fzD y s1) fun d2 s2 => bndS (fzD z s2) fun d3 s3 => .nx (((s3.set i (.fz d1)).set j (.fz d2)).set l (.fz d3)) := rfl
theorem a_unp (g : D → S → Option S) (m : M Vl) : mUnp g m s = bndS (fzD m s) fun d s1 => match g d s1 with
  | some s2 => .nx s2
  | none => .bad := rfl
theorem a_runF (n : Nat) (ms : List Bool) (m : MS) (ds : List D) : runF n ms m ds = endF ms (m (startS n ms ds)) := rfl
theorem a_runO (n : Nat) (ms : List Bool) (m : M D) (ds : List D) : runO n ms m ds = endO ms (m (startS n ms ds)) := rfl
theorem a_make (c : Str) (n : Nat) (sem : List D → RF) (dds : List D) (ma : M (List D)) : mMake c n sem dds ma s = bndR (ma s) fun ds s => if (ds ++ dds).length = n then mkR s (sem (.obj c [] :: (ds ++ dds))) else .bad := rfl
theorem a_mk1 : mkR s (.rt .non [d]) = .ok d s := rfl
theorem a_mk2 (x : Xc) (l : List D) : mkR s (.exc x l) = .exc x s := rfl
end
section
variable {s : S} {d e v : D} {i : Nat} {b : Bool}
theorem a_seta (cs : List Str) (f : Str) (mv : M Vl) : mSetA cs i f mv s = bndS (fzD mv s) fun v s1 => saS cs i f v s1 s1[i]? := rfl
theorem a_dstar (m : M Vl) : mDStar m s = bndR (fzD m s) fun d => lift (starD d) := rfl
theorem a_star (l : List (Key × D)) : starD (.dct l) = some (.dct l) := rfl
theorem a_meth (c m : Str) (ms : List Bool) (sem : List D → RF) (mo : M Vl) (ma : M (List Vl)) : mMeth c m ms sem mo ma s = bndR (fzD mo s) fun o => bnd (lift (isObj c m o)) fun _ => bnd ma fun vs => callS (false :: ms) sem (.d o :: vs) := rfl
theorem a_isi (cs : List Str) (tb : Tab) (t : Kd) (m : M Vl) : mIsi cs tb t m s = bndR (fzD m s) fun d => lift (isiD cs tb t d) := rfl
theorem a_dget1 (mo ma : M Vl) : mDGet1 mo ma s = bndR (mo s) fun vo => bnd (look vo) fun d0 => bnd (lift (isDct d0)) fun _ => bnd ma fun va => bnd (look vo) fun d => bnd (look va) fun b => lift (getD1 d b) := rfl
theorem a_dget2 (mo ma mx : M Vl) : mDGet2 mo ma mx s = bndR (mo s) fun vo => bnd (look vo) fun d0 => bnd (lift (isDct d0)) fun _ => bnd ma fun va => bnd (fzD mx) fun x => bnd (look vo) fun d => bnd (look va) fun b => lift (getD2 d b x) := rfl
theorem a_isd (l : List (Key × D)) : isDct (.dct l) = some () := rfl
theorem a_getS1 (l : List (Key × D)) (x : Str) : getD1 (.dct l) (.str x) = some ((valK l (.inr x)).getD .non) := rfl
theorem a_getS2 (l : List (Key × D)) (x : Str) : getD2 (.dct l) (.str x) d = some ((valK l (.inr x)).getD d) := rfl
theorem a_sup (cs : List Str) (ms : List Bool) (sem : List D → RF) (ma : M (List Vl)) : mSup cs ms sem ma s = if supS cs s[0]? = true then bndR (ma s) fun vs => callS (true :: ms) sem (.sl 0 :: vs) else .bad := rfl
theorem a_raise (c f : Str) (m : M Vl) : mRaise1 c f m s = bndS (fzD m s) fun d s => .exc ⟨.own c, [(f, d)]⟩ s := rfl
theorem a_dc (vs : List Nat) (mi : M (List D)) (tg : D → S → Option S) (cond : M Bool) (kx vx : M Vl) : mDc vs mi tg cond kx vx s = bndR (mi s) fun ds s1 => if ds.length ≤ sizeLine then dcE vs s1 (dcL vs tg cond (fzD kx) (fzD vx) ds [] (wipeS s1 vs)) else .bad := rfl
theorem a_dcE (vs : List Nat) (s0 : S) (l : List (Key × D)) : dcE vs s0 (.ok l s) = .ok (.dct l) (unwS s0 s vs) := rfl
theorem a_lc (vs : List Nat) (mi : M (List D)) (tg : D → S → Option S) (cond : M Bool) (el : M Vl) : mLc vs mi tg cond el s = bndR (mi s) fun ds s1 => if ds.length ≤ sizeLine then lcE vs s1 (lcL vs tg cond (fzD el) ds [] (wipeS s1 vs)) else .bad := rfl
theorem a_lcE (vs : List Nat) (s0 : S) (l : List D) : lcE vs s0 (.ok l s) = .ok (.lst l) (unwS s0 s vs) := rfl
theorem a_w0 : wipeS s [] = s := rfl
theorem a_w1 (vs : List Nat) : wipeS s (i :: vs) = (wipeS s vs).set i .no := rfl
def unO (i : Nat) (t : S) : Option Sl → S
  | some (.fz d) => t.set i (.fz d)
  | _ => t.set i .no
theorem a_u0 (s0 : S) : unwS s0 s [] = s := rfl
theorem a_u1 (s0 : S) (vs : List Nat) : unwS s0 s (i :: vs) = unO i (unwS s0 s vs) s0[i]? := by
  cases h : s0[i]? with
  | none => simp only [unwS, h, unO]
  | some l => cases l <;> simp only [unwS, h, unO]
theorem a_u2 (t : S) : unO i t (some (.fz d)) = t.set i (.fz d) := rfl
theorem a_u3 (t : S) : unO i t (some .no) = t.set i .no := rfl
def lcB' (r : Res Bool) (elt : M D) : Res (Option D) := match r with
  | .ok false s2 => .ok none s2
  | .ok true s2 => (match elt s2 with
      | .ok y s3 => .ok (some y) s3
      | _ => .bad)
  | _ => .bad
theorem a_lcB (j : Nat) (cond : M Bool) (elt : M D) : lcB (gN j) cond elt d s = lcB' (cond (s.set j (.fz d))) elt := rfl
theorem a_lcB1 (elt : M D) : lcB' (.ok false s) elt = .ok none s := rfl
def lcB2 : Res D → Res (Option D)
  | .ok y s3 => .ok (some y) s3
  | _ => .bad
theorem a_lcB2 (elt : M D) : lcB' (.ok true s) elt = lcB2 (elt s) := by
  cases h : elt s <;> simp only [lcB', lcB2, h]
theorem a_lcB3 : lcB2 (.ok d s) = .ok (some d) s := rfl
def dcB3 (k : Key) : Res D → Res (Option (Key × D))
  | .ok z s4 => .ok (some (k, z)) s4
  | _ => .bad
def dcB2 (vx : M D) (s3 : S) : Option Key → Res (Option (Key × D))
  | some k => dcB3 k (vx s3)
  | none => .bad
def dcB1 (vx : M D) : Res D → Res (Option (Key × D))
  | .ok y s3 => dcB2 vx s3 (asK y)
  | _ => .bad
theorem a_dcB1 (vx : M D) : dcB1 vx (.ok d s) = dcB2 vx s (asK d) := rfl
theorem a_dcB2 (vx : M D) (k : Key) : dcB2 vx s (some k) = dcB3 k (vx s) := rfl
theorem a_dcB3 (k : Key) : dcB3 k (.ok d s) = .ok (some (k, d)) s := rfl
theorem a_asKs (x : Str) : asK (.str x) = some (.inr x) := rfl
theorem a_asKi (x : Int) : asK (.int x) = some (.inl x) := rfl
theorem a_yes : mYes s = .ok true s := rfl
end
theorem o_add (i j : Int) : addD (.int i) (.int j) = some (.int (i + j)) := rfl
theorem o_sub (i j : Int) : subD (.int i) (.int j) = some (.int (i - j)) := rfl
theorem o_mul1 {i j : Int} (h1 : -18446744073709551616 < j) (h2 : j < 18446744073709551616) : mulD (.int i) (.int j) = some (.int (i * j)) := by
  simp only [mulD]; rw [if_pos (.inr ⟨h1, h2⟩)]
theorem o_mul2 {i j : Int} (h1 : -18446744073709551616 < i) (h2 : i < 18446744073709551616) : mulD (.int i) (.int j) = some (.int (i * j)) := by
  simp only [mulD]; rw [if_pos (.inl ⟨h1, h2⟩)]
theorem o_mod {i j : Int} (h : 0 < j) : modD (.int i) (.int j) = some (.int (i % j)) := by simp only [modD]; rw [if_pos h]
theorem o_div {i j : Int} (h : 0 < j) (h2 : j < 1267650600228229401496703205376) : fdivD (.int i) (.int j) = some (.int (i / j)) := by simp only [fdivD]; rw [if_pos ⟨h, h2⟩]
theorem o_lt (i j : Int) : ltD (.int i) (.int j) = some (.bl (decide (i < j))) := rfl
theorem o_le (i j : Int) : leD (.int i) (.int j) = some (.bl (decide (i ≤ j))) := rfl
theorem o_gt (i j : Int) : gtD (.int i) (.int j) = some (.bl (decide (j < i))) := rfl
theorem o_ge (i j : Int) : geD (.int i) (.int j) = some (.bl (decide (j ≤ i))) := rfl
theorem o_at {α : Type} {l : List α} {i : Int} (h0 : 0 ≤ i) (h1 : i < l.length) : L2.atI l i = l[i.toNat]? := by
  unfold L2.atI L2.ixN
  simp [h0, h1]
theorem o_ixl {l : List D} {i : Int} (h0 : 0 ≤ i) (h1 : i < l.length) : ixD (.lst l) (.int i) = l[i.toNat]? := o_at h0 h1
theorem o_ixr {l : List D} {i : Int} (h0 : 0 ≤ i) (h1 : i < l.length) : ixD (.rol l) (.int i) = l[i.toNat]? := o_at h0 h1
theorem o_ixt {l : List D} {i : Int} (h0 : 0 ≤ i) (h1 : i < l.length) : ixD (.tup l) (.int i) = l[i.toNat]? := o_at h0 h1
theorem o_ix0 (x : D) (l : List D) : ixD (.lst (x :: l)) (.int 0) = some x := (o_ixl (by omega) (by simp only [List.length_cons]; omega)).trans rfl
theorem o_ix1 (x y : D) (l : List D) : ixD (.lst (x :: y :: l)) (.int 1) = some y := (o_ixl (by omega) (by simp only [List.length_cons]; omega)).trans rfl
theorem o_it0 (x : D) (l : List D) : ixD (.tup (x :: l)) (.int 0) = some x := (o_ixt (by omega) (by simp only [List.length_cons]; omega)).trans rfl
theorem o_it1 (x y : D) (l : List D) : ixD (.tup (x :: y :: l)) (.int 1) = some y := (o_ixt (by omega) (by simp only [List.length_cons]; omega)).trans rfl
theorem o_st0 (a b v : D) : storeD (.lst [a, b]) (.int 0) v = some (.lst [v, b]) := rfl
theorem o_st1 (a b v : D) : storeD (.lst [a, b]) (.int 1) v = some (.lst [a, v]) := rfl
theorem o_stS (i : Nat) (b : Bool) (c k v : D) (s : S) : stS i k v s (some (.ow b c)) = match storeD c k v with
    | some c' => .nx (s.set i (.ow b c'))
    | none => .bad := rfl
theorem o_endN (ms : List Bool) (s : S) : endF ms (.nx s) = match outsOf ms s with
    | some l => .rt .non l
    | none => .bad := rfl
theorem o_endR (ms : List Bool) (d : D) (s : S) : endF ms (.rt d s) = match outsOf ms s with
    | some l => .rt d l
    | none => .bad := rfl
theorem o_endX (ms : List Bool) (x : Xc) (s : S) : endF ms (.exc x s) = match outsOf ms s with
    | some l => .exc x l
    | none => .bad := rfl
theorem o_endO (ms : List Bool) (d : D) (s : S) : endO ms (.ok d s) = match outsOf ms s with
    | some l => .rt d l
    | none => .bad := rfl
theorem o_out0 (s : S) : outsOf [] s = some [] := rfl
theorem o_outT (ms : List Bool) (d : D) (s : S) : outsOf (true :: ms) (.ow false d :: s) = (outsOf ms s).map (d :: ·) := rfl
theorem o_outF (ms : List Bool) (x : Sl) (s : S) : outsOf (false :: ms) (x :: s) = outsOf ms s := by cases x <;> rfl
theorem o_nd1 (i : Nat) : List.Nodup [i] = True := eq_true (List.nodup_cons.mpr ⟨(fun z => nomatch z), List.nodup_nil⟩)
theorem o_nd0 : (List.Nodup ([] : List Nat)) = True := eq_true List.nodup_nil
theorem a_rep0 : List.replicate 0 Sl.no = [] := rfl
theorem a_rep1 (n : Nat) : List.replicate (n + 1) Sl.no = .no :: List.replicate n .no := rfl
theorem o_sz {n : Nat} (h : n ≤ 16777216) : (n ≤ sizeLine) = True := eq_true (by rw [sizeLine_eq]; exact h)
theorem o_lenl (l : List D) : lenD [.lst l] = some (.int l.length) := rfl
theorem o_lenr (l : List D) : lenD [.rol l] = some (.int l.length) := rfl
theorem o_lent (l : List D) : lenD [.tup l] = some (.int l.length) := rfl
theorem o_lend (l : List (Key × D)) : lenD [.dct l] = some (.int l.length) := rfl
theorem o_abs (i : Int) : absD [.int i] = some (.int (if i < 0 then -i else i)) := rfl
theorem o_pow {i j : Int} (h0 : 0 ≤ j) (h1 : j ≤ 1000) (h2 : -18446744073709551616 < i) (h3 : i < 18446744073709551616) : powD (.int i) (.int j) = some (.int (i ^ j.toNat)) := by
  simp only [powD]; rw [if_pos ⟨h0, by omega, by omega⟩]
theorem o_listl (l : List D) : listD [.lst l] = some (.lst l) := rfl
theorem o_listr (l : List D) : listD [.rol l] = some (.lst l) := rfl
theorem o_listt (l : List D) : listD [.tup l] = some (.lst l) := rfl
theorem o_rng {j : Int} (h0 : 0 ≤ j) (h1 : j < 4611686018427387904) : rng1 [.int j] = some (rangeD 0 j.toNat) := by
  simp only [rng1]; rw [if_pos ⟨by omega, h1⟩]
theorem o_app {l : List D} {y : D} (h : l.length < 16777216) : appD (.lst l) [y] = some (.lst (l ++ [y]), .non) := by
  simp only [appD]; rw [if_pos (by rw [sizeLine_eq]; exact h)]
theorem o_max (i j : Int) : max2D [.int i, .int j] = some (.int (if j > i then j else i)) := rfl
theorem o_min (i j : Int) : min2D [.int i, .int j] = some (.int (if j < i then j else i)) := rfl
def stepF (tg : D → S → Option S) (body : MS) (d : D) (s : S) : RS := match tg d s with
  | none => .bad
  | some s1 => body s1
theorem a_step1 (i : Nat) (body : MS) (d : D) (s : S) : stepF (gN i) body d s = body (s.set i (.fz d)) := rfl
theorem for_inv {tg : D → S → Option S} {body : MS} (Inv : Nat → S → Prop) : ∀ (ds : List D) (i : Nat) (s : S), Inv i s → (∀ (j : Nat) (d : D) (s : S), ds[j]? = some d → Inv (i + j) s → ∃ s2, (stepF tg body d s = .nx s2 ∨ stepF tg body d s = .ct s2) ∧ Inv (i + j + 1) s2) →
    ∃ s', forL tg body ds s = .nx s' ∧ Inv (i + ds.length) s'
  | [], i, s, h, _ => ⟨s, rfl, h⟩
  | d :: ds, i, s, h, hs => by
    obtain ⟨s2, e2, h2⟩ := hs 0 d s rfl h
    obtain ⟨s', e3, h3⟩ := for_inv Inv ds (i + 1) s2 h2 (fun j d s e h => by
      have := hs (j + 1) d s (by simpa using e) (by rw [show i + (j + 1) = i + 1 + j by omega]; exact h)
      rw [show i + (j + 1) + 1 = i + 1 + j + 1 by omega] at this
      exact this)
    refine ⟨s', ?_, by rw [List.length_cons, show i + (ds.length + 1) = i + 1 + ds.length by omega]; exact h3⟩
    rw [a_for1]
    unfold stepF at e2
    cases z : tg d s with
    | none => rw [z] at e2; rcases e2 with e2 | e2 <;> cases e2
    | some s1 =>
      rw [z] at e2
      simp only at e2 ⊢
      rcases e2 with e2 | e2 <;> simp only [e2, fNext] <;> exact e3
theorem lc_inv {vs : List Nat} {tg : D → S → Option S} {cond : M Bool} {elt : M D} (Inv : Nat → List D → S → Prop) : ∀ (ds : List D) (i : Nat) (acc : List D) (s : S), Inv i acc s → (∀ (j : Nat) (d : D) (acc : List D) (s : S), ds[j]? = some d → Inv (i + j) acc s →
      ∃ o s1, lcB tg cond elt d s = .ok o s1 ∧ Inv (i + j + 1) (acc ++ o.toList) (wipeS s1 vs)) → ∃ acc' s', lcL vs tg cond elt ds acc s = .ok acc' s' ∧ Inv (i + ds.length) acc' s'
  | [], i, acc, s, h, _ => ⟨acc, s, rfl, h⟩
  | d :: ds, i, acc, s, h, hs => by
    obtain ⟨o, s1, e1, h2⟩ := hs 0 d acc s rfl h
    obtain ⟨acc', s', e3, h3⟩ := lc_inv Inv ds (i + 1) (acc ++ o.toList) (wipeS s1 vs) h2 (fun j d acc s e h => by
      have := hs (j + 1) d acc s (by simpa using e) (by rw [show i + (j + 1) = i + 1 + j by omega]; exact h)
      rw [show i + (j + 1) + 1 = i + 1 + j + 1 by omega] at this
      exact this)
    refine ⟨acc', s', ?_, by rw [List.length_cons, show i + (ds.length + 1) = i + 1 + ds.length by omega]; exact h3⟩
    unfold lcL
    rw [e1]
    cases o with
    | none => simpa using e3
    | some y => simpa using e3
theorem rangeD_get {lo : Int} {n j : Nat} {d : D} (h : (rangeD lo n)[j]? = some d) : d = .int (lo + j) ∧ j < n := by
  unfold rangeD at h
  rw [List.getElem?_map] at h
  by_cases hj : j < n
  · rw [List.getElem?_range hj] at h
    cases h
    exact ⟨rfl, hj⟩
  · rw [List.getElem?_eq_none (by simp; omega)] at h
    cases h
theorem rangeD_len (lo : Int) (n : Nat) : (rangeD lo n).length = n := by simp [rangeD]
end Dl
namespace Dl
open PySem PySem.Spec PyProof.Rows L2 He Lp
def mFeedC : M D :=
  (mSeqO (mSet 2 (dV (m2 addD (dV (m2 mulD (ret (.d (.int 7919))) (mVar 1))) (ret (.d (.int 30103))))))
  (mSeqO (mIf (mB (m2 ltD (mVar 1) (dV (mCall lenD (mCons (mVar 0) (ret [])))))) (mSet 2 (dV (mCall absD (mCons (dV (m2 ixD (mVar 0) (mVar 1))) (ret []))))) (mIf (mB (m2 gtD (dV (mCall lenD (mCons (mVar 0) (ret [])))) (ret (.d (.int 0))))) (mSet 2 (dV (m2 addD (dV (m2 mulD (dV (m2 modD (dV (mCall absD (mCons (dV (m2 ixD (mVar 0) (dV (m2 modD (mVar 1) (dV (mCall lenD (mCons (mVar 0) (ret [])))))))) (ret [])))) (ret (.d (.int 2147483629))))) (ret (.d (.int 31))))) (dV (m2 mulD (ret (.d (.int 7919))) (mVar 1)))))) mSkip))
  (mSeqO (mSet 3 (ret (.d (.int 0))))
  (mSeqO (mIf (mB (m2 geD (mVar 2) (dV (m2 powD (ret (.d (.int 10))) (ret (.d (.int 18))))))) (mSet 3 (mVar 2)) mSkip)
  (mLst (mConsD (mVar 3) (mConsD (dV (m2 addD (dV (m2 modD (dV (m2 addD (dV (m2 mulD (dV (m2 modD (mVar 2) (ret (.d (.int 2147483629))))) (ret (.d (.int 48271))))) (dV (m2 mulD (ret (.d (.int 40692))) (mVar 1))))) (ret (.d (.int 2147483629))))) (ret (.d (.int 1))))) (ret []))))))))
def cFeed : List D → RF := runO 4 [false, false] mFeedC
def mTakeC : MS :=
  (mSeq (mIf (mB (m2 gtD (dV (m2 ixD (mVar 0) (ret (.d (.int 0))))) (ret (.d (.int 0))))) (mSeq (mSet 2 (dV (m2 modD (dV (m2 ixD (mVar 0) (ret (.d (.int 0))))) (mVar 1))))
  (mSeq (mStore 0 (ret (.d (.int 0))) (dV (m2 fdivD (dV (m2 ixD (mVar 0) (ret (.d (.int 0))))) (mVar 1))))
  (mRet (mVar 2)))) mSkip)
  (mSeq (mSet 3 (dV (m2 modD (dV (m2 mulD (dV (m2 ixD (mVar 0) (ret (.d (.int 1))))) (ret (.d (.int 48271))))) (ret (.d (.int 2147483647))))))
  (mSeq (mStore 0 (ret (.d (.int 1))) (dV (m2 addD (dV (m2 modD (dV (m2 addD (dV (m2 mulD (mVar 3) (ret (.d (.int 40692))))) (ret (.d (.int 30103))))) (ret (.d (.int 2147483399))))) (ret (.d (.int 1))))))
  (mRet (dV (m2 modD (dV (m2 fdivD (dV (m2 addD (dV (m2 mulD (mVar 3) (ret (.d (.int 2147483647))))) (dV (m2 ixD (mVar 0) (ret (.d (.int 1))))))) (ret (.d (.int 8191))))) (mVar 1)))))))
def cTake : List D → RF := runF 4 [true, false] mTakeC
def IsFeed (d : D) : Prop := ∃ a b : Int, d = .lst [.int a, .int b]
theorem take_spec {d : D} {m : Int} (h : IsFeed d) (h0 : 0 < m) (h1 : m < 1267650600228229401496703205376) : ∃ (r : Int) (d' : D), cTake [d, .int m] = .rt (.int r) [d'] ∧ 0 ≤ r ∧ r < m ∧ IsFeed d' := by
  obtain ⟨a, b, rfl⟩ := h
  unfold cTake mTakeC
  by_cases ha : 0 < a
  · simp -implicitDefEqProofs only [ha, h0, h1, decide_true, a_bnd, a_bok, a_bexc, a_ret, a_some, a_sok, a_sexc, a_seq, a_nx, a_rt, a_ex, a_seqO, a_nxO, a_skip, a_if, a_ite, a_iteM, a_set, a_setO, a_mret, a_mretN, a_drop, a_var, a_vfz, a_vow, a_lkd, a_lks, a_l1, a_l2, a_l3, a_fd, a_fs, a_fso, a_fzD, a_fz, a_dV, a_dVs, a_m2, a_m1, a_m2z, a_z1, a_mB, a_asB, a_not, a_and, a_or, a_andV, a_orV, a_ifE, a_tru, a_chain, a_cons, a_consD, a_call, a_la0, a_la1, a_tup, a_lst, a_fn, a_store, a_mut, a_ow1, a_ow2, a_mutS, a_for, a_for0, a_step1, a_gN, a_iter, a_items, a_par, a_slT, a_slF, a_par3, a_unp, a_runF, a_runO, a_make, a_mk1, a_mk2, a_callS, a_ag0, a_ag1, a_ag2, a_ag3, a_p1, a_p2, a_rt1, a_rt2, a_po0, a_po1, startS, slot1, List.zipWith, a_rep0, a_rep1, List.length_cons, List.length_nil, Nat.reduceAdd, Nat.reduceSub, List.cons_append, List.nil_append, Bool.false_eq_true, if_false, if_true, reduceIte, List.getElem?_cons_zero, List.getElem?_cons_succ, List.set_cons_zero, List.set_cons_succ, Option.map_some, Option.map_none, Option.bind_some, Option.bind_none, List.map_cons, List.map_nil, o_stS, o_endN, o_endR, o_endX, o_endO, o_out0, o_outT, o_outF, o_add, o_sub, o_lt, o_le, o_gt, o_ge, o_ix0, o_ix1, o_it0, o_it1, o_st0, o_st1, a_seta, a_dstar, a_star, a_meth, a_isi, a_dget1, a_dget2, a_isd, a_getS1, a_getS2, a_sup, a_raise, a_dc, a_dcE, a_lc, a_lcE, a_w0, a_w1, a_u0, a_u1, a_u2, a_u3, a_lcB, a_lcB1, a_lcB2, a_lcB3, a_dcB1, a_dcB2, a_dcB3, a_asKs, a_asKi, a_yes, o_mod, o_div, o_mul1, o_mul2, o_nd0, o_nd1, o_sz, o_lenl, o_lenr, o_lent, o_lend, o_abs, o_pow, o_listl, o_listr, o_listt, o_app, o_max, o_min, Int.reduceLT, Int.reduceNeg, Int.reduceLE, Nat.reduceLT, Nat.reduceLeDiff, Int.reduceToNat, Int.reduceMul, Int.reduceAdd, Int.reduceSub, Int.reducePow]
    exact ⟨_, _, rfl, Int.emod_nonneg _ (by omega), Int.emod_lt_of_pos _ h0, _, _, rfl⟩
  · simp -implicitDefEqProofs only [ha, h0, h1, decide_false, a_bnd, a_bok, a_bexc, a_ret, a_some, a_sok, a_sexc, a_seq, a_nx, a_rt, a_ex, a_seqO, a_nxO, a_skip, a_if, a_ite, a_iteM, a_set, a_setO, a_mret, a_mretN, a_drop, a_var, a_vfz, a_vow, a_lkd, a_lks, a_l1, a_l2, a_l3, a_fd, a_fs, a_fso, a_fzD, a_fz, a_dV, a_dVs, a_m2, a_m1, a_m2z, a_z1, a_mB, a_asB, a_not, a_and, a_or, a_andV, a_orV, a_ifE, a_tru, a_chain, a_cons, a_consD, a_call, a_la0, a_la1, a_tup, a_lst, a_fn, a_store, a_mut, a_ow1, a_ow2, a_mutS, a_for, a_for0, a_step1, a_gN, a_iter, a_items, a_par, a_slT, a_slF, a_par3, a_unp, a_runF, a_runO, a_make, a_mk1, a_mk2, a_callS, a_ag0, a_ag1, a_ag2, a_ag3, a_p1, a_p2, a_rt1, a_rt2, a_po0, a_po1, startS, slot1, List.zipWith, a_rep0, a_rep1, List.length_cons, List.length_nil, Nat.reduceAdd, Nat.reduceSub, List.cons_append, List.nil_append, Bool.false_eq_true, if_false, if_true, reduceIte, List.getElem?_cons_zero, List.getElem?_cons_succ, List.set_cons_zero, List.set_cons_succ, Option.map_some, Option.map_none, Option.bind_some, Option.bind_none, List.map_cons, List.map_nil, o_stS, o_endN, o_endR, o_endX, o_endO, o_out0, o_outT, o_outF, o_add, o_sub, o_lt, o_le, o_gt, o_ge, o_ix0, o_ix1, o_it0, o_it1, o_st0, o_st1, a_seta, a_dstar, a_star, a_meth, a_isi, a_dget1, a_dget2, a_isd, a_getS1, a_getS2, a_sup, a_raise, a_dc, a_dcE, a_lc, a_lcE, a_w0, a_w1, a_u0, a_u1, a_u2, a_u3, a_lcB, a_lcB1, a_lcB2, a_lcB3, a_dcB1, a_dcB2, a_dcB3, a_asKs, a_asKi, a_yes, o_mod, o_div, o_mul1, o_mul2, o_nd0, o_nd1, o_sz, o_lenl, o_lenr, o_lent, o_lend, o_abs, o_pow, o_listl, o_listr, o_listt, o_app, o_max, o_min, Int.reduceLT, Int.reduceNeg, Int.reduceLE, Nat.reduceLT, Nat.reduceLeDiff, Int.reduceToNat, Int.reduceMul, Int.reduceAdd, Int.reduceSub, Int.reducePow]
    exact ⟨_, _, rfl, Int.emod_nonneg _ (by omega), Int.emod_lt_of_pos _ h0, _, _, rfl⟩
theorem feed_spec {ns : List Int} {k : Int} (h0 : 0 ≤ k) (h1 : k < 1000000) : ∃ d, cFeed [.rol (ns.map D.int), .int k] = .rt d [] ∧ IsFeed d := by
  unfold cFeed mFeedC
  by_cases h : k < ns.length
  · have e : (ns.map D.int)[k.toNat]? = some (.int ns[k.toNat]) := by rw [List.getElem?_map, List.getElem?_eq_getElem (by omega)]; rfl
    simp -implicitDefEqProofs only [List.length_map, h, decide_true, o_ixr (l := ns.map D.int) h0 (by rw [List.length_map]; exact h), e, a_bnd, a_bok, a_bexc, a_ret, a_some, a_sok, a_sexc, a_seq, a_nx, a_rt, a_ex, a_seqO, a_nxO, a_skip, a_if, a_ite, a_iteM, a_set, a_setO, a_mret, a_mretN, a_drop, a_var, a_vfz, a_vow, a_lkd, a_lks, a_l1, a_l2, a_l3, a_fd, a_fs, a_fso, a_fzD, a_fz, a_dV, a_dVs, a_m2, a_m1, a_m2z, a_z1, a_mB, a_asB, a_not, a_and, a_or, a_andV, a_orV, a_ifE, a_tru, a_chain, a_cons, a_consD, a_call, a_la0, a_la1, a_tup, a_lst, a_fn, a_store, a_mut, a_ow1, a_ow2, a_mutS, a_for, a_for0, a_step1, a_gN, a_iter, a_items, a_par, a_slT, a_slF, a_par3, a_unp, a_runF, a_runO, a_make, a_mk1, a_mk2, a_callS, a_ag0, a_ag1, a_ag2, a_ag3, a_p1, a_p2, a_rt1, a_rt2, a_po0, a_po1, startS, slot1, List.zipWith, a_rep0, a_rep1, List.length_cons, List.length_nil, Nat.reduceAdd, Nat.reduceSub, List.cons_append, List.nil_append, Bool.false_eq_true, if_false, if_true, reduceIte, List.getElem?_cons_zero, List.getElem?_cons_succ, List.set_cons_zero, List.set_cons_succ, Option.map_some, Option.map_none, Option.bind_some, Option.bind_none, List.map_cons, List.map_nil, o_stS, o_endN, o_endR, o_endX, o_endO, o_out0, o_outT, o_outF, o_add, o_sub, o_lt, o_le, o_gt, o_ge, o_ix0, o_ix1, o_it0, o_it1, o_st0, o_st1, a_seta, a_dstar, a_star, a_meth, a_isi, a_dget1, a_dget2, a_isd, a_getS1, a_getS2, a_sup, a_raise, a_dc, a_dcE, a_lc, a_lcE, a_w0, a_w1, a_u0, a_u1, a_u2, a_u3, a_lcB, a_lcB1, a_lcB2, a_lcB3, a_dcB1, a_dcB2, a_dcB3, a_asKs, a_asKi, a_yes, o_mod, o_div, o_mul1, o_mul2, o_nd0, o_nd1, o_sz, o_lenl, o_lenr, o_lent, o_lend, o_abs, o_pow, o_listl, o_listr, o_listt, o_app, o_max, o_min, Int.reduceLT, Int.reduceNeg, Int.reduceLE, Nat.reduceLT, Nat.reduceLeDiff, Int.reduceToNat, Int.reduceMul, Int.reduceAdd, Int.reduceSub, Int.reducePow]
    generalize (if ns[k.toNat] < 0 then -ns[k.toNat] else ns[k.toNat]) = c
    by_cases hc : 1000000000000000000 ≤ c
    · simp -implicitDefEqProofs only [hc, decide_true, a_bnd, a_bok, a_bexc, a_ret, a_some, a_sok, a_sexc, a_seq, a_nx, a_rt, a_ex, a_seqO, a_nxO, a_skip, a_if, a_ite, a_iteM, a_set, a_setO, a_mret, a_mretN, a_drop, a_var, a_vfz, a_vow, a_lkd, a_lks, a_l1, a_l2, a_l3, a_fd, a_fs, a_fso, a_fzD, a_fz, a_dV, a_dVs, a_m2, a_m1, a_m2z, a_z1, a_mB, a_asB, a_not, a_and, a_or, a_andV, a_orV, a_ifE, a_tru, a_chain, a_cons, a_consD, a_call, a_la0, a_la1, a_tup, a_lst, a_fn, a_store, a_mut, a_ow1, a_ow2, a_mutS, a_for, a_for0, a_step1, a_gN, a_iter, a_items, a_par, a_slT, a_slF, a_par3, a_unp, a_runF, a_runO, a_make, a_mk1, a_mk2, a_callS, a_ag0, a_ag1, a_ag2, a_ag3, a_p1, a_p2, a_rt1, a_rt2, a_po0, a_po1, startS, slot1, List.zipWith, a_rep0, a_rep1, List.length_cons, List.length_nil, Nat.reduceAdd, Nat.reduceSub, List.cons_append, List.nil_append, Bool.false_eq_true, if_false, if_true, reduceIte, List.getElem?_cons_zero, List.getElem?_cons_succ, List.set_cons_zero, List.set_cons_succ, Option.map_some, Option.map_none, Option.bind_some, Option.bind_none, List.map_cons, List.map_nil, o_stS, o_endN, o_endR, o_endX, o_endO, o_out0, o_outT, o_outF, o_add, o_sub, o_lt, o_le, o_gt, o_ge, o_ix0, o_ix1, o_it0, o_it1, o_st0, o_st1, a_seta, a_dstar, a_star, a_meth, a_isi, a_dget1, a_dget2, a_isd, a_getS1, a_getS2, a_sup, a_raise, a_dc, a_dcE, a_lc, a_lcE, a_w0, a_w1, a_u0, a_u1, a_u2, a_u3, a_lcB, a_lcB1, a_lcB2, a_lcB3, a_dcB1, a_dcB2, a_dcB3, a_asKs, a_asKi, a_yes, o_mod, o_div, o_mul1, o_mul2, o_nd0, o_nd1, o_sz, o_lenl, o_lenr, o_lent, o_lend, o_abs, o_pow, o_listl, o_listr, o_listt, o_app, o_max, o_min, Int.reduceLT, Int.reduceNeg, Int.reduceLE, Nat.reduceLT, Nat.reduceLeDiff, Int.reduceToNat, Int.reduceMul, Int.reduceAdd, Int.reduceSub, Int.reducePow]
      exact ⟨_, rfl, _, _, rfl⟩
    · simp -implicitDefEqProofs only [hc, decide_false, a_bnd, a_bok, a_bexc, a_ret, a_some, a_sok, a_sexc, a_seq, a_nx, a_rt, a_ex, a_seqO, a_nxO, a_skip, a_if, a_ite, a_iteM, a_set, a_setO, a_mret, a_mretN, a_drop, a_var, a_vfz, a_vow, a_lkd, a_lks, a_l1, a_l2, a_l3, a_fd, a_fs, a_fso, a_fzD, a_fz, a_dV, a_dVs, a_m2, a_m1, a_m2z, a_z1, a_mB, a_asB, a_not, a_and, a_or, a_andV, a_orV, a_ifE, a_tru, a_chain, a_cons, a_consD, a_call, a_la0, a_la1, a_tup, a_lst, a_fn, a_store, a_mut, a_ow1, a_ow2, a_mutS, a_for, a_for0, a_step1, a_gN, a_iter, a_items, a_par, a_slT, a_slF, a_par3, a_unp, a_runF, a_runO, a_make, a_mk1, a_mk2, a_callS, a_ag0, a_ag1, a_ag2, a_ag3, a_p1, a_p2, a_rt1, a_rt2, a_po0, a_po1, startS, slot1, List.zipWith, a_rep0, a_rep1, List.length_cons, List.length_nil, Nat.reduceAdd, Nat.reduceSub, List.cons_append, List.nil_append, Bool.false_eq_true, if_false, if_true, reduceIte, List.getElem?_cons_zero, List.getElem?_cons_succ, List.set_cons_zero, List.set_cons_succ, Option.map_some, Option.map_none, Option.bind_some, Option.bind_none, List.map_cons, List.map_nil, o_stS, o_endN, o_endR, o_endX, o_endO, o_out0, o_outT, o_outF, o_add, o_sub, o_lt, o_le, o_gt, o_ge, o_ix0, o_ix1, o_it0, o_it1, o_st0, o_st1, a_seta, a_dstar, a_star, a_meth, a_isi, a_dget1, a_dget2, a_isd, a_getS1, a_getS2, a_sup, a_raise, a_dc, a_dcE, a_lc, a_lcE, a_w0, a_w1, a_u0, a_u1, a_u2, a_u3, a_lcB, a_lcB1, a_lcB2, a_lcB3, a_dcB1, a_dcB2, a_dcB3, a_asKs, a_asKi, a_yes, o_mod, o_div, o_mul1, o_mul2, o_nd0, o_nd1, o_sz, o_lenl, o_lenr, o_lent, o_lend, o_abs, o_pow, o_listl, o_listr, o_listt, o_app, o_max, o_min, Int.reduceLT, Int.reduceNeg, Int.reduceLE, Nat.reduceLT, Nat.reduceLeDiff, Int.reduceToNat, Int.reduceMul, Int.reduceAdd, Int.reduceSub, Int.reducePow]
      exact ⟨_, rfl, _, _, rfl⟩
  · by_cases hl : (0 : Int) < ns.length
    · have hb : (k % ns.length).toNat < ns.length := by have := Int.emod_lt_of_pos k hl; have := Int.emod_nonneg k (show (ns.length : Int) ≠ 0 by omega); omega
      have e : (ns.map D.int)[(k % ns.length).toNat]? = some (.int ns[(k % ns.length).toNat]) := by rw [List.getElem?_map, List.getElem?_eq_getElem hb]; rfl
      simp -implicitDefEqProofs only [List.length_map, h, hl, decide_true, decide_false, o_mod hl, o_ixr (l := ns.map D.int) (Int.emod_nonneg k (show (ns.length : Int) ≠ 0 by omega)) (by rw [List.length_map]; exact Int.emod_lt_of_pos k hl), e, a_bnd, a_bok, a_bexc, a_ret, a_some, a_sok, a_sexc, a_seq, a_nx, a_rt, a_ex, a_seqO, a_nxO, a_skip, a_if, a_ite, a_iteM, a_set, a_setO, a_mret, a_mretN, a_drop, a_var, a_vfz, a_vow, a_lkd, a_lks, a_l1, a_l2, a_l3, a_fd, a_fs, a_fso, a_fzD, a_fz, a_dV, a_dVs, a_m2, a_m1, a_m2z, a_z1, a_mB, a_asB, a_not, a_and, a_or, a_andV, a_orV, a_ifE, a_tru, a_chain, a_cons, a_consD, a_call, a_la0, a_la1, a_tup, a_lst, a_fn, a_store, a_mut, a_ow1, a_ow2, a_mutS, a_for, a_for0, a_step1, a_gN, a_iter, a_items, a_par, a_slT, a_slF, a_par3, a_unp, a_runF, a_runO, a_make, a_mk1, a_mk2, a_callS, a_ag0, a_ag1, a_ag2, a_ag3, a_p1, a_p2, a_rt1, a_rt2, a_po0, a_po1, startS, slot1, List.zipWith, a_rep0, a_rep1, List.length_cons, List.length_nil, Nat.reduceAdd, Nat.reduceSub, List.cons_append, List.nil_append, Bool.false_eq_true, if_false, if_true, reduceIte, List.getElem?_cons_zero, List.getElem?_cons_succ, List.set_cons_zero, List.set_cons_succ, Option.map_some, Option.map_none, Option.bind_some, Option.bind_none, List.map_cons, List.map_nil, o_stS, o_endN, o_endR, o_endX, o_endO, o_out0, o_outT, o_outF, o_add, o_sub, o_lt, o_le, o_gt, o_ge, o_ix0, o_ix1, o_it0, o_it1, o_st0, o_st1, a_seta, a_dstar, a_star, a_meth, a_isi, a_dget1, a_dget2, a_isd, a_getS1, a_getS2, a_sup, a_raise, a_dc, a_dcE, a_lc, a_lcE, a_w0, a_w1, a_u0, a_u1, a_u2, a_u3, a_lcB, a_lcB1, a_lcB2, a_lcB3, a_dcB1, a_dcB2, a_dcB3, a_asKs, a_asKi, a_yes, o_mod, o_div, o_mul1, o_mul2, o_nd0, o_nd1, o_sz, o_lenl, o_lenr, o_lent, o_lend, o_abs, o_pow, o_listl, o_listr, o_listt, o_app, o_max, o_min, Int.reduceLT, Int.reduceNeg, Int.reduceLE, Nat.reduceLT, Nat.reduceLeDiff, Int.reduceToNat, Int.reduceMul, Int.reduceAdd, Int.reduceSub, Int.reducePow]
      generalize (if ns[(k % ns.length).toNat] < 0 then -ns[(k % ns.length).toNat] else ns[(k % ns.length).toNat]) = c
      by_cases hc : 1000000000000000000 ≤ c % 2147483629 * 31 + 7919 * k
      · simp -implicitDefEqProofs only [hc, decide_true, a_bnd, a_bok, a_bexc, a_ret, a_some, a_sok, a_sexc, a_seq, a_nx, a_rt, a_ex, a_seqO, a_nxO, a_skip, a_if, a_ite, a_iteM, a_set, a_setO, a_mret, a_mretN, a_drop, a_var, a_vfz, a_vow, a_lkd, a_lks, a_l1, a_l2, a_l3, a_fd, a_fs, a_fso, a_fzD, a_fz, a_dV, a_dVs, a_m2, a_m1, a_m2z, a_z1, a_mB, a_asB, a_not, a_and, a_or, a_andV, a_orV, a_ifE, a_tru, a_chain, a_cons, a_consD, a_call, a_la0, a_la1, a_tup, a_lst, a_fn, a_store, a_mut, a_ow1, a_ow2, a_mutS, a_for, a_for0, a_step1, a_gN, a_iter, a_items, a_par, a_slT, a_slF, a_par3, a_unp, a_runF, a_runO, a_make, a_mk1, a_mk2, a_callS, a_ag0, a_ag1, a_ag2, a_ag3, a_p1, a_p2, a_rt1, a_rt2, a_po0, a_po1, startS, slot1, List.zipWith, a_rep0, a_rep1, List.length_cons, List.length_nil, Nat.reduceAdd, Nat.reduceSub, List.cons_append, List.nil_append, Bool.false_eq_true, if_false, if_true, reduceIte, List.getElem?_cons_zero, List.getElem?_cons_succ, List.set_cons_zero, List.set_cons_succ, Option.map_some, Option.map_none, Option.bind_some, Option.bind_none, List.map_cons, List.map_nil, o_stS, o_endN, o_endR, o_endX, o_endO, o_out0, o_outT, o_outF, o_add, o_sub, o_lt, o_le, o_gt, o_ge, o_ix0, o_ix1, o_it0, o_it1, o_st0, o_st1, a_seta, a_dstar, a_star, a_meth, a_isi, a_dget1, a_dget2, a_isd, a_getS1, a_getS2, a_sup, a_raise, a_dc, a_dcE, a_lc, a_lcE, a_w0, a_w1, a_u0, a_u1, a_u2, a_u3, a_lcB, a_lcB1, a_lcB2, a_lcB3, a_dcB1, a_dcB2, a_dcB3, a_asKs, a_asKi, a_yes, o_mod, o_div, o_mul1, o_mul2, o_nd0, o_nd1, o_sz, o_lenl, o_lenr, o_lent, o_lend, o_abs, o_pow, o_listl, o_listr, o_listt, o_app, o_max, o_min, Int.reduceLT, Int.reduceNeg, Int.reduceLE, Nat.reduceLT, Nat.reduceLeDiff, Int.reduceToNat, Int.reduceMul, Int.reduceAdd, Int.reduceSub, Int.reducePow]
        exact ⟨_, rfl, _, _, rfl⟩
      · simp -implicitDefEqProofs only [hc, decide_false, a_bnd, a_bok, a_bexc, a_ret, a_some, a_sok, a_sexc, a_seq, a_nx, a_rt, a_ex, a_seqO, a_nxO, a_skip, a_if, a_ite, a_iteM, a_set, a_setO, a_mret, a_mretN, a_drop, a_var, a_vfz, a_vow, a_lkd, a_lks, a_l1, a_l2, a_l3, a_fd, a_fs, a_fso, a_fzD, a_fz, a_dV, a_dVs, a_m2, a_m1, a_m2z, a_z1, a_mB, a_asB, a_not, a_and, a_or, a_andV, a_orV, a_ifE, a_tru, a_chain, a_cons, a_consD, a_call, a_la0, a_la1, a_tup, a_lst, a_fn, a_store, a_mut, a_ow1, a_ow2, a_mutS, a_for, a_for0, a_step1, a_gN, a_iter, a_items, a_par, a_slT, a_slF, a_par3, a_unp, a_runF, a_runO, a_make, a_mk1, a_mk2, a_callS, a_ag0, a_ag1, a_ag2, a_ag3, a_p1, a_p2, a_rt1, a_rt2, a_po0, a_po1, startS, slot1, List.zipWith, a_rep0, a_rep1, List.length_cons, List.length_nil, Nat.reduceAdd, Nat.reduceSub, List.cons_append, List.nil_append, Bool.false_eq_true, if_false, if_true, reduceIte, List.getElem?_cons_zero, List.getElem?_cons_succ, List.set_cons_zero, List.set_cons_succ, Option.map_some, Option.map_none, Option.bind_some, Option.bind_none, List.map_cons, List.map_nil, o_stS, o_endN, o_endR, o_endX, o_endO, o_out0, o_outT, o_outF, o_add, o_sub, o_lt, o_le, o_gt, o_ge, o_ix0, o_ix1, o_it0, o_it1, o_st0, o_st1, a_seta, a_dstar, a_star, a_meth, a_isi, a_dget1, a_dget2, a_isd, a_getS1, a_getS2, a_sup, a_raise, a_dc, a_dcE, a_lc, a_lcE, a_w0, a_w1, a_u0, a_u1, a_u2, a_u3, a_lcB, a_lcB1, a_lcB2, a_lcB3, a_dcB1, a_dcB2, a_dcB3, a_asKs, a_asKi, a_yes, o_mod, o_div, o_mul1, o_mul2, o_nd0, o_nd1, o_sz, o_lenl, o_lenr, o_lent, o_lend, o_abs, o_pow, o_listl, o_listr, o_listt, o_app, o_max, o_min, Int.reduceLT, Int.reduceNeg, Int.reduceLE, Nat.reduceLT, Nat.reduceLeDiff, Int.reduceToNat, Int.reduceMul, Int.reduceAdd, Int.reduceSub, Int.reducePow]
        exact ⟨_, rfl, _, _, rfl⟩
    · simp -implicitDefEqProofs only [List.length_map, h, hl, decide_false, a_bnd, a_bok, a_bexc, a_ret, a_some, a_sok, a_sexc, a_seq, a_nx, a_rt, a_ex, a_seqO, a_nxO, a_skip, a_if, a_ite, a_iteM, a_set, a_setO, a_mret, a_mretN, a_drop, a_var, a_vfz, a_vow, a_lkd, a_lks, a_l1, a_l2, a_l3, a_fd, a_fs, a_fso, a_fzD, a_fz, a_dV, a_dVs, a_m2, a_m1, a_m2z, a_z1, a_mB, a_asB, a_not, a_and, a_or, a_andV, a_orV, a_ifE, a_tru, a_chain, a_cons, a_consD, a_call, a_la0, a_la1, a_tup, a_lst, a_fn, a_store, a_mut, a_ow1, a_ow2, a_mutS, a_for, a_for0, a_step1, a_gN, a_iter, a_items, a_par, a_slT, a_slF, a_par3, a_unp, a_runF, a_runO, a_make, a_mk1, a_mk2, a_callS, a_ag0, a_ag1, a_ag2, a_ag3, a_p1, a_p2, a_rt1, a_rt2, a_po0, a_po1, startS, slot1, List.zipWith, a_rep0, a_rep1, List.length_cons, List.length_nil, Nat.reduceAdd, Nat.reduceSub, List.cons_append, List.nil_append, Bool.false_eq_true, if_false, if_true, reduceIte, List.getElem?_cons_zero, List.getElem?_cons_succ, List.set_cons_zero, List.set_cons_succ, Option.map_some, Option.map_none, Option.bind_some, Option.bind_none, List.map_cons, List.map_nil, o_stS, o_endN, o_endR, o_endX, o_endO, o_out0, o_outT, o_outF, o_add, o_sub, o_lt, o_le, o_gt, o_ge, o_ix0, o_ix1, o_it0, o_it1, o_st0, o_st1, a_seta, a_dstar, a_star, a_meth, a_isi, a_dget1, a_dget2, a_isd, a_getS1, a_getS2, a_sup, a_raise, a_dc, a_dcE, a_lc, a_lcE, a_w0, a_w1, a_u0, a_u1, a_u2, a_u3, a_lcB, a_lcB1, a_lcB2, a_lcB3, a_dcB1, a_dcB2, a_dcB3, a_asKs, a_asKi, a_yes, o_mod, o_div, o_mul1, o_mul2, o_nd0, o_nd1, o_sz, o_lenl, o_lenr, o_lent, o_lend, o_abs, o_pow, o_listl, o_listr, o_listt, o_app, o_max, o_min, Int.reduceLT, Int.reduceNeg, Int.reduceLE, Nat.reduceLT, Nat.reduceLeDiff, Int.reduceToNat, Int.reduceMul, Int.reduceAdd, Int.reduceSub, Int.reducePow]
      by_cases hc : 1000000000000000000 ≤ 7919 * k + 30103
      · simp -implicitDefEqProofs only [hc, decide_true, a_bnd, a_bok, a_bexc, a_ret, a_some, a_sok, a_sexc, a_seq, a_nx, a_rt, a_ex, a_seqO, a_nxO, a_skip, a_if, a_ite, a_iteM, a_set, a_setO, a_mret, a_mretN, a_drop, a_var, a_vfz, a_vow, a_lkd, a_lks, a_l1, a_l2, a_l3, a_fd, a_fs, a_fso, a_fzD, a_fz, a_dV, a_dVs, a_m2, a_m1, a_m2z, a_z1, a_mB, a_asB, a_not, a_and, a_or, a_andV, a_orV, a_ifE, a_tru, a_chain, a_cons, a_consD, a_call, a_la0, a_la1, a_tup, a_lst, a_fn, a_store, a_mut, a_ow1, a_ow2, a_mutS, a_for, a_for0, a_step1, a_gN, a_iter, a_items, a_par, a_slT, a_slF, a_par3, a_unp, a_runF, a_runO, a_make, a_mk1, a_mk2, a_callS, a_ag0, a_ag1, a_ag2, a_ag3, a_p1, a_p2, a_rt1, a_rt2, a_po0, a_po1, startS, slot1, List.zipWith, a_rep0, a_rep1, List.length_cons, List.length_nil, Nat.reduceAdd, Nat.reduceSub, List.cons_append, List.nil_append, Bool.false_eq_true, if_false, if_true, reduceIte, List.getElem?_cons_zero, List.getElem?_cons_succ, List.set_cons_zero, List.set_cons_succ, Option.map_some, Option.map_none, Option.bind_some, Option.bind_none, List.map_cons, List.map_nil, o_stS, o_endN, o_endR, o_endX, o_endO, o_out0, o_outT, o_outF, o_add, o_sub, o_lt, o_le, o_gt, o_ge, o_ix0, o_ix1, o_it0, o_it1, o_st0, o_st1, a_seta, a_dstar, a_star, a_meth, a_isi, a_dget1, a_dget2, a_isd, a_getS1, a_getS2, a_sup, a_raise, a_dc, a_dcE, a_lc, a_lcE, a_w0, a_w1, a_u0, a_u1, a_u2, a_u3, a_lcB, a_lcB1, a_lcB2, a_lcB3, a_dcB1, a_dcB2, a_dcB3, a_asKs, a_asKi, a_yes, o_mod, o_div, o_mul1, o_mul2, o_nd0, o_nd1, o_sz, o_lenl, o_lenr, o_lent, o_lend, o_abs, o_pow, o_listl, o_listr, o_listt, o_app, o_max, o_min, Int.reduceLT, Int.reduceNeg, Int.reduceLE, Nat.reduceLT, Nat.reduceLeDiff, Int.reduceToNat, Int.reduceMul, Int.reduceAdd, Int.reduceSub, Int.reducePow]
        exact ⟨_, rfl, _, _, rfl⟩
      · simp -implicitDefEqProofs only [hc, decide_false, a_bnd, a_bok, a_bexc, a_ret, a_some, a_sok, a_sexc, a_seq, a_nx, a_rt, a_ex, a_seqO, a_nxO, a_skip, a_if, a_ite, a_iteM, a_set, a_setO, a_mret, a_mretN, a_drop, a_var, a_vfz, a_vow, a_lkd, a_lks, a_l1, a_l2, a_l3, a_fd, a_fs, a_fso, a_fzD, a_fz, a_dV, a_dVs, a_m2, a_m1, a_m2z, a_z1, a_mB, a_asB, a_not, a_and, a_or, a_andV, a_orV, a_ifE, a_tru, a_chain, a_cons, a_consD, a_call, a_la0, a_la1, a_tup, a_lst, a_fn, a_store, a_mut, a_ow1, a_ow2, a_mutS, a_for, a_for0, a_step1, a_gN, a_iter, a_items, a_par, a_slT, a_slF, a_par3, a_unp, a_runF, a_runO, a_make, a_mk1, a_mk2, a_callS, a_ag0, a_ag1, a_ag2, a_ag3, a_p1, a_p2, a_rt1, a_rt2, a_po0, a_po1, startS, slot1, List.zipWith, a_rep0, a_rep1, List.length_cons, List.length_nil, Nat.reduceAdd, Nat.reduceSub, List.cons_append, List.nil_append, Bool.false_eq_true, if_false, if_true, reduceIte, List.getElem?_cons_zero, List.getElem?_cons_succ, List.set_cons_zero, List.set_cons_succ, Option.map_some, Option.map_none, Option.bind_some, Option.bind_none, List.map_cons, List.map_nil, o_stS, o_endN, o_endR, o_endX, o_endO, o_out0, o_outT, o_outF, o_add, o_sub, o_lt, o_le, o_gt, o_ge, o_ix0, o_ix1, o_it0, o_it1, o_st0, o_st1, a_seta, a_dstar, a_star, a_meth, a_isi, a_dget1, a_dget2, a_isd, a_getS1, a_getS2, a_sup, a_raise, a_dc, a_dcE, a_lc, a_lcE, a_w0, a_w1, a_u0, a_u1, a_u2, a_u3, a_lcB, a_lcB1, a_lcB2, a_lcB3, a_dcB1, a_dcB2, a_dcB3, a_asKs, a_asKi, a_yes, o_mod, o_div, o_mul1, o_mul2, o_nd0, o_nd1, o_sz, o_lenl, o_lenr, o_lent, o_lend, o_abs, o_pow, o_listl, o_listr, o_listt, o_app, o_max, o_min, Int.reduceLT, Int.reduceNeg, Int.reduceLE, Nat.reduceLT, Nat.reduceLeDiff, Int.reduceToNat, Int.reduceMul, Int.reduceAdd, Int.reduceSub, Int.reducePow]
        exact ⟨_, rfl, _, _, rfl⟩
end Dl
namespace Dl
open PySem PySem.Spec PyProof.Rows L2 He Lp
theorem valK_nil (k : Key) : valK [] k = none := rfl
theorem valK_cons (j k : Key) (d : D) (l : List (Key × D)) : valK ((j, d) :: l) k = if j = k then some d else valK l k := by
  unfold valK
  rw [List.find?_cons]
  by_cases h : j = k
  · simp [h]
  · simp [h]
theorem valK_map (k j : Key) (d : D) : ∀ l : List (Key × D), valK (l.map fun kv => if kv.1 = k then (kv.1, d) else kv) j = if j = k then (valK l j).map (fun _ => d) else valK l j
  | [] => by simp [valK]
  | (i, e) :: l => by
    rw [List.map_cons]
    have ih := valK_map k j d l
    by_cases h : i = k
    · simp only [h, if_true]
      rw [valK_cons, valK_cons, ih]
      by_cases hj : k = j
      · subst hj; simp
      · simp [hj, Ne.symm hj]
    · simp only [h, if_false]
      rw [valK_cons, valK_cons, ih]
      by_cases hj : i = j
      · subst hj; simp [h]
      · simp [hj]
theorem any_valK (k : Key) : ∀ l : List (Key × D), (l.any fun kv => decide (kv.1 = k)) = (valK l k).isSome
  | [] => rfl
  | (i, e) :: l => by
    rw [List.any_cons, valK_cons, any_valK k l]
    by_cases h : i = k <;> simp [h]
theorem valK_app (j : Key) : ∀ (l m : List (Key × D)), valK (l ++ m) j = (valK l j).or (valK m j)
  | [], m => by simp [valK_nil]
  | (i, e) :: l, m => by
    rw [List.cons_append, valK_cons, valK_cons, valK_app j l m]
    by_cases h : i = j <;> simp [h]
theorem valK_put (l : List (Key × D)) (k j : Key) (d : D) : valK (putD l k d) j = if j = k then some d else valK l j := by
  unfold putD
  rw [any_valK]
  cases h : valK l k with
  | some e =>
    simp only [Option.isSome_some, if_true]
    rw [valK_map]
    by_cases hj : j = k
    · subst hj; simp [h]
    · simp [hj]
  | none =>
    simp only [Option.isSome_none, Bool.false_eq_true, if_false]
    rw [valK_app, valK_cons, valK_nil]
    by_cases hj : j = k
    · subst hj; simp [h]
    · simp [hj, Ne.symm hj]
def TK (l : List (Key × D)) : Prop := (l.map (·.1)).Nodup ∧ ∀ p ∈ l, ∃ x : Str, p.1 = .inr x
theorem mem_valK {l : List (Key × D)} (h : (l.map (·.1)).Nodup) {k : Key} {d : D} : valK l k = some d ↔ (k, d) ∈ l := by
  induction l with
  | nil => simp [valK_nil]
  | cons p l ih =>
    obtain ⟨i, e⟩ := p
    rw [List.map_cons, List.nodup_cons] at h
    rw [valK_cons, List.mem_cons]
    by_cases hi : i = k
    · subst hi
      simp only [if_true, Option.some.injEq, Prod.mk.injEq, true_and]
      constructor
      · intro z; exact .inl z.symm
      · rintro (z | z)
        · exact z.symm
        · exact absurd (List.mem_map.mpr ⟨_, z, rfl⟩) h.1
    · simp only [hi, if_false, Prod.mk.injEq]
      rw [ih h.2]
      constructor
      · exact .inr
      · rintro (z | z)
        · exact absurd z.1.symm hi
        · exact z
theorem key_valK {l : List (Key × D)} {k : Key} : k ∈ l.map (·.1) ↔ (valK l k).isSome = true := by
  rw [← any_valK]
  simp [List.any_eq_true]
theorem TK.put {l : List (Key × D)} (h : TK l) (x : Str) (d : D) : TK (putD l (.inr x) d) := by
  unfold putD
  split
  · refine ⟨?_, fun p hp => ?_⟩
    · have e : (l.map fun kv => if kv.1 = Sum.inr x then (kv.1, d) else kv).map (·.1) = l.map (·.1) := by
        rw [List.map_map]
        apply List.map_congr_left
        intro p _
        simp only [Function.comp]
        split <;> rfl
      rw [e]; exact h.1
    · obtain ⟨q, hq, e⟩ := List.mem_map.mp hp
      obtain ⟨y, hy⟩ := h.2 q hq
      subst e
      split
      · exact ⟨y, hy⟩
      · exact ⟨y, hy⟩
  · rename_i hn
    have hn' : Sum.inr x ∉ l.map (·.1) := by
      rw [key_valK, ← any_valK]; exact hn
    refine ⟨?_, fun p hp => ?_⟩
    · rw [List.map_append, List.nodup_append]
      refine ⟨h.1, by simp, fun a ha b hb => ?_⟩
      simp only [List.map_cons, List.map_nil, List.mem_singleton] at hb
      subst hb
      exact fun z => hn' (z ▸ ha)
    · rcases List.mem_append.mp hp with hp | hp
      · exact h.2 p hp
      · rw [List.mem_singleton.mp hp]; exact ⟨x, rfl⟩
theorem TK.nil : TK [] := ⟨List.nodup_nil, fun p h => nomatch h⟩
theorem TK.drop {l : List (Key × D)} (h : TK l) (k : Key) : TK (dropD l k) := by
  unfold dropD
  exact ⟨h.1.sublist (List.filter_sublist.map _), fun p hp => h.2 p (List.mem_filter.mp hp).1⟩
theorem TK.strs : ∀ {l : List (Key × D)}, TK l → ∃ xs : List Str, keyStrs l = some xs ∧ l.map (·.1) = xs.map Sum.inr
  | [], _ => ⟨[], rfl, rfl⟩
  | (k, d) :: l, h => by
    obtain ⟨x, hx⟩ := h.2 _ (List.mem_cons_self ..)
    have hx : k = .inr x := hx
    subst hx
    obtain ⟨xs, e1, e2⟩ := TK.strs (l := l) ⟨(List.nodup_cons.mp h.1).2, fun p hp => h.2 p (List.mem_cons_of_mem _ hp)⟩
    exact ⟨x :: xs, by simp only [keyStrs, e1]; rfl, by rw [List.map_cons, e2]; rfl⟩
def ksOf (l : List (Key × D)) : List Str := (keyStrs l).getD []
def nmsOf (l : List (Key × D)) : List Str := sortS (ksOf l)
theorem TK.ks {l : List (Key × D)} (h : TK l) : keyStrs l = some (ksOf l) ∧ l.map (·.1) = (ksOf l).map Sum.inr := by
  obtain ⟨xs, e1, e2⟩ := h.strs
  unfold ksOf
  rw [e1]
  exact ⟨rfl, e2⟩
theorem inr_inj {a b : Str} (h : (Sum.inr a : Key) = Sum.inr b) : a = b := by injection h
theorem nd_inr : ∀ {l : List Str}, (l.map (Sum.inr : Str → Key)).Nodup ↔ l.Nodup
  | [] => by simp
  | x :: l => by
    rw [List.map_cons, List.nodup_cons, List.nodup_cons, nd_inr (l := l)]
    have : (Sum.inr x : Key) ∈ l.map Sum.inr ↔ x ∈ l := by
      constructor
      · intro z
        obtain ⟨y, hy, e⟩ := List.mem_map.mp z
        rw [← inr_inj e]; exact hy
      · intro z; exact List.mem_map.mpr ⟨x, z, rfl⟩
    rw [this]
theorem TK.nd {l : List (Key × D)} (h : TK l) : (ksOf l).Nodup := by
  have := h.1
  rw [h.ks.2] at this
  exact nd_inr.mp this
theorem TK.mem {l : List (Key × D)} (h : TK l) (x : Str) : x ∈ ksOf l ↔ (valK l (.inr x)).isSome = true := by
  rw [← key_valK, h.ks.2]
  constructor
  · intro z; exact List.mem_map.mpr ⟨x, z, rfl⟩
  · intro z
    obtain ⟨y, hy, e⟩ := List.mem_map.mp z
    rw [← inr_inj e]; exact hy
theorem mem_nms {l : List (Key × D)} (h : TK l) (x : Str) : x ∈ nmsOf l ↔ (valK l (.inr x)).isSome = true := by
  unfold nmsOf
  rw [(sortS_perm _).mem_iff, h.mem]
end Dl
namespace Dl
open PySem PySem.Spec PyProof.Rows L2 He Lp
end Dl
namespace Dl
open PySem PySem.Spec PyProof.Rows L2 He Lp
def isLet (c : Nat) : Prop := 97 ≤ c ∧ c ≤ 122
def isFig (c : Nat) : Prop := 48 ≤ c ∧ c ≤ 57
def NmL : List Nat → Prop
  | [] => False
  | c :: r => isLet c ∧ r.length ≤ 5 ∧ ∀ d ∈ r, isLet d ∨ isFig d
def Nm (x : Str) : Prop := NmL x.cps.toList
theorem len_app (a b : Str) : (a ++ b).length = a.length + b.length := by
  show (a.cps ++ b.cps).size = _
  rw [Array.size_append]; rfl
def smI (i : Int) : Prop := i.natAbs < 1267650600228229401496703205376
theorem sm_log {i : Int} (h : smI i) : i.natAbs.log2 < 1920 := by
  unfold smI at h
  by_cases h0 : i.natAbs = 0
  · rw [h0]; decide
  · have := (Nat.log2_lt h0 (k := 100)).mpr (by simpa using h)
    omega
theorem valK_putS (l : List (Key × D)) (x y : Str) (d : D) : valK (putD l (.inr x) d) (.inr y) = if y = x then some d else valK l (.inr y) := by
  rw [valK_put]
  by_cases hy : y = x
  · subst hy; simp
  · have : ¬ (Sum.inr y : Key) = Sum.inr x := fun z => hy (inr_inj z)
    simp [this, hy]
theorem tk {d : D} {m : Int} (h : IsFeed d) (h0 : 0 < m) (h1 : m < 1267650600228229401496703205376) : ∃ (r : Int) (d' : D), cTake [d, .int m] = .rt (.int r) [d'] ∧ 0 ≤ r ∧ r < m ∧ IsFeed d' := take_spec h h0 h1
theorem g2 (i j : Nat) (a b : D) (s : S) : gTup 2 (gCons (gN i) (gCons (gN j) gNil)) (.tup [a, b]) s = some ((s.set i (.fz a)).set j (.fz b)) := rfl
instance (c : Nat) : Decidable (isLet c) := inferInstanceAs (Decidable (_ ∧ _))
instance (c : Nat) : Decidable (isFig c) := inferInstanceAs (Decidable (_ ∧ _))
instance : ∀ l : List Nat, Decidable (NmL l)
  | [] => .isFalse id
  | c :: r => inferInstanceAs (Decidable (_ ∧ _ ∧ _))
instance (x : Str) : Decidable (Nm x) := inferInstanceAs (Decidable (NmL _))
theorem cps_app (a b : Str) : (a ++ b).cps.toList = a.cps.toList ++ b.cps.toList := by
  show (a.cps ++ b.cps).toList = _
  rw [Array.toList_append]
def one (c : Nat) : Str := ⟨#[c]⟩
end Dl
namespace Dl
open PySem PySem.Spec PyProof.Rows L2 He Lp
def NmW (w : Str) : Prop := Nm w ∧ w ≠ "qqqqq1"
instance (w : Str) : Decidable (NmW w) := inferInstanceAs (Decidable (_ ∧ _))
end Dl
namespace Dl
open PySem PySem.Spec PyProof.Rows L2 He Lp
end Dl
namespace Dl
open PySem PySem.Spec PyProof.Rows L2 He Lp
def Asc (x : Str) : Prop := ∀ c ∈ x.cps.toList, c < 128
end Dl
namespace Dl
open PySem PySem.Spec PyProof.Rows L2 He Lp
theorem str_eq {x y : Str} (h : x.cps.toList = y.cps.toList) : x = y := by
  obtain ⟨⟨a⟩⟩ := x
  obtain ⟨⟨b⟩⟩ := y
  simp at h
  subst h
  rfl
theorem n_str (a b : Str) : neA (.str a) (.str b) = some (.bl !(decide (a = b))) := by
  show some (D.bl !(a == b)) = _
  congr 3
abbrev DigL (l : List Nat) : Prop := (1 ≤ l.length ∧ l.length ≤ 13) ∧ ∀ c ∈ l, isFig c
def figV (l : List Nat) : Option Nat := if DigL l ∧ (l = [48] ∨ l.head? ≠ some 48) then some (NumText.digitsVal l) else none
def numL (l : List Nat) : Option Int := if l.head? = some 45 then (match figV l.tail with
    | some n => if n = 0 then none else some (-(n : Int))
    | none => none) else (figV l).map Int.ofNat
end Dl
namespace Dl
open PySem PySem.Spec PyProof.Rows L2 He Lp
abbrev mk (l : List Nat) : Str := ⟨l.toArray⟩
end Dl
namespace Dl
open PySem PySem.Spec PyProof.Rows L2 He Lp
end Dl
namespace Dl
open PySem PySem.Spec PyProof.Rows L2 He Lp
structure GoodN (l : List (Key × D)) : Prop where
  tk : TK l
  v : ∀ x d, valK l (.inr x) = some d → Nm x ∧ ∃ i : Int, d = .int i ∧ i.natAbs < 10000000000000
theorem GoodN.nil : GoodN [] := ⟨TK.nil, fun x d h => by cases h⟩
theorem GoodN.put {l : List (Key × D)} (h : GoodN l) {n : Str} {i : Int} (hn : Nm n) (hi : i.natAbs < 10000000000000) : GoodN (putD l (.inr n) (.int i)) := ⟨h.tk.put n _, fun x d e => by
  rw [valK_putS] at e
  split at e
  · rename_i q; cases e; rw [q]; exact ⟨hn, i, rfl, hi⟩
  · exact h.v x d e⟩
def numAt (l : List (Key × D)) (n : Str) : Int := match valK l (.inr n) with
  | some (.int i) => i
  | _ => 0
theorem GoodN.at {l : List (Key × D)} (h : GoodN l) {n : Str} (hn : n ∈ nmsOf l) : Nm n ∧ valK l (.inr n) = some (.int (numAt l n)) ∧ (numAt l n).natAbs < 10000000000000 := by
  obtain ⟨d, hd⟩ := Option.isSome_iff_exists.mp ((mem_nms h.tk n).mp hn)
  obtain ⟨h1, i, rfl, hi⟩ := h.v n d hd
  have e : numAt l n = i := by unfold numAt; rw [hd]
  rw [e]
  exact ⟨h1, hd, hi⟩
end Dl
namespace Dl
open PySem PySem.Spec PyProof.Rows L2 He Lp
instance (x : Str) : Decidable (Asc x) := inferInstanceAs (Decidable (∀ c ∈ x.cps.toList, c < 128))
end Dl
namespace Dl
open PySem PySem.Spec PyProof.Rows L2 He Lp
theorem neg_signs (n : Nat) : (Str.ofString (toString (Int.negSucc n))).cps.toList = 45 :: TL.numL (n + 1) := by
  have e := TL.tl_num (n + 1)
  have e : (Str.ofString (toString ((n + 1 : Nat) : Int))).cps.toList = TL.numL (n + 1) := e
  rw [signs_ofString] at e ⊢
  rw [← e]
  have h : (toString (Int.negSucc n) : String) = "-" ++ toString ((n + 1 : Nat) : Int) := rfl
  rw [h, String.toList_append, List.map_append]
  rfl
structure Ints (l : List (Key × D)) : Prop where
  tk : TK l
  v : ∀ x d, valK l (.inr x) = some d → ∃ i : Int, d = .int i
theorem Ints.mem {l : List (Key × D)} (h : Ints l) {p : Key × D} (hp : p ∈ l) : ∃ (x : Str) (i : Int), p = (.inr x, .int i) ∧ valK l (.inr x) = some (.int i) := by
  obtain ⟨x, hx⟩ := h.tk.2 p hp
  have hv : valK l p.1 = some p.2 := (mem_valK h.tk.1).mpr hp
  rw [hx] at hv
  obtain ⟨i, hi⟩ := h.v x p.2 hv
  exact ⟨x, i, Prod.ext hx hi, by rw [hv, hi]⟩
end Dl
namespace Dl
open PySem PySem.Spec PyProof.Rows L2 He Lp
theorem GoodN.nm {l : List (Key × D)} (h : GoodN l) : ∀ x, (valK l (.inr x)).isSome = true → Nm x := fun x hx => by
  obtain ⟨d, hd⟩ := Option.isSome_iff_exists.mp hx
  exact (h.v x d hd).1
end Dl
namespace Dl
open PySem PySem.Spec PyProof.Rows L2 He Lp
structure Shows (n : Nat) (ps : List PyData) : Prop where
  sh : PyData.showableAll ps = true
  ly : PyData.canLayAll0 ps = true
  dp : PyData.depthAll ps ≤ 3
  ct : cntAll ps ≤ n
theorem Shows.nil : Shows 0 [] := ⟨rfl, rfl, by decide, by decide⟩
theorem Shows.cons {n k : Nat} {p : PyData} {ps : List PyData} (h1 : p.showable = true) (h2 : p.canLay0 = true) (h3 : p.depth ≤ 3) (h4 : cntD p ≤ n) (t : Shows k ps) : Shows (n + k) (p :: ps) :=
  ⟨by simp only [PyData.showableAll, h1, t.sh, Bool.and_self], by simp only [PyData.canLayAll0, h2, t.ly, Bool.and_self], by simp only [PyData.depthAll]; exact Nat.max_le.mpr ⟨h3, t.dp⟩, by simp only [cntAll]; have := t.ct; omega⟩
theorem Shows.app {n k : Nat} : ∀ {ps qs : List PyData}, Shows n ps → Shows k qs → Shows (n + k) (ps ++ qs)
  | [], qs, h, t => ⟨t.sh, t.ly, t.dp, by have := t.ct; show cntAll qs ≤ _; omega⟩
  | p :: ps, qs, h, t => by
    have hs := h.sh
    have hy := h.ly
    have hd := h.dp
    have hc := h.ct
    simp only [PyData.showableAll, Bool.and_eq_true] at hs
    simp only [PyData.canLayAll0, Bool.and_eq_true] at hy
    simp only [PyData.depthAll] at hd
    simp only [cntAll] at hc
    have ih := Shows.app (n := n - cntD p) (ps := ps) ⟨hs.2, hy.2, (Nat.max_le.mp hd).2, by omega⟩ t
    have := Shows.cons (n := cntD p) hs.1 hy.1 (Nat.max_le.mp hd).1 (Nat.le_refl _) ih
    have hct : cntAll (p :: (ps ++ qs)) ≤ cntD p + (n - cntD p + k) := this.ct
    exact ⟨this.sh, this.ly, this.dp, by show cntAll (p :: (ps ++ qs)) ≤ _; omega⟩
theorem Shows.all {α : Type} {f : α → PyData} {b : Nat} : ∀ {l : List α}, (∀ a ∈ l, (f a).showable = true ∧ (f a).canLay0 = true ∧ (f a).depth ≤ 3 ∧ cntD (f a) ≤ b) → Shows (l.length * b) (l.map f)
  | [], _ => by simpa using Shows.nil
  | a :: l, h => by
    obtain ⟨h1, h2, h3, h4⟩ := h a (List.mem_cons_self ..)
    have := Shows.cons h1 h2 h3 h4 (Shows.all fun x hx => h x (List.mem_cons_of_mem _ hx))
    rw [List.length_cons, Nat.add_mul, Nat.one_mul, Nat.add_comm]
    exact this
theorem Shows.rep {p : PyData} {b : Nat} (h : p.showable = true ∧ p.canLay0 = true ∧ p.depth ≤ 3 ∧ cntD p ≤ b) (n : Nat) : Shows (n * b) (List.replicate n p) := by
  have := Shows.all (f := fun _ : Nat => p) (b := b) (l := List.range n) fun _ _ => h
  rw [List.length_range] at this
  have e : (List.range n).map (fun _ => p) = List.replicate n p := by rw [List.map_const', List.length_range]
  rw [e] at this
  exact this
theorem repr_ok {l : List D} {ps : List PyData} {n : Nat} (e : toPys l = some ps) (h : Shows n ps) (hn : n ≤ 7900) : reprP [.lst l] = some (.str (PyData.list ps).shown) := by
  simp only [reprP, toPy, e, Option.map_some, Option.bind_some]
  rw [if_pos ⟨by simp only [PyData.showable, h.sh], by simp only [PyData.canLay0, h.ly], by simp only [PyData.depth]; have := h.dp; omega, by simp only [cntD]; have := h.ct; omega⟩]
end Dl
namespace Dl
open PySem PySem.Spec PyProof.Rows L2 He Lp
def DecV (V : D → Prop) : Prop := ∀ a b, V a → V b → ∃ r, pyEq a b = some r ∧ (r = true ↔ a = b)
structure Vals (V : D → Prop) (l : List (Key × D)) : Prop where
  tk : TK l
  v : ∀ x d, valK l (.inr x) = some d → V d
section
variable {V : D → Prop} (hV : DecV V)
include hV
theorem Vals.mem {l : List (Key × D)} (h : Vals V l) {p : Key × D} (hp : p ∈ l) : ∃ (x : Str) (d : D), p = (.inr x, d) ∧ V d ∧ valK l (.inr x) = some d := by
  obtain ⟨x, hx⟩ := h.tk.2 p hp
  have hv : valK l p.1 = some p.2 := (mem_valK h.tk.1).mpr hp
  rw [hx] at hv
  exact ⟨x, p.2, Prod.ext hx rfl, h.v x p.2 hv, hv⟩
omit hV in
end
end Dl
namespace Dl
open PySem PySem.Spec PyProof.Rows L2 He Lp
def PlainS (x : Str) : Prop := ∀ c ∈ x.cps.toList, isLet c ∨ isFig c
theorem rch_all : ∀ c, c < 128 → ((97 ≤ c ∧ c ≤ 122) ∨ (48 ≤ c ∧ c ≤ 57)) → Builtin.Str.reprChar 39 c = [c] := by decide +kernel
theorem rch {c : Nat} (h : isLet c ∨ isFig c) : Builtin.Str.reprChar 39 c = [c] := rch_all c (by unfold isLet isFig at h; omega) h
theorem rfold : ∀ (l : List Nat) (acc : Array Nat), (∀ c ∈ l, isLet c ∨ isFig c) → (l.foldl (fun out c => out ++ (Builtin.Str.reprChar 39 c).toArray) acc).toList = acc.toList ++ l
  | [], acc, _ => by simp
  | c :: l, acc, h => by
    rw [List.foldl_cons, rfold l _ fun d hd => h d (List.mem_cons_of_mem _ hd), rch (h c (List.mem_cons_self ..))]
    simp
theorem rquote {x : Str} (h : PlainS x) : reprQuote x = 39 := by
  have : x.cps.contains 39 = false := by
    rw [← Array.contains_toList]
    refine Bool.eq_false_iff.mpr fun z => ?_
    have := h 39 (by simpa using z)
    unfold isLet isFig at this
    omega
  unfold reprQuote
  rw [this]; rfl
abbrev sh (p : PyData) : List Nat := p.shown.cps.toList
theorem sh_str {x : Str} (h : PlainS x) : sh (.str x) = 39 :: (x.cps.toList ++ [39]) := by
  show (reprText x).cps.toList = _
  unfold reprText
  rw [rquote h, ← Array.foldl_toList, Array.toList_push, rfold _ _ h]
  rfl
def shR : List PyData → List Nat
  | [] => []
  | y :: r => 44 :: 32 :: (sh y ++ shR r)
def shK : List (PyData × PyData) → List Nat
  | [] => []
  | (k, v) :: r => 44 :: 32 :: (sh k ++ 58 :: 32 :: (sh v ++ shK r))
theorem comma : (", " : Str).cps.toList = [44, 32] := by decide +kernel
theorem colon : (": " : Str).cps.toList = [58, 32] := by decide +kernel
theorem cps_join2 (x y : Str) (r : List Str) : (Str.join ", " (x :: y :: r)).cps.toList = x.cps.toList ++ 44 :: 32 :: (Str.join ", " (y :: r)).cps.toList := by
  show (x ++ ", " ++ Str.join ", " (y :: r)).cps.toList = _
  rw [cps_app, cps_app, comma]
  simp
theorem join_sh : ∀ (r : List PyData) (x : PyData), (Str.join ", " (PyData.shownAll (x :: r))).cps.toList = sh x ++ shR r
  | [], x => by
    show (Str.join ", " [x.shown]).cps.toList = _
    simp [shR, Str.join]
  | y :: r, x => by
    have ih := join_sh r y
    show (Str.join ", " (x.shown :: PyData.shownAll (y :: r))).cps.toList = _
    have e : PyData.shownAll (y :: r) = y.shown :: PyData.shownAll r := rfl
    rw [e, cps_join2, ← e, ih]; rfl
theorem join_shk : ∀ (r : List (PyData × PyData)) (k v : PyData), (Str.join ", " (PyData.shownKv ((k, v) :: r))).cps.toList = sh k ++ 58 :: 32 :: (sh v ++ shK r)
  | [], k, v => by
    show (Str.join ", " [k.shown ++ ": " ++ v.shown]).cps.toList = _
    show (k.shown ++ ": " ++ v.shown).cps.toList = _
    rw [cps_app, cps_app, colon]
    simp [shK]
  | (k2, v2) :: r, k, v => by
    have ih := join_shk r k2 v2
    have e : PyData.shownKv ((k2, v2) :: r) = (k2.shown ++ ": " ++ v2.shown) :: PyData.shownKv r := rfl
    show (Str.join ", " ((k.shown ++ ": " ++ v.shown) :: PyData.shownKv ((k2, v2) :: r))).cps.toList = _
    rw [e, cps_join2, ← e, ih, cps_app, cps_app, colon]
    simp [shK]
def tupZ : List PyData → List Nat
  | [] => [41]
  | [x] => sh x ++ [44, 41]
  | x :: y :: r => sh x ++ (shR (y :: r) ++ [41])
def dctZ : List (PyData × PyData) → List Nat
  | [] => [125]
  | (k, v) :: r => sh k ++ 58 :: 32 :: (sh v ++ (shK r ++ [125]))
theorem shownAll_len : ∀ xs : List PyData, (PyData.shownAll xs).length = xs.length
  | [] => rfl
  | _ :: xs => by show (PyData.shownAll xs).length + 1 = _; rw [shownAll_len xs]; rfl
theorem sh_tup (xs : List PyData) : sh (.tuple xs) = 40 :: tupZ xs := by
  show (tupleText (PyData.shownAll xs)).cps.toList = _
  unfold tupleText
  rw [cps_app, cps_app, shownAll_len]
  have e1 : ("(" : Str).cps.toList = [40] := by decide +kernel
  have e2 : (")" : Str).cps.toList = [41] := by decide +kernel
  have e3 : (",)" : Str).cps.toList = [44, 41] := by decide +kernel
  rw [e1]
  match xs with
  | [] =>
    show [40] ++ (Str.join ", " []).cps.toList ++ (")" : Str).cps.toList = _
    rw [e2]; rfl
  | [x] =>
    rw [join_sh]
    show [40] ++ (sh x ++ shR []) ++ (",)" : Str).cps.toList = _
    rw [e3]; simp [tupZ, shR]
  | x :: y :: r =>
    rw [join_sh]
    have : ((x :: y :: r).length == 1) = false := by simp
    rw [this]
    show [40] ++ (sh x ++ shR (y :: r)) ++ (")" : Str).cps.toList = _
    rw [e2]; simp [tupZ]
theorem sh_dct (kvs : List (PyData × PyData)) : sh (.dict kvs) = 123 :: dctZ kvs := by
  show (dictText (PyData.shownKv kvs)).cps.toList = _
  unfold dictText
  rw [cps_app, cps_app]
  have e1 : ("{" : Str).cps.toList = [123] := by decide +kernel
  have e2 : ("}" : Str).cps.toList = [125] := by decide +kernel
  rw [e1, e2]
  match kvs with
  | [] => rfl
  | (k, v) :: r =>
    rw [join_shk]
    simp [dctZ]
mutual
def okP : PyData → Prop
  | .list _ => False
  | .tuple xs => okPs xs
  | .dict kvs => okPk kvs
  | .str x => PlainS x
  | _ => True
def okPs : List PyData → Prop
  | [] => True
  | x :: xs => okP x ∧ okPs xs
def okPk : List (PyData × PyData) → Prop
  | [] => True
  | (a, b) :: xs => (okP a ∧ okP b) ∧ okPk xs
end
def ic (c : Nat) : Bool := c == 45 || (decide (48 ≤ c) && decide (c ≤ 57))
def kdC (c : Nat) : Nat := if ic c = true then 2 else if c = 78 then 0 else if c = 84 then 1 else if c = 70 then 1 else if c = 39 then 3 else if c = 40 then 4 else if c = 123 then 5 else 9
def kdP : PyData → Nat
  | .none => 0 | .bool _ => 1 | .int _ => 2 | .str _ => 3 | .tuple _ => 4 | .dict _ => 5 | .list _ => 8
def Dlm (s : List Nat) : Prop := s = [] ∨ ∃ c r, s = c :: r ∧ (c = 44 ∨ c = 41 ∨ c = 125 ∨ c = 58)
theorem sh_int (i : Int) : sh (.int i) ≠ [] ∧ ∀ c ∈ sh (.int i), ic c = true := by
  show (Str.ofString (toString i)).cps.toList ≠ [] ∧ ∀ c ∈ (Str.ofString (toString i)).cps.toList, ic c = true
  have hd : ∀ n c, c ∈ TL.numL n → ic c = true := fun n c hc => by
    have := TL.numL_digits n c hc
    unfold ic
    simp only [Bool.or_eq_true, Bool.and_eq_true, decide_eq_true_eq]
    exact .inr ⟨by omega, by omega⟩
  cases i with
  | ofNat n =>
    have e : (Str.ofString (toString (Int.ofNat n))).cps.toList = TL.numL n := TL.tl_num n
    rw [e]
    exact ⟨TL.numL_ne n, hd n⟩
  | negSucc n =>
    rw [neg_signs]
    refine ⟨by simp, fun c hc => ?_⟩
    rcases List.mem_cons.mp hc with rfl | hc
    · rfl
    · exact hd _ c hc
theorem int_inj {i j : Int} (h : sh (.int i) = sh (.int j)) : i = j := by
  have h : (Str.ofString (toString i)).cps.toList = (Str.ofString (toString j)).cps.toList := h
  have ez : ∀ n : Nat, (Str.ofString (toString (Int.ofNat n))).cps.toList = TL.numL n := fun n => TL.tl_num n
  have n45 : ∀ n m : Nat, TL.numL n ≠ 45 :: TL.numL m := fun n m z => by
    have : (45 : Nat) ∈ TL.numL n := by rw [z]; exact List.mem_cons_self ..
    exact TL.numL_free (.inl (by decide)) this
  cases i with
  | ofNat n =>
    cases j with
    | ofNat m => rw [ez, ez] at h; rw [TL.numL_inj h]
    | negSucc m => rw [ez, neg_signs] at h; exact absurd h (n45 _ _)
  | negSucc n =>
    cases j with
    | ofNat m => rw [ez, neg_signs] at h; exact absurd h.symm (n45 _ _)
    | negSucc m =>
      rw [neg_signs, neg_signs] at h
      have := TL.numL_inj (List.cons.inj h).2
      have : n = m := by omega
      rw [this]
theorem sh_none : sh .none = [78, 111, 110, 101] := by decide +kernel
theorem sh_true : sh (.bool true) = [84, 114, 117, 101] := by decide +kernel
theorem sh_false : sh (.bool false) = [70, 97, 108, 115, 101] := by decide +kernel
theorem sh_hd {p : PyData} (h : okP p) : ∃ c r, sh p = c :: r ∧ kdC c = kdP p := by
  cases p with
  | none => exact ⟨_, _, sh_none, rfl⟩
  | bool b =>
    cases b
    · exact ⟨_, _, sh_false, rfl⟩
    · exact ⟨_, _, sh_true, rfl⟩
  | int i =>
    obtain ⟨h1, h2⟩ := sh_int i
    cases e : sh (.int i) with
    | nil => exact absurd e h1
    | cons c r =>
      refine ⟨c, r, rfl, ?_⟩
      have := h2 c (by rw [e]; exact List.mem_cons_self ..)
      show (if ic c = true then 2 else _) = _
      rw [if_pos this]; rfl
  | str x => exact ⟨_, _, sh_str h, rfl⟩
  | tuple xs => exact ⟨_, _, sh_tup xs, rfl⟩
  | dict kvs => exact ⟨_, _, sh_dct kvs, rfl⟩
  | list xs => exact h.elim
theorem span_ic : ∀ (a b : List Nat) {s t : List Nat}, (∀ c ∈ a, ic c = true) → (∀ c ∈ b, ic c = true) → Dlm s → Dlm t → a ++ s = b ++ t → a = b ∧ s = t := by
  have key : ∀ {s : List Nat} {c : Nat} {r : List Nat}, Dlm s → ic c = true → s ≠ c :: r := fun {s c r} hs hc z => by
    rcases hs with rfl | ⟨d, r', rfl, hd⟩
    · cases z
    · have := (List.cons.inj z).1
      subst this
      rcases hd with rfl | rfl | rfl | rfl <;> exact absurd hc (by decide)
  intro a
  induction a with
  | nil =>
    intro b s t _ hb hs ht e
    cases b with
    | nil => exact ⟨rfl, e⟩
    | cons c b => exact absurd e (key hs (hb c (List.mem_cons_self ..)))
  | cons c a ih =>
    intro b s t ha hb hs ht e
    cases b with
    | nil => exact absurd e.symm (key ht (ha c (List.mem_cons_self ..)))
    | cons d b =>
      obtain ⟨e1, e2⟩ := List.cons.inj e
      obtain ⟨h1, h2⟩ := ih b (fun x hx => ha x (List.mem_cons_of_mem _ hx)) (fun x hx => hb x (List.mem_cons_of_mem _ hx)) hs ht e2
      exact ⟨by rw [e1, h1], h2⟩
theorem span_q : ∀ (a b : List Nat) {s t : List Nat}, (∀ c ∈ a, isLet c ∨ isFig c) → (∀ c ∈ b, isLet c ∨ isFig c) → a ++ 39 :: s = b ++ 39 :: t → a = b ∧ s = t := by
  have key : ∀ {c : Nat}, (isLet c ∨ isFig c) → c ≠ 39 := fun {c} h z => by unfold isLet isFig at h; omega
  intro a
  induction a with
  | nil =>
    intro b s t _ hb e
    cases b with
    | nil => exact ⟨rfl, (List.cons.inj e).2⟩
    | cons c b => exact absurd (List.cons.inj e).1.symm (key (hb c (List.mem_cons_self ..)))
  | cons c a ih =>
    intro b s t ha hb e
    cases b with
    | nil => exact absurd (List.cons.inj e).1 (key (ha c (List.mem_cons_self ..)))
    | cons d b =>
      obtain ⟨e1, e2⟩ := List.cons.inj e
      obtain ⟨h1, h2⟩ := ih b (fun x hx => ha x (List.mem_cons_of_mem _ hx)) (fun x hx => hb x (List.mem_cons_of_mem _ hx)) e2
      exact ⟨by rw [e1, h1], h2⟩
theorem dlm_R (r : List PyData) (s : List Nat) : Dlm (shR r ++ 41 :: s) := by
  cases r with
  | nil => exact .inr ⟨_, _, rfl, .inr (.inl rfl)⟩
  | cons y r => exact .inr ⟨_, _, rfl, .inl rfl⟩
theorem dlm_K (r : List (PyData × PyData)) (s : List Nat) : Dlm (shK r ++ 125 :: s) := by
  cases r with
  | nil => exact .inr ⟨_, _, rfl, .inr (.inr (.inl rfl))⟩
  | cons y r => exact .inr ⟨_, _, rfl, .inl rfl⟩
theorem kd_lt (p : PyData) : kdP p ≤ 8 := by cases p <;> simp [kdP]
theorem sh_no {p : PyData} (h : okP p) {c : Nat} (hc : kdC c = 9) {s t : List Nat} : sh p ++ s ≠ c :: t := fun z => by
  obtain ⟨d, r, e, k⟩ := sh_hd h
  rw [e] at z
  have := (List.cons.inj z).1
  subst this
  have := kd_lt p
  omega
mutual
theorem sh_inj : ∀ (p q : PyData) (s t : List Nat), okP p → okP q → Dlm s → Dlm t → sh p ++ s = sh q ++ t → p = q ∧ s = t
  | p, q, s, t, hp, hq, hs, ht, e => by
    have hk : kdP p = kdP q := by
      obtain ⟨c, r, e1, k1⟩ := sh_hd hp
      obtain ⟨d, r', e2, k2⟩ := sh_hd hq
      rw [e1, e2] at e
      rw [← k1, ← k2, (List.cons.inj e).1]
    match p, q, hk, hp, hq, e with
    | .none, .none, _, _, _, e => exact ⟨rfl, List.append_cancel_left e⟩
    | .bool a, .bool b, _, _, _, e =>
      cases a <;> cases b
      · exact ⟨rfl, List.append_cancel_left e⟩
      · rw [sh_true, sh_false] at e; exact absurd (List.cons.inj e).1 (by decide)
      · rw [sh_true, sh_false] at e; exact absurd (List.cons.inj e).1 (by decide)
      · exact ⟨rfl, List.append_cancel_left e⟩
    | .int i, .int j, _, _, _, e =>
      obtain ⟨h1, h2⟩ := span_ic _ _ (sh_int i).2 (sh_int j).2 hs ht e
      exact ⟨by rw [int_inj h1], h2⟩
    | .str x, .str y, _, hp, hq, e =>
      rw [sh_str hp, sh_str hq] at e
      have e : x.cps.toList ++ 39 :: s = y.cps.toList ++ 39 :: t := by simpa using e
      obtain ⟨h1, h2⟩ := span_q _ _ hp hq e
      exact ⟨by rw [str_eq h1], h2⟩
    | .tuple xs, .tuple ys, _, hp, hq, e =>
      rw [sh_tup, sh_tup] at e
      obtain ⟨h1, h2⟩ := tup_inj xs ys s t hp hq (List.cons.inj e).2
      exact ⟨by rw [h1], h2⟩
    | .dict xs, .dict ys, _, hp, hq, e =>
      rw [sh_dct, sh_dct] at e
      obtain ⟨h1, h2⟩ := dct_inj xs ys s t hp hq (List.cons.inj e).2
      exact ⟨by rw [h1], h2⟩
termination_by p => sizeOf p
theorem tup_inj : ∀ (xs ys : List PyData) (s t : List Nat), okPs xs → okPs ys → tupZ xs ++ s = tupZ ys ++ t → xs = ys ∧ s = t
  | [], ys, s, t, hx, hy, e => by
    match ys, hy, e with
    | [], _, e => exact ⟨rfl, (List.cons.inj e).2⟩
    | [y], hy, e =>
      have e : sh y ++ 44 :: 41 :: t = 41 :: s := by simpa [tupZ] using e.symm
      exact absurd e (sh_no hy.1 rfl)
    | y :: z :: r, hy, e =>
      have e : sh y ++ (shR (z :: r) ++ 41 :: t) = 41 :: s := by simpa [tupZ] using e.symm
      exact absurd e (sh_no hy.1 rfl)
  | [x], ys, s, t, hx, hy, e => by
    match ys, hy, e with
    | [], _, e =>
      have e : sh x ++ 44 :: 41 :: s = 41 :: t := by simpa [tupZ] using e
      exact absurd e (sh_no hx.1 rfl)
    | [y], hy, e =>
      have e : sh x ++ 44 :: 41 :: s = sh y ++ 44 :: 41 :: t := by simpa [tupZ] using e
      obtain ⟨h1, h2⟩ := sh_inj x y _ _ hx.1 hy.1 (.inr ⟨_, _, rfl, .inl rfl⟩) (.inr ⟨_, _, rfl, .inl rfl⟩) e
      exact ⟨by rw [h1], (List.cons.inj (List.cons.inj h2).2).2⟩
    | y :: z :: r, hy, e =>
      have e : sh x ++ 44 :: 41 :: s = sh y ++ (shR (z :: r) ++ 41 :: t) := by simpa [tupZ] using e
      obtain ⟨h1, h2⟩ := sh_inj x y _ _ hx.1 hy.1 (.inr ⟨_, _, rfl, .inl rfl⟩) (dlm_R _ _) e
      exact absurd (List.cons.inj (List.cons.inj h2).2).1 (by decide)
  | x :: x2 :: r, ys, s, t, hx, hy, e => by
    match ys, hy, e with
    | [], _, e =>
      have e : sh x ++ (shR (x2 :: r) ++ 41 :: s) = 41 :: t := by simpa [tupZ] using e
      exact absurd e (sh_no hx.1 rfl)
    | [y], hy, e =>
      have e : sh x ++ (shR (x2 :: r) ++ 41 :: s) = sh y ++ 44 :: 41 :: t := by simpa [tupZ] using e
      obtain ⟨h1, h2⟩ := sh_inj x y _ _ hx.1 hy.1 (dlm_R _ _) (.inr ⟨_, _, rfl, .inl rfl⟩) e
      exact absurd (List.cons.inj (List.cons.inj h2).2).1 (by decide)
    | y :: y2 :: r', hy, e =>
      have e : sh x ++ (shR (x2 :: r) ++ 41 :: s) = sh y ++ (shR (y2 :: r') ++ 41 :: t) := by simpa [tupZ] using e
      obtain ⟨h1, h2⟩ := sh_inj x y _ _ hx.1 hy.1 (dlm_R _ _) (dlm_R _ _) e
      obtain ⟨h3, h4⟩ := rest_inj (x2 :: r) (y2 :: r') s t hx.2 hy.2 h2
      exact ⟨by rw [h1, h3], h4⟩
termination_by xs => sizeOf xs
theorem rest_inj : ∀ (xs ys : List PyData) (s t : List Nat), okPs xs → okPs ys → shR xs ++ 41 :: s = shR ys ++ 41 :: t → xs = ys ∧ s = t
  | [], ys, s, t, hx, hy, e => by
    match ys, hy, e with
    | [], _, e => exact ⟨rfl, (List.cons.inj e).2⟩
    | y :: r, hy, e => exact absurd (List.cons.inj e).1 (by decide)
  | x :: r, ys, s, t, hx, hy, e => by
    match ys, hy, e with
    | [], _, e => exact absurd (List.cons.inj e).1 (by decide)
    | y :: r', hy, e =>
      have e : sh x ++ (shR r ++ 41 :: s) = sh y ++ (shR r' ++ 41 :: t) := by simpa [shR] using e
      obtain ⟨h1, h2⟩ := sh_inj x y _ _ hx.1 hy.1 (dlm_R _ _) (dlm_R _ _) e
      obtain ⟨h3, h4⟩ := rest_inj r r' s t hx.2 hy.2 h2
      exact ⟨by rw [h1, h3], h4⟩
termination_by xs => sizeOf xs
theorem dct_inj : ∀ (xs ys : List (PyData × PyData)) (s t : List Nat), okPk xs → okPk ys → dctZ xs ++ s = dctZ ys ++ t → xs = ys ∧ s = t
  | [], ys, s, t, hx, hy, e => by
    match ys, hy, e with
    | [], _, e => exact ⟨rfl, (List.cons.inj e).2⟩
    | (k, v) :: r, hy, e =>
      have e : sh k ++ 58 :: 32 :: (sh v ++ (shK r ++ 125 :: t)) = 125 :: s := by simpa [dctZ] using e.symm
      exact absurd e (sh_no hy.1.1 rfl)
  | (k, v) :: r, ys, s, t, hx, hy, e => by
    match ys, hy, e with
    | [], _, e =>
      have e : sh k ++ 58 :: 32 :: (sh v ++ (shK r ++ 125 :: s)) = 125 :: t := by simpa [dctZ] using e
      exact absurd e (sh_no hx.1.1 rfl)
    | (k2, v2) :: r', hy, e =>
      have e : sh k ++ 58 :: 32 :: (sh v ++ (shK r ++ 125 :: s)) = sh k2 ++ 58 :: 32 :: (sh v2 ++ (shK r' ++ 125 :: t)) := by simpa [dctZ] using e
      obtain ⟨h1, h2⟩ := sh_inj k k2 _ _ hx.1.1 hy.1.1 (.inr ⟨_, _, rfl, .inr (.inr (.inr rfl))⟩) (.inr ⟨_, _, rfl, .inr (.inr (.inr rfl))⟩) e
      obtain ⟨h3, h4⟩ := sh_inj v v2 _ _ hx.1.2 hy.1.2 (dlm_K _ _) (dlm_K _ _) (List.cons.inj (List.cons.inj h2).2).2
      obtain ⟨h5, h6⟩ := restk_inj r r' s t hx.2 hy.2 h4
      exact ⟨by rw [h1, h3, h5], h6⟩
termination_by xs => sizeOf xs
theorem restk_inj : ∀ (xs ys : List (PyData × PyData)) (s t : List Nat), okPk xs → okPk ys → shK xs ++ 125 :: s = shK ys ++ 125 :: t → xs = ys ∧ s = t
  | [], ys, s, t, hx, hy, e => by
    match ys, hy, e with
    | [], _, e => exact ⟨rfl, (List.cons.inj e).2⟩
    | (k, v) :: r, hy, e => exact absurd (List.cons.inj e).1 (by decide)
  | (k, v) :: r, ys, s, t, hx, hy, e => by
    match ys, hy, e with
    | [], _, e => exact absurd (List.cons.inj e).1 (by decide)
    | (k2, v2) :: r', hy, e =>
      have e : sh k ++ 58 :: 32 :: (sh v ++ (shK r ++ 125 :: s)) = sh k2 ++ 58 :: 32 :: (sh v2 ++ (shK r' ++ 125 :: t)) := by simpa [shK] using e
      obtain ⟨h1, h2⟩ := sh_inj k k2 _ _ hx.1.1 hy.1.1 (.inr ⟨_, _, rfl, .inr (.inr (.inr rfl))⟩) (.inr ⟨_, _, rfl, .inr (.inr (.inr rfl))⟩) e
      obtain ⟨h3, h4⟩ := sh_inj v v2 _ _ hx.1.2 hy.1.2 (dlm_K _ _) (dlm_K _ _) (List.cons.inj (List.cons.inj h2).2).2
      obtain ⟨h5, h6⟩ := restk_inj r r' s t hx.2 hy.2 h4
      exact ⟨by rw [h1, h3, h5], h6⟩
termination_by xs => sizeOf xs
end
end Dl
noncomputable section
namespace Dl
open PySem PySem.Spec PyProof.Rows L2 He Lp
theorem q_feed : sem__law_feed = cFeed := rfl
def errs (a b c : D) : List D := [.xer "InvalidName" [("name", a)], .xer "InvalidText" [("at", a)], .xer "InvalidProgram" [("index", a)], .xer "NoPlace" [("place", a)], .xer "Taken" [("name", a)], .xer "Over" [("name", a)], .xer "NoMark" [("mark", a)], .xer "Refused" [("runs", a)],
  .xer "Firm" [("name", a)], .xer "NoPage" [("number", a)], .xer "NoRoom" [("lacking", a)], .xer "TooMany" [("most", a)], .xer "NoHand" [("name", a)], .xer "Held" [("answer", c), ("index", b), ("name", a)], .xer "NotBranch" [], .xer "InvalidCommand" []]
theorem pos_spec (a b c : D) : sem__law_by_position [a, b, c] = .rt (.lst (errs a b c)) [] := by kernel_rfl
theorem name_spec (a b c : D) : sem__law_by_name [a, b, c] = .rt (.lst (errs a b c)) [] := by kernel_rfl
theorem kept_spec (a b c : D) : sem__law_kept [.lst (errs a b c)] = .rt (.lst [a, a, a, a, a, a, a, a, a, a, a, a, a, a, b, c]) [] := by kernel_rfl
end Dl
end
noncomputable section
namespace Dl
open PySem PySem.Spec PyProof.Rows L2 He Lp
theorem right_spec (a b c : D) : sem__law_right [.lst (errs a b c)] = .rt (.bl true) [] := by kernel_rfl
end Dl
end
noncomputable section
namespace Dl
open PySem PySem.Spec PyProof.Rows L2 He Lp
def PlV (n k : Nat) (d : D) : Prop := ∃ p, toPy d = some p ∧ p.showable = true ∧ p.canLay0 = true ∧ p.depth ≤ n ∧ cntD p ≤ k
theorem PlV.mono {n m k l : Nat} {d : D} (h : PlV n k d) (h1 : n ≤ m) (h2 : k ≤ l) : PlV m l d := let ⟨p, a, b, c, e, f⟩ := h; ⟨p, a, b, c, Nat.le_trans e h1, Nat.le_trans f h2⟩
theorem pv_int {i : Int} (h : smI i) : PlV 0 5 (.int i) := ⟨.int i, rfl, by simp only [PyData.showable, sm_log h, decide_true], rfl, Nat.le_refl _, by show 1 ≤ 5; decide⟩
theorem pvs {n k : Nat} : ∀ {l : List D}, (∀ d ∈ l, PlV n k d) → ∃ ps, toPys l = some ps ∧ PyData.showableAll ps = true ∧ PyData.canLayAll0 ps = true ∧ PyData.depthAll ps ≤ n ∧ cntAll ps ≤ l.length * k
  | [], _ => ⟨[], rfl, rfl, rfl, Nat.zero_le _, Nat.zero_le _⟩
  | d :: l, h => by
    obtain ⟨p, a, b, c, e, f⟩ := h d (List.mem_cons_self ..)
    obtain ⟨ps, a2, b2, c2, e2, f2⟩ := pvs fun x hx => h x (List.mem_cons_of_mem _ hx)
    refine ⟨p :: ps, by simp only [toPys, a, a2], by simp only [PyData.showableAll, b, b2, Bool.and_self], by simp only [PyData.canLayAll0, c, c2, Bool.and_self], by simp only [PyData.depthAll]; omega, ?_⟩
    simp only [cntAll, List.length_cons]
    rw [Nat.add_mul, Nat.one_mul]
    omega
theorem pv_tup {n k : Nat} {l : List D} (h : ∀ d ∈ l, PlV n k d) (hl : l.length ≤ 3) : PlV (n + 1) (3 * k + 1) (.tup l) := by
  obtain ⟨ps, a, b, c, e, f⟩ := pvs h
  refine ⟨.tuple ps, by simp only [toPy, a, Option.map_some], by simp only [PyData.showable, b], by simp only [PyData.canLay0, c], by simp only [PyData.depth]; omega, ?_⟩
  have := Nat.mul_le_mul_right k hl
  simp only [cntD]
  omega
def mVl (sem : List D → RF) : MS :=
  (mSeq (mSet 2 (dV (mFn [true, false] cTake (mCons (mVar 0) (mCons (fz (ret (.d (.int 9)))) (ret []))))))
  (mSeq (mIf (mAnd (mB (m2 ltD (mVar 2) (ret (.d (.int 2))))) (mB (m2 gtD (mVar 1) (ret (.d (.int 0)))))) (mRet (dV (mCall tupleD (mCons (dV (mLc [3] (mIter rng1 (mCons (dV (mFn [true, false] cTake (mCons (mVar 0) (mCons (fz (ret (.d (.int 4)))) (ret []))))) (ret []))) (gN 3) mYes (dV (mFn [true, false] sem (mCons (mVar 0) (mCons (fz (dV (m2 subD (mVar 1) (ret (.d (.int 1)))))) (ret []))))))) (ret []))))) mSkip)
  (mSeq (mSet 4 (dV (mLst (mConsD (dV (mFn [true, false] cTake (mCons (mVar 0) (mCons (fz (dV (m2 powD (ret (.d (.int 10))) (ret (.d (.int 20)))))) (ret []))))) (mConsD (dV (m2 subD (ret (.d (.int 0))) (dV (mFn [true, false] cTake (mCons (mVar 0) (mCons (fz (ret (.d (.int 9)))) (ret []))))))) (mConsD (ret (.d (.str ""))) (mConsD (ret (.d (.str "a"))) (mConsD (ret (.d (.str "zz 9"))) (mConsD (ret (.d (.bl true))) (mConsD (ret (.d (.bl false))) (mConsD (ret (.d .non)) (mConsD (dV (m2 powD (ret (.d (.int 10))) (ret (.d (.int 30))))) (ret [])))))))))))))
  (mRet (dV (m2 ixD (mVar 4) (mVar 2)))))))
theorem vl0 : sem__law_value = runF 5 [true, false] (mVl sem__law_value_r3) := rfl
theorem vl1 : sem__law_value_r3 = runF 5 [true, false] (mVl sem__law_value_r2) := rfl
theorem vl2 : sem__law_value_r2 = runF 5 [true, false] (mVl sem__law_value_r1) := rfl
theorem vl3 : sem__law_value_r1 = runF 5 [true, false] (mVl sem__law_value_r0) := rfl
def VlS (sem : List D → RF) (deep : Int) (n k : Nat) : Prop := ∀ f, IsFeed f → ∃ (d : D) (f' : D), sem [f, .int deep] = .rt d [f'] ∧ IsFeed f' ∧ PlV n k d
theorem vl_end {sem : List D → RF} {f f1 : D} {deep r : Int} (e1 : cTake [f, .int 9] = .rt (.int r) [f1]) (h1 : IsFeed f1) (r0 : 0 ≤ r) (r9 : r < 9) (hc : ¬ (r < 2 ∧ 0 < deep)) : ∃ (d : D) (f' : D), runF 5 [true, false] (mVl sem) [f, .int deep] = .rt d [f'] ∧ IsFeed f' ∧ PlV 0 5 d := by
  obtain ⟨r2, f2, e2, a2, b2, h2⟩ := tk (m := 100000000000000000000) h1 (by decide) (by decide)
  obtain ⟨r3, f3, e3, a3, b3, h3⟩ := tk (m := 9) h2 (by decide) (by decide)
  have hix : ∃ v, ixD (.lst [.int r2, .int (0 - r3), .str "", .str "a", .str "zz 9", .bl true, .bl false, .non, .int 1000000000000000000000000000000]) (.int r) = some v ∧ PlV 0 5 v := by
    have : r = 0 ∨ r = 1 ∨ r = 2 ∨ r = 3 ∨ r = 4 ∨ r = 5 ∨ r = 6 ∨ r = 7 ∨ r = 8 := by omega
    rcases this with rfl | rfl | rfl | rfl | rfl | rfl | rfl | rfl | rfl
    · exact ⟨_, rfl, pv_int (by unfold smI; omega)⟩
    · exact ⟨_, rfl, pv_int (by unfold smI; omega)⟩
    · exact ⟨_, rfl, .str "", rfl, rfl, by decide +kernel, Nat.le_refl _, by decide +kernel⟩
    · exact ⟨_, rfl, .str "a", rfl, rfl, by decide +kernel, Nat.le_refl _, by decide +kernel⟩
    · exact ⟨_, rfl, .str "zz 9", rfl, rfl, by decide +kernel, Nat.le_refl _, by decide +kernel⟩
    · exact ⟨_, rfl, .bool true, rfl, rfl, rfl, Nat.le_refl _, by decide +kernel⟩
    · exact ⟨_, rfl, .bool false, rfl, rfl, rfl, Nat.le_refl _, by decide +kernel⟩
    · exact ⟨_, rfl, .none, rfl, rfl, rfl, Nat.le_refl _, by decide +kernel⟩
    · exact ⟨_, rfl, pv_int (by unfold smI; decide)⟩
  obtain ⟨v, hv, pv⟩ := hix
  refine ⟨v, f3, ?_, h3, pv⟩
  unfold mVl
  by_cases hr : r < 2
  · have hd : ¬ 0 < deep := fun z => hc ⟨hr, z⟩
    simp -implicitDefEqProofs only [e1, decide_eq_true hr, decide_eq_false hd, e2, e3, hv, a_bnd, a_bok, a_bexc, a_ret, a_some, a_sok, a_sexc, a_seq, a_nx, a_rt, a_ex, a_seqO, a_nxO, a_skip, a_if, a_ite, a_iteM, a_set, a_setO, a_mret, a_mretN, a_drop, a_var, a_vfz, a_vow, a_lkd, a_lks, a_l1, a_l2, a_l3, a_fd, a_fs, a_fso, a_fzD, a_fz, a_dV, a_dVs, a_m2, a_m1, a_m2z, a_z1, a_mB, a_asB, a_not, a_and, a_or, a_andV, a_orV, a_ifE, a_tru, a_chain, a_cons, a_consD, a_call, a_la0, a_la1, a_tup, a_lst, a_fn, a_store, a_mut, a_ow1, a_ow2, a_mutS, a_for, a_for0, a_step1, a_gN, a_iter, a_items, a_par, a_slT, a_slF, a_par3, a_unp, a_runF, a_runO, a_make, a_mk1, a_mk2, a_callS, a_ag0, a_ag1, a_ag2, a_ag3, a_p1, a_p2, a_rt1, a_rt2, a_po0, a_po1, startS, slot1, List.zipWith, a_rep0, a_rep1, List.length_cons, List.length_nil, Nat.reduceAdd, Nat.reduceSub, List.cons_append, List.nil_append, Bool.false_eq_true, if_false, if_true, reduceIte, List.getElem?_cons_zero, List.getElem?_cons_succ, List.set_cons_zero, List.set_cons_succ, Option.map_some, Option.map_none, Option.bind_some, Option.bind_none, List.map_cons, List.map_nil, o_stS, o_endN, o_endR, o_endX, o_endO, o_out0, o_outT, o_outF, o_add, o_sub, o_lt, o_le, o_gt, o_ge, o_ix0, o_ix1, o_it0, o_it1, o_st0, o_st1, a_seta, a_dstar, a_star, a_meth, a_isi, a_dget1, a_dget2, a_isd, a_getS1, a_getS2, a_sup, a_raise, a_dc, a_dcE, a_lc, a_lcE, a_w0, a_w1, a_u0, a_u1, a_u2, a_u3, a_lcB, a_lcB1, a_lcB2, a_lcB3, a_dcB1, a_dcB2, a_dcB3, a_asKs, a_asKi, a_yes, o_mod, o_div, o_mul1, o_mul2, o_nd0, o_nd1, o_sz, o_lenl, o_lenr, o_lent, o_lend, o_abs, o_pow, o_listl, o_listr, o_listt, o_app, o_max, o_min, Int.reduceLT, Int.reduceNeg, Int.reduceLE, Nat.reduceLT, Nat.reduceLeDiff, Int.reduceToNat, Int.reduceMul, Int.reduceAdd, Int.reduceSub, Int.reducePow]
  · simp -implicitDefEqProofs only [e1, decide_eq_false hr, e2, e3, hv, a_bnd, a_bok, a_bexc, a_ret, a_some, a_sok, a_sexc, a_seq, a_nx, a_rt, a_ex, a_seqO, a_nxO, a_skip, a_if, a_ite, a_iteM, a_set, a_setO, a_mret, a_mretN, a_drop, a_var, a_vfz, a_vow, a_lkd, a_lks, a_l1, a_l2, a_l3, a_fd, a_fs, a_fso, a_fzD, a_fz, a_dV, a_dVs, a_m2, a_m1, a_m2z, a_z1, a_mB, a_asB, a_not, a_and, a_or, a_andV, a_orV, a_ifE, a_tru, a_chain, a_cons, a_consD, a_call, a_la0, a_la1, a_tup, a_lst, a_fn, a_store, a_mut, a_ow1, a_ow2, a_mutS, a_for, a_for0, a_step1, a_gN, a_iter, a_items, a_par, a_slT, a_slF, a_par3, a_unp, a_runF, a_runO, a_make, a_mk1, a_mk2, a_callS, a_ag0, a_ag1, a_ag2, a_ag3, a_p1, a_p2, a_rt1, a_rt2, a_po0, a_po1, startS, slot1, List.zipWith, a_rep0, a_rep1, List.length_cons, List.length_nil, Nat.reduceAdd, Nat.reduceSub, List.cons_append, List.nil_append, Bool.false_eq_true, if_false, if_true, reduceIte, List.getElem?_cons_zero, List.getElem?_cons_succ, List.set_cons_zero, List.set_cons_succ, Option.map_some, Option.map_none, Option.bind_some, Option.bind_none, List.map_cons, List.map_nil, o_stS, o_endN, o_endR, o_endX, o_endO, o_out0, o_outT, o_outF, o_add, o_sub, o_lt, o_le, o_gt, o_ge, o_ix0, o_ix1, o_it0, o_it1, o_st0, o_st1, a_seta, a_dstar, a_star, a_meth, a_isi, a_dget1, a_dget2, a_isd, a_getS1, a_getS2, a_sup, a_raise, a_dc, a_dcE, a_lc, a_lcE, a_w0, a_w1, a_u0, a_u1, a_u2, a_u3, a_lcB, a_lcB1, a_lcB2, a_lcB3, a_dcB1, a_dcB2, a_dcB3, a_asKs, a_asKi, a_yes, o_mod, o_div, o_mul1, o_mul2, o_nd0, o_nd1, o_sz, o_lenl, o_lenr, o_lent, o_lend, o_abs, o_pow, o_listl, o_listr, o_listt, o_app, o_max, o_min, Int.reduceLT, Int.reduceNeg, Int.reduceLE, Nat.reduceLT, Nat.reduceLeDiff, Int.reduceToNat, Int.reduceMul, Int.reduceAdd, Int.reduceSub, Int.reducePow]
theorem vl_zero {sem : List D → RF} : VlS (runF 5 [true, false] (mVl sem)) 0 0 5 := fun f h => by
  obtain ⟨r, f1, e1, a1, b1, h1⟩ := tk (m := 9) h (by decide) (by decide)
  exact vl_end e1 h1 a1 b1 (by omega)
theorem vl_succ {sem : List D → RF} {deep : Int} {n k : Nat} (hd : 0 < deep) (hk : 5 ≤ 3 * k + 1) (H : VlS sem (deep - 1) n k) : VlS (runF 5 [true, false] (mVl sem)) deep (n + 1) (3 * k + 1) := fun f h => by
  obtain ⟨r, f1, e1, a1, b1, h1⟩ := tk (m := 9) h (by decide) (by decide)
  by_cases hr : r < 2
  · obtain ⟨q, f2, e2, a2, b2, h2⟩ := tk (m := 4) h1 (by decide) (by decide)
    obtain ⟨acc, s', e3, f3, rfl, h3, hl, hp⟩ := lc_inv (vs := [3]) (tg := gN 3) (cond := mYes) (elt := fzD (dV (mFn [true, false] sem (mCons (mVar 0) (mCons (fz (dV (m2 subD (mVar 1) (ret (.d (.int 1)))))) (ret []))))))
      (fun i acc s => ∃ f', s = [Sl.ow false f', .fz (.int deep), .fz (.int r), .no, .no] ∧ IsFeed f' ∧ acc.length = i ∧ ∀ d ∈ acc, PlV n k d) (rangeD 0 q.toNat) 0 [] [Sl.ow false f2, .fz (.int deep), .fz (.int r), .no, .no] ⟨f2, rfl, h2, rfl, fun d hd => nomatch hd⟩ (by
        rintro j x acc s hj ⟨f', rfl, h', hl, hp⟩
        obtain ⟨rfl, hj'⟩ := rangeD_get hj
        obtain ⟨d, f'', e, h'', p⟩ := H f' h'
        refine ⟨some d, [Sl.ow false f'', .fz (.int deep), .fz (.int r), .fz (.int (0 + (j : Int))), .no], by simp -implicitDefEqProofs only [e, a_bnd, a_bok, a_bexc, a_ret, a_some, a_sok, a_sexc, a_seq, a_nx, a_rt, a_ex, a_seqO, a_nxO, a_skip, a_if, a_ite, a_iteM, a_set, a_setO, a_mret, a_mretN, a_drop, a_var, a_vfz, a_vow, a_lkd, a_lks, a_l1, a_l2, a_l3, a_fd, a_fs, a_fso, a_fzD, a_fz, a_dV, a_dVs, a_m2, a_m1, a_m2z, a_z1, a_mB, a_asB, a_not, a_and, a_or, a_andV, a_orV, a_ifE, a_tru, a_chain, a_cons, a_consD, a_call, a_la0, a_la1, a_tup, a_lst, a_fn, a_store, a_mut, a_ow1, a_ow2, a_mutS, a_for, a_for0, a_step1, a_gN, a_iter, a_items, a_par, a_slT, a_slF, a_par3, a_unp, a_runF, a_runO, a_make, a_mk1, a_mk2, a_callS, a_ag0, a_ag1, a_ag2, a_ag3, a_p1, a_p2, a_rt1, a_rt2, a_po0, a_po1, startS, slot1, List.zipWith, a_rep0, a_rep1, List.length_cons, List.length_nil, Nat.reduceAdd, Nat.reduceSub, List.cons_append, List.nil_append, Bool.false_eq_true, if_false, if_true, reduceIte, List.getElem?_cons_zero, List.getElem?_cons_succ, List.set_cons_zero, List.set_cons_succ, Option.map_some, Option.map_none, Option.bind_some, Option.bind_none, List.map_cons, List.map_nil, o_stS, o_endN, o_endR, o_endX, o_endO, o_out0, o_outT, o_outF, o_add, o_sub, o_lt, o_le, o_gt, o_ge, o_ix0, o_ix1, o_it0, o_it1, o_st0, o_st1, a_seta, a_dstar, a_star, a_meth, a_isi, a_dget1, a_dget2, a_isd, a_getS1, a_getS2, a_sup, a_raise, a_dc, a_dcE, a_lc, a_lcE, a_w0, a_w1, a_u0, a_u1, a_u2, a_u3, a_lcB, a_lcB1, a_lcB2, a_lcB3, a_dcB1, a_dcB2, a_dcB3, a_asKs, a_asKi, a_yes, o_mod, o_div, o_mul1, o_mul2, o_nd0, o_nd1, o_sz, o_lenl, o_lenr, o_lent, o_lend, o_abs, o_pow, o_listl, o_listr, o_listt, o_app, o_max, o_min, Int.reduceLT, Int.reduceNeg, Int.reduceLE, Nat.reduceLT, Nat.reduceLeDiff, Int.reduceToNat, Int.reduceMul, Int.reduceAdd, Int.reduceSub, Int.reducePow], f'', by simp -implicitDefEqProofs only [a_bnd, a_bok, a_bexc, a_ret, a_some, a_sok, a_sexc, a_seq, a_nx, a_rt, a_ex, a_seqO, a_nxO, a_skip, a_if, a_ite, a_iteM, a_set, a_setO, a_mret, a_mretN, a_drop, a_var, a_vfz, a_vow, a_lkd, a_lks, a_l1, a_l2, a_l3, a_fd, a_fs, a_fso, a_fzD, a_fz, a_dV, a_dVs, a_m2, a_m1, a_m2z, a_z1, a_mB, a_asB, a_not, a_and, a_or, a_andV, a_orV, a_ifE, a_tru, a_chain, a_cons, a_consD, a_call, a_la0, a_la1, a_tup, a_lst, a_fn, a_store, a_mut, a_ow1, a_ow2, a_mutS, a_for, a_for0, a_step1, a_gN, a_iter, a_items, a_par, a_slT, a_slF, a_par3, a_unp, a_runF, a_runO, a_make, a_mk1, a_mk2, a_callS, a_ag0, a_ag1, a_ag2, a_ag3, a_p1, a_p2, a_rt1, a_rt2, a_po0, a_po1, startS, slot1, List.zipWith, a_rep0, a_rep1, List.length_cons, List.length_nil, Nat.reduceAdd, Nat.reduceSub, List.cons_append, List.nil_append, Bool.false_eq_true, if_false, if_true, reduceIte, List.getElem?_cons_zero, List.getElem?_cons_succ, List.set_cons_zero, List.set_cons_succ, Option.map_some, Option.map_none, Option.bind_some, Option.bind_none, List.map_cons, List.map_nil, o_stS, o_endN, o_endR, o_endX, o_endO, o_out0, o_outT, o_outF, o_add, o_sub, o_lt, o_le, o_gt, o_ge, o_ix0, o_ix1, o_it0, o_it1, o_st0, o_st1, a_seta, a_dstar, a_star, a_meth, a_isi, a_dget1, a_dget2, a_isd, a_getS1, a_getS2, a_sup, a_raise, a_dc, a_dcE, a_lc, a_lcE, a_w0, a_w1, a_u0, a_u1, a_u2, a_u3, a_lcB, a_lcB1, a_lcB2, a_lcB3, a_dcB1, a_dcB2, a_dcB3, a_asKs, a_asKi, a_yes, o_mod, o_div, o_mul1, o_mul2, o_nd0, o_nd1, o_sz, o_lenl, o_lenr, o_lent, o_lend, o_abs, o_pow, o_listl, o_listr, o_listt, o_app, o_max, o_min, Int.reduceLT, Int.reduceNeg, Int.reduceLE, Nat.reduceLT, Nat.reduceLeDiff, Int.reduceToNat, Int.reduceMul, Int.reduceAdd, Int.reduceSub, Int.reducePow], h'', by simp [hl], fun y hy => ?_⟩
        rcases List.mem_append.mp hy with hy | hy
        · exact hp y hy
        · rw [List.mem_singleton.mp hy]; exact p)
    rw [rangeD_len, Nat.zero_add] at hl
    have ht : tupleD [.lst acc] = some (.tup acc) := rfl
    refine ⟨.tup acc, f3, ?_, h3, pv_tup hp (by omega)⟩
    unfold mVl
    simp -implicitDefEqProofs only [e1, decide_eq_true hr, decide_eq_true hd, e2, o_rng (j := q) a2 (by omega), rangeD_len, o_sz (n := q.toNat) (by omega), e3, ht, a_bnd, a_bok, a_bexc, a_ret, a_some, a_sok, a_sexc, a_seq, a_nx, a_rt, a_ex, a_seqO, a_nxO, a_skip, a_if, a_ite, a_iteM, a_set, a_setO, a_mret, a_mretN, a_drop, a_var, a_vfz, a_vow, a_lkd, a_lks, a_l1, a_l2, a_l3, a_fd, a_fs, a_fso, a_fzD, a_fz, a_dV, a_dVs, a_m2, a_m1, a_m2z, a_z1, a_mB, a_asB, a_not, a_and, a_or, a_andV, a_orV, a_ifE, a_tru, a_chain, a_cons, a_consD, a_call, a_la0, a_la1, a_tup, a_lst, a_fn, a_store, a_mut, a_ow1, a_ow2, a_mutS, a_for, a_for0, a_step1, a_gN, a_iter, a_items, a_par, a_slT, a_slF, a_par3, a_unp, a_runF, a_runO, a_make, a_mk1, a_mk2, a_callS, a_ag0, a_ag1, a_ag2, a_ag3, a_p1, a_p2, a_rt1, a_rt2, a_po0, a_po1, startS, slot1, List.zipWith, a_rep0, a_rep1, List.length_cons, List.length_nil, Nat.reduceAdd, Nat.reduceSub, List.cons_append, List.nil_append, Bool.false_eq_true, if_false, if_true, reduceIte, List.getElem?_cons_zero, List.getElem?_cons_succ, List.set_cons_zero, List.set_cons_succ, Option.map_some, Option.map_none, Option.bind_some, Option.bind_none, List.map_cons, List.map_nil, o_stS, o_endN, o_endR, o_endX, o_endO, o_out0, o_outT, o_outF, o_add, o_sub, o_lt, o_le, o_gt, o_ge, o_ix0, o_ix1, o_it0, o_it1, o_st0, o_st1, a_seta, a_dstar, a_star, a_meth, a_isi, a_dget1, a_dget2, a_isd, a_getS1, a_getS2, a_sup, a_raise, a_dc, a_dcE, a_lc, a_lcE, a_w0, a_w1, a_u0, a_u1, a_u2, a_u3, a_lcB, a_lcB1, a_lcB2, a_lcB3, a_dcB1, a_dcB2, a_dcB3, a_asKs, a_asKi, a_yes, o_mod, o_div, o_mul1, o_mul2, o_nd0, o_nd1, o_sz, o_lenl, o_lenr, o_lent, o_lend, o_abs, o_pow, o_listl, o_listr, o_listt, o_app, o_max, o_min, Int.reduceLT, Int.reduceNeg, Int.reduceLE, Nat.reduceLT, Nat.reduceLeDiff, Int.reduceToNat, Int.reduceMul, Int.reduceAdd, Int.reduceSub, Int.reducePow]
  · obtain ⟨d, f', e, h', p⟩ := vl_end (sem := sem) (deep := deep) e1 h1 a1 b1 (by omega)
    exact ⟨d, f', e, h', p.mono (Nat.zero_le _) hk⟩
theorem value_spec : VlS sem__law_value 3 3 148 := by
  rw [vl0, vl1, vl2, vl3]
  exact vl_succ (by decide) (by decide) (vl_succ (k := 16) (by decide) (by decide) (vl_succ (k := 5) (by decide) (by decide) vl_zero))
end Dl
end
noncomputable section
namespace Dl
open PySem PySem.Spec PyProof.Rows L2 He Lp
def b0 : MS := (mSetO 2 (mFn [false, false] sem__law_feed (mCons (fz (mVar 0)) (mCons (fz (mVar 1)) (ret [])))))
def b1 : MS := (mUnp (gUn 3 (gCons (gN 3) (gCons (gN 4) (gCons (gN 5) gNil)))) (dV (mLc [6] (mIter rng1 (mCons (ret (.d (.int 3))) (ret []))) (gN 6) mYes (dV (mFn [true, false] sem__law_value (mCons (mVar 2) (mCons (fz (ret (.d (.int 3)))) (ret []))))))))
def b2_0 : MS := (mIf (mOr (mB (m2 neA (dV (mCall reprP (mCons (dV (mFn [false] sem__law_kept (mCons (fz (mVar 7)) (ret [])))) (ret [])))) (dV (mCall reprP (mCons (dV (m2 addD (dV (m2 mulD (dV (mLst (mConsD (mVar 3) (ret [])))) (ret (.d (.int 13))))) (dV (mLst (mConsD (mVar 3) (mConsD (mVar 4) (mConsD (mVar 5) (ret [])))))))) (ret [])))))) (mNot (mTru (dV (mFn [false] sem__law_right (mCons (fz (mVar 7)) (ret []))))))) (mRet (ret (.d (.bl false)))) mSkip)
def B2 : MS := b2_0
def b2 : MS := (mFor (mItems (dV (mTup (mConsD (dV (mFn [false, false, false] sem__law_by_position (mCons (fz (mVar 3)) (mCons (fz (mVar 4)) (mCons (fz (mVar 5)) (ret [])))))) (mConsD (dV (mFn [false, false, false] sem__law_by_name (mCons (fz (mVar 3)) (mCons (fz (mVar 4)) (mCons (fz (mVar 5)) (ret [])))))) (ret [])))))) (gN 7) B2)
def bLaw : MS := (mSeq b0 (mSeq b1 b2))
theorem m_law_eq : m_law = (mSeq (mFor (mIter rng1 (mCons (dV (mCall max2D (mCons (ret (.d (.int 1))) (mCons (dV (mCall min2D (mCons (ret (.d (.int 6))) (mCons (dV (mCall lenD (mCons (mVar 0) (ret [])))) (ret []))))) (ret []))))) (ret []))) (gN 1) bLaw) (mRet (ret (.d (.bl true))))) := rfl
theorem g3u (i j k : Nat) (a b c : D) (s : S) : gUn 3 (gCons (gN i) (gCons (gN j) (gCons (gN k) gNil))) (.lst [a, b, c]) s = some (((s.set i (.fz a)).set j (.fz b)).set k (.fz c)) := rfl
def kept (a b c : D) : List D := [a, a, a, a, a, a, a, a, a, a, a, a, a, a, b, c]
theorem mul13 (a : D) : mulD (.lst [a]) (.int 13) = some (.lst [a, a, a, a, a, a, a, a, a, a, a, a, a]) := by kernel_rfl
theorem add13 (a b c : D) : addD (.lst [a, a, a, a, a, a, a, a, a, a, a, a, a]) (.lst [a, b, c]) = some (.lst (kept a b c)) := by kernel_rfl
theorem kept_shown {a b c : D} (ha : PlV 3 148 a) (hb : PlV 3 148 b) (hc : PlV 3 148 c) : ∃ s : Str, reprP [.lst (kept a b c)] = some (.str s) := by
  obtain ⟨ps, e, h1, h2, h3, h4⟩ := pvs (n := 3) (k := 148) (l := kept a b c) fun d hd => by
    have : d = a ∨ d = b ∨ d = c := by
      simp only [kept, List.mem_cons, List.not_mem_nil, or_false, or_self_left] at hd
      exact hd
    rcases this with rfl | rfl | rfl
    · exact ha
    · exact hb
    · exact hc
  exact ⟨_, repr_ok e ⟨h1, h2, h3, h4⟩ (by show 16 * 148 ≤ 7900; decide)⟩
theorem turn {a b c : D} {N : D} {f : D} {k : Int} {z7 : Sl} (ha : PlV 3 148 a) (hb : PlV 3 148 b) (hc : PlV 3 148 c) :
    ∃ y7, b2 [.fz N, .fz (.int k), .ow true f, .fz a, .fz b, .fz c, .no, z7] = .nx [.fz N, .fz (.int k), .ow true f, .fz a, .fz b, .fz c, .no, y7] := by
  obtain ⟨s, e⟩ := kept_shown ha hb hc
  have hp := pos_spec a b c
  have hn := name_spec a b c
  have hk : sem__law_kept [.lst (errs a b c)] = .rt (.lst (kept a b c)) [] := kept_spec a b c
  have hr := right_spec a b c
  have hm := mul13 a
  have hd := add13 a b c
  generalize errs a b c = L at *
  generalize kept a b c = KL at *
  generalize ([a, a, a, a, a, a, a, a, a, a, a, a, a] : List D) = A13 at *
  have it : itemsD (.tup [.lst L, .lst L]) = some [.lst L, .lst L] := rfl
  have ht : truD (.bl true) = some true := rfl
  have s0 : ∀ y, stepF (gN 7) b2_0 (.lst L) [.fz N, .fz (.int k), .ow true f, .fz a, .fz b, .fz c, .no, y] = .nx [.fz N, .fz (.int k), .ow true f, .fz a, .fz b, .fz c, .no, .fz (.lst L)] := fun y => by
    unfold b2_0
    simp -implicitDefEqProofs only [hk, hr, hm, hd, e, n_str, decide_true, Bool.not_true, ht, a_bnd, a_bok, a_bexc, a_ret, a_some, a_sok, a_sexc, a_seq, a_nx, a_rt, a_ex, a_seqO, a_nxO, a_skip, a_if, a_ite, a_iteM, a_set, a_setO, a_mret, a_mretN, a_drop, a_var, a_vfz, a_vow, a_lkd, a_lks, a_l1, a_l2, a_l3, a_fd, a_fs, a_fso, a_fzD, a_fz, a_dV, a_dVs, a_m2, a_m1, a_m2z, a_z1, a_mB, a_asB, a_not, a_and, a_or, a_andV, a_orV, a_ifE, a_tru, a_chain, a_cons, a_consD, a_call, a_la0, a_la1, a_tup, a_lst, a_fn, a_store, a_mut, a_ow1, a_ow2, a_mutS, a_for, a_for0, a_step1, a_gN, a_iter, a_items, a_par, a_slT, a_slF, a_par3, a_unp, a_runF, a_runO, a_make, a_mk1, a_mk2, a_callS, a_ag0, a_ag1, a_ag2, a_ag3, a_p1, a_p2, a_rt1, a_rt2, a_po0, a_po1, startS, slot1, List.zipWith, a_rep0, a_rep1, List.length_cons, List.length_nil, Nat.reduceAdd, Nat.reduceSub, List.cons_append, List.nil_append, Bool.false_eq_true, if_false, if_true, reduceIte, List.getElem?_cons_zero, List.getElem?_cons_succ, List.set_cons_zero, List.set_cons_succ, Option.map_some, Option.map_none, Option.bind_some, Option.bind_none, List.map_cons, List.map_nil, o_stS, o_endN, o_endR, o_endX, o_endO, o_out0, o_outT, o_outF, o_add, o_sub, o_lt, o_le, o_gt, o_ge, o_ix0, o_ix1, o_it0, o_it1, o_st0, o_st1, a_seta, a_dstar, a_star, a_meth, a_isi, a_dget1, a_dget2, a_isd, a_getS1, a_getS2, a_sup, a_raise, a_dc, a_dcE, a_lc, a_lcE, a_w0, a_w1, a_u0, a_u1, a_u2, a_u3, a_lcB, a_lcB1, a_lcB2, a_lcB3, a_dcB1, a_dcB2, a_dcB3, a_asKs, a_asKi, a_yes, o_mod, o_div, o_mul1, o_mul2, o_nd0, o_nd1, o_sz, o_lenl, o_lenr, o_lent, o_lend, o_abs, o_pow, o_listl, o_listr, o_listt, o_app, o_max, o_min, Int.reduceLT, Int.reduceNeg, Int.reduceLE, Nat.reduceLT, Nat.reduceLeDiff, Int.reduceToNat, Int.reduceMul, Int.reduceAdd, Int.reduceSub, Int.reducePow]
  obtain ⟨s', e2, y7, rfl⟩ := for_inv (tg := gN 7) (body := b2_0) (fun i s => ∃ y, s = [.fz N, .fz (.int k), .ow true f, .fz a, .fz b, .fz c, .no, y]) [.lst L, .lst L] 0 [.fz N, .fz (.int k), .ow true f, .fz a, .fz b, .fz c, .no, z7] ⟨z7, rfl⟩ (by
    rintro j d s hj ⟨y, rfl⟩
    have hd : d = .lst L := by
      rcases List.mem_cons.mp (List.mem_of_getElem? hj) with z | z
      · exact z
      · exact List.mem_singleton.mp z
    subst hd
    exact ⟨_, .inl (s0 y), _, rfl⟩)
  refine ⟨y7, ?_⟩
  unfold b2 B2
  simp -implicitDefEqProofs only [hp, hn, it, e2, a_bnd, a_bok, a_bexc, a_ret, a_some, a_sok, a_sexc, a_seq, a_nx, a_rt, a_ex, a_seqO, a_nxO, a_skip, a_if, a_ite, a_iteM, a_set, a_setO, a_mret, a_mretN, a_drop, a_var, a_vfz, a_vow, a_lkd, a_lks, a_l1, a_l2, a_l3, a_fd, a_fs, a_fso, a_fzD, a_fz, a_dV, a_dVs, a_m2, a_m1, a_m2z, a_z1, a_mB, a_asB, a_not, a_and, a_or, a_andV, a_orV, a_ifE, a_tru, a_chain, a_cons, a_consD, a_call, a_la0, a_la1, a_tup, a_lst, a_fn, a_store, a_mut, a_ow1, a_ow2, a_mutS, a_for, a_for0, a_step1, a_gN, a_iter, a_items, a_par, a_slT, a_slF, a_par3, a_unp, a_runF, a_runO, a_make, a_mk1, a_mk2, a_callS, a_ag0, a_ag1, a_ag2, a_ag3, a_p1, a_p2, a_rt1, a_rt2, a_po0, a_po1, startS, slot1, List.zipWith, a_rep0, a_rep1, List.length_cons, List.length_nil, Nat.reduceAdd, Nat.reduceSub, List.cons_append, List.nil_append, Bool.false_eq_true, if_false, if_true, reduceIte, List.getElem?_cons_zero, List.getElem?_cons_succ, List.set_cons_zero, List.set_cons_succ, Option.map_some, Option.map_none, Option.bind_some, Option.bind_none, List.map_cons, List.map_nil, o_stS, o_endN, o_endR, o_endX, o_endO, o_out0, o_outT, o_outF, o_add, o_sub, o_lt, o_le, o_gt, o_ge, o_ix0, o_ix1, o_it0, o_it1, o_st0, o_st1, a_seta, a_dstar, a_star, a_meth, a_isi, a_dget1, a_dget2, a_isd, a_getS1, a_getS2, a_sup, a_raise, a_dc, a_dcE, a_lc, a_lcE, a_w0, a_w1, a_u0, a_u1, a_u2, a_u3, a_lcB, a_lcB1, a_lcB2, a_lcB3, a_dcB1, a_dcB2, a_dcB3, a_asKs, a_asKi, a_yes, o_mod, o_div, o_mul1, o_mul2, o_nd0, o_nd1, o_sz, o_lenl, o_lenr, o_lent, o_lend, o_abs, o_pow, o_listl, o_listr, o_listt, o_app, o_max, o_min, Int.reduceLT, Int.reduceNeg, Int.reduceLE, Nat.reduceLT, Nat.reduceLeDiff, Int.reduceToNat, Int.reduceMul, Int.reduceAdd, Int.reduceSub, Int.reducePow]
theorem law_turn {ns : List Int} {k : Int} (h0 : 0 ≤ k) (h1 : k < 1000000) {z2 z3 z4 z5 z7 : Sl} :
    ∃ y2 y3 y4 y5 y7, bLaw [.fz (.rol (ns.map .int)), .fz (.int k), z2, z3, z4, z5, .no, z7] = .nx [.fz (.rol (ns.map .int)), .fz (.int k), y2, y3, y4, y5, .no, y7] := by
  obtain ⟨f, e1, hf⟩ := feed_spec (ns := ns) h0 h1
  generalize ns.map D.int = NS at *
  obtain ⟨acc, s', e3, f3, rfl, h3, hl, hp⟩ := lc_inv (vs := [6]) (tg := gN 6) (cond := mYes) (elt := fzD (dV (mFn [true, false] sem__law_value (mCons (mVar 2) (mCons (fz (ret (.d (.int 3)))) (ret []))))))
      (fun i acc s => ∃ f', s = [.fz (.rol NS), .fz (.int k), .ow true f', z3, z4, z5, .no, z7] ∧ IsFeed f' ∧ acc.length = i ∧ ∀ d ∈ acc, PlV 3 148 d) (rangeD 0 3) 0 [] [.fz (.rol NS), .fz (.int k), .ow true f, z3, z4, z5, .no, z7] ⟨f, rfl, hf, rfl, fun d hd => nomatch hd⟩ (by
        rintro j x acc s hj ⟨f', rfl, h', hl, hp⟩
        obtain ⟨rfl, hj'⟩ := rangeD_get hj
        obtain ⟨d, f'', e, h'', p⟩ := value_spec f' h'
        refine ⟨some d, [.fz (.rol NS), .fz (.int k), .ow true f'', z3, z4, z5, .fz (.int (0 + (j : Int))), z7], by simp -implicitDefEqProofs only [e, a_bnd, a_bok, a_bexc, a_ret, a_some, a_sok, a_sexc, a_seq, a_nx, a_rt, a_ex, a_seqO, a_nxO, a_skip, a_if, a_ite, a_iteM, a_set, a_setO, a_mret, a_mretN, a_drop, a_var, a_vfz, a_vow, a_lkd, a_lks, a_l1, a_l2, a_l3, a_fd, a_fs, a_fso, a_fzD, a_fz, a_dV, a_dVs, a_m2, a_m1, a_m2z, a_z1, a_mB, a_asB, a_not, a_and, a_or, a_andV, a_orV, a_ifE, a_tru, a_chain, a_cons, a_consD, a_call, a_la0, a_la1, a_tup, a_lst, a_fn, a_store, a_mut, a_ow1, a_ow2, a_mutS, a_for, a_for0, a_step1, a_gN, a_iter, a_items, a_par, a_slT, a_slF, a_par3, a_unp, a_runF, a_runO, a_make, a_mk1, a_mk2, a_callS, a_ag0, a_ag1, a_ag2, a_ag3, a_p1, a_p2, a_rt1, a_rt2, a_po0, a_po1, startS, slot1, List.zipWith, a_rep0, a_rep1, List.length_cons, List.length_nil, Nat.reduceAdd, Nat.reduceSub, List.cons_append, List.nil_append, Bool.false_eq_true, if_false, if_true, reduceIte, List.getElem?_cons_zero, List.getElem?_cons_succ, List.set_cons_zero, List.set_cons_succ, Option.map_some, Option.map_none, Option.bind_some, Option.bind_none, List.map_cons, List.map_nil, o_stS, o_endN, o_endR, o_endX, o_endO, o_out0, o_outT, o_outF, o_add, o_sub, o_lt, o_le, o_gt, o_ge, o_ix0, o_ix1, o_it0, o_it1, o_st0, o_st1, a_seta, a_dstar, a_star, a_meth, a_isi, a_dget1, a_dget2, a_isd, a_getS1, a_getS2, a_sup, a_raise, a_dc, a_dcE, a_lc, a_lcE, a_w0, a_w1, a_u0, a_u1, a_u2, a_u3, a_lcB, a_lcB1, a_lcB2, a_lcB3, a_dcB1, a_dcB2, a_dcB3, a_asKs, a_asKi, a_yes, o_mod, o_div, o_mul1, o_mul2, o_nd0, o_nd1, o_sz, o_lenl, o_lenr, o_lent, o_lend, o_abs, o_pow, o_listl, o_listr, o_listt, o_app, o_max, o_min, Int.reduceLT, Int.reduceNeg, Int.reduceLE, Nat.reduceLT, Nat.reduceLeDiff, Int.reduceToNat, Int.reduceMul, Int.reduceAdd, Int.reduceSub, Int.reducePow], f'', by simp -implicitDefEqProofs only [a_bnd, a_bok, a_bexc, a_ret, a_some, a_sok, a_sexc, a_seq, a_nx, a_rt, a_ex, a_seqO, a_nxO, a_skip, a_if, a_ite, a_iteM, a_set, a_setO, a_mret, a_mretN, a_drop, a_var, a_vfz, a_vow, a_lkd, a_lks, a_l1, a_l2, a_l3, a_fd, a_fs, a_fso, a_fzD, a_fz, a_dV, a_dVs, a_m2, a_m1, a_m2z, a_z1, a_mB, a_asB, a_not, a_and, a_or, a_andV, a_orV, a_ifE, a_tru, a_chain, a_cons, a_consD, a_call, a_la0, a_la1, a_tup, a_lst, a_fn, a_store, a_mut, a_ow1, a_ow2, a_mutS, a_for, a_for0, a_step1, a_gN, a_iter, a_items, a_par, a_slT, a_slF, a_par3, a_unp, a_runF, a_runO, a_make, a_mk1, a_mk2, a_callS, a_ag0, a_ag1, a_ag2, a_ag3, a_p1, a_p2, a_rt1, a_rt2, a_po0, a_po1, startS, slot1, List.zipWith, a_rep0, a_rep1, List.length_cons, List.length_nil, Nat.reduceAdd, Nat.reduceSub, List.cons_append, List.nil_append, Bool.false_eq_true, if_false, if_true, reduceIte, List.getElem?_cons_zero, List.getElem?_cons_succ, List.set_cons_zero, List.set_cons_succ, Option.map_some, Option.map_none, Option.bind_some, Option.bind_none, List.map_cons, List.map_nil, o_stS, o_endN, o_endR, o_endX, o_endO, o_out0, o_outT, o_outF, o_add, o_sub, o_lt, o_le, o_gt, o_ge, o_ix0, o_ix1, o_it0, o_it1, o_st0, o_st1, a_seta, a_dstar, a_star, a_meth, a_isi, a_dget1, a_dget2, a_isd, a_getS1, a_getS2, a_sup, a_raise, a_dc, a_dcE, a_lc, a_lcE, a_w0, a_w1, a_u0, a_u1, a_u2, a_u3, a_lcB, a_lcB1, a_lcB2, a_lcB3, a_dcB1, a_dcB2, a_dcB3, a_asKs, a_asKi, a_yes, o_mod, o_div, o_mul1, o_mul2, o_nd0, o_nd1, o_sz, o_lenl, o_lenr, o_lent, o_lend, o_abs, o_pow, o_listl, o_listr, o_listt, o_app, o_max, o_min, Int.reduceLT, Int.reduceNeg, Int.reduceLE, Nat.reduceLT, Nat.reduceLeDiff, Int.reduceToNat, Int.reduceMul, Int.reduceAdd, Int.reduceSub, Int.reducePow], h'', by simp [hl], fun y hy => ?_⟩
        rcases List.mem_append.mp hy with hy | hy
        · exact hp y hy
        · rw [List.mem_singleton.mp hy]; exact p)
  rw [rangeD_len, Nat.zero_add] at hl
  match acc, hl with
  | [a, b, c], _ =>
    obtain ⟨y7, e4⟩ := turn (a := a) (b := b) (c := c) (N := .rol NS) (f := f3) (k := k) (z7 := z7) (hp a (by simp)) (hp b (by simp)) (hp c (by simp))
    refine ⟨.ow true f3, .fz a, .fz b, .fz c, y7, ?_⟩
    have s0 : b0 [.fz (.rol NS), .fz (.int k), z2, z3, z4, z5, .no, z7] = .nx [.fz (.rol NS), .fz (.int k), .ow true f, z3, z4, z5, .no, z7] := by
      unfold b0
      rw [q_feed]
      simp -implicitDefEqProofs only [e1, a_bnd, a_bok, a_bexc, a_ret, a_some, a_sok, a_sexc, a_seq, a_nx, a_rt, a_ex, a_seqO, a_nxO, a_skip, a_if, a_ite, a_iteM, a_set, a_setO, a_mret, a_mretN, a_drop, a_var, a_vfz, a_vow, a_lkd, a_lks, a_l1, a_l2, a_l3, a_fd, a_fs, a_fso, a_fzD, a_fz, a_dV, a_dVs, a_m2, a_m1, a_m2z, a_z1, a_mB, a_asB, a_not, a_and, a_or, a_andV, a_orV, a_ifE, a_tru, a_chain, a_cons, a_consD, a_call, a_la0, a_la1, a_tup, a_lst, a_fn, a_store, a_mut, a_ow1, a_ow2, a_mutS, a_for, a_for0, a_step1, a_gN, a_iter, a_items, a_par, a_slT, a_slF, a_par3, a_unp, a_runF, a_runO, a_make, a_mk1, a_mk2, a_callS, a_ag0, a_ag1, a_ag2, a_ag3, a_p1, a_p2, a_rt1, a_rt2, a_po0, a_po1, startS, slot1, List.zipWith, a_rep0, a_rep1, List.length_cons, List.length_nil, Nat.reduceAdd, Nat.reduceSub, List.cons_append, List.nil_append, Bool.false_eq_true, if_false, if_true, reduceIte, List.getElem?_cons_zero, List.getElem?_cons_succ, List.set_cons_zero, List.set_cons_succ, Option.map_some, Option.map_none, Option.bind_some, Option.bind_none, List.map_cons, List.map_nil, o_stS, o_endN, o_endR, o_endX, o_endO, o_out0, o_outT, o_outF, o_add, o_sub, o_lt, o_le, o_gt, o_ge, o_ix0, o_ix1, o_it0, o_it1, o_st0, o_st1, a_seta, a_dstar, a_star, a_meth, a_isi, a_dget1, a_dget2, a_isd, a_getS1, a_getS2, a_sup, a_raise, a_dc, a_dcE, a_lc, a_lcE, a_w0, a_w1, a_u0, a_u1, a_u2, a_u3, a_lcB, a_lcB1, a_lcB2, a_lcB3, a_dcB1, a_dcB2, a_dcB3, a_asKs, a_asKi, a_yes, o_mod, o_div, o_mul1, o_mul2, o_nd0, o_nd1, o_sz, o_lenl, o_lenr, o_lent, o_lend, o_abs, o_pow, o_listl, o_listr, o_listt, o_app, o_max, o_min, Int.reduceLT, Int.reduceNeg, Int.reduceLE, Nat.reduceLT, Nat.reduceLeDiff, Int.reduceToNat, Int.reduceMul, Int.reduceAdd, Int.reduceSub, Int.reducePow]
    have r3 : rng1 [.int 3] = some (rangeD 0 3) := rfl
    have s1 : b1 [.fz (.rol NS), .fz (.int k), .ow true f, z3, z4, z5, .no, z7] = .nx [.fz (.rol NS), .fz (.int k), .ow true f3, .fz a, .fz b, .fz c, .no, z7] := by
      unfold b1
      simp -implicitDefEqProofs only [r3, rangeD_len, o_sz (n := 3) (by decide), e3, g3u, a_bnd, a_bok, a_bexc, a_ret, a_some, a_sok, a_sexc, a_seq, a_nx, a_rt, a_ex, a_seqO, a_nxO, a_skip, a_if, a_ite, a_iteM, a_set, a_setO, a_mret, a_mretN, a_drop, a_var, a_vfz, a_vow, a_lkd, a_lks, a_l1, a_l2, a_l3, a_fd, a_fs, a_fso, a_fzD, a_fz, a_dV, a_dVs, a_m2, a_m1, a_m2z, a_z1, a_mB, a_asB, a_not, a_and, a_or, a_andV, a_orV, a_ifE, a_tru, a_chain, a_cons, a_consD, a_call, a_la0, a_la1, a_tup, a_lst, a_fn, a_store, a_mut, a_ow1, a_ow2, a_mutS, a_for, a_for0, a_step1, a_gN, a_iter, a_items, a_par, a_slT, a_slF, a_par3, a_unp, a_runF, a_runO, a_make, a_mk1, a_mk2, a_callS, a_ag0, a_ag1, a_ag2, a_ag3, a_p1, a_p2, a_rt1, a_rt2, a_po0, a_po1, startS, slot1, List.zipWith, a_rep0, a_rep1, List.length_cons, List.length_nil, Nat.reduceAdd, Nat.reduceSub, List.cons_append, List.nil_append, Bool.false_eq_true, if_false, if_true, reduceIte, List.getElem?_cons_zero, List.getElem?_cons_succ, List.set_cons_zero, List.set_cons_succ, Option.map_some, Option.map_none, Option.bind_some, Option.bind_none, List.map_cons, List.map_nil, o_stS, o_endN, o_endR, o_endX, o_endO, o_out0, o_outT, o_outF, o_add, o_sub, o_lt, o_le, o_gt, o_ge, o_ix0, o_ix1, o_it0, o_it1, o_st0, o_st1, a_seta, a_dstar, a_star, a_meth, a_isi, a_dget1, a_dget2, a_isd, a_getS1, a_getS2, a_sup, a_raise, a_dc, a_dcE, a_lc, a_lcE, a_w0, a_w1, a_u0, a_u1, a_u2, a_u3, a_lcB, a_lcB1, a_lcB2, a_lcB3, a_dcB1, a_dcB2, a_dcB3, a_asKs, a_asKi, a_yes, o_mod, o_div, o_mul1, o_mul2, o_nd0, o_nd1, o_sz, o_lenl, o_lenr, o_lent, o_lend, o_abs, o_pow, o_listl, o_listr, o_listt, o_app, o_max, o_min, Int.reduceLT, Int.reduceNeg, Int.reduceLE, Nat.reduceLT, Nat.reduceLeDiff, Int.reduceToNat, Int.reduceMul, Int.reduceAdd, Int.reduceSub, Int.reducePow]
    unfold bLaw
    rw [a_seq, s0, a_nx, a_seq, s1, a_nx, e4]
theorem plaink01 (ns : List Int) (hl : ns.length ≤ 63) : sem_law [.rol (ns.map .int)] = .rt (.bl true) [] := by
  obtain ⟨K, hK, k0, k1⟩ : ∃ K : Int, max2D [.int 1, .int (if (ns.length : Int) < 6 then (ns.length : Int) else 6)] = some (.int K) ∧ 0 ≤ K ∧ K ≤ 7 := by
    refine ⟨_, o_max _ _, ?_, ?_⟩
    · split <;> split <;> omega
    · split <;> split <;> omega
  obtain ⟨s', e, y1, y2, y3, y4, y5, y7, rfl⟩ := for_inv (tg := gN 1) (body := bLaw) (fun i s => ∃ y1 y2 y3 y4 y5 y7, s = [Sl.fz (.rol (ns.map .int)), y1, y2, y3, y4, y5, .no, y7]) (rangeD 0 K.toNat) 0
    [Sl.fz (.rol (ns.map .int)), .no, .no, .no, .no, .no, .no, .no] ⟨_, _, _, _, _, _, rfl⟩ (by
      rintro j d s hj ⟨y1, y2, y3, y4, y5, y7, rfl⟩
      obtain ⟨rfl, hj'⟩ := rangeD_get hj
      obtain ⟨w2, w3, w4, w5, w7, e⟩ := law_turn (ns := ns) (k := 0 + (j : Int)) (by omega) (by omega) (z2 := y2) (z3 := y3) (z4 := y4) (z5 := y5) (z7 := y7)
      exact ⟨_, .inl e, _, _, _, _, _, _, rfl⟩)
  unfold sem_law
  rw [m_law_eq]
  simp -implicitDefEqProofs only [List.length_map, hK, o_rng (j := K) k0 (by omega), e, a_bnd, a_bok, a_bexc, a_ret, a_some, a_sok, a_sexc, a_seq, a_nx, a_rt, a_ex, a_seqO, a_nxO, a_skip, a_if, a_ite, a_iteM, a_set, a_setO, a_mret, a_mretN, a_drop, a_var, a_vfz, a_vow, a_lkd, a_lks, a_l1, a_l2, a_l3, a_fd, a_fs, a_fso, a_fzD, a_fz, a_dV, a_dVs, a_m2, a_m1, a_m2z, a_z1, a_mB, a_asB, a_not, a_and, a_or, a_andV, a_orV, a_ifE, a_tru, a_chain, a_cons, a_consD, a_call, a_la0, a_la1, a_tup, a_lst, a_fn, a_store, a_mut, a_ow1, a_ow2, a_mutS, a_for, a_for0, a_step1, a_gN, a_iter, a_items, a_par, a_slT, a_slF, a_par3, a_unp, a_runF, a_runO, a_make, a_mk1, a_mk2, a_callS, a_ag0, a_ag1, a_ag2, a_ag3, a_p1, a_p2, a_rt1, a_rt2, a_po0, a_po1, startS, slot1, List.zipWith, a_rep0, a_rep1, List.length_cons, List.length_nil, Nat.reduceAdd, Nat.reduceSub, List.cons_append, List.nil_append, Bool.false_eq_true, if_false, if_true, reduceIte, List.getElem?_cons_zero, List.getElem?_cons_succ, List.set_cons_zero, List.set_cons_succ, Option.map_some, Option.map_none, Option.bind_some, Option.bind_none, List.map_cons, List.map_nil, o_stS, o_endN, o_endR, o_endX, o_endO, o_out0, o_outT, o_outF, o_add, o_sub, o_lt, o_le, o_gt, o_ge, o_ix0, o_ix1, o_it0, o_it1, o_st0, o_st1, a_seta, a_dstar, a_star, a_meth, a_isi, a_dget1, a_dget2, a_isd, a_getS1, a_getS2, a_sup, a_raise, a_dc, a_dcE, a_lc, a_lcE, a_w0, a_w1, a_u0, a_u1, a_u2, a_u3, a_lcB, a_lcB1, a_lcB2, a_lcB3, a_dcB1, a_dcB2, a_dcB3, a_asKs, a_asKi, a_yes, o_mod, o_div, o_mul1, o_mul2, o_nd0, o_nd1, o_sz, o_lenl, o_lenr, o_lent, o_lend, o_abs, o_pow, o_listl, o_listr, o_listt, o_app, o_max, o_min, Int.reduceLT, Int.reduceNeg, Int.reduceLE, Nat.reduceLT, Nat.reduceLeDiff, Int.reduceToNat, Int.reduceMul, Int.reduceAdd, Int.reduceSub, Int.reducePow]
end Dl
end
namespace Lp
open PySem PySem.W PySem.Calls PyProof.Rows HandSHeadRun
section
variable (st : SharedT → Thread → Option (SharedT × Thread)) (n0 : Nat) (ann : Option Value)
def segF (b : Nat) : Nat → SharedT → Thread → Option (Flow × SharedT × Code × Pos)
  | 0, _, _ => none
  | m + 1, s, t => match endAt b t with
    | some f => some (f, s, t.code, t.pos)
    | none => match stepOk n0 ann t with
      | false => none
      | true => match st s t with
        | some (s', t') => frS s' fun s' => segF b m s' t'
        | none => none
def preF : Nat → SharedT → Thread → Option (SharedT × Thread)
  | 0, s, t => some (s, t)
  | m + 1, s, t => match through t with
    | true => none
    | false => match stepOk n0 ann t with
      | false => none
      | true => match st s t with
        | some (s', t') => frS s' fun s' => preF m s' t'
        | none => none
end
theorem segF_ok {tb : String → Option Builtin} {p : Program} {w : World} {n0 b : Nat} {ann : Option Value} : ∀ {m : Nat} {s s' : SharedT} {t : Thread} {f : Flow} {c : Code} {q : Pos}, segF (stepT (denote tb) p w) n0 ann b m s t = some (f, s', c, q) → segRun tb p w n0 ann b m s.abs t = some (f, s'.abs, c, q)
  | 0, _, _, _, _, _, _, h => by cases h
  | m + 1, s, s', t, f, c, q, h => by
    unfold segF at h
    unfold segRun
    cases he : endAt b t with
    | some x => rw [he] at h; cases h; rfl
    | none =>
      rw [he] at h
      cases hk : stepOk n0 ann t with
      | false => rw [hk] at h; cases h
      | true =>
        rw [hk] at h
        cases hs : stepT (denote tb) p w s t with
        | none => rw [hs] at h; cases h
        | some r =>
          obtain ⟨s2, t2⟩ := r
          rw [hs] at h
          simp only [frS_eq] at h
          rw [stepT_spec hs]
          exact segF_ok h
theorem preF_ok {tb : String → Option Builtin} {p : Program} {w : World} {n0 : Nat} {ann : Option Value} : ∀ {m : Nat} {s s' : SharedT} {t t' : Thread}, preF (stepT (denote tb) p w) n0 ann m s t = some (s', t') → topGo tb p w n0 ann m s.abs t = some (s'.abs, t')
  | 0, _, _, _, _, h => by cases h; rfl
  | m + 1, s, s', t, t', h => by
    unfold preF at h
    unfold topGo
    cases ht : through t with
    | true => rw [ht] at h; cases h
    | false =>
      rw [ht] at h
      cases hk : stepOk n0 ann t with
      | false => rw [hk] at h; cases h
      | true =>
        rw [hk] at h
        cases hs : stepT (denote tb) p w s t with
        | none => rw [hs] at h; cases h
        | some r =>
          obtain ⟨s2, t2⟩ := r
          rw [hs] at h
          simp only [frS_eq] at h
          rw [stepT_spec hs]
          exact preF_ok h
noncomputable abbrev stQ (p : Program) (w : World) : SharedT → Thread → Option (SharedT × Thread) := stepQ (denQ tabQ) p w
theorem stQ_eq (p : Program) (w : World) : stQ p w = stepT (denote treeTable) p w := by
  show stepQ (denQ tabQ) p w = _
  rw [← stepQ_eq, ← denQ_eq, ← tabQ_eq]
noncomputable def preQ (p : Program) (w : World) (os : OsState) (n0 : Nat) (ann : Option Value) (m : Nat) : Option (SharedT × Thread) := match putAll (boot_heap w.params).objs.toList .nil 0 with
  | some (t, n) => frNat n fun n => preF (stQ p w) n0 ann m (bootT w os (t, n)) (topStub p)
  | none => none
theorem preQ_ok {p : Program} {w : World} {os : OsState} {n0 m : Nat} {ann : Option Value} {s : SharedT} {t : Thread} (h : preQ p w os n0 ann m = some (s, t)) :
    topGo treeTable p w n0 ann m ⟨boot_heap w.params, #[], boot_drawn, boot_toks, os⟩ (topStub p) = some (s.abs, t) := by
  unfold preQ at h
  cases e : putAll (boot_heap w.params).objs.toList .nil 0 with
  | none => rw [e] at h; cases h
  | some r =>
    obtain ⟨T, n⟩ := r
    rw [e] at h
    have h1 : (frNat n fun n => preF (stQ p w) n0 ann m (bootT w os (T, n)) (topStub p)) = some (s, t) := h
    rw [frNat_eq, stQ_eq] at h1
    have q := preF_ok h1
    have eb : (bootT w os (T, n)).abs = ⟨boot_heap w.params, #[], boot_drawn, boot_toks, os⟩ := by
      show (⟨absHeap T n (boot_heap w.params).life, #[], boot_drawn, boot_toks, os⟩ : Shared) = _
      rw [putAll_heap e]
    rw [eb] at q
    exact q
theorem seg_ok {p : Program} {w : World} {n0 m : Nat} {ann : Option Value} {s s' : SharedT} {t : Thread} {f : Flow} {c : Code} {q : Pos} (h : segF (stQ p w) n0 ann 1 m s t = some (f, s', c, q)) : segRun treeTable p w n0 ann 1 m s.abs t = some (f, s'.abs, c, q) := by
  rw [stQ_eq] at h
  exact segF_ok h
theorem go_ok {p : Program} {w : World} {n0 m : Nat} {ann : Option Value} {s s' : SharedT} {t : Thread} (h : goF (stQ p w) n0 ann m s t = some s') : topRun treeTable p w n0 ann m s.abs t = some s'.abs := by
  rw [stQ_eq] at h
  exact goF_ok h
noncomputable abbrev exQ : List Stmt → Env → Sem Flow := PySem.W.Fast.tw12563942051412417395
theorem exQ_eq : @execs = exQ := PySem.W.Fast.te12563942051412417395
noncomputable abbrev bsQ : List Stmt → Env → Sem Unit := PySem.W.Fast.tw1066825118222455980
theorem bsQ_eq : @blockStart = bsQ := PySem.W.Fast.te1066825118222455980
noncomputable abbrev pieceQ (l : List Stmt) (env : Env) (c : Code) (p : Pos) (B : List Frame) : Thread := ⟨(exQ l env).wrap doneF deadEnd id id, c, p, B⟩
noncomputable abbrev blockQ (b : List Stmt) (env : Env) (c : Code) (p : Pos) (B : List Frame) : Thread := ⟨(bsQ b env).wrap (fun _ => doneF .next) deadEnd id id, c, p, B⟩
theorem pieceQ_ok {p : Program} {w : World} {n0 m : Nat} {ann : Option Value} {s s' : SharedT} {l : List Stmt} {env : Env} {c c' : Code} {pos q : Pos} {B : List Frame} {f : Flow} (h : segF (stQ p w) n0 ann 1 m s (pieceQ l env c pos B) = some (f, s', c', q)) : segRun treeTable p w n0 ann 1 m s.abs (piecesOf l env c pos B) = some (f, s'.abs, c', q) := by
  have e : piecesOf l env c pos B = pieceQ l env c pos B := by
    show (⟨(@execs l env).wrap doneF deadEnd id id, c, pos, B⟩ : Thread) = _
    rw [exQ_eq]
  rw [e]
  exact seg_ok h
theorem blockQ_ok {p : Program} {w : World} {n0 m : Nat} {ann : Option Value} {s s' : SharedT} {l : List Stmt} {env : Env} {c c' : Code} {pos q : Pos} {B : List Frame} {f : Flow} (h : segF (stQ p w) n0 ann 1 m s (blockQ l env c pos B) = some (f, s', c', q)) : segRun treeTable p w n0 ann 1 m s.abs (blockOf l env c pos B) = some (f, s'.abs, c', q) := by
  have e : blockOf l env c pos B = blockQ l env c pos B := by
    show (⟨(@blockStart l env).wrap (fun _ => doneF .next) deadEnd id id, c, pos, B⟩ : Thread) = _
    rw [bsQ_eq]
  rw [e]
  exact seg_ok h
theorem preD_ok {p : Program} {w : World} {os : OsState} {n0 m : Nat} {ann : Option Value} {s : SharedT} {cc c : Code} {pos : Pos} {B : List Frame} (h : preQ p w os n0 ann m = some (s, ⟨denQ tabQ cc, c, pos, B⟩)) :
    topGo treeTable p w n0 ann m ⟨boot_heap w.params, #[], boot_drawn, boot_toks, os⟩ (topStub p) = some (s.abs, ⟨denote treeTable cc, c, pos, B⟩) := by
  have e : (⟨denote treeTable cc, c, pos, B⟩ : Thread) = ⟨denQ tabQ cc, c, pos, B⟩ := by rw [← denQ_eq, ← tabQ_eq]
  rw [e]
  exact preQ_ok h
theorem left_seg {p q : Program} {loose : List PySem.Str} {Xt : Shared → Bool} {α : Type} {Yf : Shared → α} {Ya : World → α} {N M n0 : Nat} {ann : Option Value}
    (e : opening p = plainProg p.main.scope.names) (hN : Nat.ble 600 N = true) (f : ∀ s, fenceModules? p s = some s) (le : Nat.ble M N = true) (h0 : ∀ w : World, (boot_heap w.params).objs.size = n0) (ha : ∀ w : World, bootAnn w = ann)
    (run : ∀ (w : World) (os : OsState), ∃ s : SharedT, topRun treeTable p w n0 ann M ⟨boot_heap w.params, #[], boot_drawn, boot_toks, os⟩ (topStub p) = some s.abs ∧ (looksF p (boot_heap w.params) s.abs, openSeen q loose (importedModules p.main.body) Xt true s.abs, Yf s.abs) = (true, openGood q loose, Ya w)) :
    LeftO p q loose Xt Yf Ya N true := fun w => by
  obtain ⟨⟨h, gs, d, k, os⟩, a, a'⟩ := Option.map_eq_some_iff.mp (boot_open e hN f w)
  obtain ⟨rfl, rfl, rfl, rfl⟩ : h = boot_heap w.params ∧ gs = Array.mk [] ∧ d = boot_drawn ∧ k = boot_toks := by simpa using a'
  obtain ⟨s, hs, hv⟩ := run w os
  obtain ⟨l1, l2, l3⟩ : _ ∧ _ ∧ _ := by simpa only [Prod.mk.injEq] using hv
  have r := topRun_mono (N - M) _ _ _ _ hs
  rw [show M + (N - M) = N by have := Nat.le_of_ble_eq_true le; omega] at r
  rw [← h0 w, ← ha w] at r
  have l1' : (staticsOk (importedModules p.main.body) (boot_heap w.params) s.abs.heap && namesBound p s.abs.heap && gensDone s.abs && laidKept (boot_heap w.params) s.abs.heap) = true := l1
  have t : topFrom treeTable p w N ⟨boot_heap w.params, Array.mk [], boot_drawn, boot_toks, os⟩ = some s.abs := by
    unfold topFrom
    dsimp only
    rw [boot_ns]
    show (topRun treeTable p w (boot_heap w.params).objs.size (bootAnn w) N ⟨boot_heap w.params, #[], boot_drawn, boot_toks, os⟩ (topStub p)).bind _ = _
    rw [r]
    show (match staticsOk (importedModules p.main.body) (boot_heap w.params) s.abs.heap && namesBound p s.abs.heap && gensDone s.abs && laidKept (boot_heap w.params) s.abs.heap with | true => some s.abs | false => none) = _
    rw [l1']
  unfold openEnds
  rw [a]
  show (topFrom treeTable p w N _).map _ = _
  rw [t]
  exact congrArg some (Prod.ext l2 l3)
def EndEq (r : OpenRow) (q : Program) (H : Hook) (ob : SharedT → H.α) (n0 : Nat) (ann : Option Value) (M : Nat) (loose : List PySem.Str) (w : World) (s : SharedT) (t : Thread) : Prop :=
  (goF (stQ r.prog w) n0 ann M s t).map (fun s => (looksF r.prog (boot_heap w.params) s.abs, seenQ q loose (importedModules r.prog.main.body) (fun s => xlAt q [] s && recOk r.toRowW.records s) s.abs, ob s)) = some (true, openGood q loose, H.val w)
theorem head_seg {r : OpenRow} {q : Program} {H : Hook} {ob : SharedT → H.α} {M n0 m : Nat} {ann : Option Value} {loose : List PySem.Str} {d : DefRec} {kwd : List (PySem.Str × PySem.Expr)} {sm : World → OsState → SharedT} {tm : Thread} (ho : ∀ s : SharedT, ob s = H.obs s.abs)
    (e : opening r.prog = plainProg r.prog.main.scope.names) (f : ∀ s, fenceModules? r.prog s = some s) (h0 : ∀ w : World, (boot_heap w.params).objs.size = n0) (ha : ∀ w : World, bootAnn w = ann)
    (run : ∀ (w : World) (os : OsState) (x : Shared), topRun treeTable r.prog w n0 ann m (sm w os).abs tm = some x → topRun treeTable r.prog w n0 ann M ⟨boot_heap w.params, #[], boot_drawn, boot_toks, os⟩ (topStub r.prog) = some x)
    (fin : ∀ (w : World) (os : OsState), EndEq r q H ob n0 ann m loose w (sm w os) tm)
    (hdef : defOf q r.name = some (d, kwd)) (hp : r.prog.theDef r.name = some (d.params, d.body, d.scope)) (hk : kwWritten? d.params.kwonlyargs d.params.kw_defaults = some kwd)
    (hwr : (!r.writes || r.records.isEmpty) = true) (k1 : r.wellSaid = true) (ok : (chainsOk q && opensWell r.prog && (frees r.toRowW && r.within.isEmpty)) = true) (hb : r.prog.bare) (hw : r.toRowW.promised)
    (call : WalkO q loose (XL q []) H.says r.toRowW d kwd fun f vs => PySem.call f vs) : r.Holds := by
  have left : LeftO r.prog q loose (fun s => xlAt q [] s && recOk r.toRowW.records s) H.obs H.val (M + 600) true :=
    left_seg (M := M) e (Nat.ble_eq_true_of_le (by omega)) f (Nat.ble_eq_true_of_le (by omega)) h0 ha fun w os => by
      obtain ⟨s, hs, hv⟩ := Option.map_eq_some_iff.mp (show (goF (stQ r.prog w) n0 ann m (sm w os) tm).map _ = some _ from fin w os)
      refine ⟨s, run w os _ (go_ok hs), ?_⟩
      rw [seenQ_eq, ← ho s]
      exact hv
  exact holds_open (r := r) (q := q) (loose := loose) (XP := XL q []) (YP := H.says) (d := d) (kwd := kwd) left H.of H.keeps (fun s z => xl_of s (Bool.and_eq_true_iff.mp z).1) XL.keeps hdef hp hk (fun s z => recFacts_of (Bool.and_eq_true_iff.mp z).2) hwr k1 ok hb hw call
def hD (P : Params) (x : PySem.Str) (t : Tok) (v : Value) : DictEntry := ⟨PyData.keyHash P x, .str x t, v⟩
def hF (s : Stmt) (x q : PySem.Str) (g : Addr) (cl : List (PySem.Str × Addr)) (d kd doc pm : Value) (an : Option Addr) (c ct : Value) (b : Addr) : Data := .func ⟨x, q, L2.defArgs s, .stmts (L2.defBody s), L2.defScope s, g, cl, d, kd, doc, pm, an, c, ct, b⟩
def clsBody (s : Stmt) : List Stmt := match s with
  | .ClassDef _ _ _ b _ _ _ _ _ _ _ => b
  | _ => []
def clsScope (s : Stmt) : Scope := match s with
  | .ClassDef _ _ _ _ _ _ sc _ _ _ _ => sc
  | _ => { kind := .function, names := [], isGenerator := false, isCoroutine := false }
def hK (s : Stmt) (x q : PySem.Str) (g : Addr) (cl : List (PySem.Str × Addr)) (d kd doc pm : Value) (an : Option Addr) (c ct : Value) (b : Addr) : Data := .func ⟨x, q, ⟨[], [], none, [], [], none, []⟩, .stmts (clsBody s), clsScope s, g, cl, d, kd, doc, pm, an, c, ct, b⟩
end Lp
noncomputable section
namespace Dl
open PySem PySem.W PySem.Calls PyProof.Rows L2 Lp HandSHeadRun
def lf (o : Obj) : BT := .node o .nil .nil
def hoC (l : Array Value) : Obj := ⟨(.type "code"), none, (.fields l), #[]⟩
def hoT (l : Array Value) : Obj := ⟨(.type "tuple"), none, (.seq l 0), #[]⟩
def hi0 : Value := .int 0 0
def ho0 : Obj := hoT #[]
def ho1 : Obj := ⟨.none, none, (.fields #[]), #[]⟩
def ho2 : Obj := hoC #[(.str "<module>" 182), (.str "<module>" 183), (.str "/claim/cut.py" 184), (.int 1 0), hi0, hi0, hi0, hi0, (.ref 11), (.bool false), (.int 181 0), (.ref 12), .none, .none, .none, .none, (.int 185 0), (.int 1 0), (.str "/claim/cut.py" 186)]
def ho3 : Obj := ⟨(.type "frame"), none, .plain, #[(some (.ref 13)), (some (.ref 3)), (some (.ref 3)), none, (some (.str "__main__" 164)), none, (some (.ref 0))]⟩
def hT_a (P : Params) : BT := (.node (boot_o_0 P) (.node (boot_o_1 P) (.node (boot_o_3 P) (lf (boot_o_7 P)) (lf ho0)) (.node (boot_o_5 P) (lf (boot_o_9 P)) (lf ho2))) (.node (boot_o_2 P) (.node (boot_o_4 P) (lf (boot_o_8 P)) (lf ho1)) (.node (boot_o_6 P) (lf (boot_o_10 P)) (lf ho3))))
def hS_a (w : World) (os : OsState) : SharedT := ⟨hT_a w.params, 15, (boot_heap w.params).life, #[], ⟨0, 0, 0, 0⟩, 187, os⟩
def hT_b (P : Params) : BT := (.node (boot_o_0 P) (.node (boot_o_1 P) (.node (boot_o_3 P) (lf (boot_o_7 P)) (lf ho0)) (.node (boot_o_5 P) (lf (boot_o_9 P)) (lf ho2))) (.node (boot_o_2 P) (.node (boot_o_4 P) (lf (boot_o_8 P)) (lf ho1)) (.node (boot_o_6 P) (lf (boot_o_10 P)) (lf ho3))))
def hS_b (w : World) (os : OsState) : SharedT := ⟨hT_b w.params, 15, (boot_heap w.params).life, #[], ⟨0, 0, 0, 0⟩, 187, os⟩
def ho4 (P : Params) : Obj := ⟨(.type "dict"), none, (.dict #[hD P "__name__" 165 (.str "lateplace.errors" 187), hD P "__doc__" 166 .none, hD P "__package__" 167 .none, hD P "__loader__" 168 (.builtin "__main__.__loader__#opaque"), hD P "__spec__" 169 .none, hD P "__annotations__" 170 (.ref 6), hD P "__builtins__" 171 (.ref 4), hD P "__file__" 173 (.str "/claim/cut.py" 172), hD P "__cached__" 174 .none, hD P "StoreError" 206 (.ref 24), hD P "InvalidName" 233 (.ref 46), hD P "InvalidText" 260 (.ref 67), hD P "InvalidProgram" 287 (.ref 88), hD P "NoPlace" 314 (.ref 109), hD P "Taken" 341 (.ref 130), hD P "Over" 368 (.ref 151), hD P "NoMark" 395 (.ref 172), hD P "Refused" 422 (.ref 193), hD P "Held" 453 (.ref 214), hD P "Firm" 480 (.ref 235)] 20), #[]⟩
def ho5 : Obj := ⟨.none, none, (.fields #[(.int 2 0), hi0, (.ref 20), (.int 4 0), hi0, (.ref 34), (.int 9 0), hi0, (.ref 55), (.int 14 0), hi0, (.ref 76), (.int 19 0), hi0, (.ref 97), (.int 24 0), hi0, (.ref 118), (.int 29 0), hi0, (.ref 139), (.int 34 0), hi0, (.ref 160), (.int 39 0), hi0, (.ref 181), (.int 44 0), hi0, (.ref 202), (.int 51 0), hi0, (.ref 223)]), #[]⟩
def ho6 : Obj := hoT #[(.type "ValueError")]
def ho7 : Obj := ⟨(.type "builtin_function_or_method"), none, (.fields #[(.builtin "type.__prepare__"), (.type "type")]), #[]⟩
def ho8 (P : Params) : Obj := ⟨(.type "dict"), none, (.dict #[hD P "__module__" 196 (.str "lateplace.errors" 187), hD P "__qualname__" 198 (.str "StoreError" 197), hD P "__firstlineno__" 200 (.int 2 199), hD P "__static_attributes__" 201 (.ref 22)] 4), #[]⟩
def ho11 : Obj := hoC #[(.str "StoreError" 191), (.str "StoreError" 192), (.str "/claim/cut.py" 193), (.int 2 0), hi0, hi0, hi0, hi0, (.ref 18), (.bool false), (.int 181 0), (.ref 19), .none, .none, .none, .none, (.int 194 0), (.int 2 0), (.str "/claim/cut.py" 195)]
def ho12 : Obj := ⟨(.type "frame"), none, .plain, #[(some (.ref 20)), (some (.ref 3)), (some (.ref 17)), none, (some (.str "lateplace.errors" 187)), none, (some (.ref 0))]⟩
def ho14 (P : Params) : Obj := ⟨(.type "dict"), none, (.dict #[hD P "__module__" 196 (.str "lateplace.errors" 187), hD P "__firstlineno__" 200 (.int 2 199), hD P "__static_attributes__" 201 (.ref 22), hD P "__weakref__" 203 (.ref 25), hD P "__doc__" 204 .none] 3), #[]⟩
def ho15 : Obj := ⟨(.type "type"), none, (.cls ⟨"StoreError", [(.type "ValueError")], [(.ref 24), (.type "ValueError"), (.type "Exception"), (.type "BaseException"), (.type "object")], 23, "StoreError", true, [], [(.ref 46), (.ref 67), (.ref 88), (.ref 109), (.ref 130), (.ref 151), (.ref 172), (.ref 193), (.ref 214), (.ref 235)], false, none, false⟩), #[(some (.ref 15)), none, (some (.str "StoreError" 189)), (some (.str "StoreError" 197)), (some (.builtin "ValueError.__new__")), (some (.bool true))]⟩
def ho16 : Obj := ⟨(.type "getset_descriptor"), none, (.fields #[(.str "__weakref__" 202), (.ref 24), (.builtin "ExceptionGroup.__weakref__"), .none]), #[]⟩
def ho17 : Obj := ⟨(.type "super"), none, (.fields #[(.ref 24), (.ref 24), (.ref 24)]), #[]⟩
def ho18 : Obj := ⟨(.type "builtin_function_or_method"), none, (.fields #[(.builtin "object.__init_subclass__"), (.ref 24)]), #[]⟩
def ho19 : Obj := hoT #[(.ref 24)]
def ho21 (P : Params) : Obj := ⟨(.type "dict"), none, (.dict #[hD P "__module__" 214 (.str "lateplace.errors" 187), hD P "__qualname__" 216 (.str "InvalidName" 215), hD P "__firstlineno__" 218 (.int 4 217), hD P "__init__" 227 (.ref 43), hD P "__static_attributes__" 229 (.ref 44), hD P "__classcell__" 230 (.ref 31)] 6), #[]⟩
def ho22 : Obj := ⟨(.type "cell"), none, (.cell (some (.ref 46))), #[]⟩
def ho24 : Obj := ⟨.none, none, (.fields #[(.int 6 0), (.int 4 0), (.ref 42)]), #[]⟩
def ho25 : Obj := hoC #[(.str "InvalidName" 209), (.str "InvalidName" 210), (.str "/claim/cut.py" 211), (.int 4 0), hi0, hi0, hi0, hi0, (.ref 32), (.bool false), (.int 181 0), (.ref 33), .none, .none, .none, .none, (.int 212 0), (.int 4 0), (.str "/claim/cut.py" 213)]
def ho26 : Obj := ⟨(.type "frame"), none, .plain, #[(some (.ref 34)), (some (.ref 3)), (some (.ref 30)), none, (some (.str "lateplace.errors" 187)), none, (some (.ref 0))]⟩
def ho27 : Obj := hoT #[(.ref 31)]
def ho28 : Obj := hoT #[(.str "__class__" 222)]
def ho30 : Obj := hoT #[(.str "self" 223), (.str "name" 224)]
def ho32 : Obj := ⟨.none, none, (hF (inClass (topk01 2) 0) "__init__" "InvalidName.__init__" 0 [] .none .none .none .none none .none .none 0), #[]⟩
def ho33 : Obj := hoC #[(.str "__init__" 219), (.str "InvalidName.__init__" 220), (.str "/claim/cut.py" 221), (.int 6 0), (.int 2 0), hi0, hi0, (.int 3 0), (.ref 37), (.bool true), (.int 181 0), (.ref 38), .none, (.ref 39), (.ref 40), (.ref 41), (.int 225 0), (.int 6 0), (.str "/claim/cut.py" 226)]
def ho34 : Obj := ⟨(.type "function"), none, (hF (inClass (topk01 2) 0) "__init__" "InvalidName.__init__" 3 [("__class__", 31)] .none .none .none (.str "lateplace.errors" 187) none (.ref 42) (.ref 36) 0), #[]⟩
def ho35 : Obj := hoT #[(.str "name" 228)]
def ho36 (P : Params) : Obj := ⟨(.type "dict"), none, (.dict #[hD P "__module__" 214 (.str "lateplace.errors" 187), hD P "__firstlineno__" 218 (.int 4 217), hD P "__init__" 227 (.ref 43), hD P "__static_attributes__" 229 (.ref 44), hD P "__doc__" 231 .none] 3), #[]⟩
def ho37 : Obj := ⟨(.type "type"), none, (.cls ⟨"InvalidName", [(.ref 24)], [(.ref 46), (.ref 24), (.type "ValueError"), (.type "Exception"), (.type "BaseException"), (.type "object")], 45, "InvalidName", true, [], [], false, none, false⟩), #[(some (.ref 28)), none, (some (.str "InvalidName" 207)), (some (.str "InvalidName" 215)), (some (.builtin "ValueError.__new__")), (some (.bool true))]⟩
def ho38 : Obj := ⟨(.type "super"), none, (.fields #[(.ref 46), (.ref 46), (.ref 46)]), #[]⟩
def ho39 : Obj := ⟨(.type "builtin_function_or_method"), none, (.fields #[(.builtin "object.__init_subclass__"), (.ref 46)]), #[]⟩
def ho42 (P : Params) : Obj := ⟨(.type "dict"), none, (.dict #[hD P "__module__" 241 (.str "lateplace.errors" 187), hD P "__qualname__" 243 (.str "InvalidText" 242), hD P "__firstlineno__" 245 (.int 9 244), hD P "__init__" 254 (.ref 64), hD P "__static_attributes__" 256 (.ref 65), hD P "__classcell__" 257 (.ref 52)] 6), #[]⟩
def ho43 : Obj := ⟨(.type "cell"), none, (.cell (some (.ref 67))), #[]⟩
def ho45 : Obj := ⟨.none, none, (.fields #[(.int 11 0), (.int 4 0), (.ref 63)]), #[]⟩
def ho46 : Obj := hoC #[(.str "InvalidText" 236), (.str "InvalidText" 237), (.str "/claim/cut.py" 238), (.int 9 0), hi0, hi0, hi0, hi0, (.ref 53), (.bool false), (.int 181 0), (.ref 54), .none, .none, .none, .none, (.int 239 0), (.int 9 0), (.str "/claim/cut.py" 240)]
def ho47 : Obj := ⟨(.type "frame"), none, .plain, #[(some (.ref 55)), (some (.ref 3)), (some (.ref 51)), none, (some (.str "lateplace.errors" 187)), none, (some (.ref 0))]⟩
def ho48 : Obj := hoT #[(.ref 52)]
def ho49 : Obj := hoT #[(.str "__class__" 249)]
def ho51 : Obj := hoT #[(.str "self" 250), (.str "at" 251)]
def ho53 : Obj := ⟨.none, none, (hF (inClass (topk01 3) 0) "__init__" "InvalidText.__init__" 0 [] .none .none .none .none none .none .none 0), #[]⟩
def ho54 : Obj := hoC #[(.str "__init__" 246), (.str "InvalidText.__init__" 247), (.str "/claim/cut.py" 248), (.int 11 0), (.int 2 0), hi0, hi0, (.int 3 0), (.ref 58), (.bool true), (.int 181 0), (.ref 59), .none, (.ref 60), (.ref 61), (.ref 62), (.int 252 0), (.int 11 0), (.str "/claim/cut.py" 253)]
def ho55 : Obj := ⟨(.type "function"), none, (hF (inClass (topk01 3) 0) "__init__" "InvalidText.__init__" 3 [("__class__", 52)] .none .none .none (.str "lateplace.errors" 187) none (.ref 63) (.ref 57) 0), #[]⟩
def ho56 : Obj := hoT #[(.str "at" 255)]
def ho57 (P : Params) : Obj := ⟨(.type "dict"), none, (.dict #[hD P "__module__" 241 (.str "lateplace.errors" 187), hD P "__firstlineno__" 245 (.int 9 244), hD P "__init__" 254 (.ref 64), hD P "__static_attributes__" 256 (.ref 65), hD P "__doc__" 258 .none] 3), #[]⟩
def ho58 : Obj := ⟨(.type "type"), none, (.cls ⟨"InvalidText", [(.ref 24)], [(.ref 67), (.ref 24), (.type "ValueError"), (.type "Exception"), (.type "BaseException"), (.type "object")], 66, "InvalidText", true, [], [], false, none, false⟩), #[(some (.ref 49)), none, (some (.str "InvalidText" 234)), (some (.str "InvalidText" 242)), (some (.builtin "ValueError.__new__")), (some (.bool true))]⟩
def ho59 : Obj := ⟨(.type "super"), none, (.fields #[(.ref 67), (.ref 67), (.ref 67)]), #[]⟩
def ho60 : Obj := ⟨(.type "builtin_function_or_method"), none, (.fields #[(.builtin "object.__init_subclass__"), (.ref 67)]), #[]⟩
def ho63 (P : Params) : Obj := ⟨(.type "dict"), none, (.dict #[hD P "__module__" 268 (.str "lateplace.errors" 187), hD P "__qualname__" 270 (.str "InvalidProgram" 269), hD P "__firstlineno__" 272 (.int 14 271), hD P "__init__" 281 (.ref 85), hD P "__static_attributes__" 283 (.ref 86), hD P "__classcell__" 284 (.ref 73)] 6), #[]⟩
def ho64 : Obj := ⟨(.type "cell"), none, (.cell (some (.ref 88))), #[]⟩
def ho66 : Obj := ⟨.none, none, (.fields #[(.int 16 0), (.int 4 0), (.ref 84)]), #[]⟩
def ho67 : Obj := hoC #[(.str "InvalidProgram" 263), (.str "InvalidProgram" 264), (.str "/claim/cut.py" 265), (.int 14 0), hi0, hi0, hi0, hi0, (.ref 74), (.bool false), (.int 181 0), (.ref 75), .none, .none, .none, .none, (.int 266 0), (.int 14 0), (.str "/claim/cut.py" 267)]
def ho68 : Obj := ⟨(.type "frame"), none, .plain, #[(some (.ref 76)), (some (.ref 3)), (some (.ref 72)), none, (some (.str "lateplace.errors" 187)), none, (some (.ref 0))]⟩
def ho69 : Obj := hoT #[(.ref 73)]
def ho70 : Obj := hoT #[(.str "__class__" 276)]
def ho72 : Obj := hoT #[(.str "self" 277), (.str "index" 278)]
def ho74 : Obj := ⟨.none, none, (hF (inClass (topk01 4) 0) "__init__" "InvalidProgram.__init__" 0 [] .none .none .none .none none .none .none 0), #[]⟩
def ho75 : Obj := hoC #[(.str "__init__" 273), (.str "InvalidProgram.__init__" 274), (.str "/claim/cut.py" 275), (.int 16 0), (.int 2 0), hi0, hi0, (.int 3 0), (.ref 79), (.bool true), (.int 181 0), (.ref 80), .none, (.ref 81), (.ref 82), (.ref 83), (.int 279 0), (.int 16 0), (.str "/claim/cut.py" 280)]
def ho76 : Obj := ⟨(.type "function"), none, (hF (inClass (topk01 4) 0) "__init__" "InvalidProgram.__init__" 3 [("__class__", 73)] .none .none .none (.str "lateplace.errors" 187) none (.ref 84) (.ref 78) 0), #[]⟩
def ho77 : Obj := hoT #[(.str "index" 282)]
def ho78 (P : Params) : Obj := ⟨(.type "dict"), none, (.dict #[hD P "__module__" 268 (.str "lateplace.errors" 187), hD P "__firstlineno__" 272 (.int 14 271), hD P "__init__" 281 (.ref 85), hD P "__static_attributes__" 283 (.ref 86), hD P "__doc__" 285 .none] 3), #[]⟩
def ho79 : Obj := ⟨(.type "type"), none, (.cls ⟨"InvalidProgram", [(.ref 24)], [(.ref 88), (.ref 24), (.type "ValueError"), (.type "Exception"), (.type "BaseException"), (.type "object")], 87, "InvalidProgram", true, [], [], false, none, false⟩), #[(some (.ref 70)), none, (some (.str "InvalidProgram" 261)), (some (.str "InvalidProgram" 269)), (some (.builtin "ValueError.__new__")), (some (.bool true))]⟩
def ho80 : Obj := ⟨(.type "super"), none, (.fields #[(.ref 88), (.ref 88), (.ref 88)]), #[]⟩
def ho81 : Obj := ⟨(.type "builtin_function_or_method"), none, (.fields #[(.builtin "object.__init_subclass__"), (.ref 88)]), #[]⟩
def ho84 (P : Params) : Obj := ⟨(.type "dict"), none, (.dict #[hD P "__module__" 295 (.str "lateplace.errors" 187), hD P "__qualname__" 297 (.str "NoPlace" 296), hD P "__firstlineno__" 299 (.int 19 298), hD P "__init__" 308 (.ref 106), hD P "__static_attributes__" 310 (.ref 107), hD P "__classcell__" 311 (.ref 94)] 6), #[]⟩
def ho85 : Obj := ⟨(.type "cell"), none, (.cell (some (.ref 109))), #[]⟩
def ho87 : Obj := ⟨.none, none, (.fields #[(.int 21 0), (.int 4 0), (.ref 105)]), #[]⟩
def ho88 : Obj := hoC #[(.str "NoPlace" 290), (.str "NoPlace" 291), (.str "/claim/cut.py" 292), (.int 19 0), hi0, hi0, hi0, hi0, (.ref 95), (.bool false), (.int 181 0), (.ref 96), .none, .none, .none, .none, (.int 293 0), (.int 19 0), (.str "/claim/cut.py" 294)]
def ho89 : Obj := ⟨(.type "frame"), none, .plain, #[(some (.ref 97)), (some (.ref 3)), (some (.ref 93)), none, (some (.str "lateplace.errors" 187)), none, (some (.ref 0))]⟩
def ho90 : Obj := hoT #[(.ref 94)]
def ho91 : Obj := hoT #[(.str "__class__" 303)]
def ho93 : Obj := hoT #[(.str "self" 304), (.str "place" 305)]
def ho95 : Obj := ⟨.none, none, (hF (inClass (topk01 5) 0) "__init__" "NoPlace.__init__" 0 [] .none .none .none .none none .none .none 0), #[]⟩
def ho96 : Obj := hoC #[(.str "__init__" 300), (.str "NoPlace.__init__" 301), (.str "/claim/cut.py" 302), (.int 21 0), (.int 2 0), hi0, hi0, (.int 3 0), (.ref 100), (.bool true), (.int 181 0), (.ref 101), .none, (.ref 102), (.ref 103), (.ref 104), (.int 306 0), (.int 21 0), (.str "/claim/cut.py" 307)]
def ho97 : Obj := ⟨(.type "function"), none, (hF (inClass (topk01 5) 0) "__init__" "NoPlace.__init__" 3 [("__class__", 94)] .none .none .none (.str "lateplace.errors" 187) none (.ref 105) (.ref 99) 0), #[]⟩
def ho98 : Obj := hoT #[(.str "place" 309)]
def ho99 (P : Params) : Obj := ⟨(.type "dict"), none, (.dict #[hD P "__module__" 295 (.str "lateplace.errors" 187), hD P "__firstlineno__" 299 (.int 19 298), hD P "__init__" 308 (.ref 106), hD P "__static_attributes__" 310 (.ref 107), hD P "__doc__" 312 .none] 3), #[]⟩
def ho100 : Obj := ⟨(.type "type"), none, (.cls ⟨"NoPlace", [(.ref 24)], [(.ref 109), (.ref 24), (.type "ValueError"), (.type "Exception"), (.type "BaseException"), (.type "object")], 108, "NoPlace", true, [], [], false, none, false⟩), #[(some (.ref 91)), none, (some (.str "NoPlace" 288)), (some (.str "NoPlace" 296)), (some (.builtin "ValueError.__new__")), (some (.bool true))]⟩
def ho101 : Obj := ⟨(.type "super"), none, (.fields #[(.ref 109), (.ref 109), (.ref 109)]), #[]⟩
def ho102 : Obj := ⟨(.type "builtin_function_or_method"), none, (.fields #[(.builtin "object.__init_subclass__"), (.ref 109)]), #[]⟩
def ho105 (P : Params) : Obj := ⟨(.type "dict"), none, (.dict #[hD P "__module__" 322 (.str "lateplace.errors" 187), hD P "__qualname__" 324 (.str "Taken" 323), hD P "__firstlineno__" 326 (.int 24 325), hD P "__init__" 335 (.ref 127), hD P "__static_attributes__" 337 (.ref 128), hD P "__classcell__" 338 (.ref 115)] 6), #[]⟩
def ho106 : Obj := ⟨(.type "cell"), none, (.cell (some (.ref 130))), #[]⟩
def ho108 : Obj := ⟨.none, none, (.fields #[(.int 26 0), (.int 4 0), (.ref 126)]), #[]⟩
def ho109 : Obj := hoC #[(.str "Taken" 317), (.str "Taken" 318), (.str "/claim/cut.py" 319), (.int 24 0), hi0, hi0, hi0, hi0, (.ref 116), (.bool false), (.int 181 0), (.ref 117), .none, .none, .none, .none, (.int 320 0), (.int 24 0), (.str "/claim/cut.py" 321)]
def ho110 : Obj := ⟨(.type "frame"), none, .plain, #[(some (.ref 118)), (some (.ref 3)), (some (.ref 114)), none, (some (.str "lateplace.errors" 187)), none, (some (.ref 0))]⟩
def ho111 : Obj := hoT #[(.ref 115)]
def ho112 : Obj := hoT #[(.str "__class__" 330)]
def ho114 : Obj := hoT #[(.str "self" 331), (.str "name" 332)]
def ho116 : Obj := ⟨.none, none, (hF (inClass (topk01 6) 0) "__init__" "Taken.__init__" 0 [] .none .none .none .none none .none .none 0), #[]⟩
def ho117 : Obj := hoC #[(.str "__init__" 327), (.str "Taken.__init__" 328), (.str "/claim/cut.py" 329), (.int 26 0), (.int 2 0), hi0, hi0, (.int 3 0), (.ref 121), (.bool true), (.int 181 0), (.ref 122), .none, (.ref 123), (.ref 124), (.ref 125), (.int 333 0), (.int 26 0), (.str "/claim/cut.py" 334)]
def ho118 : Obj := ⟨(.type "function"), none, (hF (inClass (topk01 6) 0) "__init__" "Taken.__init__" 3 [("__class__", 115)] .none .none .none (.str "lateplace.errors" 187) none (.ref 126) (.ref 120) 0), #[]⟩
def ho119 : Obj := hoT #[(.str "name" 336)]
def ho120 (P : Params) : Obj := ⟨(.type "dict"), none, (.dict #[hD P "__module__" 322 (.str "lateplace.errors" 187), hD P "__firstlineno__" 326 (.int 24 325), hD P "__init__" 335 (.ref 127), hD P "__static_attributes__" 337 (.ref 128), hD P "__doc__" 339 .none] 3), #[]⟩
def ho121 : Obj := ⟨(.type "type"), none, (.cls ⟨"Taken", [(.ref 24)], [(.ref 130), (.ref 24), (.type "ValueError"), (.type "Exception"), (.type "BaseException"), (.type "object")], 129, "Taken", true, [], [], false, none, false⟩), #[(some (.ref 112)), none, (some (.str "Taken" 315)), (some (.str "Taken" 323)), (some (.builtin "ValueError.__new__")), (some (.bool true))]⟩
def ho122 : Obj := ⟨(.type "super"), none, (.fields #[(.ref 130), (.ref 130), (.ref 130)]), #[]⟩
def ho123 : Obj := ⟨(.type "builtin_function_or_method"), none, (.fields #[(.builtin "object.__init_subclass__"), (.ref 130)]), #[]⟩
def ho126 (P : Params) : Obj := ⟨(.type "dict"), none, (.dict #[hD P "__module__" 349 (.str "lateplace.errors" 187), hD P "__qualname__" 351 (.str "Over" 350), hD P "__firstlineno__" 353 (.int 29 352), hD P "__init__" 362 (.ref 148), hD P "__static_attributes__" 364 (.ref 149), hD P "__classcell__" 365 (.ref 136)] 6), #[]⟩
def ho127 : Obj := ⟨(.type "cell"), none, (.cell (some (.ref 151))), #[]⟩
def ho129 : Obj := ⟨.none, none, (.fields #[(.int 31 0), (.int 4 0), (.ref 147)]), #[]⟩
def ho130 : Obj := hoC #[(.str "Over" 344), (.str "Over" 345), (.str "/claim/cut.py" 346), (.int 29 0), hi0, hi0, hi0, hi0, (.ref 137), (.bool false), (.int 181 0), (.ref 138), .none, .none, .none, .none, (.int 347 0), (.int 29 0), (.str "/claim/cut.py" 348)]
def ho131 : Obj := ⟨(.type "frame"), none, .plain, #[(some (.ref 139)), (some (.ref 3)), (some (.ref 135)), none, (some (.str "lateplace.errors" 187)), none, (some (.ref 0))]⟩
def ho132 : Obj := hoT #[(.ref 136)]
def ho133 : Obj := hoT #[(.str "__class__" 357)]
def ho135 : Obj := hoT #[(.str "self" 358), (.str "name" 359)]
def ho137 : Obj := ⟨.none, none, (hF (inClass (topk01 7) 0) "__init__" "Over.__init__" 0 [] .none .none .none .none none .none .none 0), #[]⟩
def ho138 : Obj := hoC #[(.str "__init__" 354), (.str "Over.__init__" 355), (.str "/claim/cut.py" 356), (.int 31 0), (.int 2 0), hi0, hi0, (.int 3 0), (.ref 142), (.bool true), (.int 181 0), (.ref 143), .none, (.ref 144), (.ref 145), (.ref 146), (.int 360 0), (.int 31 0), (.str "/claim/cut.py" 361)]
def ho139 : Obj := ⟨(.type "function"), none, (hF (inClass (topk01 7) 0) "__init__" "Over.__init__" 3 [("__class__", 136)] .none .none .none (.str "lateplace.errors" 187) none (.ref 147) (.ref 141) 0), #[]⟩
def ho140 : Obj := hoT #[(.str "name" 363)]
def ho141 (P : Params) : Obj := ⟨(.type "dict"), none, (.dict #[hD P "__module__" 349 (.str "lateplace.errors" 187), hD P "__firstlineno__" 353 (.int 29 352), hD P "__init__" 362 (.ref 148), hD P "__static_attributes__" 364 (.ref 149), hD P "__doc__" 366 .none] 3), #[]⟩
def ho142 : Obj := ⟨(.type "type"), none, (.cls ⟨"Over", [(.ref 24)], [(.ref 151), (.ref 24), (.type "ValueError"), (.type "Exception"), (.type "BaseException"), (.type "object")], 150, "Over", true, [], [], false, none, false⟩), #[(some (.ref 133)), none, (some (.str "Over" 342)), (some (.str "Over" 350)), (some (.builtin "ValueError.__new__")), (some (.bool true))]⟩
def ho143 : Obj := ⟨(.type "super"), none, (.fields #[(.ref 151), (.ref 151), (.ref 151)]), #[]⟩
def ho144 : Obj := ⟨(.type "builtin_function_or_method"), none, (.fields #[(.builtin "object.__init_subclass__"), (.ref 151)]), #[]⟩
def ho147 (P : Params) : Obj := ⟨(.type "dict"), none, (.dict #[hD P "__module__" 376 (.str "lateplace.errors" 187), hD P "__qualname__" 378 (.str "NoMark" 377), hD P "__firstlineno__" 380 (.int 34 379), hD P "__init__" 389 (.ref 169), hD P "__static_attributes__" 391 (.ref 170), hD P "__classcell__" 392 (.ref 157)] 6), #[]⟩
def ho148 : Obj := ⟨(.type "cell"), none, (.cell (some (.ref 172))), #[]⟩
def ho150 : Obj := ⟨.none, none, (.fields #[(.int 36 0), (.int 4 0), (.ref 168)]), #[]⟩
def ho151 : Obj := hoC #[(.str "NoMark" 371), (.str "NoMark" 372), (.str "/claim/cut.py" 373), (.int 34 0), hi0, hi0, hi0, hi0, (.ref 158), (.bool false), (.int 181 0), (.ref 159), .none, .none, .none, .none, (.int 374 0), (.int 34 0), (.str "/claim/cut.py" 375)]
def ho152 : Obj := ⟨(.type "frame"), none, .plain, #[(some (.ref 160)), (some (.ref 3)), (some (.ref 156)), none, (some (.str "lateplace.errors" 187)), none, (some (.ref 0))]⟩
def ho153 : Obj := hoT #[(.ref 157)]
def ho154 : Obj := hoT #[(.str "__class__" 384)]
def ho156 : Obj := hoT #[(.str "self" 385), (.str "mark" 386)]
def ho158 : Obj := ⟨.none, none, (hF (inClass (topk01 8) 0) "__init__" "NoMark.__init__" 0 [] .none .none .none .none none .none .none 0), #[]⟩
def ho159 : Obj := hoC #[(.str "__init__" 381), (.str "NoMark.__init__" 382), (.str "/claim/cut.py" 383), (.int 36 0), (.int 2 0), hi0, hi0, (.int 3 0), (.ref 163), (.bool true), (.int 181 0), (.ref 164), .none, (.ref 165), (.ref 166), (.ref 167), (.int 387 0), (.int 36 0), (.str "/claim/cut.py" 388)]
def ho160 : Obj := ⟨(.type "function"), none, (hF (inClass (topk01 8) 0) "__init__" "NoMark.__init__" 3 [("__class__", 157)] .none .none .none (.str "lateplace.errors" 187) none (.ref 168) (.ref 162) 0), #[]⟩
def ho161 : Obj := hoT #[(.str "mark" 390)]
def ho162 (P : Params) : Obj := ⟨(.type "dict"), none, (.dict #[hD P "__module__" 376 (.str "lateplace.errors" 187), hD P "__firstlineno__" 380 (.int 34 379), hD P "__init__" 389 (.ref 169), hD P "__static_attributes__" 391 (.ref 170), hD P "__doc__" 393 .none] 3), #[]⟩
def ho163 : Obj := ⟨(.type "type"), none, (.cls ⟨"NoMark", [(.ref 24)], [(.ref 172), (.ref 24), (.type "ValueError"), (.type "Exception"), (.type "BaseException"), (.type "object")], 171, "NoMark", true, [], [], false, none, false⟩), #[(some (.ref 154)), none, (some (.str "NoMark" 369)), (some (.str "NoMark" 377)), (some (.builtin "ValueError.__new__")), (some (.bool true))]⟩
def ho164 : Obj := ⟨(.type "super"), none, (.fields #[(.ref 172), (.ref 172), (.ref 172)]), #[]⟩
def ho165 : Obj := ⟨(.type "builtin_function_or_method"), none, (.fields #[(.builtin "object.__init_subclass__"), (.ref 172)]), #[]⟩
def ho168 (P : Params) : Obj := ⟨(.type "dict"), none, (.dict #[hD P "__module__" 403 (.str "lateplace.errors" 187), hD P "__qualname__" 405 (.str "Refused" 404), hD P "__firstlineno__" 407 (.int 39 406), hD P "__init__" 416 (.ref 190), hD P "__static_attributes__" 418 (.ref 191), hD P "__classcell__" 419 (.ref 178)] 6), #[]⟩
def ho169 : Obj := ⟨(.type "cell"), none, (.cell (some (.ref 193))), #[]⟩
def ho171 : Obj := ⟨.none, none, (.fields #[(.int 41 0), (.int 4 0), (.ref 189)]), #[]⟩
def ho172 : Obj := hoC #[(.str "Refused" 398), (.str "Refused" 399), (.str "/claim/cut.py" 400), (.int 39 0), hi0, hi0, hi0, hi0, (.ref 179), (.bool false), (.int 181 0), (.ref 180), .none, .none, .none, .none, (.int 401 0), (.int 39 0), (.str "/claim/cut.py" 402)]
def ho173 : Obj := ⟨(.type "frame"), none, .plain, #[(some (.ref 181)), (some (.ref 3)), (some (.ref 177)), none, (some (.str "lateplace.errors" 187)), none, (some (.ref 0))]⟩
def ho174 : Obj := hoT #[(.ref 178)]
def ho175 : Obj := hoT #[(.str "__class__" 411)]
def ho177 : Obj := hoT #[(.str "self" 412), (.str "runs" 413)]
def ho179 : Obj := ⟨.none, none, (hF (inClass (topk01 9) 0) "__init__" "Refused.__init__" 0 [] .none .none .none .none none .none .none 0), #[]⟩
def ho180 : Obj := hoC #[(.str "__init__" 408), (.str "Refused.__init__" 409), (.str "/claim/cut.py" 410), (.int 41 0), (.int 2 0), hi0, hi0, (.int 3 0), (.ref 184), (.bool true), (.int 181 0), (.ref 185), .none, (.ref 186), (.ref 187), (.ref 188), (.int 414 0), (.int 41 0), (.str "/claim/cut.py" 415)]
def ho181 : Obj := ⟨(.type "function"), none, (hF (inClass (topk01 9) 0) "__init__" "Refused.__init__" 3 [("__class__", 178)] .none .none .none (.str "lateplace.errors" 187) none (.ref 189) (.ref 183) 0), #[]⟩
def ho182 : Obj := hoT #[(.str "runs" 417)]
def ho183 (P : Params) : Obj := ⟨(.type "dict"), none, (.dict #[hD P "__module__" 403 (.str "lateplace.errors" 187), hD P "__firstlineno__" 407 (.int 39 406), hD P "__init__" 416 (.ref 190), hD P "__static_attributes__" 418 (.ref 191), hD P "__doc__" 420 .none] 3), #[]⟩
def ho184 : Obj := ⟨(.type "type"), none, (.cls ⟨"Refused", [(.ref 24)], [(.ref 193), (.ref 24), (.type "ValueError"), (.type "Exception"), (.type "BaseException"), (.type "object")], 192, "Refused", true, [], [], false, none, false⟩), #[(some (.ref 175)), none, (some (.str "Refused" 396)), (some (.str "Refused" 404)), (some (.builtin "ValueError.__new__")), (some (.bool true))]⟩
def ho185 : Obj := ⟨(.type "super"), none, (.fields #[(.ref 193), (.ref 193), (.ref 193)]), #[]⟩
def ho186 : Obj := ⟨(.type "builtin_function_or_method"), none, (.fields #[(.builtin "object.__init_subclass__"), (.ref 193)]), #[]⟩
def ho189 (P : Params) : Obj := ⟨(.type "dict"), none, (.dict #[hD P "__module__" 430 (.str "lateplace.errors" 187), hD P "__qualname__" 432 (.str "Held" 431), hD P "__firstlineno__" 434 (.int 44 433), hD P "__init__" 445 (.ref 211), hD P "__static_attributes__" 449 (.ref 212), hD P "__classcell__" 450 (.ref 199)] 6), #[]⟩
def ho190 : Obj := ⟨(.type "cell"), none, (.cell (some (.ref 214))), #[]⟩
def ho192 : Obj := ⟨.none, none, (.fields #[(.int 46 0), (.int 4 0), (.ref 210)]), #[]⟩
def ho193 : Obj := hoC #[(.str "Held" 425), (.str "Held" 426), (.str "/claim/cut.py" 427), (.int 44 0), hi0, hi0, hi0, hi0, (.ref 200), (.bool false), (.int 181 0), (.ref 201), .none, .none, .none, .none, (.int 428 0), (.int 44 0), (.str "/claim/cut.py" 429)]
def ho194 : Obj := ⟨(.type "frame"), none, .plain, #[(some (.ref 202)), (some (.ref 3)), (some (.ref 198)), none, (some (.str "lateplace.errors" 187)), none, (some (.ref 0))]⟩
def ho195 : Obj := hoT #[(.ref 199)]
def ho196 : Obj := hoT #[(.str "__class__" 438)]
def ho198 : Obj := hoT #[(.str "self" 439), (.str "name" 440), (.str "index" 441), (.str "answer" 442)]
def ho200 : Obj := ⟨.none, none, (hF (inClass (topk01 10) 0) "__init__" "Held.__init__" 0 [] .none .none .none .none none .none .none 0), #[]⟩
def ho201 : Obj := hoC #[(.str "__init__" 435), (.str "Held.__init__" 436), (.str "/claim/cut.py" 437), (.int 46 0), (.int 4 0), hi0, hi0, (.int 3 0), (.ref 205), (.bool true), (.int 181 0), (.ref 206), .none, (.ref 207), (.ref 208), (.ref 209), (.int 443 0), (.int 46 0), (.str "/claim/cut.py" 444)]
def ho202 : Obj := ⟨(.type "function"), none, (hF (inClass (topk01 10) 0) "__init__" "Held.__init__" 3 [("__class__", 199)] .none .none .none (.str "lateplace.errors" 187) none (.ref 210) (.ref 204) 0), #[]⟩
def ho203 : Obj := hoT #[(.str "answer" 446), (.str "index" 447), (.str "name" 448)]
def ho204 (P : Params) : Obj := ⟨(.type "dict"), none, (.dict #[hD P "__module__" 430 (.str "lateplace.errors" 187), hD P "__firstlineno__" 434 (.int 44 433), hD P "__init__" 445 (.ref 211), hD P "__static_attributes__" 449 (.ref 212), hD P "__doc__" 451 .none] 3), #[]⟩
def ho205 : Obj := ⟨(.type "type"), none, (.cls ⟨"Held", [(.ref 24)], [(.ref 214), (.ref 24), (.type "ValueError"), (.type "Exception"), (.type "BaseException"), (.type "object")], 213, "Held", true, [], [], false, none, false⟩), #[(some (.ref 196)), none, (some (.str "Held" 423)), (some (.str "Held" 431)), (some (.builtin "ValueError.__new__")), (some (.bool true))]⟩
def ho206 : Obj := ⟨(.type "super"), none, (.fields #[(.ref 214), (.ref 214), (.ref 214)]), #[]⟩
def ho207 : Obj := ⟨(.type "builtin_function_or_method"), none, (.fields #[(.builtin "object.__init_subclass__"), (.ref 214)]), #[]⟩
def ho210 (P : Params) : Obj := ⟨(.type "dict"), none, (.dict #[hD P "__module__" 461 (.str "lateplace.errors" 187), hD P "__qualname__" 463 (.str "Firm" 462), hD P "__firstlineno__" 465 (.int 51 464), hD P "__init__" 474 (.ref 232), hD P "__static_attributes__" 476 (.ref 233), hD P "__classcell__" 477 (.ref 220)] 6), #[]⟩
def ho211 : Obj := ⟨(.type "cell"), none, (.cell (some (.ref 235))), #[]⟩
def ho213 : Obj := ⟨.none, none, (.fields #[(.int 53 0), (.int 4 0), (.ref 231)]), #[]⟩
def ho214 : Obj := hoC #[(.str "Firm" 456), (.str "Firm" 457), (.str "/claim/cut.py" 458), (.int 51 0), hi0, hi0, hi0, hi0, (.ref 221), (.bool false), (.int 181 0), (.ref 222), .none, .none, .none, .none, (.int 459 0), (.int 51 0), (.str "/claim/cut.py" 460)]
def ho215 : Obj := ⟨(.type "frame"), none, .plain, #[(some (.ref 223)), (some (.ref 3)), (some (.ref 219)), none, (some (.str "lateplace.errors" 187)), none, (some (.ref 0))]⟩
def ho216 : Obj := hoT #[(.ref 220)]
def ho217 : Obj := hoT #[(.str "__class__" 469)]
def ho219 : Obj := hoT #[(.str "self" 470), (.str "name" 471)]
def ho221 : Obj := ⟨.none, none, (hF (inClass (topk01 11) 0) "__init__" "Firm.__init__" 0 [] .none .none .none .none none .none .none 0), #[]⟩
def ho222 : Obj := hoC #[(.str "__init__" 466), (.str "Firm.__init__" 467), (.str "/claim/cut.py" 468), (.int 53 0), (.int 2 0), hi0, hi0, (.int 3 0), (.ref 226), (.bool true), (.int 181 0), (.ref 227), .none, (.ref 228), (.ref 229), (.ref 230), (.int 472 0), (.int 53 0), (.str "/claim/cut.py" 473)]
def ho223 : Obj := ⟨(.type "function"), none, (hF (inClass (topk01 11) 0) "__init__" "Firm.__init__" 3 [("__class__", 220)] .none .none .none (.str "lateplace.errors" 187) none (.ref 231) (.ref 225) 0), #[]⟩
def ho224 : Obj := hoT #[(.str "name" 475)]
def ho225 (P : Params) : Obj := ⟨(.type "dict"), none, (.dict #[hD P "__module__" 461 (.str "lateplace.errors" 187), hD P "__firstlineno__" 465 (.int 51 464), hD P "__init__" 474 (.ref 232), hD P "__static_attributes__" 476 (.ref 233), hD P "__doc__" 478 .none] 3), #[]⟩
def ho226 : Obj := ⟨(.type "type"), none, (.cls ⟨"Firm", [(.ref 24)], [(.ref 235), (.ref 24), (.type "ValueError"), (.type "Exception"), (.type "BaseException"), (.type "object")], 234, "Firm", true, [], [], false, none, false⟩), #[(some (.ref 217)), none, (some (.str "Firm" 454)), (some (.str "Firm" 462)), (some (.builtin "ValueError.__new__")), (some (.bool true))]⟩
def ho227 : Obj := ⟨(.type "super"), none, (.fields #[(.ref 235), (.ref 235), (.ref 235)]), #[]⟩
def ho228 : Obj := ⟨(.type "builtin_function_or_method"), none, (.fields #[(.builtin "object.__init_subclass__"), (.ref 235)]), #[]⟩
def hT_0 (P : Params) : BT := (.node (boot_o_0 P) (.node (boot_o_1 P) (.node (ho4 P) (.node (boot_o_7 P) (.node ho6 (.node ho22 (.node ho54 (lf ho118) (lf ho182)) (.node ho0 (lf ho150) (lf ho214))) (.node ho38 (.node ho70 (lf ho1) (lf ho198)) (.node ho102 (lf ho19) .nil))) (.node (ho14 P) (.node ho30 (.node ho7 (lf (ho126 P)) (lf ho190)) (.node ho0 (lf ho158) (lf ho222))) (.node ho46 (.node (ho78 P) (lf ho142) (lf ho206)) (.node ho110 (lf ho174) .nil)))) (.node ho0 (.node ho1 (.node ho26 (.node ho58 (lf ho122) (lf ho186)) (.node ho90 (lf ho154) (lf ho1))) (.node (ho42 P) (.node ho74 (lf ho138) (lf ho202)) (.node ho106 (lf ho0) .nil))) (.node ho18 (.node ho34 (.node ho66 (lf ho130) (lf ho194)) (.node ho98 (lf (ho162 P)) (lf ho226))) (.node ho1 (.node ho19 (lf ho7) (lf (ho210 P))) (.node ho114 (lf ho0) .nil))))) (.node (boot_o_5 P) (.node (boot_o_9 P) (.node (ho8 P) (.node ho24 (.node ho56 (lf (ho120 P)) (lf ho184)) (.node ho88 (lf ho152) (lf ho216))) (.node ho19 (.node ho72 (lf ho0) (lf ho200)) (.node ho7 (lf (ho168 P)) .nil))) (.node ho16 (.node ho32 (.node ho64 (lf ho0) (lf ho192)) (.node ho96 (lf ho160) (lf ho224))) (.node ho48 (.node ho80 (lf ho144) (lf ho19)) (.node ho112 (lf ho1) .nil)))) (.node ho2 (.node ho12 (.node ho28 (.node ho60 (lf ho19) (lf ho7)) (.node ho1 (lf ho156) (lf ho0))) (.node ho0 (.node ho76 (lf ho140) (lf (ho204 P))) (.node ho108 (lf ho172) .nil))) (.node ho7 (.node (ho36 P) (.node ho68 (lf ho132) (lf ho196)) (.node ho100 (lf ho164) (lf ho228))) (.node ho0 (.node (ho84 P) (lf ho148) (lf ho0)) (.node ho116 (lf ho180) .nil)))))) (.node (boot_o_2 P) (.node (boot_o_4 P) (.node (boot_o_8 P) (.node ho7 (.node ho0 (.node ho55 (lf ho119) (lf (ho183 P))) (.node ho87 (lf ho151) (lf ho215))) (.node ho39 (.node ho1 (lf ho135) (lf ho0)) (.node ho19 (lf ho7) .nil))) (.node ho15 (.node ho0 (.node (ho63 P) (lf ho127) (lf ho0)) (.node ho95 (lf ho159) (lf ho223))) (.node ho47 (.node ho79 (lf ho143) (lf ho207)) (.node ho111 (lf ho175) .nil)))) (.node ho5 (.node ho11 (.node ho27 (.node ho59 (lf ho123) (lf ho19)) (.node ho91 (lf ho1) (lf ho219))) (.node ho43 (.node ho75 (lf ho139) (lf ho203)) (.node ho0 (lf ho171) .nil))) (.node ho19 (.node ho35 (.node ho67 (lf ho131) (lf ho195)) (.node (ho99 P) (lf ho163) (lf ho227))) (.node ho51 (.node ho7 (lf (ho147 P)) (lf ho211)) (.node ho0 (lf ho179) .nil))))) (.node (boot_o_6 P) (.node (boot_o_10 P) (.node ho0 (.node ho25 (.node (ho57 P) (lf ho121) (lf ho185)) (.node ho89 (lf ho153) (lf ho217))) (.node ho7 (.node ho0 (lf ho137) (lf ho201)) (.node (ho105 P) (lf ho169) .nil))) (.node ho17 (.node ho33 (.node ho0 (lf ho129) (lf ho193)) (.node ho97 (lf ho161) (lf (ho225 P)))) (.node ho49 (.node ho81 (lf ho19) (lf ho7)) (.node ho1 (lf ho177) .nil)))) (.node ho3 (.node ho0 (.node ho1 (.node ho19 (lf ho7) (lf (ho189 P))) (.node ho93 (lf ho0) (lf ho221))) (.node ho45 (.node ho77 (lf (ho141 P)) (lf ho205)) (.node ho109 (lf ho173) .nil))) (.node (ho21 P) (.node ho37 (.node ho69 (lf ho133) (lf ho1)) (.node ho101 (lf ho165) .nil)) (.node ho53 (.node ho85 (lf ho0) (lf ho213)) (.node ho117 (lf ho181) .nil)))))))
def hS_0 (w : World) (os : OsState) : SharedT := ⟨hT_0 w.params, 238, (boot_heap w.params).life, #[], ⟨0, 0, 0, 0⟩, 481, os⟩
def ho229 (P : Params) : Obj := ⟨.none, none, (.dict #[hD P "type.__subclasses__.KeyError.0" 639 (.int 361 0), hD P "type.__subclasses__.KeyError.n" 640 (.int 1 0)] 2), #[]⟩
def ho230 (P : Params) : Obj := ⟨(.type "dict"), none, (.dict #[hD P "__name__" 165 (.str "law_lateplace_k01_errors" 643), hD P "__doc__" 166 .none, hD P "__package__" 167 .none, hD P "__loader__" 168 (.builtin "__main__.__loader__#opaque"), hD P "__spec__" 169 .none, hD P "__annotations__" 170 (.ref 6), hD P "__builtins__" 171 (.ref 4), hD P "__file__" 173 (.str "/claim/cut.py" 172), hD P "__cached__" 174 .none, hD P "StoreError" 206 (.ref 24), hD P "InvalidName" 233 (.ref 46), hD P "InvalidText" 260 (.ref 67), hD P "InvalidProgram" 287 (.ref 88), hD P "NoPlace" 314 (.ref 109), hD P "Taken" 341 (.ref 130), hD P "Over" 368 (.ref 151), hD P "NoMark" 395 (.ref 172), hD P "Refused" 422 (.ref 193), hD P "Held" 453 (.ref 214), hD P "Firm" 480 (.ref 235), hD P "NotBranch" 505 (.ref 256), hD P "NoPage" 532 (.ref 277), hD P "NoRoom" 559 (.ref 298), hD P "TooMany" 586 (.ref 319), hD P "InvalidCommand" 611 (.ref 340), hD P "NoHand" 642 (.ref 361), hD P "_law_feed" 654 (.ref 371), hD P "_law_take" 664 (.ref 378), hD P "_law_value" 670 (.ref 383), hD P "_law_by_position" 680 (.ref 390), hD P "_law_by_name" 690 (.ref 397), hD P "_law_kept" 698 (.ref 404), hD P "_law_classes" 706 (.ref 411), hD P "_law_right" 712 (.ref 416), hD P "law" 718 (.ref 421)] 35), #[]⟩
def ho231 : Obj := ⟨.none, none, (.fields #[(.int 2 0), hi0, (.ref 20), (.int 4 0), hi0, (.ref 34), (.int 9 0), hi0, (.ref 55), (.int 14 0), hi0, (.ref 76), (.int 19 0), hi0, (.ref 97), (.int 24 0), hi0, (.ref 118), (.int 29 0), hi0, (.ref 139), (.int 34 0), hi0, (.ref 160), (.int 39 0), hi0, (.ref 181), (.int 44 0), hi0, (.ref 202), (.int 51 0), hi0, (.ref 223), (.int 56 0), hi0, (.ref 244), (.int 60 0), hi0, (.ref 265), (.int 65 0), hi0, (.ref 286), (.int 70 0), hi0, (.ref 307), (.int 75 0), hi0, (.ref 328), (.int 79 0), hi0, (.ref 349), (.int 85 0), hi0, (.ref 370), (.int 95 0), hi0, (.ref 377), (.int 103 0), hi0, (.ref 382), (.int 109 0), hi0, (.ref 389), (.int 113 0), hi0, (.ref 396), (.int 117 0), hi0, (.ref 403), (.int 121 0), hi0, (.ref 410), (.int 128 0), hi0, (.ref 415), (.int 134 0), hi0, (.ref 420)]), #[]⟩
def ho232 : Obj := ⟨(.type "type"), none, (.cls ⟨"StoreError", [(.type "ValueError")], [(.ref 24), (.type "ValueError"), (.type "Exception"), (.type "BaseException"), (.type "object")], 23, "StoreError", true, [], [(.ref 46), (.ref 67), (.ref 88), (.ref 109), (.ref 130), (.ref 151), (.ref 172), (.ref 193), (.ref 214), (.ref 235), (.ref 256), (.ref 277), (.ref 298), (.ref 319), (.ref 340)], false, none, false⟩), #[(some (.ref 15)), none, (some (.str "StoreError" 189)), (some (.str "StoreError" 197)), (some (.builtin "ValueError.__new__")), (some (.bool true))]⟩
def ho235 (P : Params) : Obj := ⟨(.type "dict"), none, (.dict #[hD P "__module__" 488 (.str "lateplace.errors" 187), hD P "__qualname__" 490 (.str "NotBranch" 489), hD P "__firstlineno__" 492 (.int 56 491), hD P "__init__" 500 (.ref 253), hD P "__static_attributes__" 501 (.ref 254), hD P "__classcell__" 502 (.ref 241)] 6), #[]⟩
def ho236 : Obj := ⟨(.type "cell"), none, (.cell (some (.ref 256))), #[]⟩
def ho238 : Obj := ⟨.none, none, (.fields #[(.int 58 0), (.int 4 0), (.ref 252)]), #[]⟩
def ho239 : Obj := hoC #[(.str "NotBranch" 483), (.str "NotBranch" 484), (.str "/claim/cut.py" 485), (.int 56 0), hi0, hi0, hi0, hi0, (.ref 242), (.bool false), (.int 181 0), (.ref 243), .none, .none, .none, .none, (.int 486 0), (.int 56 0), (.str "/claim/cut.py" 487)]
def ho240 : Obj := ⟨(.type "frame"), none, .plain, #[(some (.ref 244)), (some (.ref 3)), (some (.ref 240)), none, (some (.str "lateplace.errors" 187)), none, (some (.ref 0))]⟩
def ho241 : Obj := hoT #[(.ref 241)]
def ho242 : Obj := hoT #[(.str "__class__" 496)]
def ho244 : Obj := hoT #[(.str "self" 497)]
def ho246 : Obj := ⟨.none, none, (hF (inClass (topk01 12) 0) "__init__" "NotBranch.__init__" 0 [] .none .none .none .none none .none .none 0), #[]⟩
def ho247 : Obj := hoC #[(.str "__init__" 493), (.str "NotBranch.__init__" 494), (.str "/claim/cut.py" 495), (.int 58 0), (.int 1 0), hi0, hi0, (.int 3 0), (.ref 247), (.bool true), (.int 181 0), (.ref 248), .none, (.ref 249), (.ref 250), (.ref 251), (.int 498 0), (.int 58 0), (.str "/claim/cut.py" 499)]
def ho248 : Obj := ⟨(.type "function"), none, (hF (inClass (topk01 12) 0) "__init__" "NotBranch.__init__" 3 [("__class__", 241)] .none .none .none (.str "lateplace.errors" 187) none (.ref 252) (.ref 246) 0), #[]⟩
def ho250 (P : Params) : Obj := ⟨(.type "dict"), none, (.dict #[hD P "__module__" 488 (.str "lateplace.errors" 187), hD P "__firstlineno__" 492 (.int 56 491), hD P "__init__" 500 (.ref 253), hD P "__static_attributes__" 501 (.ref 254), hD P "__doc__" 503 .none] 3), #[]⟩
def ho251 : Obj := ⟨(.type "type"), none, (.cls ⟨"NotBranch", [(.ref 24)], [(.ref 256), (.ref 24), (.type "ValueError"), (.type "Exception"), (.type "BaseException"), (.type "object")], 255, "NotBranch", true, [], [], false, none, false⟩), #[(some (.ref 238)), none, (some (.str "NotBranch" 481)), (some (.str "NotBranch" 489)), (some (.builtin "ValueError.__new__")), (some (.bool true))]⟩
def ho252 : Obj := ⟨(.type "super"), none, (.fields #[(.ref 256), (.ref 256), (.ref 256)]), #[]⟩
def ho253 : Obj := ⟨(.type "builtin_function_or_method"), none, (.fields #[(.builtin "object.__init_subclass__"), (.ref 256)]), #[]⟩
def ho256 (P : Params) : Obj := ⟨(.type "dict"), none, (.dict #[hD P "__module__" 513 (.str "lateplace.errors" 187), hD P "__qualname__" 515 (.str "NoPage" 514), hD P "__firstlineno__" 517 (.int 60 516), hD P "__init__" 526 (.ref 274), hD P "__static_attributes__" 528 (.ref 275), hD P "__classcell__" 529 (.ref 262)] 6), #[]⟩
def ho257 : Obj := ⟨(.type "cell"), none, (.cell (some (.ref 277))), #[]⟩
def ho259 : Obj := ⟨.none, none, (.fields #[(.int 62 0), (.int 4 0), (.ref 273)]), #[]⟩
def ho260 : Obj := hoC #[(.str "NoPage" 508), (.str "NoPage" 509), (.str "/claim/cut.py" 510), (.int 60 0), hi0, hi0, hi0, hi0, (.ref 263), (.bool false), (.int 181 0), (.ref 264), .none, .none, .none, .none, (.int 511 0), (.int 60 0), (.str "/claim/cut.py" 512)]
def ho261 : Obj := ⟨(.type "frame"), none, .plain, #[(some (.ref 265)), (some (.ref 3)), (some (.ref 261)), none, (some (.str "lateplace.errors" 187)), none, (some (.ref 0))]⟩
def ho262 : Obj := hoT #[(.ref 262)]
def ho263 : Obj := hoT #[(.str "__class__" 521)]
def ho265 : Obj := hoT #[(.str "self" 522), (.str "number" 523)]
def ho267 : Obj := ⟨.none, none, (hF (inClass (topk01 13) 0) "__init__" "NoPage.__init__" 0 [] .none .none .none .none none .none .none 0), #[]⟩
def ho268 : Obj := hoC #[(.str "__init__" 518), (.str "NoPage.__init__" 519), (.str "/claim/cut.py" 520), (.int 62 0), (.int 2 0), hi0, hi0, (.int 3 0), (.ref 268), (.bool true), (.int 181 0), (.ref 269), .none, (.ref 270), (.ref 271), (.ref 272), (.int 524 0), (.int 62 0), (.str "/claim/cut.py" 525)]
def ho269 : Obj := ⟨(.type "function"), none, (hF (inClass (topk01 13) 0) "__init__" "NoPage.__init__" 3 [("__class__", 262)] .none .none .none (.str "lateplace.errors" 187) none (.ref 273) (.ref 267) 0), #[]⟩
def ho270 : Obj := hoT #[(.str "number" 527)]
def ho271 (P : Params) : Obj := ⟨(.type "dict"), none, (.dict #[hD P "__module__" 513 (.str "lateplace.errors" 187), hD P "__firstlineno__" 517 (.int 60 516), hD P "__init__" 526 (.ref 274), hD P "__static_attributes__" 528 (.ref 275), hD P "__doc__" 530 .none] 3), #[]⟩
def ho272 : Obj := ⟨(.type "type"), none, (.cls ⟨"NoPage", [(.ref 24)], [(.ref 277), (.ref 24), (.type "ValueError"), (.type "Exception"), (.type "BaseException"), (.type "object")], 276, "NoPage", true, [], [], false, none, false⟩), #[(some (.ref 259)), none, (some (.str "NoPage" 506)), (some (.str "NoPage" 514)), (some (.builtin "ValueError.__new__")), (some (.bool true))]⟩
def ho273 : Obj := ⟨(.type "super"), none, (.fields #[(.ref 277), (.ref 277), (.ref 277)]), #[]⟩
def ho274 : Obj := ⟨(.type "builtin_function_or_method"), none, (.fields #[(.builtin "object.__init_subclass__"), (.ref 277)]), #[]⟩
def ho277 (P : Params) : Obj := ⟨(.type "dict"), none, (.dict #[hD P "__module__" 540 (.str "lateplace.errors" 187), hD P "__qualname__" 542 (.str "NoRoom" 541), hD P "__firstlineno__" 544 (.int 65 543), hD P "__init__" 553 (.ref 295), hD P "__static_attributes__" 555 (.ref 296), hD P "__classcell__" 556 (.ref 283)] 6), #[]⟩
def ho278 : Obj := ⟨(.type "cell"), none, (.cell (some (.ref 298))), #[]⟩
def ho280 : Obj := ⟨.none, none, (.fields #[(.int 67 0), (.int 4 0), (.ref 294)]), #[]⟩
def ho281 : Obj := hoC #[(.str "NoRoom" 535), (.str "NoRoom" 536), (.str "/claim/cut.py" 537), (.int 65 0), hi0, hi0, hi0, hi0, (.ref 284), (.bool false), (.int 181 0), (.ref 285), .none, .none, .none, .none, (.int 538 0), (.int 65 0), (.str "/claim/cut.py" 539)]
def ho282 : Obj := ⟨(.type "frame"), none, .plain, #[(some (.ref 286)), (some (.ref 3)), (some (.ref 282)), none, (some (.str "lateplace.errors" 187)), none, (some (.ref 0))]⟩
def ho283 : Obj := hoT #[(.ref 283)]
def ho284 : Obj := hoT #[(.str "__class__" 548)]
def ho286 : Obj := hoT #[(.str "self" 549), (.str "lacking" 550)]
def ho288 : Obj := ⟨.none, none, (hF (inClass (topk01 14) 0) "__init__" "NoRoom.__init__" 0 [] .none .none .none .none none .none .none 0), #[]⟩
def ho289 : Obj := hoC #[(.str "__init__" 545), (.str "NoRoom.__init__" 546), (.str "/claim/cut.py" 547), (.int 67 0), (.int 2 0), hi0, hi0, (.int 3 0), (.ref 289), (.bool true), (.int 181 0), (.ref 290), .none, (.ref 291), (.ref 292), (.ref 293), (.int 551 0), (.int 67 0), (.str "/claim/cut.py" 552)]
def ho290 : Obj := ⟨(.type "function"), none, (hF (inClass (topk01 14) 0) "__init__" "NoRoom.__init__" 3 [("__class__", 283)] .none .none .none (.str "lateplace.errors" 187) none (.ref 294) (.ref 288) 0), #[]⟩
def ho291 : Obj := hoT #[(.str "lacking" 554)]
def ho292 (P : Params) : Obj := ⟨(.type "dict"), none, (.dict #[hD P "__module__" 540 (.str "lateplace.errors" 187), hD P "__firstlineno__" 544 (.int 65 543), hD P "__init__" 553 (.ref 295), hD P "__static_attributes__" 555 (.ref 296), hD P "__doc__" 557 .none] 3), #[]⟩
def ho293 : Obj := ⟨(.type "type"), none, (.cls ⟨"NoRoom", [(.ref 24)], [(.ref 298), (.ref 24), (.type "ValueError"), (.type "Exception"), (.type "BaseException"), (.type "object")], 297, "NoRoom", true, [], [], false, none, false⟩), #[(some (.ref 280)), none, (some (.str "NoRoom" 533)), (some (.str "NoRoom" 541)), (some (.builtin "ValueError.__new__")), (some (.bool true))]⟩
def ho294 : Obj := ⟨(.type "super"), none, (.fields #[(.ref 298), (.ref 298), (.ref 298)]), #[]⟩
def ho295 : Obj := ⟨(.type "builtin_function_or_method"), none, (.fields #[(.builtin "object.__init_subclass__"), (.ref 298)]), #[]⟩
def ho298 (P : Params) : Obj := ⟨(.type "dict"), none, (.dict #[hD P "__module__" 567 (.str "lateplace.errors" 187), hD P "__qualname__" 569 (.str "TooMany" 568), hD P "__firstlineno__" 571 (.int 70 570), hD P "__init__" 580 (.ref 316), hD P "__static_attributes__" 582 (.ref 317), hD P "__classcell__" 583 (.ref 304)] 6), #[]⟩
def ho299 : Obj := ⟨(.type "cell"), none, (.cell (some (.ref 319))), #[]⟩
def ho301 : Obj := ⟨.none, none, (.fields #[(.int 72 0), (.int 4 0), (.ref 315)]), #[]⟩
def ho302 : Obj := hoC #[(.str "TooMany" 562), (.str "TooMany" 563), (.str "/claim/cut.py" 564), (.int 70 0), hi0, hi0, hi0, hi0, (.ref 305), (.bool false), (.int 181 0), (.ref 306), .none, .none, .none, .none, (.int 565 0), (.int 70 0), (.str "/claim/cut.py" 566)]
def ho303 : Obj := ⟨(.type "frame"), none, .plain, #[(some (.ref 307)), (some (.ref 3)), (some (.ref 303)), none, (some (.str "lateplace.errors" 187)), none, (some (.ref 0))]⟩
def ho304 : Obj := hoT #[(.ref 304)]
def ho305 : Obj := hoT #[(.str "__class__" 575)]
def ho307 : Obj := hoT #[(.str "self" 576), (.str "most" 577)]
def ho309 : Obj := ⟨.none, none, (hF (inClass (topk01 15) 0) "__init__" "TooMany.__init__" 0 [] .none .none .none .none none .none .none 0), #[]⟩
def ho310 : Obj := hoC #[(.str "__init__" 572), (.str "TooMany.__init__" 573), (.str "/claim/cut.py" 574), (.int 72 0), (.int 2 0), hi0, hi0, (.int 3 0), (.ref 310), (.bool true), (.int 181 0), (.ref 311), .none, (.ref 312), (.ref 313), (.ref 314), (.int 578 0), (.int 72 0), (.str "/claim/cut.py" 579)]
def ho311 : Obj := ⟨(.type "function"), none, (hF (inClass (topk01 15) 0) "__init__" "TooMany.__init__" 3 [("__class__", 304)] .none .none .none (.str "lateplace.errors" 187) none (.ref 315) (.ref 309) 0), #[]⟩
def ho312 : Obj := hoT #[(.str "most" 581)]
def ho313 (P : Params) : Obj := ⟨(.type "dict"), none, (.dict #[hD P "__module__" 567 (.str "lateplace.errors" 187), hD P "__firstlineno__" 571 (.int 70 570), hD P "__init__" 580 (.ref 316), hD P "__static_attributes__" 582 (.ref 317), hD P "__doc__" 584 .none] 3), #[]⟩
def ho314 : Obj := ⟨(.type "type"), none, (.cls ⟨"TooMany", [(.ref 24)], [(.ref 319), (.ref 24), (.type "ValueError"), (.type "Exception"), (.type "BaseException"), (.type "object")], 318, "TooMany", true, [], [], false, none, false⟩), #[(some (.ref 301)), none, (some (.str "TooMany" 560)), (some (.str "TooMany" 568)), (some (.builtin "ValueError.__new__")), (some (.bool true))]⟩
def ho315 : Obj := ⟨(.type "super"), none, (.fields #[(.ref 319), (.ref 319), (.ref 319)]), #[]⟩
def ho316 : Obj := ⟨(.type "builtin_function_or_method"), none, (.fields #[(.builtin "object.__init_subclass__"), (.ref 319)]), #[]⟩
def ho319 (P : Params) : Obj := ⟨(.type "dict"), none, (.dict #[hD P "__module__" 594 (.str "lateplace.errors" 187), hD P "__qualname__" 596 (.str "InvalidCommand" 595), hD P "__firstlineno__" 598 (.int 75 597), hD P "__init__" 606 (.ref 337), hD P "__static_attributes__" 607 (.ref 338), hD P "__classcell__" 608 (.ref 325)] 6), #[]⟩
def ho320 : Obj := ⟨(.type "cell"), none, (.cell (some (.ref 340))), #[]⟩
def ho322 : Obj := ⟨.none, none, (.fields #[(.int 77 0), (.int 4 0), (.ref 336)]), #[]⟩
def ho323 : Obj := hoC #[(.str "InvalidCommand" 589), (.str "InvalidCommand" 590), (.str "/claim/cut.py" 591), (.int 75 0), hi0, hi0, hi0, hi0, (.ref 326), (.bool false), (.int 181 0), (.ref 327), .none, .none, .none, .none, (.int 592 0), (.int 75 0), (.str "/claim/cut.py" 593)]
def ho324 : Obj := ⟨(.type "frame"), none, .plain, #[(some (.ref 328)), (some (.ref 3)), (some (.ref 324)), none, (some (.str "lateplace.errors" 187)), none, (some (.ref 0))]⟩
def ho325 : Obj := hoT #[(.ref 325)]
def ho326 : Obj := hoT #[(.str "__class__" 602)]
def ho328 : Obj := hoT #[(.str "self" 603)]
def ho330 : Obj := ⟨.none, none, (hF (inClass (topk01 16) 0) "__init__" "InvalidCommand.__init__" 0 [] .none .none .none .none none .none .none 0), #[]⟩
def ho331 : Obj := hoC #[(.str "__init__" 599), (.str "InvalidCommand.__init__" 600), (.str "/claim/cut.py" 601), (.int 77 0), (.int 1 0), hi0, hi0, (.int 3 0), (.ref 331), (.bool true), (.int 181 0), (.ref 332), .none, (.ref 333), (.ref 334), (.ref 335), (.int 604 0), (.int 77 0), (.str "/claim/cut.py" 605)]
def ho332 : Obj := ⟨(.type "function"), none, (hF (inClass (topk01 16) 0) "__init__" "InvalidCommand.__init__" 3 [("__class__", 325)] .none .none .none (.str "lateplace.errors" 187) none (.ref 336) (.ref 330) 0), #[]⟩
def ho334 (P : Params) : Obj := ⟨(.type "dict"), none, (.dict #[hD P "__module__" 594 (.str "lateplace.errors" 187), hD P "__firstlineno__" 598 (.int 75 597), hD P "__init__" 606 (.ref 337), hD P "__static_attributes__" 607 (.ref 338), hD P "__doc__" 609 .none] 3), #[]⟩
def ho335 : Obj := ⟨(.type "type"), none, (.cls ⟨"InvalidCommand", [(.ref 24)], [(.ref 340), (.ref 24), (.type "ValueError"), (.type "Exception"), (.type "BaseException"), (.type "object")], 339, "InvalidCommand", true, [], [], false, none, false⟩), #[(some (.ref 322)), none, (some (.str "InvalidCommand" 587)), (some (.str "InvalidCommand" 595)), (some (.builtin "ValueError.__new__")), (some (.bool true))]⟩
def ho336 : Obj := ⟨(.type "super"), none, (.fields #[(.ref 340), (.ref 340), (.ref 340)]), #[]⟩
def ho337 : Obj := ⟨(.type "builtin_function_or_method"), none, (.fields #[(.builtin "object.__init_subclass__"), (.ref 340)]), #[]⟩
def ho338 : Obj := hoT #[(.type "KeyError")]
def ho340 (P : Params) : Obj := ⟨(.type "dict"), none, (.dict #[hD P "__module__" 619 (.str "lateplace.errors" 187), hD P "__qualname__" 621 (.str "NoHand" 620), hD P "__firstlineno__" 623 (.int 79 622), hD P "__init__" 632 (.ref 358), hD P "__static_attributes__" 634 (.ref 359), hD P "__classcell__" 635 (.ref 346)] 6), #[]⟩
def ho341 : Obj := ⟨(.type "cell"), none, (.cell (some (.ref 361))), #[]⟩
def ho343 : Obj := ⟨.none, none, (.fields #[(.int 81 0), (.int 4 0), (.ref 357)]), #[]⟩
def ho344 : Obj := hoC #[(.str "NoHand" 614), (.str "NoHand" 615), (.str "/claim/cut.py" 616), (.int 79 0), hi0, hi0, hi0, hi0, (.ref 347), (.bool false), (.int 181 0), (.ref 348), .none, .none, .none, .none, (.int 617 0), (.int 79 0), (.str "/claim/cut.py" 618)]
def ho345 : Obj := ⟨(.type "frame"), none, .plain, #[(some (.ref 349)), (some (.ref 3)), (some (.ref 345)), none, (some (.str "lateplace.errors" 187)), none, (some (.ref 0))]⟩
def ho346 : Obj := hoT #[(.ref 346)]
def ho347 : Obj := hoT #[(.str "__class__" 627)]
def ho349 : Obj := hoT #[(.str "self" 628), (.str "name" 629)]
def ho351 : Obj := ⟨.none, none, (hF (inClass (topk01 17) 0) "__init__" "NoHand.__init__" 0 [] .none .none .none .none none .none .none 0), #[]⟩
def ho352 : Obj := hoC #[(.str "__init__" 624), (.str "NoHand.__init__" 625), (.str "/claim/cut.py" 626), (.int 81 0), (.int 2 0), hi0, hi0, (.int 3 0), (.ref 352), (.bool true), (.int 181 0), (.ref 353), .none, (.ref 354), (.ref 355), (.ref 356), (.int 630 0), (.int 81 0), (.str "/claim/cut.py" 631)]
def ho353 : Obj := ⟨(.type "function"), none, (hF (inClass (topk01 17) 0) "__init__" "NoHand.__init__" 3 [("__class__", 346)] .none .none .none (.str "lateplace.errors" 187) none (.ref 357) (.ref 351) 0), #[]⟩
def ho354 : Obj := hoT #[(.str "name" 633)]
def ho355 (P : Params) : Obj := ⟨(.type "dict"), none, (.dict #[hD P "__module__" 619 (.str "lateplace.errors" 187), hD P "__firstlineno__" 623 (.int 79 622), hD P "__init__" 632 (.ref 358), hD P "__static_attributes__" 634 (.ref 359), hD P "__weakref__" 637 (.ref 362), hD P "__doc__" 638 .none] 4), #[]⟩
def ho356 : Obj := ⟨(.type "type"), none, (.cls ⟨"NoHand", [(.type "KeyError")], [(.ref 361), (.type "KeyError"), (.type "LookupError"), (.type "Exception"), (.type "BaseException"), (.type "object")], 360, "NoHand", true, [], [], false, none, false⟩), #[(some (.ref 343)), none, (some (.str "NoHand" 612)), (some (.str "NoHand" 620)), (some (.builtin "LookupError.__new__")), (some (.bool true))]⟩
def ho357 : Obj := ⟨(.type "getset_descriptor"), none, (.fields #[(.str "__weakref__" 636), (.ref 361), (.builtin "ExceptionGroup.__weakref__"), .none]), #[]⟩
def ho358 : Obj := ⟨(.type "super"), none, (.fields #[(.ref 361), (.ref 361), (.ref 361)]), #[]⟩
def ho359 : Obj := ⟨(.type "builtin_function_or_method"), none, (.fields #[(.builtin "object.__init_subclass__"), (.ref 361)]), #[]⟩
def ho362 : Obj := hoT #[(.str "_law_script" 648), (.str "_law_k" 649), (.str "_law_cell" 650), (.str "_law_own" 651)]
def ho364 : Obj := ⟨.none, none, (hF (topk01 19) "_law_feed" "_law_feed" 0 [] .none .none .none .none none .none .none 0), #[]⟩
def ho365 : Obj := hoC #[(.str "_law_feed" 645), (.str "_law_feed" 646), (.str "/claim/cut.py" 647), (.int 85 0), (.int 2 0), hi0, hi0, (.int 3 0), (.ref 365), (.bool true), (.int 181 0), (.ref 366), .none, (.ref 367), (.ref 368), (.ref 369), (.int 652 0), (.int 85 0), (.str "/claim/cut.py" 653)]
def ho366 : Obj := ⟨(.type "function"), none, (hF (topk01 19) "_law_feed" "_law_feed" 3 [] .none .none .none (.str "law_lateplace_k01_errors" 643) none (.ref 370) .none 0), #[]⟩
def ho369 : Obj := hoT #[(.str "_law_feed_here" 658), (.str "_law_many" 659), (.str "_law_digit" 660), (.str "_law_one" 661)]
def ho371 : Obj := ⟨.none, none, (hF (topk01 20) "_law_take" "_law_take" 0 [] .none .none .none .none none .none .none 0), #[]⟩
def ho372 : Obj := hoC #[(.str "_law_take" 655), (.str "_law_take" 656), (.str "/claim/cut.py" 657), (.int 95 0), (.int 2 0), hi0, hi0, (.int 3 0), (.ref 372), (.bool true), (.int 181 0), (.ref 373), .none, (.ref 374), (.ref 375), (.ref 376), (.int 662 0), (.int 95 0), (.str "/claim/cut.py" 663)]
def ho373 : Obj := ⟨(.type "function"), none, (hF (topk01 20) "_law_take" "_law_take" 3 [] .none .none .none (.str "law_lateplace_k01_errors" 643) none (.ref 377) .none 0), #[]⟩
def ho376 : Obj := ⟨.none, none, (hF (topk01 21) "_law_value" "_law_value" 0 [] .none .none .none .none none .none .none 0), #[]⟩
def ho377 : Obj := hoC #[(.str "_law_value" 665), (.str "_law_value" 666), (.str "/claim/cut.py" 667), (.int 103 0), (.int 2 0), hi0, hi0, (.int 3 0), (.ref 379), (.bool true), (.int 181 0), (.ref 380), .none, .none, .none, (.ref 381), (.int 668 0), (.int 103 0), (.str "/claim/cut.py" 669)]
def ho378 : Obj := ⟨(.type "function"), none, (hF (topk01 21) "_law_value" "_law_value" 3 [] .none .none .none (.str "law_lateplace_k01_errors" 643) none (.ref 382) .none 0), #[]⟩
def ho381 : Obj := hoT #[(.str "_law_a" 674), (.str "_law_b" 675), (.str "_law_c" 676), (.str "_law_some" 677)]
def ho383 : Obj := ⟨.none, none, (hF (topk01 22) "_law_by_position" "_law_by_position" 0 [] .none .none .none .none none .none .none 0), #[]⟩
def ho384 : Obj := hoC #[(.str "_law_by_position" 671), (.str "_law_by_position" 672), (.str "/claim/cut.py" 673), (.int 109 0), (.int 3 0), hi0, hi0, (.int 3 0), (.ref 384), (.bool true), (.int 181 0), (.ref 385), .none, (.ref 386), (.ref 387), (.ref 388), (.int 678 0), (.int 109 0), (.str "/claim/cut.py" 679)]
def ho385 : Obj := ⟨(.type "function"), none, (hF (topk01 22) "_law_by_position" "_law_by_position" 3 [] .none .none .none (.str "law_lateplace_k01_errors" 643) none (.ref 389) .none 0), #[]⟩
def ho388 : Obj := hoT #[(.str "_law_a" 684), (.str "_law_b" 685), (.str "_law_c" 686), (.str "_law_some" 687)]
def ho390 : Obj := ⟨.none, none, (hF (topk01 23) "_law_by_name" "_law_by_name" 0 [] .none .none .none .none none .none .none 0), #[]⟩
def ho391 : Obj := hoC #[(.str "_law_by_name" 681), (.str "_law_by_name" 682), (.str "/claim/cut.py" 683), (.int 113 0), (.int 3 0), hi0, hi0, (.int 3 0), (.ref 391), (.bool true), (.int 181 0), (.ref 392), .none, (.ref 393), (.ref 394), (.ref 395), (.int 688 0), (.int 113 0), (.str "/claim/cut.py" 689)]
def ho392 : Obj := ⟨(.type "function"), none, (hF (topk01 23) "_law_by_name" "_law_by_name" 3 [] .none .none .none (.str "law_lateplace_k01_errors" 643) none (.ref 396) .none 0), #[]⟩
def ho395 : Obj := hoT #[(.str "_law_some" 694), (.str "_law_found" 695)]
def ho397 : Obj := ⟨.none, none, (hF (topk01 24) "_law_kept" "_law_kept" 0 [] .none .none .none .none none .none .none 0), #[]⟩
def ho398 : Obj := hoC #[(.str "_law_kept" 691), (.str "_law_kept" 692), (.str "/claim/cut.py" 693), (.int 117 0), (.int 1 0), hi0, hi0, (.int 3 0), (.ref 398), (.bool true), (.int 181 0), (.ref 399), .none, (.ref 400), (.ref 401), (.ref 402), (.int 696 0), (.int 117 0), (.str "/claim/cut.py" 697)]
def ho399 : Obj := ⟨(.type "function"), none, (hF (topk01 24) "_law_kept" "_law_kept" 3 [] .none .none .none (.str "law_lateplace_k01_errors" 643) none (.ref 403) .none 0), #[]⟩
def ho402 : Obj := hoT #[(.str "_law_e" 702), (.str "_law_found" 703)]
def ho404 : Obj := ⟨.none, none, (hF (topk01 25) "_law_classes" "_law_classes" 0 [] .none .none .none .none none .none .none 0), #[]⟩
def ho405 : Obj := hoC #[(.str "_law_classes" 699), (.str "_law_classes" 700), (.str "/claim/cut.py" 701), (.int 121 0), (.int 1 0), hi0, hi0, (.int 3 0), (.ref 405), (.bool true), (.int 181 0), (.ref 406), .none, (.ref 407), (.ref 408), (.ref 409), (.int 704 0), (.int 121 0), (.str "/claim/cut.py" 705)]
def ho406 : Obj := ⟨(.type "function"), none, (hF (topk01 25) "_law_classes" "_law_classes" 3 [] .none .none .none (.str "law_lateplace_k01_errors" 643) none (.ref 410) .none 0), #[]⟩
def ho409 : Obj := ⟨.none, none, (hF (topk01 26) "_law_right" "_law_right" 0 [] .none .none .none .none none .none .none 0), #[]⟩
def ho410 : Obj := hoC #[(.str "_law_right" 707), (.str "_law_right" 708), (.str "/claim/cut.py" 709), (.int 128 0), (.int 1 0), hi0, hi0, (.int 3 0), (.ref 412), (.bool true), (.int 181 0), (.ref 413), .none, .none, .none, (.ref 414), (.int 710 0), (.int 128 0), (.str "/claim/cut.py" 711)]
def ho411 : Obj := ⟨(.type "function"), none, (hF (topk01 26) "_law_right" "_law_right" 3 [] .none .none .none (.str "law_lateplace_k01_errors" 643) none (.ref 415) .none 0), #[]⟩
def ho414 : Obj := ⟨.none, none, (hF (topk01 27) "law" "law" 0 [] .none .none .none .none none .none .none 0), #[]⟩
def ho415 : Obj := hoC #[(.str "law" 713), (.str "law" 714), (.str "/claim/cut.py" 715), (.int 134 0), (.int 1 0), hi0, hi0, (.int 3 0), (.ref 417), (.bool true), (.int 181 0), (.ref 418), .none, .none, .none, (.ref 419), (.int 716 0), (.int 134 0), (.str "/claim/cut.py" 717)]
def ho416 : Obj := ⟨(.type "function"), none, (hF (topk01 27) "law" "law" 3 [] .none .none .none (.str "law_lateplace_k01_errors" 643) none (.ref 420) .none 0), #[]⟩
def hT_1 (P : Params) : BT := (.node (boot_o_0 P) (.node (boot_o_1 P) (.node (ho230 P) (.node (boot_o_7 P) (.node ho6 (.node ho22 (.node ho54 (.node ho118 (lf (ho250 P)) (lf ho378)) (.node ho182 (lf ho314) .nil)) (.node ho0 (.node ho150 (lf ho282) (lf ho410)) (.node ho214 (lf ho346) .nil))) (.node ho38 (.node ho70 (.node ho1 (lf ho0) (lf ho1)) (.node ho198 (lf ho330) .nil)) (.node ho102 (.node ho19 (lf (ho298 P)) .nil) (.node ho7 (lf ho362) .nil)))) (.node (ho14 P) (.node ho30 (.node ho7 (.node (ho126 P) (lf ho0) (lf ho0)) (.node ho190 (lf ho322) .nil)) (.node ho0 (.node ho158 (lf ho290) .nil) (.node ho222 (lf ho354) .nil))) (.node ho46 (.node (ho78 P) (.node ho142 (lf ho274) (lf ho402)) (.node ho206 (lf ho338) .nil)) (.node ho110 (.node ho174 (lf ho1) .nil) (.node ho242 (lf ho0) .nil))))) (.node ho0 (.node ho1 (.node ho26 (.node ho58 (.node ho122 (lf ho19) (lf ho0)) (.node ho186 (lf ho7) .nil)) (.node ho90 (.node ho154 (lf ho286) (lf ho414)) (.node ho1 (lf ho0) .nil))) (.node (ho42 P) (.node ho74 (.node ho138 (lf ho270) (lf ho398)) (.node ho202 (lf (ho334 P)) .nil)) (.node ho106 (.node ho0 (lf ho302) .nil) (.node ho238 (lf ho366) .nil)))) (.node ho18 (.node ho34 (.node ho66 (.node ho130 (lf ho262) (lf ho390)) (.node ho194 (lf ho326) .nil)) (.node ho98 (.node (ho162 P) (lf ho294) .nil) (.node ho226 (lf ho358) .nil))) (.node ho1 (.node ho19 (.node ho7 (lf ho278) (lf ho406)) (.node (ho210 P) (lf ho0) .nil)) (.node ho114 (.node ho0 (lf ho310) .nil) (.node ho246 (lf ho0) .nil)))))) (.node (boot_o_5 P) (.node (boot_o_9 P) (.node (ho8 P) (.node ho24 (.node ho56 (.node (ho120 P) (lf ho252) (lf ho1)) (.node ho184 (lf ho316) .nil)) (.node ho88 (.node ho152 (lf ho284) (lf ho0)) (.node ho216 (lf ho1) .nil))) (.node ho19 (.node ho72 (.node ho0 (lf ho268) (lf ho0)) (.node ho200 (lf ho332) .nil)) (.node ho7 (.node (ho168 P) (lf ho0) .nil) (.node ho236 (lf ho364) .nil)))) (.node ho16 (.node ho32 (.node ho64 (.node ho0 (lf ho260) (lf ho388)) (.node ho192 (lf ho324) .nil)) (.node ho96 (.node ho160 (lf (ho292 P)) .nil) (.node ho224 (lf ho356) .nil))) (.node ho48 (.node ho80 (.node ho144 (lf ho7) (lf ho404)) (.node ho19 (lf (ho340 P)) .nil)) (.node ho112 (.node ho1 (lf ho0) .nil) (.node ho244 (lf ho372) .nil))))) (.node ho2 (.node ho12 (.node ho28 (.node ho60 (.node ho19 (lf (ho256 P)) (lf ho384)) (.node ho7 (lf ho320) .nil)) (.node ho1 (.node ho156 (lf ho288) (lf ho416)) (.node ho0 (lf ho352) .nil))) (.node ho0 (.node ho76 (.node ho140 (lf ho272) (lf ho0)) (.node (ho204 P) (lf ho336) .nil)) (.node ho108 (.node ho172 (lf ho304) .nil) (.node ho240 (lf ho1) .nil)))) (.node ho7 (.node (ho36 P) (.node ho68 (.node ho132 (lf ho1) (lf ho392)) (.node ho196 (lf ho328) .nil)) (.node ho100 (.node ho164 (lf ho19) .nil) (.node ho228 (lf ho0) .nil))) (.node ho0 (.node (ho84 P) (.node ho148 (lf ho280) (lf ho1)) (.node ho0 (lf ho344) .nil)) (.node ho116 (.node ho180 (lf ho312) .nil) (.node ho248 (lf ho376) .nil))))))) (.node (ho229 P) (.node (boot_o_4 P) (.node (boot_o_8 P) (.node ho7 (.node ho0 (.node ho55 (.node ho119 (lf ho251) (lf ho0)) (.node (ho183 P) (lf ho315) .nil)) (.node ho87 (.node ho151 (lf ho283) (lf ho411)) (.node ho215 (lf ho347) .nil))) (.node ho39 (.node ho1 (.node ho135 (lf ho267) (lf ho395)) (.node ho0 (lf ho331) .nil)) (.node ho19 (.node ho7 (lf ho299) .nil) (.node (ho235 P) (lf ho0) .nil)))) (.node ho232 (.node ho0 (.node (ho63 P) (.node ho127 (lf ho259) (lf ho1)) (.node ho0 (lf ho323) .nil)) (.node ho95 (.node ho159 (lf ho291) .nil) (.node ho223 (lf (ho355 P)) .nil))) (.node ho47 (.node ho79 (.node ho143 (lf ho19) (lf ho0)) (.node ho207 (lf ho7) .nil)) (.node ho111 (.node ho175 (lf ho307) .nil) (.node ho1 (lf ho371) .nil))))) (.node ho231 (.node ho11 (.node ho27 (.node ho59 (.node ho123 (lf ho7) (lf ho383)) (.node ho19 (lf (ho319 P)) .nil)) (.node ho91 (.node ho1 (lf ho0) (lf ho415)) (.node ho219 (lf ho351) .nil))) (.node ho43 (.node ho75 (.node ho139 (lf (ho271 P)) (lf ho399)) (.node ho203 (lf ho335) .nil)) (.node ho0 (.node ho171 (lf ho303) .nil) (.node ho239 (lf ho0) .nil)))) (.node ho19 (.node ho35 (.node ho67 (.node ho131 (lf ho263) (lf ho391)) (.node ho195 (lf ho1) .nil)) (.node (ho99 P) (.node ho163 (lf ho295) .nil) (.node ho227 (lf ho359) .nil))) (.node ho51 (.node ho7 (.node (ho147 P) (lf ho0) (lf ho0)) (.node ho211 (lf ho343) .nil)) (.node ho0 (.node ho179 (lf ho311) .nil) (.node ho247 (lf ho1) .nil)))))) (.node (boot_o_6 P) (.node (boot_o_10 P) (.node ho0 (.node ho25 (.node (ho57 P) (.node ho121 (lf ho253) (lf ho381)) (.node ho185 (lf ho19) .nil)) (.node ho89 (.node ho153 (lf ho1) (lf ho1)) (.node ho217 (lf ho349) .nil))) (.node ho7 (.node ho0 (.node ho137 (lf ho269) (lf ho397)) (.node ho201 (lf ho0) .nil)) (.node (ho105 P) (.node ho169 (lf ho301) .nil) (.node ho0 (lf ho365) .nil)))) (.node ho17 (.node ho33 (.node ho0 (.node ho129 (lf ho261) (lf ho0)) (.node ho193 (lf ho325) .nil)) (.node ho97 (.node ho161 (lf ho293) .nil) (.node (ho225 P) (lf ho357) .nil))) (.node ho49 (.node ho81 (.node ho19 (lf (ho277 P)) (lf ho405)) (.node ho7 (lf ho341) .nil)) (.node ho1 (.node ho177 (lf ho309) .nil) (.node ho0 (lf ho373) .nil))))) (.node ho3 (.node ho0 (.node ho1 (.node ho19 (.node ho7 (lf ho257) (lf ho385)) (.node (ho189 P) (lf ho0) .nil)) (.node ho93 (.node ho0 (lf ho289) .nil) (.node ho221 (lf ho353) .nil))) (.node ho45 (.node ho77 (.node (ho141 P) (lf ho273) (lf ho1)) (.node ho205 (lf ho337) .nil)) (.node ho109 (.node ho173 (lf ho305) .nil) (.node ho241 (lf ho369) .nil)))) (.node (ho21 P) (.node ho37 (.node ho69 (.node ho133 (lf ho265) (lf ho0)) (.node ho1 (lf ho0) .nil)) (.node ho101 (.node ho165 (lf ho7) .nil) (.node ho19 (lf ho1) .nil))) (.node ho53 (.node ho85 (.node ho0 (lf ho281) (lf ho409)) (.node ho213 (lf ho345) .nil)) (.node ho117 (.node ho181 (lf (ho313 P)) .nil) (.node ho0 (lf ho377) .nil))))))))
def hS_1 (w : World) (os : OsState) : SharedT := ⟨hT_1 w.params, 422, (boot_heap w.params).life, #[], ⟨0, 0, 0, 0⟩, 719, os⟩
def hEnv : Env := { scope := Rk01.prog.main.scope, locals := mainNs, globals := mainNs, cells := [], code := (.ref 13), frame := some 14 }
def hC : Code := .body (behindTheImports Rk01.prog) hEnv
def hQ : Pos := ⟨0, 0, 0, 0⟩
def hAnn : Option Value := (some (.ref 6))
def hl_0 : List Stmt := ((behindTheImports Rk01.prog).drop 0).take 12
def hl_1 : List Stmt := ((behindTheImports Rk01.prog).drop 12).take 16
theorem hsplit : behindTheImports Rk01.prog = (hl_0 ++ (hl_1 ++ [])) := by kernel_rfl
theorem seg_pre (w : World) (os : OsState) : preQ Rk01.prog w os 11 hAnn 12 = some (hS_a w os, ⟨denQ tabQ hC, hC, ⟨0, 0, 0, 0⟩, [topFrame hQ]⟩) := by kernel_rfl
theorem seg_block (w : World) (os : OsState) : segF (stQ Rk01.prog w) 11 hAnn 1 1 (hS_a w os) (blockQ (behindTheImports Rk01.prog) hEnv hC ⟨0, 0, 0, 0⟩ [topFrame hQ]) = some (.next, hS_b w os, hC, ⟨0, 0, 0, 0⟩) := by kernel_rfl
theorem seg_0 (w : World) (os : OsState) : segF (stQ Rk01.prog w) 11 hAnn 1 2810 (hS_b w os) (pieceQ hl_0 hEnv hC ⟨0, 0, 0, 0⟩ [topFrame hQ]) = some (.next, hS_0 w os, hC, ⟨51, 0, 55, 24⟩) := by kernel_rfl
theorem seg_1 (w : World) (os : OsState) : segF (stQ Rk01.prog w) 11 hAnn 1 1821 (hS_0 w os) (pieceQ hl_1 hEnv hC ⟨51, 0, 55, 24⟩ [topFrame hQ]) = some (.next, hS_1 w os, hC, ⟨134, 0, 141, 15⟩) := by kernel_rfl
theorem hsize (w : World) : (boot_heap w.params).objs.size = 11 := by kernel_rfl
theorem hann (w : World) : bootAnn w = hAnn := by kernel_rfl
theorem hrun (w : World) (os : OsState) (x : Shared) (k : topRun treeTable Rk01.prog w 11 hAnn 51 (hS_1 w os).abs ⟨doneF .next, hC, ⟨134, 0, 141, 15⟩, [topFrame hQ]⟩ = some x) : topRun treeTable Rk01.prog w 11 hAnn (12 + (1 + (2810 + (1821 + 51)))) ⟨boot_heap w.params, #[], boot_drawn, boot_toks, os⟩ (topStub Rk01.prog) = some x := by
  have e := piece_nil (env := hEnv) k
  have e := piece_app (pieceQ_ok (seg_1 w os)) e
  have e := piece_app (pieceQ_ok (seg_0 w os)) e
  rw [← hsplit] at e
  have e := piece_block (blockQ_ok (seg_block w os)) e
  exact go_top (preD_ok (seg_pre w os)) e
abbrev hM : Nat := (12 + (1 + (2810 + (1821 + 51))))
abbrev hm : Nat := 51
abbrev hn0 : Nat := 11
abbrev hSm := hS_1
noncomputable abbrev hTm : Thread := ⟨doneF .next, hC, ⟨134, 0, 141, 15⟩, [topFrame hQ]⟩
end Dl
end
namespace Lp
open PySem PySem.W PySem.Calls PyProof.Rows HandSHeadRun He
section
variable {r : OpenRow} {q : Program} {H : Hook} {ob : SharedT → H.α} {n0 : Nat} {ann : Option Value} {M : Nat} {loose : List PySem.Str} {w : World} {s : SharedT} {t : Thread}
def EndL (r : OpenRow) (n0 : Nat) (ann : Option Value) (M : Nat) (w : World) (s : SharedT) (t : Thread) : Prop :=
  (goF (stQ r.prog w) n0 ann M s t).map (fun s => looksF r.prog (boot_heap w.params) s.abs) = some true
def EndS (r : OpenRow) (q : Program) (n0 : Nat) (ann : Option Value) (M : Nat) (loose : List PySem.Str) (w : World) (s : SharedT) (t : Thread) : Prop :=
  (goF (stQ r.prog w) n0 ann M s t).map (fun s => seenQ q loose (importedModules r.prog.main.body) (fun s => xlAt q [] s && recOk r.toRowW.records s) s.abs) = some (openGood q loose)
def EndO (r : OpenRow) (H : Hook) (ob : SharedT → H.α) (n0 : Nat) (ann : Option Value) (M : Nat) (w : World) (s : SharedT) (t : Thread) : Prop :=
  (goF (stQ r.prog w) n0 ann M s t).map ob = some (H.val w)
theorem end_of (h1 : EndL r n0 ann M w s t) (h2 : EndS r q n0 ann M loose w s t) (h3 : EndO r H ob n0 ann M w s t) : EndEq r q H ob n0 ann M loose w s t := by
  unfold EndEq
  unfold EndL at h1
  unfold EndS at h2
  unfold EndO at h3
  cases e : goF (stQ r.prog w) n0 ann M s t with
  | none => rw [e] at h1; cases h1
  | some x =>
    rw [e, Option.map_some] at h1 h2 h3
    rw [Option.map_some, Option.some.inj h1, Option.some.inj h2, Option.some.inj h3]
def obsLX (L : List Addr) (file : PySem.Str) (fb : List (PySem.W.Frag → Bool)) (fn : List DefL) (g : Addr → Option Obj) : AlL := obsL file fb fn (frG g L)
def hookX (L : List Addr) (file : PySem.Str) (fb : List (PySem.W.Frag → Bool)) (fn : List DefL) : PySem.W.Hook where
  α := AlL
  obs := fun s => obsLX L file fb fn s.heap.get?
  val := fun _ => valL fn
  says := fun _ h => ∃ K : PySem.W.Frag, K.In h ∧ SaysL file fb fn K
  of := fun _ _ e => ⟨_, frG_in, e⟩
  keeps := fun _ _ _ ⟨K, hK, c⟩ k => ⟨K, PySem.W.Frag.In.keeps hK k, c⟩
def obX (L : List Addr) (file : PySem.Str) (fb : List (PySem.W.Frag → Bool)) (fn : List DefL) (s : SharedT) : AlL := obsLX L file fb fn (HandSHeadRun.getT s)
theorem obX_eq {L : List Addr} {file : PySem.Str} {fb : List (PySem.W.Frag → Bool)} {fn : List DefL} (s : SharedT) : obX L file fb fn s = (hookX L file fb fn).obs s.abs := by
  have e : HandSHeadRun.getT s = s.abs.heap.get? := funext (HandSHeadRun.getT_eq s)
  unfold obX
  rw [e]; rfl
variable {L : List Addr} {file : PySem.Str} {fb fb2 : List (PySem.W.Frag → Bool)} {fn fn2 : List DefL}
def EndP (r : OpenRow) (L : List Addr) (file : PySem.Str) (fb : List (PySem.W.Frag → Bool)) (fn : List DefL) (n0 : Nat) (ann : Option Value) (M : Nat) (w : World) (s : SharedT) (t : Thread) : Prop :=
  (goF (stQ r.prog w) n0 ann M s t).map (obX L file fb fn) = some (valL fn)
theorem endP_app (h1 : EndP r L file fb fn n0 ann M w s t) (h2 : EndP r L file fb2 fn2 n0 ann M w s t) : EndP r L file (fb ++ fb2) (fn ++ fn2) n0 ann M w s t := by
  unfold EndP at *
  cases e : goF (stQ r.prog w) n0 ann M s t with
  | none => rw [e] at h1; cases h1
  | some x =>
    rw [e, Option.map_some] at h1 h2
    rw [Option.map_some]
    exact congrArg some (obsL_app (Option.some.inj h1) (Option.some.inj h2))
theorem endP_cut (i j : Nat) (h1 : EndP r L file (fb.take i) (fn.take j) n0 ann M w s t) (h2 : EndP r L file (fb.drop i) (fn.drop j) n0 ann M w s t) : EndP r L file fb fn n0 ann M w s t := by
  have := endP_app h1 h2
  rwa [List.take_append_drop, List.take_append_drop] at this
theorem endO_of (h : EndP r L file fb fn n0 ann M w s t) : EndO r (hookX L file fb fn) (obX L file fb fn) n0 ann M w s t := h
end
end Lp
namespace Dl
open PySem PySem.Spec PyProof.Rows L2 He Lp
def hL : List Addr := [3, 2, 6, 4, 24, 46, 67, 88, 109, 130, 151, 172, 193, 214, 235, 256, 277, 298, 319, 340, 361, 371, 378, 383, 390, 397, 404, 411, 416, 421, 0, 23, 45, 66, 87, 108, 129, 150, 171, 192, 213, 234, 255, 276, 297, 318, 339, 360, 370, 377, 382, 389, 396, 403, 410, 415, 420, 22, 25, 43, 44, 64, 65, 85, 86, 106, 107, 127, 128, 148, 149, 169, 170, 190, 191, 211, 212, 232, 233, 253, 254, 274, 275, 295, 296, 316, 317, 337, 338, 358, 359, 362, 365, 366, 367, 368, 369, 372, 373, 374, 375, 376, 379, 380, 381, 384, 385, 386, 387, 388, 391, 392, 393, 394, 395, 398, 399, 400, 401, 402, 405, 406, 407, 408, 409, 412, 413, 414, 417, 418, 419, 42, 31, 63, 52, 84, 73, 105, 94, 126, 115, 147, 136, 168, 157, 189, 178, 210, 199, 231, 220, 252, 241, 273, 262, 294, 283, 315, 304, 336, 325, 357, 346, 37, 38, 39, 40, 41, 58, 59, 60, 61, 62, 79, 80, 81, 82, 83, 100, 101, 102, 103, 104, 121, 122, 123, 124, 125, 142, 143, 144, 145, 146, 163, 164, 165, 166, 167, 184, 185, 186, 187, 188, 205, 206, 207, 208, 209, 226, 227, 228, 229, 230, 247, 248, 249, 250, 251, 268, 269, 270, 271, 272, 289, 290, 291, 292, 293, 310, 311, 312, 313, 314, 331, 332, 333, 334, 335, 352, 353, 354, 355, 356]
abbrev hkx : PySem.W.Hook := hookX hL (Rk01.prog.main.file) fbk01 fnk01
abbrev obx : PySem.W.SharedT → AlL := obX hL (Rk01.prog.main.file) fbk01 fnk01
theorem obx_eq (s : PySem.W.SharedT) : obx s = hkx.obs s.abs := obX_eq s
end Dl
open PySem PySem.W PySem.Calls PyProof.Rows
theorem Dl.seg_l (w : World) (os : OsState) : Lp.EndL Dl.Rk01 Dl.hn0 Dl.hAnn Dl.hm w (Dl.hSm w os) Dl.hTm := by
  unfold Lp.EndL
  kernel_rfl
theorem Dl.seg_s (w : World) (os : OsState) : Lp.EndS Dl.Rk01 (view Dl.Rk01.prog [27]) Dl.hn0 Dl.hAnn Dl.hm Dl.namesk01 w (Dl.hSm w os) Dl.hTm := by
  unfold Lp.EndS
  kernel_rfl
theorem Dl.seg_p0 (w : World) (os : OsState) : Lp.EndP Dl.Rk01 Dl.hL Dl.Rk01.prog.main.file (Dl.fbk01.take 38) (Dl.fnk01.take 8) Dl.hn0 Dl.hAnn Dl.hm w (Dl.hSm w os) Dl.hTm := by
  unfold Lp.EndP
  kernel_rfl
theorem Dl.seg_p1 (w : World) (os : OsState) : Lp.EndP Dl.Rk01 Dl.hL Dl.Rk01.prog.main.file ((Dl.fbk01.drop 38).take 39) ((Dl.fnk01.drop 8).take 8) Dl.hn0 Dl.hAnn Dl.hm w (Dl.hSm w os) Dl.hTm := by
  unfold Lp.EndP
  kernel_rfl
theorem Dl.seg_p2 (w : World) (os : OsState) : Lp.EndP Dl.Rk01 Dl.hL Dl.Rk01.prog.main.file ((Dl.fbk01.drop 38).drop 39) ((Dl.fnk01.drop 8).drop 8) Dl.hn0 Dl.hAnn Dl.hm w (Dl.hSm w os) Dl.hTm := by
  unfold Lp.EndP
  kernel_rfl
theorem Dl.seg_fink01 (w : World) (os : OsState) : Lp.EndEq Dl.Rk01 (view Dl.Rk01.prog [27]) Dl.hkx Dl.obx Dl.hn0 Dl.hAnn Dl.hm Dl.namesk01 w (Dl.hSm w os) Dl.hTm :=
  Lp.end_of (Dl.seg_l w os) (Dl.seg_s w os) (Lp.endO_of (Lp.endP_cut 38 8 (Dl.seg_p0 w os) (Lp.endP_cut 39 8 (Dl.seg_p1 w os) (Dl.seg_p2 w os))))
theorem PySem.Challenge.cw_lateplace_k01_errors_holds : PySem.Challenge.rw_lateplace_k01_errors.Holds := by
  w_on; o_law
  refine Lp.head_seg (r := OpenLaw.row PySem.Challenge.rw_lateplace_k01_errors) (q := view (OpenLaw.row PySem.Challenge.rw_lateplace_k01_errors).prog [27]) (H := Dl.hkx) (ob := Dl.obx) (M := Dl.hM) (m := Dl.hm) (n0 := Dl.hn0) (ann := Dl.hAnn) (loose := Dl.namesk01) (d := HandSHeadRun.topDef (OpenLaw.row PySem.Challenge.rw_lateplace_k01_errors).prog 27) (kwd := []) (sm := Dl.hSm) (tm := Dl.hTm) Dl.obx_eq
    (by kernel_rfl) (fun s => by kernel_rfl) Dl.hsize Dl.hann Dl.hrun Dl.seg_fink01 (by kernel_rfl) (by kernel_rfl) (by kernel_rfl) (by rfl) (by first | assumption | decide +kernel) (by decide +kernel) ⟨rfl, rfl, rfl, rfl, rfl, by decide +kernel⟩ ?hw ?hc
  case hw => w_witness2
  case hc =>
    refine Lp.walk_ofG (l := PySem.Challenge.rw_lateplace_k01_errors) (n := 63) (k := 6) (x := "_law_script") rfl (by decide) (by kernel_rfl) ⟨rfl, by decide, by decide⟩ ?F
    intro w mg fa h Y G hmg0
    obtain ⟨K, KX, c⟩ := Y
    have hmg : mg ("law" : PySem.Str) = some (.ref fa) := by
      have e : (HandSHeadRun.topDef (OpenLaw.row PySem.Challenge.rw_lateplace_k01_errors).prog 27).name = ("law" : PySem.Str) := by kernel_rfl
      rw [← e]
      exact hmg0
    obtain ⟨fd, hb, hF⟩ := Dl.factsk01 (w := w) KX G hmg c
    exact ⟨K, fd, fun vs H Q _ => Dl.spD K [false] Dl.sem_law vs H Q Dl.XF, KX, hb, fun H a ns hl _ hS => Dl.law_sp hS (Dl.plaink01 ns hl), hF⟩
