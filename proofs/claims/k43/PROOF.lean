import PyProof.Rows.All
import Wide.All
import OpenK.AllK
import Wide.FinOn
import KE.KSuper
import KE.KExcSuper
import HandS.ForMost
import HandS.Exc
import HandS.ExcInit
import HandS.More
import HandS.ClsMeth
import HandS.Nested
import HandS.Defaults
import HandS.ExcSuper
import HandS.HeadEnd
import HandS.ForExc
import HandS.IsInst
import PyProof.StrLawsRepr
import HandS.OwnEq
import HandS.Property
import HandS.ExcField
import HandS.ExcIs
import HandS.Flow
import HandS.Wide
import HandS.SlotsOwn
import HandS.TryMany
import HandS.Head0
import HandS.Head1
import HandS.Head2
import HandS.HeadHook2
import HandS.TupMul
import HandS.Zip
import HandS.TupAny
import HandS.CallSlots
import HandS.Walk
import PySem.Challenge.RW_lateplace_k43_writes_of_disks
set_option Elab.async false
set_option linter.all false
set_option maxRecDepth 100000
set_option maxHeartbeats 0
namespace Lp
open PySem PySem.Spec PyProof.Rows L2

/-! ### blocks at a known activation (super() looks at it) -/
structure PSA (X : Cx) (c : Code) (st : Stmt) (t : TS) : Prop where
  run : ∀ (pins : List (Addr × Obj)) (s : Shared) (σ : L2.St) (H : Hp) (D : Ends), Inv X pins σ H s → t D σ H → _root_.PySem.wpAt (model X.prog X.w) X.A c (exec st X.env) (SP X pins D) X.xe s
structure PSsA (X : Cx) (c : Code) (st : List Stmt) (t : TS) : Prop where
  run : ∀ (pins : List (Addr × Obj)) (s : Shared) (σ : L2.St) (H : Hp) (D : Ends), Inv X pins σ H s → t D σ H → _root_.PySem.wpAt (model X.prog X.w) X.A c (execs st X.env) (SP X pins D) X.xe s
section
variable {X : Cx} {c : Code} {st : Stmt} {rest : List Stmt} {t u : TS}
theorem PSA.of (h : PS X st t) : PSA X c st t := ⟨fun pins s σ H D I q => wpAt_of_wpAny (h.run pins s σ H D I q)⟩
theorem PSsA.of (h : PSs X rest t) : PSsA X c rest t := ⟨fun pins s σ H D I q => wpAt_of_wpAny (h.run pins s σ H D I q)⟩
theorem psa_cons (h1 : PSA X c st t) (h2 : PSsA X c rest u) : PSsA X c (st :: rest) (tSeq t u) := by
  refine ⟨fun pins s σ H D I h => ?_⟩
  refine PySem.ks_wpAt_execs_cons (PySem.ks_wpAt_mono (h1.run pins s σ H _ I h) (fun f s' hf => ?_) fun _ _ z => z)
  cases f with
  | next =>
    obtain ⟨σ', H', I', q⟩ := hf
    exact h2.run pins s' σ' H' D I' q
  | brk => exact hf
  | cont => exact hf
  | ret v => exact hf
theorem psa_one (h1 : PSA X c st t) : PSsA X c [st] t := by
  refine ⟨fun pins s σ H D I h => ?_⟩
  refine PySem.ks_wpAt_execs_cons (PySem.ks_wpAt_mono (h1.run pins s σ H _ I h) (fun f s' hf => ?_) fun _ _ z => z)
  cases f with
  | next =>
    obtain ⟨σ', H', I', q⟩ := hf
    exact wpAt_of_wpAny (wpAny_execs_nil ⟨σ', H', I', q⟩)
  | brk => exact hf
  | cont => exact hf
  | ret v => exact hf
end

/-! ### a method that closes over __class__ -/
structure SScope (N ps : List Str) (sc : Scope) : Prop where
  kind : sc.kind = .function
  co : sc.isCoroutine = false
  gen : sc.isGenerator = false
  nd : N.Nodup
  pre : N.take ps.length = ps
  par : ∀ x ∈ ps, sc.names.lookup x = some .local
  nocell : ∀ y ∈ sc.names, y.2 ≠ .cell
  free : ∀ y ∈ sc.names, y.2 = .free → y.1 = "__class__"
def sscB (N ps : List Str) (sc : Scope) : Bool :=
  decide (sc.kind = .function) && !sc.isCoroutine && !sc.isGenerator && decide N.Nodup && decide (N.take ps.length = ps) && ps.all (fun x => decide (sc.names.lookup x = some .local)) && sc.names.all (fun y => !decide (y.2 = .cell)) && sc.names.all (fun y => !decide (y.2 = .free) || decide (y.1 = "__class__"))
theorem sscope_by {N ps : List Str} {sc : Scope} (h : sscB N ps sc = true) : SScope N ps sc := by
  unfold sscB at h
  simp only [Bool.and_eq_true, Bool.not_eq_true', decide_eq_true_eq, List.all_eq_true, Bool.or_eq_true, decide_eq_false_iff_not] at h
  obtain ⟨⟨⟨⟨⟨⟨⟨h1, h2⟩, h3⟩, h4⟩, h5⟩, h6⟩, h7⟩, h8⟩ := h
  exact ⟨h1, h2, h3, h4, h5, h6, h7, fun y hy e => (h8 y hy).elim (fun z => absurd e z) id⟩

def scx (CX : CXT) (P : Program) (w : World) (K : PySem.W.Frag) (mg : Str → Option Value) (base : Heap) (N : List Str) (qual : Str) (scope : Scope) (f : Addr) (cdv : Value) (cc : Addr) (A : Around) (outer : List Env) (s : Shared) (H : Hp) (E : XK) : Cx where
  prog := P
  w := w
  K := K
  mg := mg
  base := base
  A := A.deeper (PySem.W.ksEnv qual scope s.heap.objs.size f cdv cc)
  N := N
  s_0 := s
  H_0 := H
  env := PySem.W.ksEnv qual scope s.heap.objs.size f cdv cc
  outer := outer
  stack := PySem.W.ksEnv qual scope s.heap.objs.size f cdv cc :: outer
  ex := []
  calm := true
  fn := fun _ => false
  pn := []
  xe := fun e s' => wpAny (model P w) (A.deeper (PySem.W.ksEnv qual scope s.heap.objs.size f cdv cc)) (leaving (PySem.W.ksEnv qual scope s.heap.objs.size f cdv cc) e) (fun _ s'' => CX outer H s E e s'') (fun e' s'' => CX outer H s E e' s'') s'

theorem cls_lookup {x : Str} {c cc : Addr} (h : ([(("__class__" : Str), cc)] : List (Str × Addr)).lookup x = some c) : x = "__class__" ∧ c = cc := by
  have e : ([(("__class__" : Str), cc)] : List (Str × Addr)).lookup x = if x = "__class__" then some cc else none := by
    by_cases q : x = "__class__"
    · subst q
      simp [List.lookup]
    · have e : (x == ("__class__" : Str)) = false := by simpa using q
      rw [if_neg q]
      simp [List.lookup, e]
  rw [e] at h
  by_cases q : x = "__class__"
  · rw [if_pos q] at h
    exact ⟨q, (Option.some.inj h).symm⟩
  · rw [if_neg q] at h
    cases h

section
variable {CX : CXT} {P : Program} {w : World} {K : PySem.W.Frag} {mg : Str → Option Value} {base : Heap} {N ps : List Str} {qual : Str} {scope : Scope} {f cc D : Addr} {cdv : Value} {A : Around} {outer : List Env} {s : Shared} {H : Hp} {E : XK} {us : List Value} {vs : List V} {ocell : Obj}
theorem inv_startS {h₁ : Heap} {tk : Nat} (S : SScope N ps scope) (hd : A.handled = none) (e0 : Env0 P w K mg base A outer s H) (hl : vs.length = ps.length) (r : Vals vs us) (hc : K.lookup cc = some ocell) (hcd : ocell.data = .cell (some (.ref D))) (hns : h₁.Ns s.heap.objs.size fun y => (ps.zip us).reverse.lookup y)
    (kp : ∀ b o, s.heap.get? b = some o → h₁.get? b = some o) : Inv (scx CX P w K mg base N qual scope f cdv cc A outer s H E) [] (start N vs) H { s with heap := h₁, toks := tk } := by
  have hpl : ps.length ≤ N.length := by have := congrArg List.length S.pre; rw [List.length_take] at this; omega
  have noA : ∀ b : Addr, b ∉ (scx CX P w K mg base N qual scope f cdv cc A outer s H E).ex := fun b z => absurd (show b ∈ ([] : List Addr) from z) (by simp)
  have hcell := e0.bs cc ocell (e0.mod.kin _ _ hc)
  refine ⟨⟨e0.mod, S.kind, rfl, rfl, Nat.le_refl _, fun x y c h1 h2 => ?_, fun y hy => ?_, fun y c z _ => ?_, fun _ => hd, Around.frames_deeper e0.frames, .inr ⟨rfl, rfl⟩, fun b z => absurd z (noA b), e0.bs, e0.bsz, fun b _ _ => noA b,
      fun b z => absurd z (noA b), e0.funs, e0.frf⟩,
    rfl, e0.bare, Un.kept kp, ⟨_, hns, fun i y v e1 e2 e3 => ?_⟩, fun y c e => ?_, e0.hok.fresh (Nat.le_refl _), fun y c e => ?_, fun q hq => absurd (show q ∈ ([] : List (Addr × Obj)) ++ [] from hq) (by simp), e0.hok.kept kp, ?_⟩
  · exact (cls_lookup h1).1.trans (cls_lookup h2).1.symm
  · have hy : scope.names.lookup y = some .cell ∨ scope.names.lookup y = some .free := hy
    rcases hy with hy | hy
    · exact absurd rfl (S.nocell _ (PySem.mem_of_lookup hy))
    · have e := S.free _ (PySem.mem_of_lookup hy) rfl
      have e : y = "__class__" := e
      subst e
      exact ⟨cc, rfl⟩
  · have z : false = true := z
    cases z
  · have hi : i < vs.length := by
      unfold L2.start at e2
      by_cases hi : i < vs.length
      · exact hi
      · rw [List.getElem?_append_right (by simpa using hi)] at e2
        rw [List.getElem?_replicate] at e2
        split at e2 <;> cases e2
    have ha : vs[i]? = some v := by
      unfold L2.start at e2
      rw [List.getElem?_append_left (by simpa using hi), List.getElem?_map] at e2
      cases e : vs[i]? with
      | none => rw [e] at e2; cases e2
      | some a => rw [e] at e2; cases e2; rfl
    obtain ⟨u, hu, rv⟩ := r.get ha
    have hp : ps[i]? = some y := by
      rw [← S.pre, List.getElem?_take_of_lt (by omega)]; exact e1
    have ndP : ps.Nodup := by rw [← S.pre]; exact S.nd.sublist (List.take_sublist _ _)
    exact ⟨u, rv, .inl ⟨S.par y (List.mem_of_getElem? hp), NdefX.zip_look ndP hp hu⟩⟩
  · obtain ⟨_, rfl⟩ := cls_lookup e
    exact ⟨_, ocell, kp _ _ hcell.1, hcd⟩
  · obtain ⟨_, rfl⟩ := cls_lookup e
    exact hcell.2
  · unfold L2.start
    show _ = N.length
    rw [List.length_append, List.length_map, List.length_replicate]
    omega
end

/-- a def of a class that closes over __class__ (the class at D), as it stands behind the top -/
structure FunS (K : PySem.W.Frag) (x qual : Str) (params : Arguments) (body : List Stmt) (scope : Scope) (dvs : List V) (D cda cc f : Addr) (fd : FuncData) : Prop where
  ex : ∃ (oc : Value) (od : Option Addr) (dV kV doc pm : Value) (an : Option Addr) (ct : Value) (osl : Array (Option Value)) (ocell : Obj),
    fd = PySem.W.ksFn x qual params body scope dV kV doc pm an (.ref cda) ct cc ∧ K.lookup f = some ⟨oc, od, .func fd, osl⟩ ∧ PySem.W.codeIn K (.ref cda) qual = true ∧ DflV K dV dvs ∧ K.lookup cc = some ocell ∧ ocell.data = .cell (some (.ref D))
  kp : PySem.W.keepIn K (.ref f) = true
section
variable {P : Program} {w : World} {K : PySem.W.Frag} {mg : Str → Option Value} {base : Heap} {x qual : Str} {params : Arguments} {body : List Stmt} {scope : Scope} {dvs : List V} {D cda cc f : Addr} {fd : FuncData}
theorem FunS.ok {CX : CXT} {N ps : List Str} {k : Nat} {sp : Sp} (F : FunS K x qual params body scope dvs D cda cc f fd) (S : SScope N ps scope) (len : ∀ vs H Q E, sp vs H Q E → vs.length = ps.length)
    (hbody : ∀ (A : Around) (outer : List Env) (s : Shared) (H : Hp) (vs : List V) (Q : VK) (E : XK), Room k (A.deeper (PySem.W.ksEnv qual scope s.heap.objs.size f (.ref cda) cc)) → sp vs H Q E →
      ∃ t, PSsA (scx CX P w K mg base N qual scope f (.ref cda) cc A outer s H E) (.func body (PySem.W.ksEnv qual scope s.heap.objs.size f (.ref cda) cc)) body t ∧ t { nx := fun _ H' => Q .non H', rt := Q } (start N vs) H) : FnOk P w K mg base CX (k + 1) f fd ps sp := by
  obtain ⟨oc, od, dV, kV, doc, pm, an, ct, osl, ocell, rfl, lk, hcd, _, hc, hcc⟩ := F.ex
  refine ⟨len, fun A outer s H args us vs Q E hr e0 hb r hsp => ?_⟩
  have hl := len _ _ _ _ hsp
  have KX : K.In s.heap := e0.mod.kin.keeps fun b o e => (e0.bs b o e).1
  have lim : s.heap.NoLimit := e0.mod.nolimit.keeps fun b o e => (e0.bs b o e).1
  refine PySem.ks_codeAny_call_defAt (binds := ps.zip us) hr.depth (KX _ _ lk) rfl lim (PySem.W.codeRec_of KX hcd) rfl hb S.nocell (fun ⟨n, _⟩ hy => S.par n (List.of_mem_zip hy).1) (fun h₁ hns kp => ?_) S.co S.gen S.kind
  obtain ⟨t, ht, hq⟩ := hbody A outer s H vs Q E (hr.deeper _) hsp
  have I : Inv (scx CX P w K mg base N qual scope f (.ref cda) cc A outer s H E) [] (start N vs) H { s with heap := h₁, toks := s.toks + (ps.zip us).length } := inv_startS S hr.hd e0 hl r hc hcc hns kp
  refine PySem.ks_wpAt_mono (ht.run [] _ (start N vs) H _ I hq) (fun fl s' hs => ?_) fun e s' hs => hs
  have fin : ∀ {σ' : L2.St} {H' : Hp} {v : V} {u : Value}, Inv (scx CX P w K mg base N qual scope f (.ref cda) cc A outer s H E) [] σ' H' s' → RelV v u → Q v H' → CE outer P w H s Q u s' :=
    fun {σ' H' v u} J rv q => ⟨v, H', J.os, J.bare, J.base, J.hok, rv, q⟩
  cases fl with
  | ret u =>
    obtain ⟨v, σ', H', J, rv, q⟩ := hs
    exact fin J rv q
  | next =>
    obtain ⟨σ', H', J, q⟩ := hs
    exact fin (v := V.non) (u := Value.none) J rfl q
  | brk =>
    obtain ⟨_, _, _, q⟩ := hs
    exact False.elim q
  | cont =>
    obtain ⟨_, _, _, q⟩ := hs
    exact False.elim q
/-- every parameter is given -/
theorem FunS.bindsN {ps : List Str} (F : FunS K x qual params body scope dvs D cda cc f fd)
    (h : ∀ (dV kV doc pm : Value) (an : Option Addr) (ct : Value) (us : List Value), us.length = ps.length → bindArgs (PySem.W.ksFn x qual params body scope dV kV doc pm an (.ref cda) ct cc) ⟨us, []⟩ = pure (ps.zip us)) : Binds K fd ps [] := by
  obtain ⟨oc, od, dV, kV, doc, pm, an, ct, osl, ocell, rfl, lk, hcd, hD, hc, hcc⟩ := F.ex
  exact .all (h dV kV doc pm an ct)
theorem FunS.bindsN0 {ps : List Str} (F : FunS K x qual params body scope [] D cda cc f fd)
    (h : ∀ (kV doc pm : Value) (an : Option Addr) (ct : Value) (us : List Value), us.length = ps.length → bindArgs (PySem.W.ksFn x qual params body scope .none kV doc pm an (.ref cda) ct cc) ⟨us, []⟩ = pure (ps.zip us)) : Binds K fd ps [] := by
  obtain ⟨oc, od, dV, kV, doc, pm, an, ct, osl, ocell, rfl, lk, hcd, hD, hc, hcc⟩ := F.ex
  rcases hD with ⟨_, rfl⟩ | ⟨e, _⟩
  · exact .all (h kV doc pm an ct)
  · exact absurd rfl e
end
end Lp
namespace Lp
open PySem PySem.Spec PyProof.Rows L2

structure PEA (X : Cx) (c : Code) (e : Expr) (t : TE) : Prop where
  run : ∀ (pins : List (Addr × Obj)) (s : Shared) (σ : L2.St) (H : Hp) (Q : VK), Inv X pins σ H s → t σ H Q → _root_.PySem.wpAt (model X.prog X.w) X.A c (eval e X.env) (EP X pins σ Q) X.xe s
section
variable {X : Cx} {c : Code} {e : Expr} {te : TE} {pos : Pos}
theorem PEA.of (h : PE X e te) : PEA X c e te := ⟨fun pins s σ H Q I q => wpAt_of_wpAny (h.run pins s σ H Q I q)⟩
theorem psa_expr (he : PEA X c e te) (hi : interactive X.env = false := by rfl) (hs : swapsWith e none pos.line X.env = pure false := by rfl) : PSA X c (.Expr e pos) (tDrop te) := by
  refine ⟨fun pins s σ H D I h => ?_⟩
  exact PySem.ks_wpAt_Expr_any (PySem.ks_wpAt_mono (he.run pins s σ H _ I h) (fun v s' ⟨_, H', I', _, q⟩ => ⟨σ, H', I', q⟩) fun _ _ z => z) hi hs
theorem psa_ret (he : PEA X c e te) : PSA X c (.Return (some e) pos) (tRet te) := by
  refine ⟨fun pins s σ H D I h => ?_⟩
  exact PySem.ks_wpAt_Return_some (PySem.ks_wpAt_mono (he.run pins s σ H _ I h) (fun v s' ⟨x, H', I', r, q⟩ => ⟨x, σ, H', I', r, q⟩) fun _ _ z => z)
end

/-- what super() asks of the text: the def at f with the code at cda, its cell cc that holds the class at D -/
structure SupK (P : Program) (K : PySem.W.Frag) (mg : Str → Option Value) (f cda cc D : Addr) : Prop where
  fn : ∃ (oc : Value) (od : Option Addr) (fd : FuncData) (osl : Array (Option Value)) (ar : Arg), K.lookup f = some ⟨oc, od, .func fd, osl⟩ ∧ (fd.params.posonlyargs ++ fd.params.args).head? = some ar ∧ ar.arg = "self"
  code : ∃ (ccl : Value) (cdd : Option Addr) (vs : Array Value) (ccs : Array (Option Value)) (file : Str) (tf : Tok), K.lookup cda = some ⟨ccl, cdd, .fields vs, ccs⟩ ∧ vs[2]? = some (.str file tf) ∧ ((P.main.file : Str) == file) = true
  cell : ∃ ocell : Obj, K.lookup cc = some ocell ∧ ocell.data = .cell (some (.ref D))
  cls : ∃ cdD : ClassData, PySem.W.clsIn K D = some cdD
  sup : mg "super" = none
  top : (P.main.scope.names.lookup ("super" : Str)).isSome = false
  opq : PySem.W.nsIn K cStatics "thirdparty.any" = some none

section
variable {X : Cx} {pins : List (Addr × Obj)} {σ : L2.St} {H : Hp} {s : Shared} {f cda cc D a C : Addr} {body : List Stmt} {p0 p1 : Pos} {attr : Str} {whole : Sem Value} {Q : Value → Shared → Prop} {E : Value → Shared → Prop} {ox : Obj}
theorem sup_node (S : SupK X.prog X.K X.mg f cda cc D) (I : Inv X pins σ H s) (hv : σ[0]? = some (some (.ref a))) (hN : X.N[0]? = some ("self" : Str)) (hfu : X.env.func = some f) (hco : X.env.code = .ref cda) (hcl : X.env.cells.lookup ("__class__" : Str) = some cc)
    (hks : X.env.kindOf "super" = some .globalImplicit) (hkc : X.env.kindOf "__class__" = some .free) (hka : X.env.kindOf "self" = some .local) (hat : (attr == ("__class__" : Str)) = false)
    (hx : s.heap.get? a = some ox) (hxc : ox.cls = .ref C) (hnc : ∀ c, ox.data ≠ .cls c) (hsub : PySem.W.mroIn X.K C (.ref D) = some true)
    (h : ∀ h', h'.get? s.heap.objs.size = some { cls := .type "super", dict := none, data := .fields #[.ref D, .ref a, .ref C], slots := #[] } → (∀ y o, s.heap.get? y = some o → h'.get? y = some o) → Q (.ref s.heap.objs.size) { s with heap := h' }) :
    _root_.PySem.wpAt (model X.prog X.w) X.A (.func body X.env) (attributeBase (.Call (.Name "super" p0) [] [] p1) attr X.env whole) Q E s := by
  obtain ⟨oc, od, fd, osl, ar, hf, hp, har⟩ := S.fn
  obtain ⟨ccl, cdd, vs, ccs, file, tf, hcode, hvs, hfile⟩ := S.code
  obtain ⟨ocell, hcell, hcd⟩ := S.cell
  obtain ⟨cdD, hD⟩ := S.cls
  have KX := I.kIn
  obtain ⟨oD, hD1, hD2⟩ : ∃ oD, s.heap.get? D = some oD ∧ oD.data = .cls cdD := by
    unfold PySem.W.clsIn at hD
    split at hD
    · rename_i c d cd' sl ho
      cases hD
      exact ⟨_, KX _ _ ho, rfl⟩
    · cases hD
  have hk := I.ok.kind
  refine PySem.ks_wpAt_super_base (env := X.env) hks hkc hat hfu (KX _ _ hf) rfl hp hco (KX _ _ hcode) rfl hvs hfile S.top ?_
  obtain ⟨mb, hb1, hb2⟩ := I.mod.blt
  refine PySem.W.ks_loadName_global hk hks (Calls.loadGlobal_builtin (by rw [I.ok.glob]; exact I.mod.glob.keeps I.bk) S.sup (by rw [I.ok.blt]; exact hb1.keeps I.bk) ((hb2 "super" (by decide)).trans (by first | boot_by_name | rfl | kernel_rfl)) ⟨rfl, ?_⟩)
  refine wpAny_loadName_free hk hkc hcl ⟨ocell, KX _ _ hcell, hcd⟩ ?_
  obtain ⟨m, hn, hl⟩ := I.loc
  obtain ⟨u, ru, lk⟩ := hl 0 "self" _ hN hv (.inl hka)
  have hm : m ar.arg = some (.ref a) := by
    rw [har]
    rcases lk with ⟨_, e⟩ | ⟨e, _⟩
    · rw [e, show u = Value.ref a from ru]
    · rw [hka] at e
      rcases e with e | e <;> cases e
  refine wpAny_loadName_local hk (by rw [har]; exact hka) hn hm ?_
  obtain ⟨hh, g, d, t, os⟩ := s
  refine PySem.ks_wpAny_isType_cls hD1 hD2 ⟨rfl, ?_⟩
  exact PySem.ks_wpAny_call_super hD1 hD2 hx hxc hnc (PySem.W.looks_mroIn KX hsub) (fun h' e k => h h' e k)
end

section
open PySem.W PySem.Calls PyProof.Rows
variable {prog : Program} {w : World} {A : Around} {E : Value → Shared → Prop} {h : Heap} {g : Array GenState} {d : Drawn} {t : Nat} {os : OsState}
variable {nm q : Str} {C N : Addr} {bs bm : List Value} {hdct : Bool} {sn : List Str} {sub : List Value} {ab : Bool} {col : Option Bool} {dd : Option Addr} {k0 k1 k2 k3 k5 : Option Value}
theorem call_bwV {u e t0 : Addr} {rest : List Value} {Q : Value → Shared → Prop}
    (hC : h.get? C = some (excClassObj nm q C N bs bm hdct sn sub ab col dd k0 k1 k2 k3 k5 "ValueError.__new__")) (he : h.get? e = some (HandSPX.excO C t0)) (hu : h.get? u = some (kxs_mw "ValueError.__init__" e)) (hrest : rest.length ≤ sizeLine)
    (hq : ∀ h' t1, (∀ b o, b ≠ e → h.get? b = some o → h'.get? b = some o) → h'.get? e = some (HandSPX.excO C t1) → Q .none ⟨h', g, d, t, os⟩) :
    wpAny (model prog w) A (call (.ref u) rest) Q E ⟨h, g, d, t, os⟩ := by
  refine wpAny_call (codeAny_of_tree ?_)
  show wpAny _ A.in1 (callAny (.ref u) ⟨rest, []⟩) _ _ _
  simp only [callAny]
  refine wpAny_bind (wpAny_load hu ?_)
  simp only [kxs_mw, show (Value.type "method-wrapper" == Value.type "method" || Value.type "method-wrapper" == Value.type "builtin_function_or_method" || Value.type "method-wrapper" == Value.type "method-wrapper") = true by decide, if_true]
  refine W.KFB.if_so (by decide) ?_
  refine wpAny_bind (ESX.check_bound F.excBase_ValueError hC he rfl ?_)
  refine wpAny_bind (wpAny_pure (wpAny_pure ?_))
  refine ⟨Code.quiet_builtin _ (by decide +kernel), codeAny_builtin F.excBase_ValueError.initEntry ?_⟩
  rw [Around.under_plainId F.excBase_ValueError.init.plain _]
  wp_walk
  refine hq _ h.objs.size (fun b o hb ho => ?_) ?_
  · rw [Heap.get?_update_other _ _ (Ne.symm hb)]
    exact Heap.get?_push_of_some _ ho
  · rw [Heap.get?_update_self _ (Heap.get?_push_of_some _ he) rfl]
    rfl
end

/-- super().m(e, ..): self at slot 0 an instance; the def found is at f2 -/
def tSup (K : PySem.W.Frag) (D f2 : Addr) (m : Str) (sp : Sp) (E : XK) (t : TA) : TE := fun σ H Q => ∃ a C dx fs, σ[0]? = some (some (.ref a)) ∧ H a = some (.ins C dx fs) ∧ PySem.W.mroIn K C (.ref D) = some true ∧ PySem.W.ks_superIn K C D m = some (some (.ref f2)) ∧
  t σ H fun vs H1 => sp (.ref a :: vs) H1 Q E
/-- super().__init__(e, ..) in an exception's __init__: the built-in's, of which nothing is told -/
def tSupX (K : PySem.W.Frag) (D : Addr) (t : TA) : TE := fun σ H Q => ∃ a C, σ[0]? = some (some (.ref a)) ∧ H a = some (exo a C none) ∧ PySem.W.mroIn K C (.ref D) = some true ∧ PySem.W.ks_superIn K C D "__init__" = some (some (.builtin "ValueError.__init__")) ∧ OexC K C ∧
  t σ H fun vs H1 => vs.length ≤ 1000 ∧ H1 a = some (exo a C none) ∧ Q .non H1
section
variable {X : Cx} {CX : CXT} {k : Nat} {f cda cc D f2 : Addr} {sp : Sp} {E : XK} {e : Expr} {es : List Expr} {t : TA} {m : Str} {p0 p1 apos pos : Pos} {body : List Stmt} {pl : Sem Bool}
theorem ms_look {K : PySem.W.Frag} {M : Model} {h : Heap} {C : Addr} {cd : ClassData} (KX : K.In h) (hc : PySem.W.clsIn K C = some cd) : PySem.W.Looks M h (mroOf (.ref C)) cd.mro := (PySem.W.looks_clsIn KX hc).andThen .now
theorem pea_super (S : SupK X.prog X.K X.mg f cda cc D) (F : FnR X.prog X.w X.K X.mg X.base CX k f2 sp) (fi : PySem.W.fnIn X.K f2 = true) (tf : PySem.W.isFn X.K (.ref f2) = true) (hr : Room k X.A) (hx : Passes CX X E) (ha : PA X (e :: es) t)
    (hN : X.N[0]? = some ("self" : Str) := by rfl) (hfu : X.env.func = some f := by rfl) (hco : X.env.code = .ref cda := by rfl) (hcl : X.env.cells.lookup ("__class__" : Str) = some cc := by rfl)
    (hks : X.env.kindOf "super" = some .globalImplicit := by rfl) (hkc : X.env.kindOf "__class__" = some .free := by rfl) (hka : X.env.kindOf "self" = some .local := by rfl) (hat : (m == ("__class__" : Str)) = false := by decide)
    (hst : starEach (e :: es) X.env = (false, eval e X.env) :: starEach es X.env := by rfl) (hpl : (backTo pos (starEach es X.env)).any (·.1) = false := by rfl)
    (he : eval (.Call (.Attribute (.Call (.Name "super" p0) [] [] p1) m apos) (e :: es) [] pos) X.env = (do
      let ov ← attributeBase (.Call (.Name "super" p0) [] [] p1) m X.env (eval (.Call (.Name "super" p0) [] [] p1) X.env)
      standAt apos.atName
      let (f, first) ← holding [ov] (getMethod ov m pl)
      callWith pos f first (backTo pos (starEach (e :: es) X.env)) []) := by rfl) :
    PEA X (.func body X.env) (.Call (.Attribute (.Call (.Name "super" p0) [] [] p1) m apos) (e :: es) [] pos) (tSup X.K D f2 m sp E t) := by
  refine ⟨fun pins s σ H Q I h => ?_⟩
  obtain ⟨a, C, dx, fs, hv, ea, hsub, hm, q⟩ := h
  obtain ⟨mA, O, _⟩ := ins_get I.hok ea
  obtain ⟨od, J, _⟩ := O.look
  refine PySem.ks_wpAt_MethodCall (pl := pl) (sup_node S I hv hN hfu hco hcl hks hkc hka hat O.obj rfl (fun c z => nomatch z) hsub fun h' hso kp => ?_) he
  have I1 : Inv X pins σ H { s with heap := h' } := I.kept (t' := s.toks) kp
  have KX := I1.kIn
  cases hc : PySem.W.clsIn X.K C with
  | none => unfold PySem.W.ks_superIn at hm; rw [hc] at hm; cases hm
  | some cd =>
    unfold PySem.W.ks_superIn at hm
    rw [hc] at hm
    have hfn : ∃ of, h'.get? f2 = some of ∧ of.cls = .type "function" := by
      have ht' : (X.K.lookup f2).map (·.cls) = some (.type "function") := beq_iff_eq.mp tf
      cases z : X.K.lookup f2 with
      | none => rw [z] at ht'; cases ht'
      | some of => rw [z] at ht'; exact ⟨of, KX _ _ z, Option.some.inj ht'⟩
    obtain ⟨of, hof, hofc⟩ := hfn
    have neC : a ≠ C := PySem.W.ks_ne I.kIn J hc
    obtain ⟨hh, g, dd, tk, os⟩ := s
    refine PySem.ks_wpAny_getMethod_super hso (PySem.W.looks_opaque KX S.opq) (l₀ := cd.mro) (ms_look KX hc) rfl KX hm hof hofc neC hat ?_
    have I2 := ClX.met_new (g := f2) (C := a) I1
    refine ClX.callwith_cm I2 (ClX.base_none I1 (Nat.le_refl _)) fi (thn (ha.run pos _ _ σ H _ I2 q) fun us s3 ⟨vs, H2, I3, rv, q2⟩ => ⟨⟨ClX.pin_at I3, I3.kIn⟩, ?_⟩) hst hpl
    exact ClX.run_cm F hr hx I3 rv q2
theorem pea_superX (S : SupK X.prog X.K X.mg f cda cc D) (ha : PA X (e :: es) t)
    (hN : X.N[0]? = some ("self" : Str) := by rfl) (hfu : X.env.func = some f := by rfl) (hco : X.env.code = .ref cda := by rfl) (hcl : X.env.cells.lookup ("__class__" : Str) = some cc := by rfl)
    (hks : X.env.kindOf "super" = some .globalImplicit := by rfl) (hkc : X.env.kindOf "__class__" = some .free := by rfl) (hka : X.env.kindOf "self" = some .local := by rfl)
    (hst : starEach (e :: es) X.env = (false, eval e X.env) :: starEach es X.env := by rfl) (hpl : (backTo pos (starEach es X.env)).any (·.1) = false := by rfl)
    (he : eval (.Call (.Attribute (.Call (.Name "super" p0) [] [] p1) "__init__" apos) (e :: es) [] pos) X.env = (do
      let ov ← attributeBase (.Call (.Name "super" p0) [] [] p1) "__init__" X.env (eval (.Call (.Name "super" p0) [] [] p1) X.env)
      standAt apos.atName
      let (f, first) ← holding [ov] (getMethod ov "__init__" pl)
      callWith pos f first (backTo pos (starEach (e :: es) X.env)) []) := by rfl) :
    PEA X (.func body X.env) (.Call (.Attribute (.Call (.Name "super" p0) [] [] p1) "__init__" apos) (e :: es) [] pos) (tSupX X.K D t) := by
  refine ⟨fun pins s σ H Q I h => ?_⟩
  obtain ⟨a, C, hv, ea, hsub, hm, T, q⟩ := h
  obtain ⟨t1, ho⟩ := exo_at I.hok ea
  refine PySem.ks_wpAt_MethodCall (pl := pl) (sup_node S I hv hN hfu hco hcl hks hkc hka (by decide) ho rfl (fun c z => nomatch z) hsub fun h' hso kp => ?_) he
  have I1 : Inv X pins σ H { s with heap := h' } := I.kept (t' := s.toks) kp
  have KX := I1.kIn
  obtain ⟨nm, qn, N, bs, bm, sn, sub, ab, col, dd, k0, k1, k2, k3, k5, hC, hbm⟩ := T.cls
  have hcl : PySem.W.clsIn X.K C = some { name := nm, bases := bs, mro := .ref C :: bm, ns := N, qualname := qn, hasDict := true, slotNames := sn, subclasses := sub, abstract := ab, collection := col, hasDel := false } := by unfold PySem.W.clsIn; rw [hC] <;> rfl
  have J : PySem.W.InstAt s.heap a { cls := .ref C, dict := none, data := .fields #[.ref t1, .none, .none, .none, .bool false, .none] } C none := ⟨ho, rfl, rfl, trivial⟩
  have J1 : PySem.W.InstAt h' a { cls := .ref C, dict := none, data := .fields #[.ref t1, .none, .none, .none, .bool false, .none] } C none := ⟨kp _ _ ho, rfl, rfl, trivial⟩
  unfold PySem.W.ks_superIn at hm
  rw [hcl] at hm
  have neC : a ≠ C := PySem.W.ks_ne I.kIn J hcl
  have hmr : PySem.W.mroIn X.K C (.type "ValueError") = some true := by
    unfold PySem.W.mroIn
    rw [hcl, Option.bind_some]
    have e1 : (Value.ref C :: bm).isEmpty = false := rfl
    have e2 : (Value.ref C :: bm).contains (.type "ValueError") = true := by
      rw [List.contains_cons, PySem.HandSPX.refsVE_contains "ValueError" bm hbm, show PySem.HandSPX.veTail.contains (.type "ValueError") = true by decide +kernel, Bool.or_true]
    rw [if_neg (by rw [e1]; exact Bool.false_ne_true), e2]
  have hI : PySem.W.Looks (model X.prog X.w) h' (isInstance (.ref a) (.type "ValueError")) true := J1.type.andThen (PySem.W.looks_mroIn KX hmr)
  obtain ⟨hh, g, dr, tk, os⟩ := s
  refine PySem.W.kxs_getMethod PySem.W.kxs_ValueError hso (PySem.W.looks_opaque KX S.opq) (l₀ := .ref C :: bm) (ms_look KX hcl) rfl KX hm hI neC (by decide) ?_
  have I2 : Inv X ((h'.objs.size, PySem.W.kxs_mw "ValueError.__init__" a) :: pins) σ H ⟨h'.push (PySem.W.kxs_mw "ValueError.__init__" a), g, dr, tk + 1, os⟩ :=
    ClX.pin_new (t' := tk + 1) I1 (fun _ _ z => Heap.get?_push_of_some _ z) (Nat.le_refl _) (Heap.get?_push_size h' rfl) (fun v z => nomatch z)
  have hq := ClX.pin_at I2
  have hL : h'.objs.size ≠ X.env.locals := (I2.pin (h'.objs.size, PySem.W.kxs_mw "ValueError.__init__" a) (List.mem_append_right _ List.mem_cons_self)).2.2.1
  refine PySem.W.kxs_callWith1 (x := a) (news_at hL (ClX.base_none I1 (Nat.le_refl _)) hq) List.mem_cons_self (thn (ha.run pos _ _ σ H _ I2 q) fun us s3 ⟨vs, H2, I3, rv, hlen, ea2, q2⟩ => ⟨ClX.pin_at I3, ?_⟩) hst hpl
  obtain ⟨t2, ho2⟩ := exo_at I3.hok ea2
  have hu := ClX.pin_at I3
  obtain ⟨h3, g3, d3, tk3, os3⟩ := s3
  refine call_bwV (I3.kIn _ _ hC) ho2 hu (by rw [← rv.length, sizeLine_eq]; omega) fun h4 t4 k4 e4 => ?_
  have I3' := ClX.unpin I3
  have J3 := I3'.write (t' := tk3) (x := a) (e := a) (o := exo a C none) (by rw [ea2]; exact True.intro) (.inl rfl) k4 ⟨_, e4⟩ (exo_ok e4)
  have eu : upd H2 a (exo a C none) = H2 := by
    funext b
    by_cases hb : b = a
    · rw [hb, upd_same, ea2]
    · rw [upd_ne hb]
  rw [eu] at J3
  exact ⟨.non, H2, J3, rfl, q2⟩
end
end Lp
namespace Lp
open PySem PySem.Spec PyProof.Rows L2

/-! ### promises of defs that are called where no repr is under way -/
structure GOk (P : Program) (w : World) (K : PySem.W.Frag) (mg : Str → Option Value) (base : Heap) (CX : CXT) (k : Nat) (f : Addr) (fd : FuncData) (ps : List Str) (sp : Sp) : Prop where
  len : ∀ vs H Q E, sp vs H Q E → vs.length = ps.length
  run : ∀ (A : Around) (outer : List Env) (s : Shared) (H : Hp) (args : Args) (us : List Value) (vs : List V) (Q : VK) (E : XK), A.guards = some [] → Room k A → Env0 P w K mg base A outer s H → BindsTo s fd args (ps.zip us) → Vals vs us → sp vs H Q E →
    codeAny (model P w) A (.call (.ref f) args) (CR CX outer P w H s Q E) s
section
variable {P : Program} {w : World} {K : PySem.W.Frag} {mg : Str → Option Value} {base : Heap} {CX : CXT} {j k : Nat} {f : Addr} {fd : FuncData} {ps : List Str} {sp : Sp}
theorem GOk.of (F : FnOk P w K mg base CX k f fd ps sp) : GOk P w K mg base CX k f fd ps sp := ⟨F.len, fun A outer s H args us vs Q E _ => F.run A outer s H args us vs Q E⟩
theorem GOk.mono (F : GOk P w K mg base CX j f fd ps sp) (h : j ≤ k) : GOk P w K mg base CX k f fd ps sp := ⟨F.len, fun A outer s H args us vs Q E hg hr => F.run A outer s H args us vs Q E hg (hr.mono h)⟩
theorem okG_of {name qual : Str} {params : Arguments} {body : List Stmt} {scope : Scope} {dV kV doc pm cdv ct oc : Value} {an od : Option Addr}
    {osl : Array (Option Value)} {N : List Str} (lk : K.lookup f = some ⟨oc, od, .func (PySem.W.fnOf name qual params body scope dV kV doc pm an cdv ct), osl⟩) (hcd : PySem.W.codeIn K cdv qual = true) (S : FnScope N ps scope)
    (len : ∀ vs H Q E, sp vs H Q E → vs.length = ps.length)
    (hbody : ∀ (A : Around) (outer : List Env) (s : Shared) (H : Hp) (vs : List V) (Q : VK) (E : XK), (cxOf CX P w K mg base N qual scope f cdv A outer s H E).A.guards = some [] → Room k (A.deeper (envOfC qual scope s.heap.objs.size f cdv)) → sp vs H Q E →
      ∃ t, PSs (cxOf CX P w K mg base N qual scope f cdv A outer s H E) body t ∧ t { nx := fun _ H' => Q .non H', rt := Q } (L2.start N vs) H) :
    GOk P w K mg base CX (k + 1) f (PySem.W.fnOf name qual params body scope dV kV doc pm an cdv ct) ps sp := by
  refine ⟨len, fun A outer s H args us vs Q E hgu hr e0 hb r hsp => ?_⟩
  have hl := len _ _ _ _ hsp
  have KX : K.In s.heap := e0.mod.kin.keeps fun b o e => (e0.bs b o e).1
  have lim : s.heap.NoLimit := e0.mod.nolimit.keeps fun b o e => (e0.bs b o e).1
  have hkind : ∀ y ∈ ps.zip us, scope.names.lookup y.1 = some .local ∨ (scope.names.lookup y.1 = some .cell ∧ ((cellsFrom (s.heap.objs.size + 1) scope.names []).lookup y.1).isSome = true) := fun ⟨n, v⟩ hy => by
    rcases S.par n (List.of_mem_zip hy).1 with q | q
    · exact .inl q
    · exact .inr ⟨q, PySem.W.cellsFrom_some _ _ _ (.inl q)⟩
  refine codeAny_call_function hr.depth (KX _ _ lk) rfl S.co S.gen rfl (PySem.W.codeRec_of KX hcd) (hb _ _ _ _ ?_)
  refine wpAny_newFunctionEnv_cells S.kind hkind fun env he s1 x => ?_
  subst he
  refine ⟨lim.keeps x.toInCall.keep, codeAny_func ?_⟩
  obtain ⟨t, ht, hq⟩ := hbody A outer s H vs Q E hgu (hr.deeper _) hsp
  have I : Inv (cxOf CX P w K mg base N qual scope f cdv A outer s H E) [] (L2.start N vs) H s1 := inv_start S hr.hd e0 hl r x
  refine wpAny_mono (ht.run [] s1 (L2.start N vs) H _ I hq) (fun fl s' hs => ?_) fun e s' hs => hs
  have fin : ∀ {σ' : L2.St} {H' : Hp} {v : V} {u : Value}, Inv (cxOf CX P w K mg base N qual scope f cdv A outer s H E) [] σ' H' s' → RelV v u → Q v H' → CE outer P w H s Q u s' :=
    fun {σ' H' v u} J rv q => ⟨v, H', J.os, J.bare, J.base, J.hok, rv, q⟩
  cases fl with
  | ret u =>
    obtain ⟨v, σ', H', J, rv, q⟩ := hs
    exact fin J rv q
  | next =>
    obtain ⟨σ', H', J, q⟩ := hs
    exact fin (v := V.non) (u := Value.none) J rfl q
  | brk =>
    obtain ⟨_, _, _, q⟩ := hs
    exact False.elim q
  | cont =>
    obtain ⟨_, _, _, q⟩ := hs
    exact False.elim q
theorem funD_okG {x qual : Str} {params : Arguments} {body : List Stmt} {scope : Scope} {dvs : List V} {kws : List (Str × V)} {N : List Str} (F : FunD K x qual params body scope dvs kws f fd) (S : FnScope N ps scope) (len : ∀ vs H Q E, sp vs H Q E → vs.length = ps.length)
    (hbody : ∀ (cdv : Value) (A : Around) (outer : List Env) (s : Shared) (H : Hp) (vs : List V) (Q : VK) (E : XK), (cxOf CX P w K mg base N qual scope f cdv A outer s H E).A.guards = some [] → Room k (A.deeper (envOfC qual scope s.heap.objs.size f cdv)) → sp vs H Q E →
      ∃ t, PSs (cxOf CX P w K mg base N qual scope f cdv A outer s H E) body t ∧ t { nx := fun _ H' => Q .non H', rt := Q } (L2.start N vs) H) : GOk P w K mg base CX (k + 1) f fd ps sp := by
  obtain ⟨oc, od, dV, kV, doc, pm, an, cdv, ct, osl, rfl, lk, hcd, _, _⟩ := F.ex
  exact okG_of lk hcd S len fun A outer s H vs Q E hg hr hsp => hbody cdv A outer s H vs Q E hg hr hsp
end
section
variable {X : Cx} {CX : CXT} {k : Nat} {f : Addr} {fd : FuncData} {ps : List Str} {sp : Sp} {dvs : List V} {ds : List Value} {E : XK} {x : Str} {p pos : Pos} {e : Expr} {es : List Expr} {t : TA}
theorem run_fnG {pins : List (Addr × Obj)} {σ : L2.St} {H : Hp} {s : Shared} {Q : VK} {us : List Value} {vs : List V} (F : GOk X.prog X.w X.K X.mg X.base CX k f fd ps sp) (hgu : X.A.guards = some []) (hr : Room k X.A) (hb : Binds X.K fd ps ds) (hd : Vals dvs ds) (hx : Passes CX X E)
    (I : Inv X pins σ H s) (r : Vals vs us) (h : sp (vs ++ dvs) H Q E) : wpAny (model X.prog X.w) X.A (call (.ref f) us) (EP X pins σ Q) X.xe s := by
  have r2 : Vals (vs ++ dvs) (us ++ ds) := r.append hd
  have hl : (us ++ ds).length = ps.length := by rw [← r2.length]; exact F.len _ _ _ _ h
  refine wpAny_call (codeAny_mono (F.run X.A X.stack s H ⟨us, []⟩ (us ++ ds) (vs ++ dvs) Q E hgu hr I.env0 (hb s us I.kIn hl) r2 h) fun r s' hq => ?_)
  cases r with
  | error e => exact hx pins σ H s e s' I hq
  | ok fl =>
    cases fl with
    | ret u => exact I.after hq
    | next => exact False.elim hq
    | brk => exact False.elim hq
    | cont => exact False.elim hq
theorem pe_callG (F : GOk X.prog X.w X.K X.mg X.base CX k f fd ps sp) (hgu : X.A.guards = some []) (hr : Room k X.A) (hg : Gl X x) (hm : X.mg x = some (.ref f)) (hk : PySem.W.keepIn X.K (.ref f) = true) (hb : Binds X.K fd ps ds) (hd : Vals dvs ds) (hx : Passes CX X E)
    (ha : PA X (e :: es) t) (hdb : (x == ("__debug__" : Str)) = false := by decide) (he : starEach (e :: es) X.env = (false, eval e X.env) :: starEach es X.env := by rfl) (hpl : (backTo pos (starEach es X.env)).any (·.1) = false := by rfl) :
    PE X (.Call (.Name x p) (e :: es) [] pos) (tCall sp dvs E t) := by
  refine ⟨fun pins s σ H Q I h => ?_⟩
  refine wpAny_Call_Name_kw (ld_glob I hg hm ?_ hdb)
  refine PySem.W.callWith_K (h₀ := X.base) I.ok.mod.kin hk (thn (ha.run pos pins s σ H _ I h) fun us s1 ⟨vs, H1, I1, r, q⟩ => ⟨I1.kIn, ?_⟩) he hpl
  exact run_fnG F hgu hr hb hd hx I1 r q
end

/-- the law's end: as L2.walk_ofE, the promise where no repr is under way -/
theorem law_coreG {P : Program} {w : World} {K : PySem.W.Frag} {mg mb : Str → Option Value} {k : Nat} {fa a : Addr} {fd : FuncData} {x : Str} {sp : Sp} {s₁ : Shared} {vs : List Value} {H : Hp}
    (KX : K.In s₁.heap) (hns : s₁.heap.Ns mainGlobals mg) (hb : s₁.heap.Ns builtinsNs mb) (hbb : ∀ x : Str, x ≠ "__name__" → mb x = bootBuiltins x) (hlim : s₁.heap.NoLimit) (hg : s₁.gens = #[])
    (ha : s₁.heap.get? a = some { cls := .type "list", data := .seq vs.toArray }) (hr : Room k callerA)
    (F : ∀ base : Heap, K.In base → base.Ns mainGlobals mg → GOk P w K mg base CX0 k fa fd [x] sp) (hbind : ∀ (s : Shared) (u : Value), BindsTo s fd ⟨[u], []⟩ [(x, u)])
    (hsp : sp [.ref a] H (fun v _ => v = .bl true) fun _ _ _ => False) (hO : Only H) (hok : HOk P w H s₁.heap) (hA : ∀ b, H b ≠ none → b = a) (hK : H a ≠ none → K.lookup a = none) :
    codeAny (model P w) callerA (.call (.ref fa) ⟨[.ref a], []⟩) (fun r s' => r = .ok (.ret (.bool true)) ∧ OldK s₁.heap s'.heap ∧ s'.os = s₁.os ∧ AllBare s'.gens) s₁ := by
  have up : ∀ {b : Addr} {o : Obj}, s₁.heap.get? b = some o → H b = none → (hidT s₁.heap H).get? b = some o := fun e n => hidT_get e n
  have other : ∀ {b : Addr}, b ≠ a → H b = none := fun {b} hb => by
    cases q : H b with
    | none => rfl
    | some u => exact absurd (hA b (by rw [q]; exact fun z => nomatch z)) hb
  have nsU : ∀ {b : Addr} {m : Str → Option Value}, s₁.heap.Ns b m → (hidT s₁.heap H).Ns b m := fun {b m} ⟨o, es, ep, e, d, r⟩ =>
    ⟨o, es, ep, up e (other fun z => by
      rw [z, ha] at e
      cases e
      exact nomatch (show Data.seq vs.toArray _ = Data.dict es ep from d)), d, r⟩
  have KU : K.In (hidT s₁.heap H) := fun b o e => up (KX b o e) (by
    cases q : H b with
    | none => rfl
    | some u =>
      have z := hA b (by rw [q]; exact fun z => nomatch z)
      rw [z] at e q
      rw [hK (by rw [q]; exact fun z => nomatch z)] at e
      cases e)
  obtain ⟨mc, l1, l2⟩ := hlim
  have M : Mod K mg (hidT s₁.heap H) := ⟨KU, nsU hns, ⟨mb, nsU hb, hbb⟩, ⟨mc, nsU l1, l2⟩⟩
  have e0 : Env0 P w K mg (hidT s₁.heap H) callerA [] s₁ H := ⟨rfl, M, fun b o e => of_hidT e, Nat.le_of_eq (hidT_size _ _), trivial, fun b z => absurd (show b ∈ ([] : List Addr) from z) (fun y => nomatch y), hok, .of_eq hg⟩
  refine codeAny_mono ((F _ KU (nsU hns)).run callerA [] s₁ H ⟨[.ref a], []⟩ [.ref a] [.ref a] _ _ rfl hr e0 (hbind s₁ (.ref a)) (.cons rfl .nil) hsp) fun r s' h => ?_
  cases r with
  | error e => exact False.elim h
  | ok fl =>
    cases fl with
    | next => exact False.elim h
    | brk => exact False.elim h
    | cont => exact False.elim h
    | ret u =>
      obtain ⟨v, H', os, bare, un, hok', r', q⟩ := h
      have q : v = .bl true := q
      subst q
      obtain rfl : u = Value.bool true := r'
      refine ⟨rfl, OldK.of_keep fun b o e => ?_, os, bare⟩
      rcases hO b with z | ⟨ob, ys, z⟩
      · exact un.keep b o e z (fun y => nomatch (show b ∈ ([] : List Addr) from y)) (fun y => nomatch y)
      · obtain ⟨e1, _⟩ := (show ObjOk P w H s₁.heap b (.frz ob (.lst ys)) from hok b _ z)
        obtain ⟨e2, _⟩ := (show ObjOk P w H' s'.heap b (.frz ob (.lst ys)) from hok' b _ (un.frzs b ob _ z))
        rw [e1] at e
        rw [e2, ← e]
theorem law_callG {P : Program} {w : World} {K : PySem.W.Frag} {mg mb : Str → Option Value} {k : Nat} {fa a : Addr} {fd : FuncData} {x : Str} {sp : Sp} {s₁ : Shared} {vs : List Value} {ns : List Int}
    (KX : K.In s₁.heap) (hns : s₁.heap.Ns mainGlobals mg) (hb : s₁.heap.Ns builtinsNs mb) (hbb : ∀ x : Str, x ≠ "__name__" → mb x = bootBuiltins x) (hlim : s₁.heap.NoLimit) (hg : s₁.gens = #[])
    (ha : s₁.heap.get? a = some { cls := .type "list", data := .seq vs.toArray }) (hi : IntsAre vs ns) (hl : ns.length ≤ sizeLine) (hr : Room k callerA)
    (F : ∀ base : Heap, K.In base → base.Ns mainGlobals mg → GOk P w K mg base CX0 k fa fd [x] sp) (hbind : ∀ (s : Shared) (u : Value), BindsTo s fd ⟨[u], []⟩ [(x, u)])
    (hsp : ∀ H : Hp, Only H → SqL K H a (ns.map V.int) → sp [.ref a] H (fun v _ => v = .bl true) fun _ _ _ => False) :
    codeAny (model P w) callerA (.call (.ref fa) ⟨[.ref a], []⟩) (fun r s' => r = .ok (.ret (.bool true)) ∧ OldK s₁.heap s'.heap ∧ s'.os = s₁.os ∧ AllBare s'.gens) s₁ := by
  have rv := vals_ints hi
  have lv := hi.length
  cases hk : K.lookup a with
  | some o =>
    have e := KX a o hk
    rw [ha] at e
    cases e
    have hO : Only (fun _ => none) := fun _ => .inl rfl
    have hS : SqL K (fun _ => none) a (ns.map V.int) := .inr ⟨_, vs.toArray, _, hk, rfl, rfl, rfl, by rw [List.size_toArray, lv]; exact hl, by simpa using rv⟩
    exact law_coreG KX hns hb hbb hlim hg ha hr F hbind (hsp _ hO hS) hO (fun b u z => nomatch (show (none : Option HO) = some u from z)) (fun b z => absurd rfl z) fun z => absurd rfl z
  | none =>
    let H : Hp := upd (fun _ => none) a (.frz { cls := .type "list", data := .seq vs.toArray } (.lst (ns.map V.int)))
    have hO : Only H := fun b => by
      by_cases h : b = a
      · rw [h]
        exact .inr ⟨_, _, upd_same⟩
      · exact .inl (upd_ne h)
    have hS : SqL K H a (ns.map V.int) := .inl (.inr ⟨_, upd_same⟩)
    refine law_coreG KX hns hb hbb hlim hg ha hr F hbind (hsp _ hO hS) hO (fun b u z => ?_) (fun b z => ?_) fun _ => hk
    · by_cases h : b = a
      · rw [h] at z ⊢
        have z : some _ = some u := upd_same.symm.trans z
        cases z
        exact ⟨ha, by rw [List.length_map]; exact hl, vs, _, rv, ha⟩
      · exact nomatch (show (none : Option HO) = some u from (upd_ne h).symm.trans z)
    · by_cases h : b = a
      · exact h
      · exact absurd (upd_ne h) z
theorem walk_ofG {l : PySem.W.OpenLaw} {n k : Nat} {q : Program} {loose : List Str} {XP : (Str → Option Value) → Heap → Prop} {YP : World → Heap → Prop} {d : DefRec} {x : Str}
    (hn : l.most = some n) (hn2 : n ≤ sizeLine) (hdf : d.params.defaults = []) (hr : Room k callerA)
    (F : ∀ (w : World) (mg : Str → Option Value) (fa : Addr) (h : Heap), YP w h → h.Ns mainGlobals mg → mg d.name = some (.ref fa) →
      ∃ (K : PySem.W.Frag) (fd : FuncData) (sp : Sp), K.In h ∧ (∀ (s : Shared) (u : Value), BindsTo s fd ⟨[u], []⟩ [(x, u)]) ∧
        (∀ (H : Hp) (a : Addr) (ns : List Int), ns.length ≤ n → Only H → SqL K H a (ns.map V.int) → sp [.ref a] H (fun v _ => v = .bl true) fun _ _ _ => False) ∧
        ∀ base : Heap, K.In base → base.Ns mainGlobals mg → GOk l.prog w K mg base CX0 k fa fd [x] sp) :
    PySem.W.WalkO q loose XP YP l.row.toRowW d [] (fun f vs => PySem.call f vs) := by
  refine Att.attach_call hn hdf fun w s₀ s₁ mg mb fa o pm cd doc a vs ns G Y ho hd hcd hmg hobj hints hlen hg => ?_
  obtain ⟨K, fd, sp, KX, hb, hsp, hF⟩ := F w mg fa _ Y G.T.g hmg
  exact law_callG KX G.T.g G.T.b G.T.builtins G.T.nolimit hg hobj hints (Nat.le_trans hlen hn2) hr hF hb fun H hO hS => hsp H a ns hlen hO hS
end Lp
namespace Lp
open PySem PySem.Spec PyProof.Rows L2

/-! ### data: how many signs its repr has -/
mutual
def cntD : PyData → Nat
  | .list xs | .tuple xs => cntAll xs + 1
  | .str x => x.length + 1
  | _ => 1
def cntAll : List PyData → Nat
  | [] => 0
  | x :: xs => cntD x + cntAll xs
end
theorem len_app (a b : Str) : (a ++ b).length = a.length + b.length := by
  show (a.cps ++ b.cps).size = a.cps.size + b.cps.size
  exact Array.size_append
theorem strOk_lt {x : Str} (h : PyData.strOk x = true) : ∀ c ∈ x.cps.toList, c < 16 ^ 8 := fun c hc => by
  unfold PyData.strOk at h
  rw [← Array.all_toList] at h
  have := List.all_eq_true.mp h c hc
  have : c < 0x110000 := of_decide_eq_true this
  omega
theorem listText_le : ∀ ts : List Str, (listText ts).length ≤ piled ts + 10
  | [] => by decide +kernel
  | t :: ts => by
    show ((textFrom 1 (("[" : Str) ++ (if 0 > 0 then ", " else "" : String) ++ t) ts) ++ ("]" : Str)).length ≤ _
    rw [len_app, textFrom_length_pos ts 1 _ (by decide), len_app, len_app, piled_cons]
    have e1 : ("[" : Str).length = 1 := by decide +kernel
    have e2 : ((if 0 > 0 then ", " else "" : String) : Str).length = 0 := by decide +kernel
    have e3 : ("]" : Str).length = 1 := by decide +kernel
    omega
theorem tupleText_le (ts : List Str) : (tupleText ts).length ≤ piled ts + 10 := by
  unfold tupleText
  rw [len_app, len_app]
  have e1 : ("(" : Str).length = 1 := by decide +kernel
  have e2 : (((if ts.length == 1 then ",)" else ")" : String) : Str)).length ≤ 2 := by
    split <;> decide +kernel
  have e3 : (Str.join ", " ts).length ≤ piled ts := by
    by_cases h : ts = []
    · subst h
      decide +kernel
    · have := join_length_add ts h
      omega
  omega
mutual
theorem shown_le : ∀ d : PyData, d.showable = true → d.canLay0 = true → d.shown.length + 2 ≤ 2000 * cntD d
  | .none, _, _ => by decide +kernel
  | .bool b, _, _ => by cases b <;> decide +kernel
  | .int i, h, _ => by
    have h1 : i.natAbs.log2 < 1920 := by simpa [PyData.showable] using h
    have h2 := int_text_length_le (k := 1920) (by decide) h1
    show (Str.ofString (toString i)).length + 2 ≤ 2000 * 1
    rw [PySem.ofString_length]
    omega
  | .str x, _, h => by
    have h1 := PySem.StrLaws.reprText_len x (strOk_lt (by simpa [PyData.canLay0] using h))
    show (reprText x).length + 2 ≤ 2000 * (x.length + 1)
    omega
  | .list xs, h, h' => by
    have h1 := shownAll_le xs (by simpa [PyData.showable] using h) (by simpa [PyData.canLay0] using h')
    have h2 := listText_le (PyData.shownAll xs)
    show (listText (PyData.shownAll xs)).length + 2 ≤ 2000 * (cntAll xs + 1)
    omega
  | .tuple xs, h, h' => by
    have h1 := shownAll_le xs (by simpa [PyData.showable] using h) (by simpa [PyData.canLay0] using h')
    have h2 := tupleText_le (PyData.shownAll xs)
    show (tupleText (PyData.shownAll xs)).length + 2 ≤ 2000 * (cntAll xs + 1)
    omega
  | .dict _, _, h => by simp [PyData.canLay0] at h
theorem shownAll_le : ∀ ds : List PyData, PyData.showableAll ds = true → PyData.canLayAll0 ds = true → piled (PyData.shownAll ds) ≤ 2000 * cntAll ds
  | [], _, _ => by decide +kernel
  | d :: ds, h, h' => by
    have e1 : d.showable = true ∧ PyData.showableAll ds = true := by simpa [PyData.showableAll] using h
    have e2 : d.canLay0 = true ∧ PyData.canLayAll0 ds = true := by simpa [PyData.canLayAll0] using h'
    have h1 := shown_le d e1.1 e2.1
    have h2 := shownAll_le ds e1.2 e2.2
    simp only [PyData.shownAll, cntAll, piled_cons]
    omega
end
end Lp
namespace Lp
open PySem PySem.Spec PyProof.Rows L2

mutual
theorem noDict : ∀ d : PyData, d.canLay0 = true → d.hasDict = false
  | .none, _ => rfl
  | .bool _, _ => rfl
  | .int _, _ => rfl
  | .str _, _ => rfl
  | .list xs, h => by
    have := noDictAll xs (by simpa [PyData.canLay0] using h)
    simpa [PyData.hasDict] using this
  | .tuple xs, h => by
    have := noDictAll xs (by simpa [PyData.canLay0] using h)
    simpa [PyData.hasDict] using this
  | .dict _, h => by simp [PyData.canLay0] at h
theorem noDictAll : ∀ ds : List PyData, PyData.canLayAll0 ds = true → PyData.hasDictAll ds = false
  | [], _ => rfl
  | d :: ds, h => by
    have e2 : d.canLay0 = true ∧ PyData.canLayAll0 ds = true := by simpa [PyData.canLayAll0] using h
    have h1 := noDict d e2.1
    have h2 := noDictAll ds e2.2
    simp [PyData.hasDictAll, h1, h2]
end

/-- repr(x), x data -/
def rReprD (K : PySem.W.Frag) : List V → Hp → VK → Prop := fun xs H Q => ∃ v d, xs = [v] ∧ Dp K H v d ∧ d.showable = true ∧ d.canLay0 = true ∧ d.depth ≤ 60 ∧ cntD d ≤ 8000 ∧ Q (.str d.shown) H
section
variable {X : Cx}
theorem call_reprD (hg : X.A.guards = some []) (hu : X.A.units + 64 < cLine) : CallR X (.builtin "repr") (rReprD X.K) := by
  intro pins s σ H xs us Q I r h
  obtain ⟨v, d, rfl, hd, hs, hc, hdp, hcn, q⟩ := h
  obtain ⟨u, rfl, ru⟩ := r.one
  have hl := shown_le d hs hc
  have hz : d.shown.length ≤ sizeLine := by rw [sizeLine_eq]; omega
  obtain ⟨as, rd⟩ := Dp.reads I d v u hd ru
  cases d with
  | none =>
    cases rd
    exact PySem.P.repr_of_none ⟨.str _, H, I.tok _, ⟨_, rfl⟩, q⟩
  | bool b =>
    cases rd
    exact PySem.P.repr_of_bool ⟨.str _, H, I.tok _, ⟨_, rfl⟩, q⟩
  | int i =>
    cases rd
    exact PySem.P.repr_of_int (by simpa [PyData.showable] using hs) ⟨.str _, H, I.tok _, ⟨_, rfl⟩, q⟩
  | str x =>
    cases rd
    exact PySem.P.repr_of_str ⟨.str _, H, I.tok _, ⟨_, rfl⟩, q⟩ hz
  | list ds =>
    obtain ⟨a, rfl⟩ : ∃ a, u = .ref a := by cases rd; exact ⟨_, rfl⟩
    exact repr_of_reads' rd hs (fun e => by rw [noDict _ hc] at e; cases e) hg (by omega) (fun _ _ e => e) (fun h' t tk k => ⟨.str _, H, I.kept (t' := tk) k, ⟨_, rfl⟩, q⟩) hz
  | tuple ds =>
    obtain ⟨a, rfl⟩ : ∃ a, u = .ref a := by cases rd; exact ⟨_, rfl⟩
    exact repr_of_reads' rd hs (fun e => by rw [noDict _ hc] at e; cases e) hg (by omega) (fun _ _ e => e) (fun h' t tk k => ⟨.str _, H, I.kept (t' := tk) k, ⟨_, rfl⟩, q⟩) hz
  | dict _ => simp [PyData.canLay0] at hc
end
end Lp
namespace PySem.W
open PySem PySem.Spec PySem.Calls PyProof.Rows
theorem lp_slot_ne : Slot "object" "__ne__" "object.__ne__" := .of (owner := "object") (n := "__ne__") (by rw [typeLookup_type, builtinLookup_eq_fast]; kernel_rfl) (by decide +kernel) (by decide +kernel) (by decide +kernel)
    (by first | exact .inl (by decide +kernel) | exact .inr (by decide +kernel)) (by rw [isSubtype_type]; kernel_rfl)
section
variable {prog : Program} {w : World} {A : Around} {E : Value → Shared → Prop} {s : Shared} {K : Frag} {x C L f : Addr} {h₀ : Heap} {m : Str → Option Value} {ox : Obj} {od : Option Obj} {b tb : Value}
theorem lp_obj_ne {Q : Value → Shared → Prop} (hu : A.units + 1 < cLine) (X : K.In s.heap) (I : InstAt s.heap x ox C od) (hm : mroIn K C (.type "object") = some true) (he : findIn K (.ref C) "__eq__" = some (some (.ref f))) (hf : isFn K (.ref f) = true)
    (h : wpAny (model prog w) A.in1 (call (.ref f) [.ref x, b]) (fun v s' => ∃ c, v = .bool c ∧ Q (.bool (!c)) s') E s) : wpAny (model prog w) A (call (.builtin "object.__ne__") [.ref x, b]) Q E s := by
  have sub : Looks (model prog w) s.heap (isInstance (.ref x) (.type "object")) true := I.type.andThen (looks_mroIn X hm)
  refine wpAny_call (codeAny_call_builtin lp_slot_ne.plain F.cmpEntry_ne (@check_slot (model prog w) _ _ s "object.__ne__" "object" "__ne__" (.ref x) [b] [] _ F.cmpKind_ne F.cmpSplit_ne sub (F.cmpArgs_ne (.ref x) b) ?_))
  unfold Builtin.«object.__ne__»
  refine wpAny_bind (wpAny_of_eq (a := ((Value.ref x : Value), [b])) (by first | rfl | (simp only [slotArgs]; rfl)) ?_)
  refine wpAny_bind (wpAny_cRoomFor hu ?_)
  refine wpAny_bind (ifBound_K X I he hf (wpAny_mono h (fun v s' z => ?_) fun _ _ e => e))
  obtain ⟨c, rfl, q⟩ := z
  show wpAny _ _ (truthy (.bool c) >>= fun t => ret (.bool (!t))) _ _ _
  refine wpAny_bind (wpAny_truthy_bool ?_)
  exact wpAny_pure q
theorem lp_ifBound_ne {Q : Option Value → Shared → Prop} (X : K.In s.heap) (I : InstAt s.heap x ox C od) (hs : findIn K (.ref C) "__ne__" = some (some (.builtin "object.__ne__")))
    (h : wpAny (model prog w) A (call (.builtin "object.__ne__") [.ref x, b]) (fun v => Q (some v)) E s) : wpAny (model prog w) A (callSpecialIfBound? (.ref x) "__ne__" [b]) Q E s := by
  simp only [callSpecialIfBound?, bindSpecialIfBound?]
  refine wpAny_holding (wpAny_bind (wpAny_bind (wpAny_bind (I.type.here ((looks_findIn X hs).here ?_)))))
  refine wpAny_bind (wpAny_askSetting (wpAny_ite ?_))
  have fin : wpAny (model prog w) A (call (.builtin "object.__ne__") ([.ref x] ++ [b]) >>= fun v => pure (some v)) Q E s := wpAny_bind (wpAny_mono h (fun v s' h' => wpAny_pure h') fun _ _ h' => h')
  split
  · exact wpAny_bind (wpAny_of_eq (lp_slot_ne.bind _) (wpAny_pure (by exact fin)))
  · exact wpAny_tryCatch (wpAny_bind (wpAny_of_eq (lp_slot_ne.bind _) (wpAny_pure (by exact fin))))
theorem lp_ne_K {Q : Value → Shared → Prop} (hu : A.units + 1 < cLine) (F : Fr h₀ L s.heap m) (X₀ : K.In h₀) (I : InstAt s.heap x ox C od) (hb : Looks (model prog w) s.heap (typeOf b) tb) (hn : notFirst K C tb = true)
    (hs : findIn K (.ref C) "__ne__" = some (some (.builtin "object.__ne__"))) (hm : mroIn K C (.type "object") = some true) (he : findIn K (.ref C) "__eq__" = some (some (.ref f))) (hf : isFn K (.ref f) = true)
    (h : wpAny (model prog w) A.in1 (call (.ref f) [.ref x, b]) (fun v s' => ∃ c, v = .bool c ∧ Q (.bool (!c)) s') E s) : wpAny (model prog w) A (richCompare .NotEq (.ref x) b) Q E s := by
  have X := X₀.keeps F.keep
  have one : wpAny (model prog w) A (tryCompare (.ref x) "__ne__" b) (fun r s' => ∃ v, r = some v ∧ Q v s') E s := by
    unfold tryCompare
    refine wpAny_bind (lp_ifBound_ne X I hs (lp_obj_ne hu X I hm he hf (wpAny_mono h (fun v s' z => ?_) fun _ _ e => e)))
    obtain ⟨c, rfl, q⟩ := z
    exact ⟨c, rfl, wpAny_pure ⟨_, rfl, q⟩⟩
  unfold richCompare
  simp only [oneThing_ref, cmpInfo_NotEq]
  refine wpAny_holding (wpAny_bind (wpAny_cRoomFor (Nat.lt_of_succ_lt hu) ?_))
  refine wpAny_bind (I.type.here (wpAny_bind (hb.here ?_)))
  split
  · rename_i q
    have e : subIn K tb (.ref C) = some false := by
      rcases Bool.or_eq_true_iff.mp hn with e | e
      · rw [beq_iff_eq.mp e] at q; simp at q
      · exact beq_iff_eq.mp e
    refine wpAny_bind ((looks_subIn X e).here ?_)
    simp only [Bool.false_eq_true, if_false]
    refine wpAny_bind (wpAny_mono one (fun r s' z => ?_) fun _ _ e => e)
    obtain ⟨v, rfl, hq⟩ := z
    exact wpAny_pure hq
  · refine wpAny_bind (wpAny_pure ?_)
    simp only [Bool.false_eq_true, if_false]
    refine wpAny_bind (wpAny_mono one (fun r s' z => ?_) fun _ _ e => e)
    obtain ⟨v, rfl, hq⟩ := z
    exact wpAny_pure hq
end
end PySem.W
namespace Lp
open PySem PySem.Spec PyProof.Rows L2
section
variable {X : Cx} {CX : CXT} {pins : List (Addr × Obj)} {σ : L2.St} {H : Hp} {s : Shared} {a C dx g : Addr} {fs : List (Str × V)} {n : Nat} {sp : Sp} {E : XK} {e o : Expr} {ta tb : TE} {pos : Pos}
theorem inst_of (I : Inv X pins σ H s) (e : H a = some (.ins C dx fs)) : ∃ od, PySem.W.InstAt s.heap a (PySem.W.instObj C dx) C (some od) := by
  obtain ⟨mA, O, _⟩ := ins_get I.hok e
  obtain ⟨od, J, _⟩ := O.look
  exact ⟨od, J⟩
/-- len(o), o an instance with __len__ -/
def rLenO (C : Addr) (sp : Sp) (E : XK) : List V → Hp → VK → Prop := fun xs H Q => ∃ a dx fs, xs = [V.ref a] ∧ H a = some (.ins C dx fs) ∧ sp [.ref a] H (fun z H' => ∃ k : Int, z = .int k ∧ 0 ≤ k ∧ k < 2 ^ 63 ∧ Q z H') E
theorem call_lenO (hs : PySem.W.findIn X.K (.ref C) "__len__" = some (some (.ref g))) (hf : PySem.W.isFn X.K (.ref g) = true) (F : FnR X.prog X.w X.K X.mg X.base CX n g sp) (hr : Room (n + 1) X.A) (hx : Passes CX X E) : CallR X (.builtin "len") (rLenO C sp E) := by
  intro pins s σ H xs us Q I r h
  obtain ⟨a, dx, fs, rfl, ha, q⟩ := h
  obtain ⟨u, rfl, ru⟩ := r.one
  cases (show u = Value.ref a from ru)
  obtain ⟨od, J⟩ := inst_of I ha
  obtain ⟨m, hF⟩ := I.fr
  refine PySem.W.len_K hF I.ok.mod.kin J hs hf (wpAny_mono (wpAny_call (SlX.run_at (us := [.ref a]) (ws := [.ref a]) F hr.in1 I.env0.in1 hx I (.cons rfl .nil) q)) (fun w s' z => ?_) fun _ _ x => x)
  obtain ⟨z', H', I', rz, k, ek, h0, h1, qz⟩ := z
  subst ek
  obtain ⟨t, et⟩ := (show ∃ t, w = Value.int k t from rz)
  cases et
  exact ⟨⟨h0, h1⟩, .int k, H', I'.tok _, ⟨_, rfl⟩, qz⟩
/-- o[e], o an instance with __getitem__ -/
def rIxO (C : Addr) (sp : Sp) (E : XK) : R2 := fun x y H Q => ∃ a dx fs, x = .ref a ∧ H a = some (.ins C dx fs) ∧ sp [x, y] H Q E
theorem pe_ixO (hs : PySem.W.findIn X.K (.ref C) "__getitem__" = some (some (.ref g))) (hfi : PySem.W.fnIn X.K g = true) (hf : PySem.W.isFn X.K (.ref g) = true) (F : FnR X.prog X.w X.K X.mg X.base CX n g sp) (hr : Room (n + 1) X.A) (hx : Passes CX X E) (ho : PE X o ta) (he : PE X e tb)
    (hsl : ∀ x i, subscripted e true (.ref x) i = runValue (.builtin "lifetime.subscript" ⟨[.ref x, i], []⟩) := by intro _ _; with_unfolding_all rfl) : PE X (.Subscript o e pos) (tOp (rIxO C sp E) ta tb) := by
  refine ⟨fun pins s σ H Q I h => ?_⟩
  refine Subscript_ (binT ho he I h fun v u s2 x y H2 I2 rx ry q => ?_)
  obtain ⟨a, dx, fs, rfl, ha, q⟩ := q
  cases (show v = Value.ref a from rx)
  obtain ⟨od, J⟩ := inst_of I2 ha
  obtain ⟨m, hF⟩ := I2.fr
  refine PySem.W.sub_K hF I2.ok.mod.kin J hs hfi hf (wpAny_mono (wpAny_call (SlX.run_at (us := [.ref a, u]) (ws := [.ref a, y]) F hr.in1 I2.env0.in1 hx I2 (.cons rfl (.cons ry .nil)) q)) (fun w s' z => z) fun _ _ x => x) (hsl a u)
/-- x == y, x an instance with __eq__; y of the type t -/
def rEqO (K : PySem.W.Frag) (C : Addr) (sp : Sp) (E : XK) : R2 := fun x y H Q => ∃ a dx fs t, x = .ref a ∧ H a = some (.ins C dx fs) ∧ TyX K H y t ∧ PySem.W.notFirst K C t = true ∧ sp [x, y] H Q E
theorem op_eqO (hs : PySem.W.findIn X.K (.ref C) "__eq__" = some (some (.ref g))) (hf : PySem.W.isFn X.K (.ref g) = true) (F : FnR X.prog X.w X.K X.mg X.base CX n g sp) (hr : Room n X.A) (hx : Passes CX X E) : OpR X (compareOp .Eq) (rEqO X.K C sp E) := by
  intro pins s σ H x y v u Q I rx ry h
  obtain ⟨a, dx, fs, t, rfl, ha, ty, hn, q⟩ := h
  cases (show v = Value.ref a from rx)
  obtain ⟨od, J⟩ := inst_of I ha
  obtain ⟨m, hF⟩ := I.fr
  obtain ⟨P, Z, p, _⟩ := kit_of I ry ty
  show wpAny (model X.prog X.w) X.A (richCompare .Eq _ _) _ _ _
  refine PySem.W.cmp_K (op := .Eq) (tb := t) hr.units0 hF I.ok.mod.kin J (Z.ty _ _ I.kIn p) hn hs hf ?_
  refine wpAny_mono (wpAny_call (run_fnR (us := [.ref a, u]) (vs := [.ref a, y]) F hr hx I (.cons rfl (.cons ry .nil)) q)) (fun w s' z => ?_) fun _ _ x => x
  obtain ⟨z', H', I', rz, qz⟩ := z
  exact SlX.cmpback rz ⟨z', H', I', rz, qz⟩
/-- x != y by __eq__ alone: the eq's answer is a bool -/
def rNeO (K : PySem.W.Frag) (C : Addr) (sp : Sp) (E : XK) : R2 := fun x y H Q => ∃ a dx fs t, x = .ref a ∧ H a = some (.ins C dx fs) ∧ TyX K H y t ∧ PySem.W.notFirst K C t = true ∧ sp [x, y] H (fun z H' => ∃ c, z = .bl c ∧ Q (.bl (!c)) H') E
theorem op_neO (hs : PySem.W.findIn X.K (.ref C) "__eq__" = some (some (.ref g))) (hn1 : PySem.W.findIn X.K (.ref C) "__ne__" = some (some (.builtin "object.__ne__"))) (hm1 : PySem.W.mroIn X.K C (.type "object") = some true) (hf : PySem.W.isFn X.K (.ref g) = true)
    (F : FnR X.prog X.w X.K X.mg X.base CX n g sp) (hr : Room (n + 1) X.A) (hx : Passes CX X E) : OpR X (compareOp .NotEq) (rNeO X.K C sp E) := by
  intro pins s σ H x y v u Q I rx ry h
  obtain ⟨a, dx, fs, t, rfl, ha, ty, hn, q⟩ := h
  cases (show v = Value.ref a from rx)
  obtain ⟨od, J⟩ := inst_of I ha
  obtain ⟨m, hF⟩ := I.fr
  obtain ⟨P, Z, p, _⟩ := kit_of I ry ty
  show wpAny (model X.prog X.w) X.A (richCompare .NotEq _ _) _ _ _
  refine PySem.W.lp_ne_K (tb := t) (by have := hr.units; omega) hF I.ok.mod.kin J (Z.ty _ _ I.kIn p) hn hn1 hm1 hs hf ?_
  refine wpAny_mono (wpAny_call (SlX.run_at (us := [.ref a, u]) (ws := [.ref a, y]) F hr.in1 I.env0.in1 hx I (.cons rfl (.cons ry .nil)) q)) (fun w s' z => ?_) fun _ _ x => x
  obtain ⟨z', H', I', rz, c, ec, qz⟩ := z
  subst ec
  cases (show w = Value.bool c from rz)
  exact ⟨c, rfl, .bl (!c), H', I', rfl, qz⟩
end
end Lp
namespace Lp
open PySem PySem.Spec PyProof.Rows L2
section
variable {X : Cx} {CX : CXT} {k : Nat} {f C : Addr} {fd : FuncData} {ps : List Str} {sp : Sp} {dvs : List V} {ds : List Value} {E : XK} {x m : Str} {p pos apos : Pos} {e o : Expr} {es : List Expr} {ta te : TE} {t : TA} {i : Nat}
/-- x(e, ..), x a local name that holds the class at C -/
def tMakeL (i : Nat) (C : Addr) (sp : Sp) (dvs : List V) (E : XK) (t : TA) : TE := fun σ H Q => σ[i]? = some (some (.ref C)) ∧ tMake C sp dvs E t σ H Q
theorem pe_makeL (M : Mk X.K C f) (F : FnOk X.prog X.w X.K X.mg X.base CX k f fd ps sp) (hr : Room (k + 1) X.A) (hv : PE X (.Name x p) (tVar i)) (hb : Binds X.K fd ps ds) (hd : Vals dvs ds) (hx : Passes CX X E)
    (ha : PA X (e :: es) t) (he : starEach (e :: es) X.env = (false, eval e X.env) :: starEach es X.env := by rfl) (hpl : (backTo pos (starEach es X.env)).any (·.1) = false := by rfl) :
    PE X (.Call (.Name x p) (e :: es) [] pos) (tMakeL i C sp dvs E t) := by
  refine ⟨fun pins s σ H Q I h => ?_⟩
  obtain ⟨h1, h2⟩ := h
  refine wpAny_Call_Name_kw (thn (hv.run pins s σ H (fun v H' => v = .ref C ∧ H' = H) I ⟨_, h1, rfl, rfl⟩) fun u s0 hu => ?_)
  obtain ⟨v, H0, I0, r0, rfl, rfl⟩ := hu
  cases (show u = Value.ref C from r0)
  refine PySem.W.callWith_K (h₀ := X.base) I.ok.mod.kin M.kp (thn (ha.run pos pins s0 σ _ _ I0 h2) fun us s1 ⟨vs, H1, I1, r, q⟩ => ⟨I1.kIn, ?_⟩) he hpl
  exact run_make M F hr hb hd hx I1 r q

/-- o[lo:hi] = e, both lists that stand in H, 0 ≤ lo ≤ hi ≤ length -/
def sSlice (to tl th te : TE) : TS := fun D σ H => te σ H fun y H1 => to σ H1 fun x H2 => tl σ H2 fun l H3 => th σ H3 fun h H4 => ∃ (p q : Addr) (xs ys : List V) (a c : Int), x = .ref p ∧ y = .ref q ∧ l = .int a ∧ h = .int c ∧ H4 p = some (.lst xs) ∧ H4 q = some (.lst ys) ∧ p ≠ q ∧
  0 ≤ a ∧ a ≤ c ∧ c ≤ xs.length ∧ xs.length + ys.length ≤ sizeLine ∧ D.nx σ (upd H4 p (.lst (xs.take a.toNat ++ ys ++ xs.drop c.toNat)))
theorem ps_slice {lo hi : Expr} {tl th : TE} {p2 : Pos} (ho : PE X o ta) (hl : PE X lo tl) (hh : PE X hi th) (he : PE X e te) (hs : swapsWithSole [.Subscript o (.Slice (some lo) (some hi) none p2) apos] e pos.line X.env = pure false := by rfl)
    (hw : swappedStores [.Subscript o (.Slice (some lo) (some hi) none p2) apos] e X.env = pure none := by rfl)
    (hi' : interactive X.env = false := by rfl)
    (hx : ∀ v, assign (.Subscript o (.Slice (some lo) (some hi) none p2) apos) X.env v = (do
      let ov ← holding [v] (eval o X.env)
      let iv ← holding [v, ov] (eval (.Slice (some lo) (some hi) none p2) X.env)
      standAt apos
      holding [v, ov, iv] (setItem ov iv v)
      release [iv, v, ov] []) := by intro _; rfl) : PS X (.Assign [.Subscript o (.Slice (some lo) (some hi) none p2) apos] e pos) (sSlice ta tl th te) := by
  refine ps_asg (g := fun y σ H Q => ta σ H fun x H2 => tl σ H2 fun l H3 => th σ H3 fun h H4 => ∃ (p q : Addr) (xs ys : List V) (a c : Int), x = .ref p ∧ y = .ref q ∧ l = .int a ∧ h = .int c ∧ H4 p = some (.lst xs) ∧ H4 q = some (.lst ys) ∧ p ≠ q ∧
    0 ≤ a ∧ a ≤ c ∧ c ≤ xs.length ∧ xs.length + ys.length ≤ sizeLine ∧ Q σ (upd H4 p (.lst (xs.take a.toNat ++ ys ++ xs.drop c.toNat)))) he ⟨fun pins s σ H v u Q I r h => ?_⟩ hs hw
  rw [hx]
  refine wpAny_bind (wpAny_holding (thn (ho.run pins s σ H _ I h) fun ov s1 ⟨x, H1, I1, r1, q1⟩ => ?_))
  refine wpAny_bind (wpAny_holding (wpAny_Slice ?_))
  rw [evalPart_some]
  refine thn (hl.run pins s1 σ H1 _ I1 q1) fun vl s2 ⟨l, H2, I2, r2, q2⟩ => ?_
  rw [evalPart_some]
  refine thn (hh.run pins s2 σ H2 _ I2 q2) fun vh s3 ⟨h, H3, I3, r3, q3⟩ => ?_
  rw [evalPart_none]
  refine wpAny_pure ?_
  obtain ⟨p, q, xs, ys, a, c, rfl, rfl, rfl, rfl, hp, hq, ne, h0, hac, hc, hz, q4⟩ := q3
  cases (show ov = Value.ref p from r1)
  cases (show u = Value.ref q from r)
  have I4 : Inv X pins σ H3 { s3 with heap := s3.heap.push { cls := .type "slice", data := .fields #[vl, vh, .none] } } := I3.kept (t' := s3.toks) fun b ob q => Heap.get?_push_of_some _ q
  refine wpAny_bind (wpAny_standAt (wpAny_bind (wpAny_holding (set_slice I4 hp hq ne (Heap.IsSliceOf.new ..) r2 r3 h0 hac hc hz fun s5 I5 => ?_))))
  exact wpAny_release ⟨σ, _, I5, q4⟩
end
end Lp
namespace Lp
open PySem PySem.Spec PyProof.Rows L2
abbrev Cls1 := Value × Option Nat × (Addr → Value → Option Addr → TS)
/-- behind a suite the clause's own name is gone -/
def offE (D : Ends) (i : Nat) : Ends := { nx := fun σ' H' => D.nx (σ'.set i none) H', rt := D.rt, bk := fun σ' H' => D.bk (σ'.set i none) H', ct := fun σ' H' => D.ct (σ'.set i none) H' }
/-- what the clauses wish of an exception of the body, one after the other: with a name (its slot) or without -/
def wMix (K : PySem.W.Frag) (Wout : WX) (D : Ends) : List Cls1 → WX
  | [] => Wout
  | (c, none, ts) :: r => fun cls d σ H => ∃ b, PySem.W.exmOne K cls c = some b ∧ (b = true → ∀ a, H a = none → ts a cls d D σ H) ∧ (b = false → wMix K Wout D r cls d σ H)
  | (c, some i, ts) :: r => fun cls d σ H => ∃ b, PySem.W.exmOne K cls c = some b ∧ (b = true → ∀ a, H a = none → ts a cls d (offE D i) (σ.set i (some (.ref a))) H) ∧ (b = false → wMix K Wout D r cls d σ H)
inductive HdsMix (X : Cx) : List ExceptHandler → List Cls1 → Prop
  | nil : HdsMix X [] []
  | cons {x : Str} {c : Value} {ts : Addr → Value → Option Addr → TS} {b₀ : Stmt} {suite : List Stmt} {np pos' : Pos} {hds : List ExceptHandler} {l : List Cls1} (hc : Names X x c)
      (hsu : ∀ (a : Addr) (oe : Obj) (cls : Value) (d : Option Addr) (pn : List (Addr × Obj)), Zc cls d oe → (∃ vs, oe.data = .fields vs) → PSs (X.suite a ((a, oe) :: pn)) (b₀ :: suite) (ts a cls d)) (r : HdsMix X hds l) :
      HdsMix X (.ExceptHandler (some (.Name x np)) none (b₀ :: suite) pos' :: hds) ((c, none, ts) :: l)
  | as_ {x n : Str} {i : Nat} {c : Value} {ts : Addr → Value → Option Addr → TS} {b₀ : Stmt} {suite : List Stmt} {np pos' : Pos} {hds : List ExceptHandler} {l : List Cls1} (hi : X.N[i]? = some n) (hln : X.env.kindOf n = some .local) (hc : Names X x c)
      (hsu : ∀ (a : Addr) (oe : Obj) (cls : Value) (d : Option Addr) (pn : List (Addr × Obj)), Zc cls d oe → (∃ vs, oe.data = .fields vs) → PSs (X.suite a ((a, oe) :: pn)) (b₀ :: suite) (ts a cls d)) (r : HdsMix X hds l) :
      HdsMix X (.ExceptHandler (some (.Name x np)) (some n) (b₀ :: suite) pos' :: hds) ((c, some i, ts) :: l)
section
variable {X : Cx} {body : List Stmt} {h₀ : ExceptHandler} {hds : List ExceptHandler} {l : List Cls1} {pos : Pos} {tb : WX → TS} {Wout : WX}
theorem ps_try_mix (hs : X.stack = X.env :: X.outer) (hf : X.env.frame = some X.env.locals) (hN : X.N.Nodup) (tk : Takes X Wout)
    (hb : ∀ (W : WX) (pn : List (Addr × Obj)) (xe : Value → Shared → Prop), Takes (X.tr pn xe) W → PassesOwn (model X.prog X.w) X.A X.env xe → PSs (X.tr pn xe) body (tb W))
    (hh : HdsMix X (h₀ :: hds) l) : PS X (.Try body (h₀ :: hds) [] [] pos) (fun D σ H => tb (wMix X.K Wout D l) D σ H) := by
  refine ⟨fun pins s σ H D I h => ?_⟩
  have ok := I.ok
  have hfr : X.A.frames = some (X.env :: X.outer) := by rw [ok.frames, hs]
  refine wpAny_Try_except ?_
  refine wpAny_mono ((hb (wMix X.K Wout D l) (X.pn ++ pins) (fun e s₁ => wpAny (model X.prog X.w) X.A (noteFrame e X.env) (fun _ s₂ => wpAny (model X.prog X.w) X.A (setFlight e none) (fun _ s₃ =>
    wpAny (model X.prog X.w) X.A (handleBy e X.env (h₀ :: hds)) (SP X pins D) X.xe s₃) X.xe s₂) X.xe s₁) (fun u s' xx => ?_) PassesOwn.looking).run [] s σ H D (I.toTry _) h) (fun f s1 hsp => ?_) (fun e s1 he => he)
  · obtain ⟨a, B, sI, pins', σ', H', cls, d, rfl, J', nb, up, sky, na, os, ag, w⟩ := xx
    have J : Inv X pins σ' H' sI := J'.ofTry ok
    have sky' : Sky B (X.env :: X.outer) a (Zc cls d) X.env.locals s'.heap := by rw [← hs]; exact sky
    show wpAny (model X.prog X.w) X.A (noteFrame (.ref a) X.env) _ _ _
    refine Sky.land Zc.steady hfr hf sky' fun h3 fl3 up3 => ?_
    have J3 : Inv X pins σ' H' { s' with heap := h3 } := J.landed nb fl3.1 (up.trans up3) os ag
    obtain ⟨oe3, vs3, he3, hz3, hd3⟩ := fl3.there
    have nfr : a ∉ frs (X.env :: X.outer) := fun hm => by
      obtain ⟨_, o', e', hnf⟩ := fl3.2.2.1.mem hm
      rw [he3] at e'
      cases e'
      exact hnf _ hd3
    have nL : a ≠ X.env.locals := fun z => nfr (List.mem_filterMap.mpr ⟨X.env, List.mem_cons_self, by rw [hf, z]⟩)
    have nF : a ∉ X.fs := fun hm => by
      obtain ⟨e, he, q⟩ := List.mem_filterMap.mp hm
      exact nfr (List.mem_filterMap.mpr ⟨e, List.mem_cons_of_mem _ he, q⟩)
    have S3 := J3.suite he3 hd3 na nL nF
    have LT : PySem.W.Looks (model X.prog X.w) h3 (typeOf (.ref a)) cls := fun A Q E s k q => wpAny_typeOf_ref (k _ _ he3) (by rw [hz3.1]; exact q)
    have test : ∀ {x : Str} {c : Value} {np : Pos} {Q : Value → Shared → Prop} {E : Value → Shared → Prop}, Names X x c → Q c { s' with heap := h3 } → wpAny (model X.prog X.w) (X.A.mark (some (.ref a))) (eval (.Name x np) X.env) Q E { s' with heap := h3 } := fun {x c np Q E} hc q => by
      obtain ⟨hg, hdbg, hm | ⟨hm, hv, hnn⟩⟩ := hc
      · exact ld_glob (X := X.suite a ((a, oe3) :: (X.pn ++ pins))) S3 hg hm q hdbg
      · exact ld_blt (X := X.suite a ((a, oe3) :: (X.pn ++ pins))) S3 hg hm hv q hnn hdbg
    have go : ∀ {hds' : List ExceptHandler} {l' : List Cls1}, HdsMix X hds' l' → wMix X.K Wout D l' cls d σ' H' →
        wpAny (model X.prog X.w) X.A (handleBy (.ref a) X.env hds') (SP X pins D) X.xe { s' with heap := h3 } := by
      intro hds' l' hk
      induction hk with
      | nil =>
        intro w
        refine wpAny_handleBy_nil ?_
        obtain ⟨k1, k2, k3, oe, vs, T, oT, ts', he, hz, hd, h1, hr⟩ := id fl3
        unfold PySem.passOn
        refine wpAny_bind (wpAny_field he hd h1 ?_)
        rw [if_neg (show ¬ ((Value.ref T == Value.none) = true) from by simp)]
        have fin : wpAny (model X.prog X.w) X.A (setFlight (.ref a) X.env.frame) (fun _ s4 => wpAny (model X.prog X.w) X.A (throw (.ref a) : Sem Flow) (SP X pins D) X.xe s4) X.xe { s' with heap := h3 } := by
          rw [hf]
          refine HandSPX.setFlight_upZ fl3 fun h4 hh4 up4 => wpAny_throw (tk _ _ ?_)
          exact ⟨a, B, sI, pins, σ', H', cls, d, rfl, J, nb, (up.trans up3).trans up4, .inr (.inr (by rw [hs]; exact hh4)), na, os, ag, w⟩
        first
          | exact wpAny_bind (wpAny_pure (wpAny_bind fin))
          | exact wpAny_bind fin
      | @cons x c ts b₀ suite np pos' hds2 l2 hc hsu r ih =>
        intro w
        obtain ⟨b, hb1, hyes, hno⟩ := w
        refine wpAny_handleBy_cons (codeAny_handlers_test ?_) (by intro q; cases q)
        refine test hc ((PySem.W.exm_one (M := model X.prog X.w) (J3.kIn) LT hb1).here ?_)
        cases b with
        | true =>
          refine codeAny_handlers_suite ?_
          refine HandSPX.lands_againZ fl3 fun h4 fl4 up4 => ?_
          have J4 : Inv X pins σ' H' { s' with heap := h4 } := J.landed nb fl4.1 ((up.trans up3).trans up4) os ag
          obtain ⟨oe4, vs4, he4, hz4, hd4⟩ := fl4.there
          have S4 := J4.suite he4 hd4 na nL nF
          refine wpAny_mono ((hsu a oe4 cls d (X.pn ++ pins) hz4 ⟨_, hd4⟩).run [] _ _ H' _ S4 (hyes rfl a na)) (fun f s6 hsp => ?_) (fun _ _ z => False.elim z)
          cases f with
          | next => exact let ⟨σ6, H6, S6, q6⟩ := hsp; ⟨_, _, S6.unsuite ok, q6⟩
          | brk => exact let ⟨σ6, H6, S6, q6⟩ := hsp; ⟨_, _, S6.unsuite ok, q6⟩
          | cont => exact let ⟨σ6, H6, S6, q6⟩ := hsp; ⟨_, _, S6.unsuite ok, q6⟩
          | ret u => exact let ⟨v6, σ6, H6, S6, r6, q6⟩ := hsp; ⟨_, _, _, S6.unsuite ok, r6, q6⟩
        | false =>
          show wpAny _ X.A (handleBy (.ref a) X.env hds2) _ _ _
          exact ih (hno rfl)
      | @as_ x n i c ts b₀ suite np pos' hds2 l2 hi hln hc hsu r ih =>
        intro w
        obtain ⟨b, hb1, hyes, hno⟩ := w
        refine wpAny_handleBy_cons (codeAny_handlers_test ?_) (by intro q; cases q)
        refine test hc ((PySem.W.exm_one (M := model X.prog X.w) (J3.kIn) LT hb1).here ?_)
        cases b with
        | true =>
          refine codeAny_handlers_suite_as ?_
          refine HandSPX.lands_againZ fl3 fun h4 fl4 up4 => ?_
          have J4 : Inv X pins σ' H' { s' with heap := h4 } := J.landed nb fl4.1 ((up.trans up3).trans up4) os ag
          obtain ⟨oe4, vs4, he4, hz4, hd4⟩ := fl4.there
          have S4 := J4.suite he4 hd4 na nL nF
          refine store_ok (X := X.suite a ((a, oe4) :: (X.pn ++ pins))) (v := .ref a) S4 hN hi (.inl hln) rfl (fun s5 S5 => ?_) (.inr hln)
          refine wpAny_mono ((hsu a oe4 cls d (X.pn ++ pins) hz4 ⟨_, hd4⟩).run [] s5 _ H' _ S5 (hyes rfl a na)) (fun f s6 hsp => ?_) (fun _ _ z => False.elim z)
          have end_ : ∀ {σ6 : L2.St} {H6 : Hp} {Q : Shared → Prop}, Inv (X.suite a ((a, oe4) :: (X.pn ++ pins))) [] σ6 H6 s6 → (∀ s7, Inv X pins (σ6.set i none) H6 s7 → Q s7) →
              wpAny (model X.prog X.w) X.A (do bindName X.env n .none; unbindBehindTheSuite X.env n pos') (fun _ s7 => Q s7) X.xe s6 := fun {σ6 H6 Q} S6 hq => gone_ok (S6.unsuite ok) hN hi hln hq
          cases f with
          | next => exact let ⟨σ6, H6, S6, q6⟩ := hsp; end_ S6 fun s7 J7 => ⟨_, _, J7, q6⟩
          | brk => exact let ⟨σ6, H6, S6, q6⟩ := hsp; end_ S6 fun s7 J7 => ⟨_, _, J7, q6⟩
          | cont => exact let ⟨σ6, H6, S6, q6⟩ := hsp; end_ S6 fun s7 J7 => ⟨_, _, J7, q6⟩
          | ret u => exact let ⟨v6, σ6, H6, S6, r6, q6⟩ := hsp; end_ S6 fun s7 J7 => ⟨_, _, _, J7, r6, q6⟩
        | false =>
          show wpAny _ X.A (handleBy (.ref a) X.env hds2) _ _ _
          exact ih (hno rfl)
    exact go hh w
  · cases f with
    | next => exact let ⟨σ', H', J', q⟩ := hsp; wpAny_execs_nil ⟨σ', H', J'.ofTry ok, q⟩
    | brk => exact let ⟨σ', H', J', q⟩ := hsp; ⟨σ', H', J'.ofTry ok, q⟩
    | cont => exact let ⟨σ', H', J', q⟩ := hsp; ⟨σ', H', J'.ofTry ok, q⟩
    | ret u => exact let ⟨v, σ', H', J', r, q⟩ := hsp; ⟨v, σ', H', J'.ofTry ok, r, q⟩
end
end Lp
namespace PySem.W
open PySem PySem.Spec PySem.Calls PyProof.Rows
section
variable {prog : Program} {w : World} {A : Around} {E : Value → Shared → Prop} {s : Shared} {K : Frag} {x D : Addr} {ox : Obj} {odd : Option Obj}
theorem lp_findObj_data {C : Addr} {name : Str} {a g : Value} (hc : (clsIn K C).isSome = true) (ha : findIn K (.ref C) name = some (some a)) (hg : specialIn K a "__get__" = some (some g)) (ht : takesIn K a = some true) : findObj K C odd name = some (.bind g a) := by
  obtain ⟨cd, hc⟩ := Option.isSome_iff_exists.mp hc
  unfold findObj
  rw [hc, Option.bind_some, ha, Option.bind_some]
  simp [hg, ht]
theorem lp_kin_classE {Q : Option Value → Shared → Prop} (hga : findIn K (.ref D) "__getattribute__" = some (some (.builtin "BaseException.__getattribute__"))) (hgt : findIn K (.ref D) "__getattr__" = some none) (hsub : subIn K (.ref D) (.type "BaseException") = some true)
    (hdct : hasDictIn K D = true) (ha : findIn K (.ref D) "__class__" = some (some (.builtin "object.__class__")))
    (hn : specialIn K (.builtin "object.__class__") "__get__" = some (some (.builtin "getset_descriptor.__get__"))) (htk : takesIn K (.builtin "object.__class__") = some true) (hm : mroIn K D (.type "object") = some true)
    (X : K.In s.heap) (I : InstAt s.heap x ox D odd) (h : Q (some (.ref D)) { s with toks := s.toks + 1 }) : wpAny (model prog w) A (getAttr? (.ref x) "__class__") Q E s := by
  have hf : findObj K D odd "__class__" = some (.bind (.builtin "getset_descriptor.__get__") (.builtin "object.__class__")) := lp_findObj_data (by obtain ⟨cd, hc, _⟩ := any_some hdct; rw [hc]; rfl) ha hn htk
  obtain ⟨hp, g, d, t, os⟩ := s
  have L0 := I.type (M := model prog w)
  have L1 := looks_findIn (M := model prog w) X hga
  have L2 := looks_findIn (M := model prog w) X hgt
  have L3 := looks_find (M := model prog w) X I hf
  have sub : Looks (model prog w) hp (isInstance (.ref x) (.type "BaseException")) true := L0.andThen (looks_subIn X hsub)
  have hx0 : (false && onTheHeap (Value.builtin "BaseException.__getattribute__")) = false := rfl
  have hx2 : (Value.builtin "BaseException.__getattribute__" == Value.builtin "object.__getattribute__") = false := by decide +kernel
  have hx1 : (onTheHeap (Value.ref D) && Value.builtin "BaseException.__getattribute__" == Value.builtin "object.__getattribute__") = false := by rw [hx2]; rfl
  unfold getAttr? getAttrBy? getAttrBy
  refine wpAny_bind (wpAny_mkText (wpAny_bind (wpAny_attempt (wpAny_holding (wpAny_bind (L0.at (wpAny_bind (L1.at ?_))))))))
  show wpAny _ _ (if (onTheHeap (Value.ref D) && Value.builtin "BaseException.__getattribute__" == Value.builtin "object.__getattribute__") = true then _ else _) _ _ _
  rw [hx1, if_neg Bool.false_ne_true]
  unfold getAttrByItsOwn hookBefore
  refine wpAny_bind ?_
  rw [if_pos (show onTheHeap (Value.ref D) = true from rfl)]
  refine L2.at ?_
  refine wpAny_bind (wpAny_attempt (wpAny_holding ?_))
  unfold callGetattribute
  rw [hx0, if_neg Bool.false_ne_true]
  unfold boundAndCalled
  rw [PySem.F.excAttr_ValueError.ga.bind (.ref x)]
  refine wpAny_bind (wpAny_pure ?_)
  show wpAny _ _ (call (.builtin "BaseException.__getattribute__") [.ref x, .str "__class__" t]) _ _ _
  refine wpAny_call (codeAny_call_builtin PySem.F.excAttr_ValueError.ga.plain PySem.F.entry_bexc_ga ?_)
  refine @check_slot (model prog w) _ _ ⟨hp, g, d, t + 1, os⟩ "BaseException.__getattribute__" "BaseException" "__getattribute__" (.ref x) [.str "__class__" t] [] _ (by decide +kernel) (by decide +kernel) sub (PySem.F.args_bexc_ga (.ref x) (.str "__class__" t)) ?_
  unfold Builtin.«object.__getattribute__»
  refine wpAny_bind (wpAny_of_eq (a := ((Value.ref x : Value), [Value.str "__class__" t])) (by first | rfl | (simp only [slotArgs]; rfl)) ?_)
  refine wpAny_bind (wpAny_pure (wpAny_bind (L0.at (wpAny_bind (L3.at ?_)))))
  show wpAny _ _ (holding [Value.builtin "object.__class__"] (call (.builtin "getset_descriptor.__get__") [.builtin "object.__class__", .ref x, .ref D]) >>= ret) _ _ _
  refine wpAny_bind (wpAny_holding (wpAny_call (class_get (s := ⟨hp, g, d, t + 1, os⟩) (ox := ox) (od := odd) X I hm ?_)))
  refine wpAny_pure ?_
  show wpAny _ _ (handedOut (.ref D)) _ _ _
  rw [handedOut_of (v := .ref D) rfl]
  first
    | exact wpAny_pure (wpAny_pure h)
    | exact wpAny_pure h
    | exact wpAny_pure (wpAny_bind (wpAny_pure (wpAny_pure h)))
theorem lp_kitx_exc (hga : findIn K (.ref D) "__getattribute__" = some (some (.builtin "BaseException.__getattribute__"))) (hgt : findIn K (.ref D) "__getattr__" = some none) (hsub : subIn K (.ref D) (.type "BaseException") = some true) (hdct : hasDictIn K D = true) (ha : findIn K (.ref D) "__class__" = some (some (.builtin "object.__class__")))
    (hn : specialIn K (.builtin "object.__class__") "__get__" = some (some (.builtin "getset_descriptor.__get__"))) (htk : takesIn K (.builtin "object.__class__") = some true) (hm : mroIn K D (.type "object") = some true) :
    KitX K (.ref x) (.ref D) (fun h => ∃ ox odd, InstAt h x ox D odd) where
  ty := fun _ _ _ ⟨_, _, I⟩ => I.type
  it := fun _ _ X _ => by
    obtain ⟨cdD, hcD, _⟩ := any_some hdct
    unfold clsIn at hcD
    split at hcD
    · rename_i c' d' cd' sl' ho
      intro A' Q' E' s' k q
      unfold isType loadHead
      exact wpAny_bind (wpAny_loadPart (k _ _ (X _ _ ho)) (wpAny_pure q))
    · cases hcD
  ne := fun h tp dd its n sl X htp => by
    obtain ⟨cdD, hcD, _⟩ := any_some hdct
    refine Bool.eq_false_iff.mpr fun q => ?_
    have e : D = tp := Value.ref.inj (beq_iff_eq.mp q)
    subst e
    unfold clsIn at hcD
    split at hcD
    · rename_i c' d' cd' sl' ho
      have z := (X _ _ ho).symm.trans htp
      cases z
    · cases hcD
  ca := fun X ⟨_, _, I⟩ k => lp_kin_classE hga hgt hsub hdct ha hn htk hm X I k
end
end PySem.W
namespace Lp
open PySem PySem.Spec PyProof.Rows L2
/-- an exception that a suite holds, its instance by the heap -/
theorem suite_inst {X : Cx} {a D : Addr} {oe : Obj} {d : Option Addr} {pn pins : List (Addr × Obj)} {σ : L2.St} {H : Hp} {s : Shared} (I : Inv (X.suite a ((a, oe) :: pn)) pins σ H s) (hz : Zc (.ref D) d oe) (hf : ∃ vs, oe.data = .fields vs)
    (hd : ∀ dd, d = some dd → ∃ o, s.heap.get? dd = some o) : ∃ ox odd, PySem.W.InstAt s.heap a ox D odd := by
  obtain ⟨hget, _⟩ := I.pin (a, oe) (List.mem_append.mpr (.inl List.mem_cons_self))
  obtain ⟨vs, hv⟩ := hf
  obtain ⟨oc, od, oda, osl⟩ := oe
  obtain ⟨h1, h2⟩ := hz
  dsimp only at h1 h2 hv
  subst h1 h2 hv
  cases od with
  | none => exact ⟨_, none, hget, rfl, rfl, trivial⟩
  | some dd =>
    obtain ⟨o, ho⟩ := hd dd rfl
    exact ⟨_, some o, hget, rfl, rfl, ho⟩
/-- isinstance(e, (c1, c2, ..)), e the exception that the suite holds; its dict, if it has one, is tracked -/
def rIsET (K : PySem.W.Frag) (D a : Addr) (cls : Value) (d : Option Addr) : List V → Hp → VK → Prop := fun xs H Q => cls = .ref D ∧ ∃ (tp : Addr) (cs : List V) (us : List Value) (b : Bool), xs = [.ref a, .ref tp] ∧ H tp = some (.tup cs) ∧ Paired ClsV cs us ∧ PySem.W.kitAny K (.ref D) us = some b ∧ (∀ dd, d = some dd → ∃ fs, H dd = some (.xd fs)) ∧ Q (.bl b) H
theorem call_isET {X : Cx} {a D : Addr} {oe : Obj} {cls : Value} {d : Option Addr} {pn : List (Addr × Obj)} (C : ExcC X.K D) (hz : Zc cls d oe) (hf : ∃ vs, oe.data = .fields vs) : CallR (X.suite a ((a, oe) :: pn)) (.builtin "isinstance") (rIsET X.K D a cls d) := by
  intro pins s σ H xs us Q I r h
  obtain ⟨ec, h⟩ := h
  subst ec
  obtain ⟨tp, cs, ws, b, rfl, hT, k, e, hdd, q⟩ := h
  obtain ⟨u1, u2, rfl, r1, r2⟩ := vals2 r
  cases (show u1 = Value.ref a from r1)
  cases (show u2 = Value.ref tp from r2)
  have J := suite_inst I hz hf fun dd ed => by
    obtain ⟨fs, hfs⟩ := hdd dd ed
    obtain ⟨mA, ⟨o, _, _, ho, _⟩, _⟩ := (show ObjOk X.prog X.w H s.heap dd (.xd fs) from I.hok dd _ hfs)
    exact ⟨o, ho⟩
  obtain ⟨_, its, rv, o, h1, h2, n, h3⟩ := (show ObjOk X.prog X.w H s.heap tp (.tup cs) from I.hok tp _ hT)
  have e3 := ClsV.all k rv
  subst e3
  obtain ⟨oc, od, dt, sl⟩ := o
  simp only at h2 h3
  subst h2 h3
  exact PySem.W.kia_tup (PySem.W.lp_kitx_exc C.hg C.hk C.hs C.hd C.ha C.hn C.ht C.hm) I.kIn J h1 e (fun z => nomatch z) fun tk => ⟨.bl b, H, I.kept (t' := tk) fun _ _ z => z, rfl, q⟩
/-- isinstance(e, c) -/
def rIsE1 (K : PySem.W.Frag) (D a : Addr) (cls : Value) (d : Option Addr) : List V → Hp → VK → Prop := fun xs H Q => cls = .ref D ∧ ∃ (c : V) (u : Value) (b : Bool), xs = [.ref a, c] ∧ ClsV c u ∧ PySem.W.kitOne K (.ref D) u = some b ∧ (∀ dd, d = some dd → ∃ fs, H dd = some (.xd fs)) ∧ Q (.bl b) H
theorem call_isE1 {X : Cx} {a D : Addr} {oe : Obj} {cls : Value} {d : Option Addr} {pn : List (Addr × Obj)} (C : ExcC X.K D) (hz : Zc cls d oe) (hf : ∃ vs, oe.data = .fields vs) : CallR (X.suite a ((a, oe) :: pn)) (.builtin "isinstance") (rIsE1 X.K D a cls d) := by
  intro pins s σ H xs us Q I r h
  obtain ⟨ec, h⟩ := h
  subst ec
  obtain ⟨c, u, b, rfl, k, e, hdd, q⟩ := h
  obtain ⟨u1, u2, rfl, r1, r2⟩ := vals2 r
  cases (show u1 = Value.ref a from r1)
  have e2 := k.eq r2
  subst e2
  have J := suite_inst I hz hf fun dd ed => by
    obtain ⟨fs, hfs⟩ := hdd dd ed
    obtain ⟨mA, ⟨o, _, _, ho, _⟩, _⟩ := (show ObjOk X.prog X.w H s.heap dd (.xd fs) from I.hok dd _ hfs)
    exact ⟨o, ho⟩
  exact PySem.W.kia_one (PySem.W.lp_kitx_exc C.hg C.hk C.hs C.hd C.ha C.hn C.ht C.hm) I.kIn J e (fun z => nomatch z) fun tk => ⟨.bl b, H, I.kept (t' := tk) fun _ _ z => z, rfl, q⟩
end Lp
namespace Lp
open PySem PySem.Spec PyProof.Rows L2 He
/-! ### addresses by names -/
def recA (K : PySem.W.Frag) (p : Addr) (T : String) : Addr := match PySem.W.recIn K p T with
  | some (.ref g :: _) => g
  | _ => 0
inductive Pth where
  | glo (x : Str)
  | meth (x m : Str)
  | cm (x m : Str)
  | prop (x m : Str)
def Pth.a (K : PySem.W.Frag) : Pth → Addr
  | .glo x => ga K x
  | .meth x m => ma K (ga K x) m
  | .cm x m => recA K (ma K (ga K x) m) "classmethod"
  | .prop x m => recA K (ma K (ga K x) m) "property"
/-! ### defs -/
abbrev FnL : Type := Option (Str × Str × Arguments × FuncBody × Scope × Addr × List Str × Addr)
def fnL (K : PySem.W.Frag) (a : Addr) : FnL := match K.lookup a with
  | some ⟨_, _, .func fd, _⟩ => some (fd.name, fd.qualname, fd.params, fd.body, fd.scope, fd.globals, fd.closure.map (·.1), fd.builtins)
  | _ => none
/-- one def; cls: the class over whose cell it closes -/
structure DefL where
  at_ : Pth
  name : Str
  qual : Str
  params : Arguments
  body : List Stmt
  scope : Scope
  dfl : List Dv := []
  cls : Option Str := none
def DefL.val (d : DefL) : FnL := some (d.name, d.qual, d.params, .stmts d.body, d.scope, mainGlobals, (match d.cls with
  | none => []
  | some _ => ["__class__"]), builtinsNs)
def DefL.dvs (K : PySem.W.Frag) (d : DefL) : List V := d.dfl.map (Dv.v K)
def cellD (K : PySem.W.Frag) (cc : Addr) : Addr := match K.lookup cc with
  | some ⟨_, _, .cell (some (.ref D)), _⟩ => D
  | _ => 0
def cellB (K : PySem.W.Frag) (cc D : Addr) : Bool := match K.lookup cc with
  | some ⟨_, _, .cell (some (.ref D')), _⟩ => D' == D
  | _ => false
def fileB (K : PySem.W.Frag) (file : Str) (cda : Addr) : Bool := match K.lookup cda with
  | some ⟨_, _, .fields vs, _⟩ => (match (vs.toList[2]? : Option Value) with
    | some (.str f _) => f == file
    | _ => false)
  | _ => false
def supB (K : PySem.W.Frag) (file : Str) (fd : FuncData) (x : Str) : Bool := match fd.closure, fd.code with
  | [(_, cc)], .ref cda => cellB K cc (ga K x) && (fileB K file cda && ((PySem.W.clsIn K (ga K x)).isSome && decide ((fd.params.posonlyargs ++ fd.params.args).head?.map (·.arg) = some ("self" : Str))))
  | _, _ => false
def DefL.ok (K : PySem.W.Frag) (file : Str) (d : DefL) : Bool := PySem.W.keepIn K (.ref (d.at_.a K)) && (match K.lookup (d.at_.a K) with
  | some ⟨_, _, .func fd, _⟩ => PySem.W.codeIn K fd.code d.qual && (dflB K fd.defaults (d.dvs K) && (match d.cls with
    | none => true
    | some x => supB K file fd x))
  | _ => false)
section
variable {K : PySem.W.Frag} {d : DefL} {file : Str}
theorem DefL.parts (e : fnL K (d.at_.a K) = d.val) (c : d.ok K file = true) : ∃ (oc : Value) (od : Option Addr) (cl : List (Str × Addr)) (dV kV doc pm : Value) (an : Option Addr) (cdv ct : Value) (osl : Array (Option Value)),
    K.lookup (d.at_.a K) = some ⟨oc, od, .func (PySem.W.fnX d.name d.qual d.params d.body d.scope cl dV kV doc pm an cdv ct), osl⟩ ∧ PySem.W.codeIn K cdv d.qual = true ∧ DflV K dV (d.dvs K) ∧ cl.map (·.1) = (match d.cls with
      | none => []
      | some _ => [("__class__" : Str)]) ∧ (match d.cls with
      | none => true
      | some x => supB K file (PySem.W.fnX d.name d.qual d.params d.body d.scope cl dV kV doc pm an cdv ct) x) = true ∧ PySem.W.keepIn K (.ref (d.at_.a K)) = true := by
  obtain ⟨kp, c2⟩ := ba c
  unfold fnL at e
  cases q : K.lookup (d.at_.a K) with
  | none =>
    rw [q] at c2
    cases c2
  | some o =>
    obtain ⟨oc, od, dt, osl⟩ := o
    rw [q] at c2 e
    cases dt with
    | func fd =>
      obtain ⟨n1, n2, n3, n4, n5, n6, n7, n8, n9, n10, n11, n12, n13, n14, n15⟩ := fd
      have e2 : (some (n1, n2, n3, n4, n5, n6, n7.map (·.1), n15) : FnL) = some (d.name, d.qual, d.params, .stmts d.body, d.scope, mainGlobals, (match d.cls with
        | none => []
        | some _ => ["__class__"]), builtinsNs) := e
      simp only [Option.some.injEq, Prod.mk.injEq] at e2
      obtain ⟨h1, h2, h3, h4, h5, h6, h7, h8⟩ := e2
      subst h1 h2 h3 h4 h5 h6 h8
      obtain ⟨k1, k2⟩ := ba c2
      obtain ⟨k3, k4⟩ := ba k2
      exact ⟨oc, od, n7, n8, n9, n10, n11, n12, n13, n14, osl, rfl, k1, dflB_ok k3, h7, k4, kp⟩
    | _ => cases c2
theorem DefL.funD (hc : d.cls = none) (e : fnL K (d.at_.a K) = d.val) (c : d.ok K file = true) : ∃ fd, FunD K d.name d.qual d.params d.body d.scope (d.dvs K) [] (d.at_.a K) fd := by
  obtain ⟨oc, od, cl, dV, kV, doc, pm, an, cdv, ct, osl, h1, h2, h3, h4, _, h6⟩ := DefL.parts e c
  rw [hc] at h4
  have h4 : cl = [] := List.map_eq_nil_iff.mp h4
  subst h4
  exact ⟨_, ⟨oc, od, dV, kV, doc, pm, an, cdv, ct, osl, rfl, h1, h2, h3, .inl rfl⟩, h6⟩
theorem DefL.funS {x : Str} {P : Program} {mg : Str → Option Value} (hc : d.cls = some x) (e : fnL K (d.at_.a K) = d.val) (c : d.ok K file = true) (hf : P.main.file = file) (hs : mg "super" = none) (ht : (P.main.scope.names.lookup ("super" : Str)).isSome = false)
    (ho : PySem.W.nsIn K cStatics "thirdparty.any" = some none) : ∃ cda cc fd, FunS K d.name d.qual d.params d.body d.scope (d.dvs K) (ga K x) cda cc (d.at_.a K) fd ∧ SupK P K mg (d.at_.a K) cda cc (ga K x) := by
  obtain ⟨oc, od, cl, dV, kV, doc, pm, an, cdv, ct, osl, h1, h2, h3, h4, h5, h6⟩ := DefL.parts e c
  rw [hc] at h4 h5
  have h5 : supB K file (PySem.W.fnX d.name d.qual d.params d.body d.scope cl dV kV doc pm an cdv ct) x = true := h5
  have h4 : cl.map (·.1) = [("__class__" : Str)] := h4
  match cl, h4, h1, h5 with
  | [(y, cc)], h4, h1, h5 =>
    have ey : y = "__class__" := by simpa using h4
    subst ey
    cases cdv with
    | ref cda =>
      obtain ⟨a1, a2⟩ := ba (show (cellB K cc (ga K x) && (fileB K file cda && ((PySem.W.clsIn K (ga K x)).isSome && decide ((d.params.posonlyargs ++ d.params.args).head?.map (·.arg) = some ("self" : Str))))) = true from h5)
      obtain ⟨a2, a3⟩ := ba a2
      obtain ⟨a3, a4⟩ := ba a3
      have cell : ∃ ocell : Obj, K.lookup cc = some ocell ∧ ocell.data = .cell (some (.ref (ga K x))) := by
        unfold cellB at a1
        split at a1
        · rename_i q
          exact ⟨_, q, by rw [beq_iff_eq.mp a1]⟩
        · cases a1
      have code : ∃ (ccl : Value) (cdd : Option Addr) (vs : Array Value) (ccs : Array (Option Value)) (f : Str) (tf : Tok), K.lookup cda = some ⟨ccl, cdd, .fields vs, ccs⟩ ∧ vs[2]? = some (.str f tf) ∧ ((P.main.file : Str) == f) = true := by
        unfold fileB at a2
        split at a2
        · rename_i q
          split at a2
          · rename_i q2
            refine ⟨_, _, _, _, _, _, q, by rw [← Array.getElem?_toList]; exact q2, ?_⟩
            rw [hf, beq_iff_eq.mp a2]
            exact beq_self_eq_true _
          · cases a2
        · cases a2
      obtain ⟨ocell, c1, c2⟩ := cell
      refine ⟨cda, cc, _, ⟨⟨oc, od, dV, kV, doc, pm, an, ct, osl, ocell, rfl, h1, h2, h3, c1, c2⟩, h6⟩, ⟨?_, code, ⟨ocell, c1, c2⟩, Option.isSome_iff_exists.mp a3, hs, ht, ho⟩⟩
      have a4 := of_decide_eq_true a4
      cases hh : (d.params.posonlyargs ++ d.params.args).head? with
      | none => rw [hh] at a4; cases a4
      | some ar => exact ⟨oc, od, _, osl, ar, h1, hh, by rw [hh] at a4; simpa using a4⟩
    | _ => cases h5
end
/-! ### the Hook -/
def asL (g : Addr → Option Obj) : Nat → List Addr
  | 0 => [mainGlobals, cStatics]
  | n + 1 => growD g (asL g n)
abbrev AlL : Type := Bool × List FnL
def obsL (file : Str) (fb : List (PySem.W.Frag → Bool)) (fn : List DefL) (K : PySem.W.Frag) : AlL := ((fb.all fun f => f K) && fn.all fun d => d.ok K file, fn.map fun d => fnL K (d.at_.a K))
def valL (fn : List DefL) : AlL := (true, fn.map DefL.val)
def SaysL (file : Str) (fb : List (PySem.W.Frag → Bool)) (fn : List DefL) (K : PySem.W.Frag) : Prop := obsL file fb fn K = valL fn
def obsLG (n : Nat) (file : Str) (fb : List (PySem.W.Frag → Bool)) (fn : List DefL) (g : Addr → Option Obj) : AlL := obsL file fb fn (frG g (asL g n))
def hookL (n : Nat) (file : Str) (fb : List (PySem.W.Frag → Bool)) (fn : List DefL) : PySem.W.Hook where
  α := AlL
  obs := fun s => obsLG n file fb fn s.heap.get?
  val := fun _ => valL fn
  says := fun _ h => ∃ K : PySem.W.Frag, K.In h ∧ SaysL file fb fn K
  of := fun _ _ e => ⟨_, frG_in, e⟩
  keeps := fun _ _ _ ⟨K, hK, c⟩ k => ⟨K, PySem.W.Frag.In.keeps hK k, c⟩
theorem obsLG_eq {n : Nat} {file : Str} {fb : List (PySem.W.Frag → Bool)} {fn : List DefL} {g : Addr → Option Obj} {s : Shared} (h : ∀ a, g a = s.heap.get? a) : obsLG n file fb fn g = (hookL n file fb fn).obs s := by
  have e : g = s.heap.get? := funext h
  rw [e] <;> rfl
section
variable {file : Str} {fb : List (PySem.W.Frag → Bool)} {fn : List DefL} {K : PySem.W.Frag}
theorem SaysL.fact (c : SaysL file fb fn K) (i : Nat) {f : PySem.W.Frag → Bool} (h : fb[i]? = some f := by rfl) : f K = true := by
  have c1 := (ba (show ((fb.all fun f => f K) && fn.all fun d => d.ok K file) = true from congrArg (fun z : AlL => z.1) c)).1
  exact List.all_eq_true.mp c1 f (List.mem_of_getElem? h)
theorem SaysL.defE (c : SaysL file fb fn K) (i : Nat) {d : DefL} (h : fn[i]? = some d) : fnL K (d.at_.a K) = d.val ∧ d.ok K file = true := by
  have c2 := (ba (show ((fb.all fun f => f K) && fn.all fun d => d.ok K file) = true from congrArg (fun z : AlL => z.1) c)).2
  have e : fn.map (fun d => fnL K (d.at_.a K)) = fn.map DefL.val := congrArg (fun z : AlL => z.2) c
  have e2 : (fn.map fun d => fnL K (d.at_.a K))[i]? = (fn.map DefL.val)[i]? := by rw [e]
  rw [List.getElem?_map, List.getElem?_map, h] at e2
  exact ⟨Option.some.inj e2, List.all_eq_true.mp c2 d (List.mem_of_getElem? h)⟩
end
/-! ### facts -/
/-- a class of one's own, its instances plain -/
structure Own (K : PySem.W.Frag) (C : Addr) : Prop where
  cl : Cls K C
  ha : PySem.W.findIn K (.ref C) "__class__" = some (some (.builtin "object.__class__"))
  hn : PySem.W.specialIn K (.builtin "object.__class__") "__get__" = some (some (.builtin "getset_descriptor.__get__"))
  ht : PySem.W.takesIn K (.builtin "object.__class__") = some true
  hm : PySem.W.mroIn K C (.type "object") = some true
  ne : PySem.W.findIn K (.ref C) "__ne__" = some (some (.builtin "object.__ne__"))
  kp : PySem.W.keepIn K (.ref C) = true
def ownB (K : PySem.W.Frag) (C : Addr) : Bool := (PySem.W.plainGet K C Str.empty && (PySem.W.hasDictIn K C && (PySem.W.plainOver K C && eqO (PySem.W.findIn K (.ref C) "__setattr__") (some (some (.builtin "object.__setattr__")))))) &&
  (eqO (PySem.W.findIn K (.ref C) "__class__") (some (some (.builtin "object.__class__"))) && (eqO (PySem.W.specialIn K (.builtin "object.__class__") "__get__") (some (some (.builtin "getset_descriptor.__get__"))) && (decide (PySem.W.takesIn K (.builtin "object.__class__") = some true) &&
  (decide (PySem.W.mroIn K C (.type "object") = some true) && (eqO (PySem.W.findIn K (.ref C) "__ne__") (some (some (.builtin "object.__ne__"))) && PySem.W.keepIn K (.ref C))))))
theorem ownB_ok {K : PySem.W.Frag} {C : Addr} (h : ownB K C = true) : Own K C := by
  obtain ⟨h1, h⟩ := ba h
  obtain ⟨p1, p⟩ := ba h1
  obtain ⟨p2, p⟩ := ba p
  obtain ⟨p3, p4⟩ := ba p
  obtain ⟨h2, h⟩ := ba h
  obtain ⟨h3, h⟩ := ba h
  obtain ⟨h4, h⟩ := ba h
  obtain ⟨h5, h⟩ := ba h
  obtain ⟨h6, h7⟩ := ba h
  exact ⟨⟨p1, p2, p3, eqO_ok p4⟩, eqO_ok h2, eqO_ok h3, of_decide_eq_true h4, of_decide_eq_true h5, eqO_ok h6, h7⟩
theorem Own.ty {K : PySem.W.Frag} {C a dx : Addr} {fs : List (Str × V)} {H : Hp} (o : Own K C) (h : H a = some (.ins C dx fs)) : TyX K H (.ref a) (.ref C) := .base (.ins h o.cl o.ha o.hn o.ht o.hm)
/-- a method of a class: a plain def -/
structure MethL (K : PySem.W.Frag) (C : Addr) (m : Str) (f : Addr) : Prop where
  me : Meth K C m f
  fi : PySem.W.fnIn K f = true
def methB (K : PySem.W.Frag) (C : Addr) (m : Str) (f : Addr) : Bool := eqO (PySem.W.findIn K (.ref C) m) (some (some (.ref f))) && (PySem.W.isFn K (.ref f) && (PySem.W.keepIn K (.ref f) && PySem.W.fnIn K f))
theorem methB_ok {K : PySem.W.Frag} {C f : Addr} {m : Str} (h : methB K C m f = true) : MethL K C m f := by
  obtain ⟨h1, h⟩ := ba h
  obtain ⟨h2, h⟩ := ba h
  obtain ⟨h3, h4⟩ := ba h
  exact ⟨⟨eqO_ok h1, h2, h3⟩, h4⟩
def mkB (K : PySem.W.Frag) (C f : Addr) : Bool := PySem.W.makesIn K C && (eqO (PySem.W.findIn K (.ref C) "__init__") (some (some (.ref f))) && (PySem.W.isFn K (.ref f) && PySem.W.keepIn K (.ref C)))
theorem mkB_ok {K : PySem.W.Frag} {C f : Addr} (h : mkB K C f = true) : Mk K C f := by
  obtain ⟨h1, h⟩ := ba h
  obtain ⟨h2, h⟩ := ba h
  obtain ⟨h3, h4⟩ := ba h
  exact ⟨h1, eqO_ok h2, h3, h4⟩
def propB (K : PySem.W.Frag) (C : Addr) (f : Str) (p g : Addr) : Bool := eqO (PySem.W.findIn K (.ref C) f) (some (some (.ref p))) && (eqO (PySem.W.specialIn K (.ref p) "__get__") (some (some (.builtin "property.__get__"))) && (decide (PySem.W.takesIn K (.ref p) = some true) && (match PySem.W.recIn K p "property" with
  | some (.ref g' :: _) => g' == g
  | _ => false)))
theorem propB_ok {K : PySem.W.Frag} {C p g : Addr} {f : Str} (h : propB K C f p g = true) : PropOf K C f p g := by
  obtain ⟨h1, h⟩ := ba h
  obtain ⟨h2, h⟩ := ba h
  obtain ⟨h3, h4⟩ := ba h
  refine ⟨eqO_ok h1, eqO_ok h2, of_decide_eq_true h3, ?_⟩
  split at h4
  · rename_i q
    exact ⟨_, by rw [q, beq_iff_eq.mp h4]⟩
  · cases h4
/-- C.m, a classmethod, read off the class (its metaclass: type) -/
structure CmOf (K : PySem.W.Frag) (C : Addr) (m : Str) (p g : Addr) : Prop where
  rd : ClX.CRead K C (.type "type")
  me : ClX.CMet K C (.type "type") m p g
def cmB (K : PySem.W.Frag) (C : Addr) (m : Str) (p g : Addr) : Bool := PySem.W.readsIn K C (.type "type") && (eqO (PySem.W.specialIn K (.ref C) "__getattribute__") (some (some (.builtin "type.__getattribute__"))) && ((match PySem.W.findCls K (.ref C) (.type "type") m with
  | some (.get (.builtin i) (.ref p') .none (.ref C')) => i == "classmethod.__get__" && (p' == p && C' == C)
  | _ => false) && ((match PySem.W.recIn K p "classmethod" with
  | some (.ref g' :: _) => g' == g
  | _ => false) && PySem.W.fnIn K g)))
theorem cmB_ok {K : PySem.W.Frag} {C p g : Addr} {m : Str} (h : cmB K C m p g = true) : CmOf K C m p g := by
  obtain ⟨h1, h⟩ := ba h
  obtain ⟨h2, h⟩ := ba h
  obtain ⟨h3, h⟩ := ba h
  obtain ⟨h4, h5⟩ := ba h
  refine ⟨⟨h1, eqO_ok h2⟩, ⟨?_, ?_, h5⟩⟩
  · split at h3
    · rename_i q
      obtain ⟨a1, a2⟩ := ba h3
      obtain ⟨a2, a3⟩ := ba a2
      rw [q, beq_iff_eq.mp a1, beq_iff_eq.mp a2, beq_iff_eq.mp a3]
    · cases h3
  · split at h4
    · rename_i q
      exact ⟨_, by rw [q, beq_iff_eq.mp h4]⟩
    · cases h4
/-- an own error class over ValueError whose __init__ is the def at f -/
structure Err (K : PySem.W.Frag) (C f : Addr) : Prop where
  ox : OexC K C
  xf : XfC K C
  ec : ExcC K C
  ic : PySem.W.findIn K (.ref C) "__init__" = some (some (.ref f))
  it : PySem.W.typeIn K (.ref f) = some (.type "function")
  ms : PySem.W.mroIn K C (.ref C) = some true
  si : PySem.W.ks_superIn K C C "__init__" = some (some (.builtin "ValueError.__init__"))
def oexB (K : PySem.W.Frag) (C : Addr) : Bool := match K.lookup C with
  | some ⟨.type "type", _, .cls cd, sl⟩ => (match cd.mro, sl.toList with
    | .ref C' :: bm, [_, _, _, _, some (.builtin n), _] => C' == C && (n == "ValueError.__new__" && (!cd.hasDel && (cd.hasDict && PySem.HandSPX.refsVE bm)))
    | _, _ => false)
  | _ => false
theorem oexB_ok {K : PySem.W.Frag} {C : Addr} (h : oexB K C = true) : ∃ nm q N bs bm sn sub ab col dd k0 k1 k2 k3 k5, K.lookup C = some (excClassObj nm q C N bs bm true sn sub ab col dd k0 k1 k2 k3 k5 "ValueError.__new__") ∧ PySem.HandSPX.refsVE bm = true := by
  unfold oexB at h
  split at h
  · rename_i dd cd sl ho
    split at h
    · rename_i C' bm k0 k1 k2 k3 n k5 hm hs
      obtain ⟨h1, h⟩ := ba h
      obtain ⟨h2, h⟩ := ba h
      obtain ⟨h3, h⟩ := ba h
      obtain ⟨h4, h5⟩ := ba h
      obtain ⟨nm, bs, mro, ns, qn, hd, sn, sub, ab, col, del⟩ := cd
      dsimp only at hm h3 h4
      have h3 : del = false := by simpa using h3
      have e1 : C' = C := beq_iff_eq.mp h1
      have e2 : n = "ValueError.__new__" := beq_iff_eq.mp h2
      subst hm h3 h4 e1 e2
      have hsl : sl = #[k0, k1, k2, k3, some (.builtin "ValueError.__new__"), k5] := by
        obtain ⟨l⟩ := sl
        simp only at hs
        rw [hs]
      subst hsl
      exact ⟨nm, qn, ns, bs, bm, sn, sub, ab, col, dd, k0, k1, k2, k3, k5, ho, h5⟩
    · cases h
  · cases h
def excCB (K : PySem.W.Frag) (D : Addr) : Bool := xfB K D && (eqO (PySem.W.findIn K (.ref D) "__class__") (some (some (.builtin "object.__class__"))) && (eqO (PySem.W.specialIn K (.builtin "object.__class__") "__get__") (some (some (.builtin "getset_descriptor.__get__"))) && (decide (PySem.W.takesIn K (.builtin "object.__class__") = some true) && decide (PySem.W.mroIn K D (.type "object") = some true))))
theorem excCB_ok {K : PySem.W.Frag} {D : Addr} (h : excCB K D = true) : XfC K D ∧ ExcC K D := by
  obtain ⟨h1, h⟩ := ba h
  obtain ⟨h2, h⟩ := ba h
  obtain ⟨h3, h⟩ := ba h
  obtain ⟨h4, h5⟩ := ba h
  have x := xfB_ok h1
  exact ⟨x, ⟨x.ga, x.gg, x.exC, x.hdC, eqO_ok h2, eqO_ok h3, of_decide_eq_true h4, of_decide_eq_true h5⟩⟩
def errB (K : PySem.W.Frag) (C f : Addr) : Bool := oexB K C && (excCB K C && (eqO (PySem.W.findIn K (.ref C) "__setattr__") (some (some (.builtin "object.__setattr__"))) && (decide (PySem.W.typeIn K (.ref C) = some (.type "type")) && (PySem.W.keepIn K (.ref C) &&
  (eqO (PySem.W.findIn K (.ref C) "__init__") (some (some (.ref f))) && (decide (PySem.W.typeIn K (.ref f) = some (.type "function")) && (decide (PySem.W.mroIn K C (.ref C) = some true) && eqO (PySem.W.ks_superIn K C C "__init__") (some (some (.builtin "ValueError.__init__"))))))))))
theorem errB_ok {K : PySem.W.Frag} {C f : Addr} (h : errB K C f = true) : Err K C f := by
  obtain ⟨h1, h⟩ := ba h
  obtain ⟨h2, h⟩ := ba h
  obtain ⟨h3, h⟩ := ba h
  obtain ⟨h4, h⟩ := ba h
  obtain ⟨h5, h⟩ := ba h
  obtain ⟨h6, h⟩ := ba h
  obtain ⟨h7, h⟩ := ba h
  obtain ⟨h8, h9⟩ := ba h
  obtain ⟨x1, x2⟩ := excCB_ok h2
  exact ⟨⟨oexB_ok h1, eqO_ok h3, x2.hs, of_decide_eq_true h4, h5⟩, x1, x2, eqO_ok h6, of_decide_eq_true h7, of_decide_eq_true h8, eqO_ok h9⟩
def noB (K : PySem.W.Frag) (C : Addr) (f : Str) : Bool := eqO (PySem.W.findIn K (.ref C) f) (some none)
theorem noB_ok {K : PySem.W.Frag} {C : Addr} {f : Str} (h : noB K C f = true) : NoAttr K C f := eqO_ok h
end Lp
namespace Lp
open PySem PySem.Spec PyProof.Rows L2 He
/-! ### readings made monotone -/
def upE (t : TE) : TE := fun σ H Q => ∃ Q0 : VK, t σ H Q0 ∧ ∀ v H', Q0 v H' → Q v H'
def upA (t : TA) : TA := fun σ H Q => ∃ Q0 : List V → Hp → Prop, t σ H Q0 ∧ ∀ v H', Q0 v H' → Q v H'
theorem pe_up {X : Cx} {e : Expr} {t : TE} (h : PE X e t) : PE X e (upE t) := ⟨fun pins s σ H Q I ⟨Q0, h1, h2⟩ => thn (h.run pins s σ H Q0 I h1) fun u s' ⟨v, H', I', r, q⟩ => ⟨v, H', I', r, h2 v H' q⟩⟩
theorem pa_up {X : Cx} {es : List Expr} {t : TA} (h : PA X es t) : PA X es (upA t) := ⟨fun pos pins s σ H Q I ⟨Q0, h1, h2⟩ => thn (h.run pos pins s σ H Q0 I h1) fun us s' ⟨vs, H', I', r, q⟩ => ⟨vs, H', I', r, h2 vs H' q⟩⟩
/-! ### errors that keep one argument: __init__ says super().__init__(text) and self.f = f -/
def spErr1 (C : Addr) (f : Str) : Sp := fun vs H Q _ => ∃ a v, vs = [.ref a, v] ∧ H a = some (exo a C none) ∧ ∀ dx, H dx = none → dx ≠ a → Q .non (upd (upd H dx (exd dx [(f, v)])) a (exo a C (some dx)))
/-- the reading of such an __init__ -/
theorem err1_reads {K : PySem.W.Frag} {C fa : Addr} {f msg : Str} {vs : List V} {H : Hp} {Q : VK} {E : XK} (T : Err K C fa) (hno : NoAttr K C f) (h : spErr1 C f vs H Q E) :
    tSeq (tDrop (tSupX K C (tCons (tC (.str msg)) tNil))) (tOst K f (tVar 0) (tVar 1)) { nx := fun _ H' => Q .non H', rt := Q } (L2.start ["self", f] vs) H := by
  obtain ⟨a, v, rfl, ha, q⟩ := h
  exact ⟨a, C, rfl, ha, T.ms, T.si, T.ox, by show 1 ≤ 1000; decide, ha, v, rfl, _, rfl, a, C, rfl, T.ox, hno, .inl ⟨ha, fun dx hdx ne => q dx hdx ne⟩⟩
theorem err1_len {C : Addr} {f : Str} {vs : List V} {H : Hp} {Q : VK} {E : XK} (h : spErr1 C f vs H Q E) : vs.length = 2 := by
  obtain ⟨a, v, rfl, _⟩ := h
  rfl
/-- X(e), X such an error class, made to be raised -/
def tErr1 (C : Addr) (f : Str) (te : TE) : L2.St → Hp → XK → Prop := fun σ H Q => te σ H fun v H1 => ∀ (d : Addr) (H' : Hp), H1 d = none → H' d = some (.xd [(f, v)]) → (∀ b o, H1 b = some o → H' b = some o) → Q (.ref C) (some d) H'
theorem pmk_err1 {X : Cx} {C fI : Addr} {k : Nat} {fd : FuncData} {f x : Str} {e : Expr} {te : TE} {p pos : Pos} (T : Err X.K C fI) (F1 : FnOk X.prog X.w X.K X.mg X.base CX0 k fI fd ["self", f] (spErr1 C f)) (hr : Room (k + 1) X.A) (hb : Binds X.K fd ["self", f] []) (hg : Gl X x) (hm : X.mg x = some (.ref C))
    (he : PE X e te) (hdb : (x == ("__debug__" : Str)) = false := by decide) (hst : starEach [e] X.env = (false, eval e X.env) :: starEach [] X.env := by rfl) (hpl : (backTo pos (starEach [] X.env)).any (·.1) = false := by rfl) : PMk X (.Call (.Name x p) [e] [] pos) (tErr1 C f te) := by
  intro pins s σ H Q I h
  refine pmk_oex T.ox T.ic T.it F1 hr hb .nil pass0 hg hm (pa_up (pa_cons (pe_up he) pa_nil hst)) hdb hst hpl pins s σ H Q I ?_
  refine ⟨fun vs H1 => ∃ v, vs = [v] ∧ ∀ (d : Addr) (H' : Hp), H1 d = none → H' d = some (.xd [(f, v)]) → (∀ b o, H1 b = some o → H' b = some o) → Q (.ref C) (some d) H', ?_, ?_⟩
  · exact ⟨_, h, fun v H1 q => ⟨v, rfl, q⟩⟩
  · rintro vs H1 ⟨v, rfl, q⟩
    refine ⟨by show 1 ≤ 1000; decide, fun a na => ⟨a, v, rfl, upd_same, fun dx hdx ne => ⟨rfl, dx, [(f, v)], upd_same, by rw [upd_ne ne, upd_same], by rw [upd_ne ne] at hdx; exact hdx, ?_⟩⟩⟩
    rw [upd_ne ne] at hdx
    refine q dx _ hdx upd_same fun b o hb => ?_
    have n1 := ne_of_none hb hdx
    have n2 := ne_of_none hb na
    rw [upd_ne n1, del_ne n2, upd_ne n2, upd_ne n1, upd_ne n2]
    exact hb
end Lp
namespace Lp
open PySem PySem.Spec PyProof.Rows L2 He
/-! ### callees, each by one fact -/
section
variable (P : Program) (w : World) (K : PySem.W.Frag) (mg : Str → Option Value) (base : Heap) (CX : CXT) (k : Nat)
/-- the module's def x keeps sp -/
structure Cal (x : Str) (ps : List Str) (sp : Sp) : Prop where
  ex : ∃ (f : Addr) (fd : FuncData), mg x = some (.ref f) ∧ PySem.W.keepIn K (.ref f) = true ∧ Binds K fd ps [] ∧ FnOk P w K mg base CX k f fd ps sp
/-- the same where no repr is under way -/
structure CalG (x : Str) (ps : List Str) (sp : Sp) : Prop where
  ex : ∃ (f : Addr) (fd : FuncData), mg x = some (.ref f) ∧ PySem.W.keepIn K (.ref f) = true ∧ Binds K fd ps [] ∧ GOk P w K mg base CX k f fd ps sp
/-- the method m of the class at C -/
structure CalM (C : Addr) (m : Str) (ps : List Str) (sp : Sp) : Prop where
  ex : ∃ (f : Addr) (fd : FuncData), MethL K C m f ∧ Binds K fd ps [] ∧ FnOk P w K mg base CX k f fd ps sp
  cl : Own K C
/-- a property of the class at C -/
structure CalP (C : Addr) (m : Str) (sp : Sp) : Prop where
  ex : ∃ (p f : Addr) (fd : FuncData), PropOf K C m p f ∧ Binds K fd ["self"] [] ∧ FnOk P w K mg base CX k f fd ["self"] sp
  cl : Own K C
/-- a classmethod -/
structure CalCm (x : Str) (C : Addr) (m : Str) (ps : List Str) (sp : Sp) : Prop where
  ex : ∃ (p f : Addr) (fd : FuncData), CmOf K C m p f ∧ Binds K fd ps [] ∧ FnOk P w K mg base CX k f fd ps sp
  gl : mg x = some (.ref C)
/-- the class x at C, made by its __init__ -/
structure CalC (x : Str) (C : Addr) (ps : List Str) (sp : Sp) : Prop where
  ex : ∃ (f : Addr) (fd : FuncData), Mk K C f ∧ Binds K fd ps [] ∧ FnOk P w K mg base CX k f fd ps sp
  gl : mg x = some (.ref C)
/-- an error class of one field -/
structure CalE (x : Str) (C : Addr) (fld : Str) : Prop where
  ex : ∃ (f : Addr) (fd : FuncData), Err K C f ∧ Binds K fd ["self", fld] [] ∧ FnOk P w K mg base CX0 k f fd ["self", fld] (spErr1 C fld)
  gl : mg x = some (.ref C)
  no : NoAttr K C fld
end
section
variable {P : Program} {w : World} {K : PySem.W.Frag} {mg : Str → Option Value} {base : Heap} {CX : CXT} {j k : Nat} {x m : Str} {C : Addr} {ps : List Str} {sp : Sp}
theorem Cal.mono (c : Cal P w K mg base CX j x ps sp) (h : j ≤ k) : Cal P w K mg base CX k x ps sp := let ⟨f, fd, a, b, d, e⟩ := c.ex; ⟨f, fd, a, b, d, e.mono h⟩
theorem CalG.of (c : Cal P w K mg base CX k x ps sp) : CalG P w K mg base CX k x ps sp := let ⟨f, fd, a, b, d, e⟩ := c.ex; ⟨f, fd, a, b, d, .of e⟩
end
section
variable {X : Cx} {CX : CXT} {k : Nat} {C : Addr} {x m fld : Str} {ps : List Str} {sp : Sp} {E : XK} {p pos apos : Pos} {e o : Expr} {es : List Expr} {te ta tb : TE} {t : TA} {i : Nat} {pl : Sem Bool}
theorem pe_fn (c : Cal X.prog X.w X.K X.mg X.base CX k x ps sp) (hr : Room k X.A) (hx : Passes CX X E) (ha : PA X (e :: es) t) (hg : Gl X x := by rfl) (hdb : (x == ("__debug__" : Str)) = false := by decide)
    (he : starEach (e :: es) X.env = (false, eval e X.env) :: starEach es X.env := by rfl) (hpl : (backTo pos (starEach es X.env)).any (·.1) = false := by rfl) : PE X (.Call (.Name x p) (e :: es) [] pos) (tCall sp [] E t) := by
  obtain ⟨f, fd, h1, h2, h3, h4⟩ := c.ex
  exact pe_call h4 hr hg h1 h2 h3 .nil hx ha hdb he hpl
theorem pe_fn0 (c : Cal X.prog X.w X.K X.mg X.base CX k x ps sp) (hr : Room k X.A) (hx : Passes CX X E) (hg : Gl X x := by rfl) (hdb : (x == ("__debug__" : Str)) = false := by decide) : PE X (.Call (.Name x p) [] [] pos) (tCall sp [] E tNil) := by
  obtain ⟨f, fd, h1, h2, h3, h4⟩ := c.ex
  exact pe_call0 h4 hr hg h1 h2 h3 .nil hx hdb
theorem pe_fnG (c : CalG X.prog X.w X.K X.mg X.base CX k x ps sp) (hgu : X.A.guards = some []) (hr : Room k X.A) (hx : Passes CX X E) (ha : PA X (e :: es) t) (hg : Gl X x := by rfl) (hdb : (x == ("__debug__" : Str)) = false := by decide)
    (he : starEach (e :: es) X.env = (false, eval e X.env) :: starEach es X.env := by rfl) (hpl : (backTo pos (starEach es X.env)).any (·.1) = false := by rfl) : PE X (.Call (.Name x p) (e :: es) [] pos) (tCall sp [] E t) := by
  obtain ⟨f, fd, h1, h2, h3, h4⟩ := c.ex
  exact pe_callG h4 hgu hr hg h1 h2 h3 .nil hx ha hdb he hpl
theorem pe_mt (c : CalM X.prog X.w X.K X.mg X.base CX k C m ps sp) (hr : Room k X.A) (hx : Passes CX X E) (ho : PE X o ta) (ha : PA X (e :: es) t)
    (hst : starEach (e :: es) X.env = (false, eval e X.env) :: starEach es X.env := by rfl) (hpl : (backTo pos (starEach es X.env)).any (·.1) = false := by rfl)
    (ht : eval (.Call (.Attribute o m apos) (e :: es) [] pos) X.env = (do
      let ov ← eval o X.env
      standAt apos.atName
      let (f, first) ← holding [ov] (getMethod ov m pl)
      callWith pos f first (backTo pos (starEach (e :: es) X.env)) (backToKw pos (keywordEach [] X.env))) := by rfl) : PE X (.Call (.Attribute o m apos) (e :: es) [] pos) (tMeth C m sp [] E ta t) := by
  obtain ⟨f, fd, h1, h2, h3⟩ := c.ex
  exact pe_meth (pl := pl) ho c.cl.cl h1.me h3 hr h2 .nil hx ha hst hpl ht
theorem pe_mt0 (c : CalM X.prog X.w X.K X.mg X.base CX k C m ps sp) (hr : Room k X.A) (hx : Passes CX X E) (ho : PE X o ta)
    (ht : eval (.Call (.Attribute o m apos) [] [] pos) X.env = (do
      let ov ← eval o X.env
      standAt apos.atName
      let (f, first) ← holding [ov] (getMethod ov m pl)
      callWith pos f first (backTo pos (starEach [] X.env)) (backToKw pos (keywordEach [] X.env))) := by rfl) : PE X (.Call (.Attribute o m apos) [] [] pos) (tMeth C m sp [] E ta tNil) := by
  obtain ⟨f, fd, h1, h2, h3⟩ := c.ex
  exact pe_meth0 (pl := pl) ho c.cl.cl h1.me h3 hr h2 .nil hx ht
theorem pe_pr (c : CalP X.prog X.w X.K X.mg X.base CX k C m sp) (hr : Room (k + 1) X.A) (hx : Passes CX X.nox E) (ho : PE X o ta) (hb : attributeBase o m X.env (eval o X.env) = eval o X.env := by rfl) : PE X (.Attribute o m pos) (tProp C sp [] E ta) := by
  obtain ⟨p, f, fd, h1, h2, h3⟩ := c.ex
  exact pe_prop ho c.cl.cl h1 h3 hr h2 .nil hx hb
theorem fnR_of {P : Program} {w : World} {K : PySem.W.Frag} {mg : Str → Option Value} {base : Heap} {f : Addr} {fd : FuncData} (F : FnOk P w K mg base CX k f fd ps sp) (hb : Binds K fd ps []) : FnR P w K mg base CX k f sp :=
  (F.raw hb .nil).imp fun vs H Q E h => by
    show sp (vs ++ []) H Q E
    rw [List.append_nil]
    exact h
theorem pe_cm (c : CalCm X.prog X.w X.K X.mg X.base CX k x C m ps sp) (hr : Room k X.A) (hx : Passes CX X E) (ha : PA X (e :: es) t) (hg : Gl X x := by rfl) (hdb : (x == ("__debug__" : Str)) = false := by decide)
    (hst : starEach (e :: es) X.env = (false, eval e X.env) :: starEach es X.env := by rfl) (hpl : (backTo pos (starEach es X.env)).any (·.1) = false := by rfl)
    (ht : eval (.Call (.Attribute (.Name x p) m apos) (e :: es) [] pos) X.env = (do
      let ov ← eval (.Name x p) X.env
      standAt apos.atName
      let (f, first) ← holding [ov] (getMethod ov m pl)
      callWith pos f first (backTo pos (starEach (e :: es) X.env)) (backToKw pos (keywordEach [] X.env))) := by rfl) : PE X (.Call (.Attribute (.Name x p) m apos) (e :: es) [] pos) (ClX.tCMeth C sp E (tC (.ref C)) t) := by
  obtain ⟨q, f, fd, h1, h2, h3⟩ := c.ex
  exact ClX.pe_cmeth (pl := pl) (pe_glob hg c.gl rfl hdb) h1.rd h1.me (fnR_of h3 h2) hr hx ha hst hpl ht
theorem pe_mk (c : CalC X.prog X.w X.K X.mg X.base CX k x C ps sp) (hr : Room (k + 1) X.A) (hx : Passes CX X E) (ha : PA X (e :: es) t) (hg : Gl X x := by rfl) (hdb : (x == ("__debug__" : Str)) = false := by decide)
    (he : starEach (e :: es) X.env = (false, eval e X.env) :: starEach es X.env := by rfl) (hpl : (backTo pos (starEach es X.env)).any (·.1) = false := by rfl) : PE X (.Call (.Name x p) (e :: es) [] pos) (tMake C sp [] E t) := by
  obtain ⟨f, fd, h1, h2, h3⟩ := c.ex
  exact pe_make h1 h3 hr hg c.gl h2 .nil hx ha hdb he hpl
theorem pe_mk0 (c : CalC X.prog X.w X.K X.mg X.base CX k x C ps sp) (hr : Room (k + 1) X.A) (hx : Passes CX X E) (hg : Gl X x := by rfl) (hdb : (x == ("__debug__" : Str)) = false := by decide) : PE X (.Call (.Name x p) [] [] pos) (tMake C sp [] E tNil) := by
  obtain ⟨f, fd, h1, h2, h3⟩ := c.ex
  exact pe_make0 h1 h3 hr hg c.gl h2 .nil hx hdb
theorem pe_mkL {y : Str} (c : CalC X.prog X.w X.K X.mg X.base CX k y C ps sp) (hr : Room (k + 1) X.A) (hx : Passes CX X E) (hv : PE X (.Name x p) (tVar i)) (ha : PA X (e :: es) t)
    (he : starEach (e :: es) X.env = (false, eval e X.env) :: starEach es X.env := by rfl) (hpl : (backTo pos (starEach es X.env)).any (·.1) = false := by rfl) : PE X (.Call (.Name x p) (e :: es) [] pos) (tMakeL i C sp [] E t) := by
  obtain ⟨f, fd, h1, h2, h3⟩ := c.ex
  exact pe_makeL h1 h3 hr hv h2 .nil hx ha he hpl
theorem pmk_er (c : CalE X.prog X.w X.K X.mg X.base k x C fld) (hr : Room (k + 1) X.A) (he : PE X e te) (hg : Gl X x := by rfl) (hdb : (x == ("__debug__" : Str)) = false := by decide) (hst : starEach [e] X.env = (false, eval e X.env) :: starEach [] X.env := by rfl)
    (hpl : (backTo pos (starEach [] X.env)).any (·.1) = false := by rfl) : PMk X (.Call (.Name x p) [e] [] pos) (tErr1 C fld te) := by
  obtain ⟨f, fd, h1, h2, h3⟩ := c.ex
  exact pmk_err1 h1 h3 hr h2 hg c.gl he hdb hst hpl
/-- len(o), o[e], o == y, o != y by the class's own defs -/
theorem call_lenM (c : CalM X.prog X.w X.K X.mg X.base CX k C "__len__" ps sp) (hr : Room (k + 1) X.A) (hx : Passes CX X E) : CallR X (.builtin "len") (rLenO C sp E) := by
  obtain ⟨f, fd, h1, h2, h3⟩ := c.ex
  exact call_lenO h1.me.at_ h1.me.fn (fnR_of h3 h2) hr hx
theorem pe_ixM (c : CalM X.prog X.w X.K X.mg X.base CX k C "__getitem__" ps sp) (hr : Room (k + 1) X.A) (hx : Passes CX X E) (ho : PE X o ta) (he : PE X e tb)
    (hsl : ∀ x i, subscripted e true (.ref x) i = runValue (.builtin "lifetime.subscript" ⟨[.ref x, i], []⟩) := by intro _ _; with_unfolding_all rfl) : PE X (.Subscript o e pos) (tOp (rIxO C sp E) ta tb) := by
  obtain ⟨f, fd, h1, h2, h3⟩ := c.ex
  exact pe_ixO h1.me.at_ h1.fi h1.me.fn (fnR_of h3 h2) hr hx ho he hsl
theorem op_eqM (c : CalM X.prog X.w X.K X.mg X.base CX k C "__eq__" ps sp) (hr : Room k X.A) (hx : Passes CX X E) : OpR X (compareOp .Eq) (rEqO X.K C sp E) := by
  obtain ⟨f, fd, h1, h2, h3⟩ := c.ex
  exact op_eqO h1.me.at_ h1.me.fn (fnR_of h3 h2) hr hx
theorem op_neM (c : CalM X.prog X.w X.K X.mg X.base CX k C "__eq__" ps sp) (hr : Room (k + 1) X.A) (hx : Passes CX X E) : OpR X (compareOp .NotEq) (rNeO X.K C sp E) := by
  obtain ⟨f, fd, h1, h2, h3⟩ := c.ex
  exact op_neO h1.me.at_ c.cl.ne c.cl.hm h1.me.fn (fnR_of h3 h2) hr hx
end
/-! ### defs that let nothing out: their bodies may loop -/
section
variable {P : Program} {w : World} {K : PySem.W.Frag} {mg : Str → Option Value} {base : Heap} {x qual : Str} {params : Arguments} {body : List Stmt} {scope : Scope} {dvs : List V} {kws : List (Str × V)} {f : Addr} {fd : FuncData} {N ps : List Str} {k : Nat} {sp : Sp}
theorem okN (F : FunD K x qual params body scope dvs kws f fd) (S : FnScope N ps scope) (len : ∀ vs H Q E, sp vs H Q E → vs.length = ps.length)
    (hbody : ∀ (cdv : Value) (A : Around) (outer : List Env) (s : Shared) (H : Hp) (vs : List V) (Q : VK) (E : XK), Room k (A.deeper (envOfC qual scope s.heap.objs.size f cdv)) → sp vs H Q E →
      ∃ t, PSs (cxOf CX0 P w K mg base N qual scope f cdv A outer s H E).nox body t ∧ t { nx := fun _ H' => Q .non H', rt := Q } (L2.start N vs) H) : FnOk P w K mg base CX0 (k + 1) f fd ps sp :=
  F.ok S len fun cdv A outer s H vs Q E hr h => let ⟨t, a, b⟩ := hbody cdv A outer s H vs Q E hr h; ⟨t, a.nox, b⟩
theorem okGN (F : FunD K x qual params body scope dvs kws f fd) (S : FnScope N ps scope) (len : ∀ vs H Q E, sp vs H Q E → vs.length = ps.length)
    (hbody : ∀ (cdv : Value) (A : Around) (outer : List Env) (s : Shared) (H : Hp) (vs : List V) (Q : VK) (E : XK), (cxOf CX0 P w K mg base N qual scope f cdv A outer s H E).A.guards = some [] → Room k (A.deeper (envOfC qual scope s.heap.objs.size f cdv)) → sp vs H Q E →
      ∃ t, PSs (cxOf CX0 P w K mg base N qual scope f cdv A outer s H E).nox body t ∧ t { nx := fun _ H' => Q .non H', rt := Q } (L2.start N vs) H) : GOk P w K mg base CX0 (k + 1) f fd ps sp :=
  funD_okG F S len fun cdv A outer s H vs Q E hg hr h => let ⟨t, a, b⟩ := hbody cdv A outer s H vs Q E hg hr h; ⟨t, a.nox, b⟩
end
/-! ### what was tracked stays, but at S -/
def Kp (S : List Addr) (H H' : Hp) : Prop := ∀ b o, b ∉ S → H b = some o → H' b = some o
theorem Kp.refl {S : List Addr} (H : Hp) : Kp S H H := fun _ _ _ h => h
theorem Kp.trans {S : List Addr} {H H1 H2 : Hp} (a : Kp S H H1) (b : Kp S H1 H2) : Kp S H H2 := fun c o n h => b c o n (a c o n h)
theorem Kp.new {S : List Addr} {H : Hp} {p : Addr} {o : HO} (h : H p = none) : Kp S H (upd H p o) := fun b u _ e => by rw [upd_ne (ne_of_none e h)]; exact e
theorem Kp.put {S : List Addr} {H : Hp} {p : Addr} {o : HO} (h : p ∈ S) : Kp S H (upd H p o) := fun b u n e => by rw [upd_ne (fun z : b = p => n (by rw [z]; exact h))]; exact e
theorem Kp.mono {S S' : List Addr} {H H' : Hp} (a : Kp S H H') (h : ∀ b ∈ S, b ∈ S') : Kp S' H H' := fun b o n e => a b o (fun z => n (h b z)) e
theorem Kp.of {H H' : Hp} (S : List Addr) (a : Same H H') : Kp S H H' := fun b o _ e => a b o e
theorem Kp.same {H H' : Hp} (a : Kp [] H H') : Same H H' := fun b o e => a b o (fun z => nomatch z) e
theorem Kp.free {S : List Addr} {H H' : Hp} (a : Kp S H H') {l : Addr} (hl : l ∉ S) (h : H' l = Option.none) : H l = Option.none := by
  cases q : H l with
  | none => rfl
  | some o =>
    rw [a l o hl q] at h
    cases h
/-- what is changed was not there before -/
theorem Kp.fresh {S : List Addr} {H H1 H2 : Hp} {b : Addr} (a : Kp S H H1) (f : H b = none) (c : Kp (b :: S) H1 H2) : Kp S H H2 := fun d o n e => c d o (fun z => by
  rcases List.mem_cons.mp z with rfl | z
  · rw [f] at e; cases e
  · exact n z) (a d o n e)
theorem Kp.seqL {K : PySem.W.Frag} {S : List Addr} {H H' : Hp} {a : Addr} {xs : List V} (k : Kp S H H') (n : a ∉ S) (h : SqL K H a xs) : SqL K H' a xs := by
  rcases h with (h | ⟨o, h⟩) | h
  · exact .inl (.inl (k _ _ n h))
  · exact .inl (.inr ⟨o, k _ _ n h⟩)
  · exact .inr h
theorem Kp.seqT {K : PySem.W.Frag} {S : List Addr} {H H' : Hp} {a : Addr} {xs : List V} (k : Kp S H H') (n : a ∉ S) (h : SqT K H a xs) : SqT K H' a xs := by
  rcases h with (h | ⟨o, h⟩) | h
  · exact .inl (.inl (k _ _ n h))
  · exact .inl (.inr ⟨o, k _ _ n h⟩)
  · exact .inr h
end Lp
namespace Lp
open PySem PySem.Spec PyProof.Rows L2 He
/-! ### readings by what is known of the heap behind, not by its term -/
section
variable {X : Cx} {e : Expr} {st : Stmt} {t t' : TE} {s s' : TS}
theorem pe_imp (h : PE X e t) (i : ∀ σ H Q, t' σ H Q → t σ H Q) : PE X e t' := ⟨fun pins sh σ H Q I q => h.run pins sh σ H Q I (i σ H Q q)⟩
theorem ps_imp (h : PS X st s) (i : ∀ D σ H, s' D σ H → s D σ H) : PS X st s' := ⟨fun pins sh σ H D I q => h.run pins sh σ H D I (i D σ H q)⟩
theorem op_imp {f : Value → Value → Sem Value} {r r' : R2} (h : OpR X f r) (i : ∀ x y H Q, r' x y H Q → r x y H Q) : OpR X f r' := fun pins s σ H x y v u Q I rx ry q => h pins s σ H x y v u Q I rx ry (i x y H Q q)
theorem call_imp {f : Value} {r r' : List V → Hp → VK → Prop} (h : CallR X f r) (i : ∀ xs H Q, r' xs H Q → r xs H Q) : CallR X f r' := fun pins s σ H xs us Q I rx q => h pins s σ H xs us Q I rx (i xs H Q q)
theorem mt_imp {id : String} {r r' : V → List V → Hp → VK → Prop} (h : MtR X id r) (i : ∀ x xs H Q, r' x xs H Q → r x xs H Q) : MtR X id r' := fun pins s σ H x xs v us Q I rx rs q => h pins s σ H x xs v us Q I rx rs (i x xs H Q q)
theorem sl_imp {r r' : V → Option Int → Option Int → Hp → VK → Prop} (h : SlR X r) (i : ∀ x lo hi H Q, r' x lo hi H Q → r x lo hi H Q) : SlR X r' := fun pins s σ H x v vl vu lo hi sl Q I rx hs pl pu q => h pins s σ H x v vl vu lo hi sl Q I rx hs pl pu (i x lo hi H Q q)
end
/-- a statement behind which one thing, R, is known, whatever way was gone -/
def upS (t : TS) : TS := fun D σ H => ∃ R : L2.St → Hp → Prop, t { D with nx := R } σ H ∧ ∀ σ' H', R σ' H' → D.nx σ' H'
theorem ps_cut {X : Cx} {st : Stmt} {t : TS} (h : PS X st t) : PS X st (upS t) := ⟨fun pins s σ H D I ⟨R, h1, h2⟩ => thn (h.run pins s σ H _ I h1) fun fl s' q => by
  cases fl with
  | next => exact let ⟨σ', H', I', r⟩ := q; ⟨σ', H', I', h2 σ' H' r⟩
  | brk => exact q
  | cont => exact q
  | ret u => exact q⟩
/-- a new object o: its address, the heap behind -/
abbrev Nw (H : Hp) (o : HO) (Q : VK) : Prop := ∀ (p : Addr) (H' : Hp), H p = none → Same H H' → H' p = some o → Q (.ref p) H'
theorem nw_of {H : Hp} {o : HO} {Q : VK} (h : Nw H o Q) : ∀ p, H p = none → Q (.ref p) (upd H p o) := fun p hp => h p _ hp (fun b u e => by rw [upd_ne (ne_of_none e hp)]; exact e) upd_same
/-- the object at p is now o -/
abbrev Ch (H : Hp) (p : Addr) (o : HO) (R : Hp → Prop) : Prop := ∀ H' : Hp, Kp [p] H H' → H' p = some o → R H'
theorem ch_of {H : Hp} {p : Addr} {o : HO} {R : Hp → Prop} (h : Ch H p o R) : R (upd H p o) := h _ (Kp.put (List.mem_cons_self ..)) upd_same
section
variable {X : Cx} {e o : Expr} {es : List Expr} {t : TA} {ta te tl th : TE} {pos apos : Pos} {f : Str}
def tLstN (t : TA) : TE := fun σ H Q => t σ H fun xs H1 => xs.length ≤ sizeLine ∧ Nw H1 (.lst xs) Q
def tTupN (t : TA) : TE := fun σ H Q => t σ H fun xs H1 => xs.length ≤ sizeLine ∧ Nw H1 (.tup xs) Q
theorem pe_lstN (h : PA X es t) : PE X (.List es pos) (tLstN t) := pe_imp (pe_lst (pa_up h)) fun σ H Q q => ⟨_, q, fun xs H1 ⟨a, b⟩ => ⟨a, nw_of b⟩⟩
theorem pe_tupN {x1} (h : PA X es t) : PE X (.Tuple es x1 pos) (tTupN t) := pe_imp (pe_tup (pa_up h)) fun σ H Q q => ⟨_, q, fun xs H1 ⟨a, b⟩ => ⟨a, nw_of b⟩⟩
/-- o.f = e -/
def sFldN (K : PySem.W.Frag) (ta tv : TE) (f : Str) : TS := fun D σ H => tv σ H fun y H1 => ta σ H1 fun x H2 => ∃ a C dx fs, x = .ref a ∧ H2 a = some (.ins C dx fs) ∧ Cls K C ∧ NoAttr K C f ∧ fs.length < 1000 ∧ Ch H2 a (.ins C dx (putF f y fs)) (D.nx σ)
theorem ps_fldN (ho : PE X o ta) (hv : PE X e te) (hs : swapsWith e (some (.Attribute o f apos)) pos.line X.env = pure false := by rfl) : PS X (.Assign [.Attribute o f apos] e pos) (sFldN X.K ta te f) :=
  ps_imp (ps_fld (pe_up ho) (pe_up hv) hs) fun D σ H q => ⟨_, q, fun y H1 q1 => ⟨_, q1, fun x H2 ⟨a, C, dx, fs, e1, e2, e3, e4, e5, e6⟩ => ⟨a, C, dx, fs, e1, e2, e3, e4, e5, ch_of e6⟩⟩⟩
/-- xs * k, xs + ys (lists) -/
def rRepN : R2 := fun x y H Q => ∃ l k xs, x = .ref l ∧ y = .int k ∧ H l = some (.lst xs) ∧ -(2 ^ 63) ≤ k ∧ k < 2 ^ 63 ∧ xs.length * k.toNat ≤ sizeLine ∧ Nw H (.lst (List.replicate k.toNat xs).flatten) Q
theorem op_repN : OpR X (binaryOp .Mult) rRepN := op_imp op_rep fun x y H Q ⟨l, k, xs, e1, e2, e3, e4, e5, e6, e7⟩ => ⟨l, k, xs, e1, e2, e3, e4, e5, e6, nw_of e7⟩
def rCatN : R2 := fun x y H Q => ∃ l b xs zs, x = .ref l ∧ y = .ref b ∧ H l = some (.lst xs) ∧ H b = some (.lst zs) ∧ xs.length + zs.length ≤ sizeLine ∧ Nw H (.lst (xs ++ zs)) Q
theorem op_catN : OpR X (binaryOp .Add) rCatN := op_imp op_cat fun x y H Q ⟨l, k, xs, zs, e1, e2, e3, e4, e5, e6⟩ => ⟨l, k, xs, zs, e1, e2, e3, e4, e5, nw_of e6⟩
/-- t + u (tuples, neither empty) -/
def rCatTN (K : PySem.W.Frag) : R2 := fun x y H Q => ∃ a b xs ys, x = .ref a ∧ y = .ref b ∧ SqT K H a xs ∧ SqT K H b ys ∧ xs ≠ [] ∧ ys ≠ [] ∧ xs.length + ys.length ≤ sizeLine ∧ Nw H (.tup (xs ++ ys)) Q
theorem op_catTN : OpR X (binaryOp .Add) (rCatTN X.K) := op_imp op_catT fun x y H Q ⟨a, b, xs, ys, e1, e2, e3, e4, e5, e6, e7, e8⟩ => ⟨a, b, xs, ys, e1, e2, e3, e4, e5, e7, fun z => absurd z e6, fun _ => nw_of e8⟩
/-- list(x), tuple(x) of a list or a tuple -/
def rListN (K : PySem.W.Frag) : List V → Hp → VK → Prop := fun xs H Q => ∃ p ys, xs = [.ref p] ∧ (SqL K H p ys ∨ SqT K H p ys) ∧ Nw H (.lst ys) Q
theorem call_listN : CallR X (.type "list") (rListN X.K) := call_imp call_list_of fun xs H Q ⟨p, ys, e1, e2, e3⟩ => ⟨p, ys, e1, e2, nw_of e3⟩
def rTupleN (K : PySem.W.Frag) : List V → Hp → VK → Prop := fun xs H Q => ∃ p ys, xs = [.ref p] ∧ ((SqL K H p ys ∧ Nw H (.tup ys) Q) ∨ (SqT K H p ys ∧ Q (.ref p) H))
theorem call_tupleN : CallR X (.type "tuple") (rTupleN X.K) := call_imp call_tuple_of fun xs H Q ⟨p, ys, e1, e2⟩ => ⟨p, ys, e1, e2.imp (fun ⟨a, b⟩ => ⟨a, nw_of b⟩) id⟩
/-- xs.append(y), xs.clear(), xs.extend(ys), xs.pop(), xs.pop(i) -/
def rAppendN : V → List V → Hp → VK → Prop := fun x vs H Q => ∃ l xs y, x = .ref l ∧ vs = [y] ∧ H l = some (.lst xs) ∧ xs.length < sizeLine ∧ Ch H l (.lst (xs ++ [y])) (Q .non)
theorem mt_appendN : MtR X "list.append" rAppendN := mt_imp mt_append fun x xs H Q ⟨l, ys, y, e1, e2, e3, e4, e5⟩ => ⟨l, ys, y, e1, e2, e3, e4, ch_of (R := Q .non) e5⟩
def rClearN : V → List V → Hp → VK → Prop := fun x vs H Q => ∃ l xs, x = .ref l ∧ vs = [] ∧ H l = some (.lst xs) ∧ Ch H l (.lst []) (Q .non)
theorem mt_clearN : MtR X "list.clear" rClearN := mt_imp mt_clear fun x xs H Q ⟨l, ys, e1, e2, e3, e4⟩ => ⟨l, ys, e1, e2, e3, ch_of (R := Q .non) e4⟩
/-- xs[lo:hi] of a list -/
def rSlLN (K : PySem.W.Frag) : V → Option Int → Option Int → Hp → VK → Prop := fun x lo hi H Q => ∃ a xs, x = .ref a ∧ SqL K H a xs ∧ Nw H (.lst (cutV xs lo hi)) Q
theorem sl_listN : SlR X (rSlLN X.K) := sl_imp sl_list fun x lo hi H Q ⟨a, xs, e1, e2, e3⟩ => ⟨a, xs, e1, e2, nw_of e3⟩
/-- o[lo:hi] = e -/
def sSliceN (to tl th te : TE) : TS := fun D σ H => te σ H fun y H1 => to σ H1 fun x H2 => tl σ H2 fun l H3 => th σ H3 fun h H4 => ∃ (p q : Addr) (xs ys : List V) (a c : Int), x = .ref p ∧ y = .ref q ∧ l = .int a ∧ h = .int c ∧ H4 p = some (.lst xs) ∧ H4 q = some (.lst ys) ∧ p ≠ q ∧
  0 ≤ a ∧ a ≤ c ∧ c ≤ xs.length ∧ xs.length + ys.length ≤ sizeLine ∧ Ch H4 p (.lst (xs.take a.toNat ++ ys ++ xs.drop c.toNat)) (D.nx σ)
theorem ps_sliceN {lo hi : Expr} {p2 : Pos} (ho : PE X o ta) (hl : PE X lo tl) (hh : PE X hi th) (he : PE X e te) (hs : swapsWithSole [.Subscript o (.Slice (some lo) (some hi) none p2) apos] e pos.line X.env = pure false := by rfl)
    (hw : swappedStores [.Subscript o (.Slice (some lo) (some hi) none p2) apos] e X.env = pure none := by rfl)
    (hi' : interactive X.env = false := by rfl)
    (hx : ∀ v, assign (.Subscript o (.Slice (some lo) (some hi) none p2) apos) X.env v = (do
      let ov ← holding [v] (eval o X.env)
      let iv ← holding [v, ov] (eval (.Slice (some lo) (some hi) none p2) X.env)
      standAt apos
      holding [v, ov, iv] (setItem ov iv v)
      release [iv, v, ov] []) := by intro _; rfl) : PS X (.Assign [.Subscript o (.Slice (some lo) (some hi) none p2) apos] e pos) (sSliceN ta tl th te) :=
  ps_imp (ps_slice (pe_up ho) (pe_up hl) (pe_up hh) (pe_up he) hs hw hi' hx) fun D σ H q => ⟨_, q, fun y H1 q1 => ⟨_, q1, fun x H2 q2 => ⟨_, q2, fun l H3 q3 => ⟨_, q3, fun h H4 ⟨p, r, xs, ys, a, c, e1, e2, e3, e4, e5, e6, e7, e8, e9, e10, e11, e12⟩ =>
    ⟨p, r, xs, ys, a, c, e1, e2, e3, e4, e5, e6, e7, e8, e9, e10, e11, ch_of e12⟩⟩⟩⟩⟩
/-- xs[i] = e -/
def tSetN : TSet := fun o i y H R => ∃ (l : Addr) (xs : List V) (k : Int) (j : Nat), o = .ref l ∧ i = .int k ∧ H l = some (.lst xs) ∧ ixN xs.length k = some j ∧ Ch H l (.lst (xs.set j y)) R
end
theorem set_listN {X : Cx} : PSet X tSetN := fun pins s σ H o i v ov iv u Q I ro ri rv ⟨l, xs, k, j, e1, e2, e3, e4, e5⟩ => set_list pins s σ H o i v ov iv u Q I ro ri rv ⟨l, xs, k, j, e1, e2, e3, e4, ch_of (R := Q) e5⟩
/-! ### t * k, of a short tuple -/
def rRepTN (K : PySem.W.Frag) : R2 := fun x y H Q => ∃ l k xs, x = .ref l ∧ y = .int k ∧ SqT K H l xs ∧ xs ≠ [] ∧ 2 ≤ k ∧ k ≤ 10000 ∧ xs.length ≤ 100 ∧ Nw H (.tup (List.replicate k.toNat xs).flatten) Q
section
variable {X : Cx}
theorem op_repTN : OpR X (binaryOp .Mult) (rRepTN X.K) := by
  intro pins s σ H x y v u Q I rx ry h
  obtain ⟨l, k, xs, rfl, rfl, hT, hne, h1, h2, hz, q⟩ := h
  cases rx
  obtain ⟨t, rfl⟩ := ry
  obtain ⟨its, r, ⟨⟨cls, dd, data, sl⟩, ho, hc, n, hd⟩, hs⟩ := I.tuple hT
  simp only at hc hd
  subst hc hd
  have hle : its.length = xs.length := r.length.symm
  have hi : its.toArray.isEmpty = false := by
    cases its with
    | nil => exact absurd (List.eq_nil_of_length_eq_zero hle.symm) hne
    | cons a b => rfl
  have hm : ((its.toArray.size : Nat) : Int) * k ≤ 1000000 := by
    rw [List.size_toArray, hle]
    have a1 : ((xs.length : Nat) : Int) * k ≤ 100 * k := Int.mul_le_mul_of_nonneg_right (by omega) (by omega)
    omega
  have m1 : k.toNat * xs.length ≤ 10000 * 100 := Nat.mul_le_mul (by omega) hz
  have flen : (List.replicate k.toNat its).flatten.length ≤ sizeLine := by
    rw [PyProof.Rows.lm_len_rep_flat, hle, sizeLine_eq]
    omega
  have c0 : (decide (k < -(2 ^ 63)) || decide (k ≥ 2 ^ 63)) = false := by
    rw [decide_eq_false (by omega), decide_eq_false (by omega)] <;> rfl
  have c1 : (its.toArray.isEmpty || k == 1) = false := by
    rw [hi, Bool.false_or]
    exact beq_eq_false_iff_ne.mpr (by omega)
  have c2 : (decide (k ≤ 0) || its.toArray.isEmpty) = false := by
    rw [hi, Bool.or_false]
    exact decide_eq_false (by omega)
  have c4 : Builtin.Tuple.tupleTooMany (((its.toArray.size : Nat) : Int) * k) = false := by
    unfold Builtin.Tuple.tupleTooMany
    rw [sizeLine_eq]
    exact decide_eq_false (by omega)
  refine wpAny_binaryOp_repeat_ref (T := "tuple") (U := "int") (by decide) ⟨_, ho, rfl⟩ (fun s' => typeIs_int s' k t) noFill_tuple_mul F.fills_int_mul F.slot_int_rmul repeat_tuple F.slot_int_index.lookup
    (call_meets F.slot_int_rmul (typeIs_int s k t) F.entry_int_rmul (F.args_int_rmul_2 _ _) (int_rmul_tuple k t l its.toArray n dd sl)
      ⟨ho, rfl, ⟨_, ho, rfl⟩, call_meets F.slot_tuple_mul ⟨_, ho, rfl⟩ F.entry_tuple_mul (F.args_tuple_mul_2 _ _) (tuple_mulW l its.toArray n dd sl k t c0 c1 c2 (by omega) c4 (by rw [size_rep, List.size_toArray]; exact flen)) ⟨ho, ?_⟩⟩)
  rw [size_rep]
  refine ⟨.ref s.heap.objs.size, _, I.laid (t' := s.toks) (o := .tup (List.replicate k.toNat xs).flatten) (fun b ob q => Heap.get?_push_of_some _ q) (Nat.le_refl _) ?_, rfl, nw_of q _ (I.hok.fresh (Nat.le_refl _))⟩
  exact ⟨by rw [PyProof.Rows.lm_len_rep_flat, sizeLine_eq]; omega, _, r.rep k.toNat, IsTup.new _ _⟩
end
/-! ### a new instance -/
section
variable {X : Cx} {CX : CXT} {k : Nat} {C : Addr} {x : Str} {ps : List Str} {sp : Sp} {E : XK} {p pos : Pos} {e : Expr} {es : List Expr} {t : TA} {i : Nat}
/-- C(e, ..): a new instance at x, then __init__; dx, its dict, is of no interest but as an address -/
def tMakeN (C : Addr) (sp : Sp) (E : XK) (t : TA) : TE := fun σ H Q => t σ H fun vs H1 => ∀ (x dx : Addr) (H2 : Hp), H1 x = none → H1 dx = none → dx ≠ x → Same H1 H2 → H2 dx = some (.own x) → H2 x = some (.ins C dx []) →
  sp (.ref x :: vs) H2 (fun v H3 => v = .non ∧ Q (.ref x) H3) E
theorem mk_of' {sp : Sp} {E : XK} {vs : List V} {H1 : Hp} {Q : VK} (h : ∀ (x dx : Addr) (H2 : Hp), H1 x = none → H1 dx = none → dx ≠ x → Same H1 H2 → H2 dx = some (.own x) → H2 x = some (.ins C dx []) → sp (.ref x :: vs) H2 (fun v H3 => v = .non ∧ Q (.ref x) H3) E) :
    ∀ x dx, H1 x = none → H1 dx = none → dx ≠ x → sp (.ref x :: (vs ++ [])) (upd (upd H1 dx (.own x)) x (.ins C dx [])) (fun v H2 => v = .non ∧ Q (.ref x) H2) E := fun x dx hx hd ne => by
  rw [List.append_nil]
  exact h x dx _ hx hd ne (fun b o e => by rw [upd_ne (ne_of_none e hx), upd_ne (ne_of_none e hd)]; exact e) (by rw [upd_ne ne, upd_same]) upd_same
theorem pe_mkN (c : CalC X.prog X.w X.K X.mg X.base CX k x C ps sp) (hr : Room (k + 1) X.A) (hx : Passes CX X E) (ha : PA X (e :: es) t) (hg : Gl X x := by rfl) (hdb : (x == ("__debug__" : Str)) = false := by decide)
    (he : starEach (e :: es) X.env = (false, eval e X.env) :: starEach es X.env := by rfl) (hpl : (backTo pos (starEach es X.env)).any (·.1) = false := by rfl) : PE X (.Call (.Name x p) (e :: es) [] pos) (tMakeN C sp E t) :=
  pe_imp (pe_mk c hr hx (pa_up ha) hg hdb he hpl) fun σ H Q q => ⟨_, q, fun vs H1 h => mk_of' h⟩
theorem pe_mkN0 (c : CalC X.prog X.w X.K X.mg X.base CX k x C ps sp) (hr : Room (k + 1) X.A) (hx : Passes CX X E) (hg : Gl X x := by rfl) (hdb : (x == ("__debug__" : Str)) = false := by decide) : PE X (.Call (.Name x p) [] [] pos) (tMakeN C sp E tNil) :=
  pe_imp (pe_mk0 c hr hx hg hdb) fun σ H Q q => mk_of' q
def tMakeLN (i : Nat) (C : Addr) (sp : Sp) (E : XK) (t : TA) : TE := fun σ H Q => σ[i]? = some (some (.ref C)) ∧ tMakeN C sp E t σ H Q
theorem pe_mkLN {y : Str} (c : CalC X.prog X.w X.K X.mg X.base CX k y C ps sp) (hr : Room (k + 1) X.A) (hx : Passes CX X E) (hv : PE X (.Name x p) (tVar i)) (ha : PA X (e :: es) t)
    (he : starEach (e :: es) X.env = (false, eval e X.env) :: starEach es X.env := by rfl) (hpl : (backTo pos (starEach es X.env)).any (·.1) = false := by rfl) : PE X (.Call (.Name x p) (e :: es) [] pos) (tMakeLN i C sp E t) :=
  pe_imp (pe_mkL c hr hx hv (pa_up ha) he hpl) fun σ H Q ⟨h, q⟩ => ⟨h, _, q, fun vs H1 h => mk_of' h⟩
end
end Lp
namespace Lp
open PySem PySem.Spec PyProof.Rows L2 He
/-! ### data made of ints: what is equal, what it looks like in the heap -/
abbrev Ints (ns : List Int) : List V := ns.map V.int
abbrev dI (ns : List Int) : List PyData := ns.map PyData.int
theorem dpAll_ints {K : PySem.W.Frag} {H : Hp} : ∀ ns : List Int, DpAll K H (Ints ns) (dI ns)
  | [] => .nil
  | n :: ns => .cons (.int n) (dpAll_ints ns)
theorem dpAll_of {K : PySem.W.Frag} {H : Hp} {α : Type} {R : V → α → Prop} {d : α → PyData} (h : ∀ v x, R v x → Dp K H v (d x)) : ∀ {vs : List V} {xs : List α}, Paired R vs xs → DpAll K H vs (xs.map d)
  | _, _, .nil => .nil
  | _, _, .cons r t => .cons (h _ _ r) (dpAll_of h t)
theorem eqvAll_map {α : Type} [DecidableEq α] {d : α → PyData} (h : ∀ x y, PyData.eqv (d x) (d y) = decide (x = y)) : ∀ xs ys : List α, PyData.eqvAll (xs.map d) (ys.map d) = decide (xs = ys)
  | [], [] => by simp [PyData.eqvAll]
  | [], y :: ys => by simp [PyData.eqvAll]
  | x :: xs, [] => by simp [PyData.eqvAll]
  | x :: xs, y :: ys => by
    have ih := eqvAll_map h xs ys
    simp only [List.map_cons, PyData.eqvAll, h, ih, List.cons.injEq]
    by_cases e1 : x = y <;> by_cases e2 : xs = ys <;> simp [e1, e2]
theorem eqv_int (a b : Int) : PyData.eqv (.int a) (.int b) = decide (a = b) := by
  simp [PyData.eqv, BEq.beq]
theorem canLayAll_map {α : Type} {d : α → PyData} (h : ∀ x, (d x).canLay0 = true) : ∀ xs : List α, PyData.canLayAll0 (xs.map d) = true
  | [] => rfl
  | x :: xs => by simp [PyData.canLayAll0, h, canLayAll_map h xs]
theorem showAll_map {α : Type} {d : α → PyData} {xs : List α} (h : ∀ x ∈ xs, (d x).showable = true) : PyData.showableAll (xs.map d) = true := by
  induction xs with
  | nil => rfl
  | cons x xs ih => simp [PyData.showableAll, h x (List.mem_cons_self ..), ih fun y hy => h y (List.mem_cons_of_mem _ hy)]
theorem depthAll_map {α : Type} {d : α → PyData} {n : Nat} (h : ∀ x, (d x).depth ≤ n) : ∀ xs : List α, PyData.depthAll (xs.map d) ≤ n
  | [] => Nat.zero_le _
  | x :: xs => by
    have := depthAll_map h xs
    have := h x
    simp only [List.map_cons, PyData.depthAll]
    omega
theorem cntAll_map {α : Type} {d : α → PyData} {n : Nat} {xs : List α} (h : ∀ x ∈ xs, cntD (d x) ≤ n) : cntAll (xs.map d) ≤ n * xs.length := by
  induction xs with
  | nil => exact Nat.zero_le _
  | cons x xs ih =>
    have h1 := ih fun y hy => h y (List.mem_cons_of_mem _ hy)
    have h2 := h x (List.mem_cons_self ..)
    simp only [List.map_cons, cntAll, List.length_cons, Nat.mul_succ]
    omega
theorem shaped_of {d : PyData} (h1 : d.canLay0 = true) (h2 : d.depth ≤ 64) : SeqAt.shaped d = true := by
  unfold SeqAt.shaped
  rw [h1, decide_eq_true h2]
  rfl
theorem shaped_ints (ns : List Int) : SeqAt.shaped (.list (dI ns)) = true := shaped_of (by simp only [PyData.canLay0]; exact canLayAll_map (fun _ => rfl) ns) (by
  have : PyData.depthAll (dI ns) ≤ 0 := depthAll_map (d := PyData.int) (n := 0) (fun _ => Nat.le_refl _) ns
  simp only [PyData.depth]
  omega)
theorem shaped_intsT (ns : List Int) : SeqAt.shaped (.tuple (dI ns)) = true := shaped_of (by simp only [PyData.canLay0]; exact canLayAll_map (fun _ => rfl) ns) (by
  have : PyData.depthAll (dI ns) ≤ 0 := depthAll_map (d := PyData.int) (n := 0) (fun _ => Nat.le_refl _) ns
  simp only [PyData.depth]
  omega)
theorem eqv_ints (a b : List Int) : PyData.eqv (.list (dI a)) (.list (dI b)) = decide (a = b) := by
  simp only [PyData.eqv]
  exact eqvAll_map eqv_int a b
theorem eqv_intsT (a b : List Int) : PyData.eqv (.tuple (dI a)) (.tuple (dI b)) = decide (a = b) := by
  simp only [PyData.eqv]
  exact eqvAll_map eqv_int a b
end Lp
namespace Lp
open PySem PySem.Spec PyProof.Rows L2 He
/-! ### slices -/
theorem cut_whole {xs : List V} {lo hi : Option Int} (h : HT.sIx xs.length 0 lo = 0 ∧ HT.sIx xs.length xs.length hi = xs.length) : cutV xs lo hi = xs := by
  unfold cutV
  rw [h.1, h.2, List.drop_zero, Nat.sub_zero, List.take_length]
def rSlTN (K : PySem.W.Frag) : V → Option Int → Option Int → Hp → VK → Prop := fun x lo hi H Q => ∃ a xs, x = .ref a ∧ SqT K H a xs ∧ ∀ (p : Addr) (H' : Hp), Same H H' → SqT K H' p (cutV xs lo hi) → Q (.ref p) H'
theorem sl_tupN {X : Cx} : SlR X (rSlTN X.K) := sl_imp sl_tupA fun x lo hi H Q ⟨a, xs, e1, e2, e3⟩ => ⟨a, xs, e1, e2, fun w => e3 a H (Same.refl H) (by rw [cut_whole w]; exact e2), fun _ p hp => e3 p _ (fun b u e => by rw [upd_ne (ne_of_none e hp)]; exact e) (SqT.of upd_same)⟩
theorem cut_to (xs : List V) (k : Nat) : cutV xs none (some (k : Int)) = xs.take k := by
  unfold cutV
  rw [HT.sIx_none, HT.sIx_nat, List.drop_zero, Nat.sub_zero]
  by_cases h : k ≤ xs.length
  · rw [Nat.min_eq_left h]
  · rw [Nat.min_eq_right (by omega), List.take_of_length_le (Nat.le_refl _), List.take_of_length_le (by omega)]
theorem cut_from (xs : List V) (k : Nat) : cutV xs (some (k : Int)) none = xs.drop k := by
  unfold cutV
  rw [HT.sIx_none, HT.sIx_nat]
  by_cases h : k ≤ xs.length
  · rw [Nat.min_eq_left h, List.take_of_length_le (by rw [List.length_drop]; omega)]
  · rw [Nat.min_eq_right (by omega), List.drop_of_length_le (Nat.le_refl _), List.drop_of_length_le (by omega), List.take_nil]
end Lp
namespace Lp
open PySem PySem.Spec PyProof.Rows L2 He
/-! ### calls whose errors are wished for at the caller's slots -/
section
variable {X : Cx} {CX : CXT} {k : Nat} {C : Addr} {x m fld : Str} {ps : List Str} {sp : Sp} {E : L2.St → XK} {p pos apos : Pos} {e o : Expr} {es : List Expr} {te ta tb : TE} {t : TA} {i : Nat} {pl : Sem Bool}
def tFnS (sp : Sp) (E : L2.St → XK) (t : TA) : TE := fun σ H Q => t σ H fun vs H1 => sp vs H1 Q (E σ)
theorem pe_fnS (c : Cal X.prog X.w X.K X.mg X.base CX k x ps sp) (hr : Room k X.A) (hx : ∀ σ, PassesAt CX X σ (E σ)) (ha : PA X (e :: es) t) (hg : Gl X x := by rfl) (hdb : (x == ("__debug__" : Str)) = false := by decide)
    (he : starEach (e :: es) X.env = (false, eval e X.env) :: starEach es X.env := by rfl) (hpl : (backTo pos (starEach es X.env)).any (·.1) = false := by rfl) : PE X (.Call (.Name x p) (e :: es) [] pos) (tFnS sp E t) := by
  obtain ⟨f, fd, h1, h2, h3, h4⟩ := c.ex
  exact pe_imp (pe_callSD h4 hr hg h1 h2 h3 .nil hx (pa_up ha) hdb he hpl) fun σ H Q q => ⟨_, q, fun vs H1 h => by show sp (vs ++ []) H1 Q (E σ); rw [List.append_nil]; exact h⟩
def tMethS1 (C : Addr) (m : Str) (sp : Sp) (E : L2.St → XK) (ta : TE) (t : TA) : TE := fun σ H Q => ta σ H fun x H1 => ∃ a dx fs, x = .ref a ∧ H1 a = some (.ins C dx fs) ∧ fs.lookup m = none ∧ t σ H1 fun vs H2 => sp (x :: vs) H2 Q (E σ)
theorem pe_mtS (c : CalM X.prog X.w X.K X.mg X.base CX k C m ps sp) (hr : Room k X.A) (hx : ∀ σ, PassesAt CX X σ (E σ)) (ho : PE X o ta) (ha : PA X (e :: es) t)
    (hst : starEach (e :: es) X.env = (false, eval e X.env) :: starEach es X.env := by rfl) (hpl : (backTo pos (starEach es X.env)).any (·.1) = false := by rfl)
    (ht : eval (.Call (.Attribute o m apos) (e :: es) [] pos) X.env = (do
      let ov ← eval o X.env
      standAt apos.atName
      let (f, first) ← holding [ov] (getMethod ov m pl)
      callWith pos f first (backTo pos (starEach (e :: es) X.env)) (backToKw pos (keywordEach [] X.env))) := by rfl) : PE X (.Call (.Attribute o m apos) (e :: es) [] pos) (tMethS1 C m sp E ta t) := by
  obtain ⟨f, fd, h1, h2, h3⟩ := c.ex
  refine ⟨fun pins s σ H Q I h => ?_⟩
  refine PySem.W.methodCall_KW (pl := pl) (thn (ho.run pins s σ H _ I h) fun u s1 ⟨x, H1, I1, rx, a, dx, fs, ex, ea, l, q⟩ => ?_) ht
  subst ex
  obtain rfl : u = Value.ref a := rx
  refine getmeth_ok I1 ea c.cl.cl h1.me l ?_
  refine PySem.W.callWith_K (first := [.ref a]) (h₀ := X.base) I.ok.mod.kin h1.me.kp (thn (ha.run pos pins s1 σ H1 _ I1 q) fun us s2 ⟨vs, H2, I2, r, q2⟩ => ⟨I2.kIn, ?_⟩) hst hpl
  exact run_fnSD (us := .ref a :: us) (vs := .ref a :: vs) (E := E) h3 hr h2 .nil (hx σ) I2 (.cons rfl r) (by rw [List.append_nil]; exact q2)
end
end Lp
namespace Lp
open PySem PySem.Spec PyProof.Rows L2 He
/-! ### what keeps -/
section
variable {K : PySem.W.Frag} {H H' H1 H2 : Hp} {S : List Addr}
theorem same_sqT {a : Addr} {xs : List V} (s : Same H H') (h : SqT K H a xs) : SqT K H' a xs := (Kp.of [] s).seqT (fun z => nomatch z) h
mutual
theorem same_dp (s : Same H H') : ∀ (d : PyData) (v : V), Dp K H v d → Dp K H' v d
  | .none, _, h => by cases h; exact .non
  | .bool b, _, h => by cases h; exact .bl b
  | .int i, _, h => by cases h; exact .int i
  | .str x, _, h => by cases h; exact .str x
  | .list ds, _, h => by
    cases h with
    | lst h1 h2 => exact .lst (s.seq h1) (same_dpAll s ds _ h2)
  | .tuple ds, _, h => by
    cases h with
    | tup h1 h2 => exact .tup (same_sqT s h1) (same_dpAll s ds _ h2)
  | .dict _, _, h => nomatch h
theorem same_dpAll (s : Same H H') : ∀ (ds : List PyData) (vs : List V), DpAll K H vs ds → DpAll K H' vs ds
  | [], _, h => by cases h; exact .nil
  | d :: ds, _, h => by
    cases h with
    | cons h1 h2 => exact .cons (same_dp s d _ h1) (same_dpAll s ds _ h2)
end
theorem same_freshL (s : Same H H1) (f : ∀ x ∈ S, H x = none) (k : Kp S H1 H2) : Same H H2 := fun b o e => k b o (fun z => by rw [f b z] at e; cases e) (s b o e)
end
end Lp
namespace Lp
open PySem PySem.Spec PyProof.Rows L2 He
/-! ### displays of data: lists and tuples of constants, at any depth -/
def tDat (K : PySem.W.Frag) (d : PyData) : TE := fun _ H Q => ∀ v H', Same H H' → Dp K H' v d → Q v H'
def tDats (K : PySem.W.Frag) (ds : List PyData) : TA := fun _ H Q => ∀ vs H', Same H H' → DpAll K H' vs ds → Q vs H'
section
variable {X : Cx} {e : Expr} {es : List Expr} {d : PyData} {ds : List PyData} {pos : Pos}
theorem pa_imp {t t' : TA} (h : PA X es t) (i : ∀ σ H Q, t' σ H Q → t σ H Q) : PA X es t' := ⟨fun pos pins sh σ H Q I q => h.run pos pins sh σ H Q I (i σ H Q q)⟩
theorem pd_int {i : Int} {k} : PE X (.Constant (.int i) k pos) (tDat X.K (.int i)) := pe_imp pe_int fun σ H Q q => q _ H (Same.refl H) (.int i)
theorem pd_str {x : Str} {k} : PE X (.Constant (.str x) k pos) (tDat X.K (.str x)) := pe_imp pe_str fun σ H Q q => q _ H (Same.refl H) (.str x)
theorem pd_bl {b : Bool} {k} : PE X (.Constant (.bool b) k pos) (tDat X.K (.bool b)) := pe_imp pe_bl fun σ H Q q => q _ H (Same.refl H) (.bl b)
theorem pd_non {k} : PE X (.Constant .none k pos) (tDat X.K .none) := pe_imp pe_non fun σ H Q q => q _ H (Same.refl H) .non
theorem pds_nil : PA X [] (tDats X.K []) := pa_imp pa_nil fun σ H Q q => q _ H (Same.refl H) .nil
theorem pds_cons (h : PE X e (tDat X.K d)) (r : PA X es (tDats X.K ds)) (hs : starEach (e :: es) X.env = (false, eval e X.env) :: starEach es X.env := by rfl) : PA X (e :: es) (tDats X.K (d :: ds)) :=
  pa_imp (pa_cons h r hs) fun σ H Q q v H1 s1 d1 vs H2 s2 d2 => q _ H2 (Same.trans s1 s2) (.cons (same_dp s2 _ _ d1) d2)
theorem dpAll_len {K : PySem.W.Frag} {H : Hp} : ∀ {vs : List V} {ds : List PyData}, DpAll K H vs ds → vs.length = ds.length
  | _, _, .nil => rfl
  | _, _, .cons _ t => congrArg (· + 1) (dpAll_len t)
theorem pd_tup {x1} (h : PA X es (tDats X.K ds)) (hl : ds.length ≤ sizeLine := by decide) : PE X (.Tuple es x1 pos) (tDat X.K (.tuple ds)) :=
  pe_imp (pe_tupN h) fun σ H Q q vs H1 s1 d1 => ⟨by rw [dpAll_len d1]; exact hl, fun p H2 np s2 e2 => q _ H2 (Same.trans s1 s2) (.tup (SqT.of e2) (same_dpAll s2 _ _ d1))⟩
theorem pd_lst (h : PA X es (tDats X.K ds)) (hl : ds.length ≤ sizeLine := by decide) : PE X (.List es pos) (tDat X.K (.list ds)) :=
  pe_imp (pe_lstN h) fun σ H Q q vs H1 s1 d1 => ⟨by rw [dpAll_len d1]; exact hl, fun p H2 np s2 e2 => q _ H2 (Same.trans s1 s2) (.lst (SqL.of e2) (same_dpAll s2 _ _ d1))⟩
end
section
variable {K : PySem.W.Frag} {H : Hp}
theorem dp_lst {v : V} {ds : List PyData} (h : Dp K H v (.list ds)) : ∃ a xs, v = .ref a ∧ SqL K H a xs ∧ DpAll K H xs ds := by
  cases h with
  | lst h1 h2 => exact ⟨_, _, rfl, h1, h2⟩
theorem dp_tup {v : V} {ds : List PyData} (h : Dp K H v (.tuple ds)) : ∃ a xs, v = .ref a ∧ SqT K H a xs ∧ DpAll K H xs ds := by
  cases h with
  | tup h1 h2 => exact ⟨_, _, rfl, h1, h2⟩
theorem dp_int {v : V} {i : Int} (h : Dp K H v (.int i)) : v = .int i := by cases h; rfl
theorem dp_str {v : V} {i : Str} (h : Dp K H v (.str i)) : v = .str i := by cases h; rfl
theorem dpAll_ints' : ∀ {ns : List Int} {vs : List V}, DpAll K H vs (dI ns) → vs = Ints ns
  | [], _, h => by cases h; rfl
  | n :: ns, _, h => by
    cases h with
    | cons h1 h2 => rw [dp_int h1, dpAll_ints' h2]; rfl
theorem dpAll_get : ∀ {ds : List PyData} {vs : List V} {i : Nat} {v : V}, DpAll K H vs ds → vs[i]? = some v → ∃ d, ds[i]? = some d ∧ Dp K H v d
  | [], _, i, v, h, e => by cases h; cases e
  | d :: ds, _, i, v, h, e => by
    cases h with
    | cons h1 h2 =>
      cases i with
      | zero => cases e; exact ⟨_, rfl, h1⟩
      | succ i => exact dpAll_get (ds := ds) h2 e
theorem dpAll_bls : ∀ bs : List Bool, DpAll K H (bs.map V.bl) (bs.map PyData.bool)
  | [] => .nil
  | b :: bs => .cons (.bl b) (dpAll_bls bs)
end
theorem eqv_bool (a b : Bool) : PyData.eqv (.bool a) (.bool b) = decide (a = b) := by cases a <;> cases b <;> rfl
/-- the heap behind a change, by a name of its own -/
theorem gen_upd (H : Hp) (p : Addr) (o : HO) : ∃ H', upd H p o = H' ∧ Kp [p] H H' ∧ H' p = some o := ⟨_, rfl, Kp.put (List.mem_cons_self ..), upd_same⟩
theorem gen_new {H : Hp} {p : Addr} (h : H p = none) (o : HO) : ∃ H', upd H p o = H' ∧ Same H H' ∧ H' p = some o := ⟨_, rfl, fun b u e => by rw [upd_ne (ne_of_none e h)]; exact e, upd_same⟩
theorem kp_freshL {S S' : List Addr} {H H1 H2 : Hp} (s : Kp S H H1) (f : ∀ x ∈ S', H x = none) (k : Kp S' H1 H2) : Kp S H H2 := fun b o n e => k b o (fun z => by rw [f b z] at e; cases e) (s b o n e)
end Lp
namespace Lp
open PySem PySem.Spec PyProof.Rows L2 He
/-! ### list comprehensions: what is known by the turn, the items so far and the heap; the new list stands at R -/
def upG (g : TG) : TG := fun v σ H Q => ∃ Q0 : L2.St → Hp → Prop, g v σ H Q0 ∧ ∀ σ' H', Q0 σ' H' → Q σ' H'
def upI (w : TI) : TI := fun σ H R => ∃ R0 : It → Hp → Prop, w σ H R0 ∧ ∀ J H', R0 J H' → R J H'
def upT (t : TT) : TT := fun σ H Q => ∃ Q0 : Bool → Hp → Prop, t σ H Q0 ∧ ∀ b H', Q0 b H' → Q b H'
theorem pg_up {X : Cx} {e : Expr} {g : TG} (h : PG X e g) : PG X e (upG g) := ⟨fun pins s σ H v u Q I r ⟨Q0, h1, h2⟩ => thn (h.run pins s σ H v u Q0 I r h1) fun _ s' ⟨σ', H', I', q⟩ => ⟨σ', H', I', h2 σ' H' q⟩⟩
theorem pts_up {X : Cx} {es : List Expr} {t : TT} (h : PTs X es t) : PTs X es (upT t) := ⟨fun pins s σ H Q I ⟨Q0, h1, h2⟩ => thn (h.run pins s σ H Q0 I h1) fun b s' ⟨H', I', q⟩ => ⟨H', I', h2 b H' q⟩⟩
theorem pi_up {X : Cx} {tg e : Expr} {w : TI} (h : PI X tg e w) : PI X tg e (upI w) := ⟨fun pins s σ H R I ⟨R0, h1, h2⟩ => thn (h.run pins s σ H R0 I h1) fun v s1 q => thn q fun u s2 ⟨it, fp, tn, J, H', a, b, c, d, e, r⟩ => ⟨it, fp, tn, J, H', a, b, c, d, e, h2 J H' r⟩⟩
/-- the reading -/
def tLcN (wi : TI) (g : TG) (tt : TT) (te : TE) (vs : List Nat) : TE := fun σ H Q => wi σ H fun J H1 => ∃ (n : Nat) (G : Hp → Prop) (Y : Nat → Hp → V → Hp → Prop), Walk J n G Y ∧ n ≤ sizeLine ∧ ∀ R, H1 R = none → ∃ P : Nat → List V → Hp → Prop,
  (∀ H', Same H1 H' → H' R = some (.lst []) → P 0 [] H') ∧ (∀ i acc H, i ≤ n → H R = some (.lst acc) → P i acc H → G H) ∧
  (∀ i x acc H H', i < n → H R = some (.lst acc) → acc.length ≤ i → P i acc H → Y i H x H' → g x (wipe σ vs) H' fun σ2 H2 => wipe σ2 vs = wipe σ vs ∧ tt σ2 H2 fun b H3 =>
    (b = true → te σ2 H3 fun y H4 => H4 R = some (.lst acc) ∧ Ch H4 R (.lst (acc ++ [y])) (P (i + 1) (acc ++ [y]))) ∧ (b = false → H3 R = some (.lst acc) ∧ P (i + 1) acc H3)) ∧
  (∀ acc H, H R = some (.lst acc) → acc.length ≤ n → P n acc H → Q (.ref R) H)
theorem lcN_of {wi : TI} {g : TG} {tt : TT} {te : TE} {vs : List Nat} {σ : L2.St} {H : Hp} {Q : VK} (h : tLcN wi g tt te vs σ H Q) : tLc (upI wi) (upG g) (upT tt) (upE te) vs σ H Q := by
  refine ⟨_, h, fun J H1 h R hR => ?_⟩
  obtain ⟨n, G, Y, w, hn, h⟩ := h
  obtain ⟨P, h0, hG, hs, hd⟩ := h R hR
  refine lc_it w (fun i H => ∃ acc, H R = some (.lst acc) ∧ acc.length ≤ i ∧ P i acc H) ?_ (fun i H hi ⟨acc, e, _, p⟩ => hG i acc H hi e p) ?_ (fun H ⟨acc, e, l, p⟩ => hd acc H e l p)
  · exact ⟨[], upd_same, Nat.le_refl _, h0 _ (fun b u e => by rw [upd_ne (ne_of_none e hR)]; exact e) upd_same⟩
  · rintro i x H2 H' hi ⟨acc, e, l, p⟩ y
    refine ⟨_, hs i x acc H2 H' hi e l p y, fun σ2 H3 ⟨hw, ht⟩ => ⟨hw, _, ht, fun b H4 q => ?_⟩⟩
    cases b with
    | false =>
      rw [if_neg (by decide)]
      have q := q.2 rfl
      exact ⟨acc, q.1, by omega, q.2⟩
    | true =>
      rw [if_pos rfl]
      refine ⟨_, q.1 rfl, fun y H5 ⟨e5, q5⟩ => ⟨acc, e5, by omega, acc ++ [y], upd_same, by rw [List.length_append]; simp; omega, ch_of q5⟩⟩
section
variable {X : Cx}
theorem pe_lcN {elt tg iter : Expr} {ifs : List Expr} {scope : Scope} {own : List (Str × Nat)} {pos : Pos} {wi : TI} {g : TG} {tt : TT} {te : TE} (hc : X.calm = true) (hN : X.N.Nodup) (hi : PI X tg iter wi) (ok : BlkOk X.N X.env.scope scope own)
    (hg : ∀ (s : Shared) (H : Hp) (C : Addr) (cl : List (Str × Addr)) (fp : List Addr), PG (X.blk s H scope (compEnvC scope cl C X.env) fp) tg g) (ht : ∀ (s : Shared) (H : Hp) (C : Addr) (cl : List (Str × Addr)) (fp : List Addr), PTs (X.blk s H scope (compEnvC scope cl C X.env) fp) ifs tt)
    (he : ∀ (s : Shared) (H : Hp) (C : Addr) (cl : List (Str × Addr)) (fp : List Addr), PE (X.blk s H scope (compEnvC scope cl C X.env) fp) elt te) (hs : ∀ x, foldedSetIterable iter X.env x = pure x := by intro _; rfl) :
    PE X (.ListComp elt [⟨tg, iter, ifs, 0⟩] scope pos) (tLcN wi g tt te (own.map (·.2))) :=
  pe_imp (pe_lc hc hN (pi_up hi) ok (fun a b c d e => pg_up (hg a b c d e)) (fun a b c d e => pts_up (ht a b c d e)) (fun a b c d e => pe_up (he a b c d e)) hs) fun _ _ _ h => lcN_of h
theorem ps_setLcN {i : Nat} {y : Str} {py : Pos} {elt tg iter : Expr} {ifs : List Expr} {scope : Scope} {own : List (Str × Nat)} {pos spos : Pos} {wi : TI} {g : TG} {tt : TT} {te : TE} (hc : X.calm = true) (hN : X.N.Nodup) (hy : X.N[i]? = some y) (hyl : X.env.scope.names.lookup y = some .local)
    (hsw : swapsWith (.ListComp elt [⟨tg, iter, ifs, 0⟩] scope pos) (some (.Name y py)) spos.line X.env = pure true) (hi : PI X tg iter wi) (ok : BlkOk X.N X.env.scope scope own)
    (hg : ∀ (s : Shared) (H : Hp) (C : Addr) (cl : List (Str × Addr)) (fp : List Addr), PG (X.blk s H scope (compEnvC scope cl C X.env) fp) tg g) (ht : ∀ (s : Shared) (H : Hp) (C : Addr) (cl : List (Str × Addr)) (fp : List Addr), PTs (X.blk s H scope (compEnvC scope cl C X.env) fp) ifs tt)
    (he : ∀ (s : Shared) (H : Hp) (C : Addr) (cl : List (Str × Addr)) (fp : List Addr), PE (X.blk s H scope (compEnvC scope cl C X.env) fp) elt te) (hs : ∀ x, foldedSetIterable iter X.env x = pure x := by intro _; rfl) :
    PS X (.Assign [.Name y py] (.ListComp elt [⟨tg, iter, ifs, 0⟩] scope pos) spos) (tAsg (tLcN wi g tt te (own.map (·.2))) (gName i)) :=
  ps_imp (ps_setLc hc hN hy hyl hsw (pi_up hi) ok (fun a b c d e => pg_up (hg a b c d e)) (fun a b c d e => pts_up (ht a b c d e)) (fun a b c d e => pe_up (he a b c d e)) hs) fun _ _ _ h => lcN_of h
end
end Lp
namespace Lp
open PySem PySem.Spec PyProof.Rows L2 He
/-! ### what one owns: objects made since H0, each at its own place -/
structure Ow (H0 H : Hp) (L : List (Addr × HO)) : Prop where
  nd : (L.map Prod.fst).Nodup
  at_ : ∀ x ∈ L, H x.1 = some x.2
  fr : ∀ x ∈ L, H0 x.1 = none
  sm : Same H0 H
section
variable {H0 H H' : Hp} {L L' : List (Addr × HO)} {p q : Addr} {o o' u u' : HO} {i j : Nat}
theorem Ow.start (H : Hp) : Ow H H [] := ⟨.nil, (fun _ z => nomatch z), (fun _ z => nomatch z), Same.refl H⟩
theorem Ow.same (w : Ow H0 H L) (s : Same H H') : Ow H0 H' L := ⟨w.nd, fun x hx => s _ _ (w.at_ x hx), w.fr, Same.trans w.sm s⟩
theorem Ow.new (w : Ow H0 H L) (n : H p = none) (s : Same H H') (e : H' p = some o) : Ow H0 H' ((p, o) :: L) := by
  refine ⟨List.nodup_cons.mpr ⟨fun z => ?_, w.nd⟩, fun x hx => ?_, fun x hx => ?_, Same.trans w.sm s⟩
  · obtain ⟨x, hx, e1⟩ := List.mem_map.mp z
    have := w.at_ x hx
    rw [e1, n] at this
    cases this
  · rcases List.mem_cons.mp hx with rfl | hx
    · exact e
    · exact s _ _ (w.at_ x hx)
  · rcases List.mem_cons.mp hx with rfl | hx
    · exact Same.free w.sm n
    · exact w.fr x hx
theorem Ow.get (w : Ow H0 H L) (i : Nat) (h : L[i]? = some (p, o)) : H p = some o := w.at_ _ (List.mem_of_getElem? h)
theorem Ow.free (w : Ow H0 H L) (i : Nat) (h : L[i]? = some (p, o)) : H0 p = none := w.fr _ (List.mem_of_getElem? h)
theorem Ow.ne (w : Ow H0 H L) (i j : Nat) (hi : L[i]? = some (p, o)) (hj : L[j]? = some (q, u)) (n : i ≠ j) : p ≠ q := by
  intro z
  have h1 : (L.map Prod.fst)[i]? = some p := by rw [List.getElem?_map, hi]; rfl
  have h2 : (L.map Prod.fst)[j]? = some p := by rw [List.getElem?_map, hj, z]; rfl
  have l1 := (List.getElem?_eq_some_iff.mp h1).1
  exact n ((List.getElem?_inj l1 w.nd).mp (h1.trans h2.symm))
theorem map_fst_set (h : L[i]? = some (p, o)) (o' : HO) : (L.set i (p, o')).map Prod.fst = L.map Prod.fst := by
  apply List.ext_getElem?
  intro k
  simp only [List.getElem?_map, List.getElem?_set]
  by_cases e : i = k
  · subst e
    obtain ⟨h1, h2⟩ := List.getElem?_eq_some_iff.mp h
    simp [h1, h2]
  · simp [e]
theorem Ow.set (w : Ow H0 H L) (i : Nat) (h : L[i]? = some (p, o)) (k : Kp [p] H H') (e : H' p = some o') : Ow H0 H' (L.set i (p, o')) := by
  have nd' : ((L.set i (p, o')).map Prod.fst).Nodup := by rw [map_fst_set h]; exact w.nd
  refine ⟨nd', fun x hx => ?_, fun x hx => ?_, ?_⟩
  · obtain ⟨m, hm⟩ := List.mem_iff_getElem?.mp hx
    rw [List.getElem?_set] at hm
    by_cases e1 : i = m
    · rw [if_pos e1] at hm
      split at hm
      · cases hm; exact e
      · cases hm
    · rw [if_neg e1] at hm
      exact k _ _ (fun z => (w.ne m i (p := x.1) (o := x.2) hm h (Ne.symm e1)) (List.mem_singleton.mp z)) (w.get m hm)
  · obtain ⟨m, hm⟩ := List.mem_iff_getElem?.mp hx
    rw [List.getElem?_set] at hm
    by_cases e1 : i = m
    · rw [if_pos e1] at hm
      split at hm
      · cases hm; exact w.free i h
      · cases hm
    · rw [if_neg e1] at hm
      exact w.free m hm
  · exact same_freshL w.sm (fun x hx => by rw [List.mem_singleton.mp hx]; exact w.free i h) k
/-- two of them changed -/
theorem Ow.set2 (w : Ow H0 H L) (i j : Nat) (hi : L[i]? = some (p, o)) (hj : L[j]? = some (q, u)) (n : i ≠ j) (k : Kp [p, q] H H') (e : H' p = some o') (e' : H' q = some u') : Ow H0 H' ((L.set i (p, o')).set j (q, u')) := by
  have hn : p ≠ q := w.ne i j hi hj n
  have k1 : Kp [p] H (fun b => if b = q then H q else H' b) := fun b v nb hb => by
    by_cases z : b = q
    · subst z; simp only [if_pos]; exact hb
    · simp only [if_neg z]
      exact k b v (fun hm => by rcases List.mem_cons.mp hm with rfl | hm; exact nb (List.mem_cons_self ..); exact z (List.mem_singleton.mp hm)) hb
  have e1 : (fun b => if b = q then H q else H' b) p = some o' := by simp only [if_neg hn]; exact e
  refine (w.set i hi k1 e1).set j ?_ (o := u) ?_ e'
  · rw [List.getElem?_set, if_neg n]; exact hj
  · intro b v nb hb
    by_cases z : b = q
    · exact absurd (List.mem_singleton.mpr z) nb
    · simp only [if_neg z] at hb
      exact hb
/-- some of them, in another order -/
def picks (L : List (Addr × HO)) : List Nat → Option (List (Addr × HO))
  | [] => some []
  | i :: is => match L[i]?, picks L is with
    | some x, some r => some (x :: r)
    | _, _ => none
theorem picks_mem : ∀ {is : List Nat} {R : List (Addr × HO)}, picks L is = some R → ∀ x ∈ R, ∃ i ∈ is, L[i]? = some x
  | [], R, h, x, hx => by cases h; cases hx
  | i :: is, R, h, x, hx => by
    unfold picks at h
    split at h
    · rename_i y r h1 h2
      cases h
      rcases List.mem_cons.mp hx with rfl | hx
      · exact ⟨i, List.mem_cons_self .., h1⟩
      · obtain ⟨k, hk, e⟩ := picks_mem h2 x hx
        exact ⟨k, List.mem_cons_of_mem _ hk, e⟩
    · cases h
theorem picks_nd (w : (L.map Prod.fst).Nodup) : ∀ {is : List Nat} {R : List (Addr × HO)}, is.Nodup → picks L is = some R → (R.map Prod.fst).Nodup
  | [], R, _, h => by cases h; exact .nil
  | i :: is, R, hn, h => by
    unfold picks at h
    split at h
    · rename_i y r h1 h2
      cases h
      refine List.nodup_cons.mpr ⟨fun z => ?_, picks_nd w (List.nodup_cons.mp hn).2 h2⟩
      obtain ⟨x, hx, e⟩ := List.mem_map.mp z
      obtain ⟨k, hk, e2⟩ := picks_mem h2 x hx
      have a1 : (L.map Prod.fst)[i]? = some y.1 := by rw [List.getElem?_map, h1]; rfl
      have a2 : (L.map Prod.fst)[k]? = some y.1 := by rw [List.getElem?_map, e2]; exact congrArg some e
      have := (List.getElem?_inj (List.getElem?_eq_some_iff.mp a1).1 w).mp (a1.trans a2.symm)
      exact (List.nodup_cons.mp hn).1 (this ▸ hk)
    · cases h
theorem Ow.pick (w : Ow H0 H L) (is : List Nat) (h : picks L is = some L') (hn : is.Nodup := by decide) : Ow H0 H L' :=
  ⟨picks_nd w.nd hn h, fun x hx => let ⟨_, _, e⟩ := picks_mem h x hx; w.at_ x (List.mem_of_getElem? e), fun x hx => let ⟨_, _, e⟩ := picks_mem h x hx; w.fr x (List.mem_of_getElem? e), w.sm⟩
/-- a new one beside a change: first the new one, then the change -/
theorem Ow.setNew {S : List Addr} (w : Ow H0 H L) (n : H q = none) (e : H' q = some o) (k : Kp S H H') : ∃ H1, Ow H0 H1 ((q, o) :: L) ∧ Same H H1 ∧ Kp S H1 H' := by
  have sm : Same H (upd H q o) := fun b u e => by rw [upd_ne (ne_of_none e n)]; exact e
  refine ⟨upd H q o, w.new n sm upd_same, sm, fun b u nb hb => ?_⟩
  by_cases z : b = q
  · subst z
    rw [upd_same] at hb
    rw [e]; exact hb
  · rw [upd_ne z] at hb
    exact k b u nb hb
/-- several new ones -/
theorem Ow.newL (w : Ow H0 H L) (M : List (Addr × HO)) (hn : (M.map Prod.fst).Nodup) (hf : ∀ x ∈ M, H x.1 = none) (s : Same H H') (he : ∀ x ∈ M, H' x.1 = some x.2) : Ow H0 H' (M ++ L) := by
  refine ⟨?_, fun x hx => ?_, fun x hx => ?_, Same.trans w.sm s⟩
  · rw [List.map_append]
    refine List.nodup_append.mpr ⟨hn, w.nd, fun y hy z hz e => ?_⟩
    subst e
    obtain ⟨x, hx, e1⟩ := List.mem_map.mp hy
    obtain ⟨x', hx', e2⟩ := List.mem_map.mp hz
    have a1 := hf x hx
    have a2 := w.at_ x' hx'
    rw [e2, ← e1, a1] at a2
    cases a2
  · rcases List.mem_append.mp hx with hx | hx
    · exact he x hx
    · exact s _ _ (w.at_ x hx)
  · rcases List.mem_append.mp hx with hx | hx
    · exact Same.free w.sm (hf x hx)
    · exact w.fr x hx
/-- from a later start -/
theorem Ow.from {H1 : Hp} (w : Ow H1 H L) (s : Same H0 H1) : Ow H0 H L := ⟨w.nd, w.at_, fun x hx => Same.free s (w.fr x hx), Same.trans s w.sm⟩
end
end Lp
namespace Lp
open PySem PySem.Spec PyProof.Rows L2 He
def top (i : Nat) : Stmt := PySem.Challenge.pw_lateplace_k43_writes_of_disks.main.body.getD i (.Pass ⟨0, 0, 0, 0⟩)
abbrev sNoRoom : Stmt := inClass (top 5) 0
abbrev sInit : Stmt := inClass (top 8) 0
abbrev sOf : Stmt := inClass (top 8) 1
abbrev sCells : Stmt := inClass (top 8) 2
abbrev sPending : Stmt := inClass (top 8) 3
abbrev sLen : Stmt := inClass (top 8) 4
abbrev sGet : Stmt := inClass (top 8) 5
abbrev sEq : Stmt := inClass (top 8) 7
abbrev sWrite : Stmt := inClass (top 8) 8
abbrev sBarrier : Stmt := inClass (top 8) 9
abbrev sFallen : Stmt := inClass (top 8) 10
/-- a def of the text, without defaults -/
abbrev FnP (K : PySem.W.Frag) (x qual : Str) (st : Stmt) (f : Addr) (fd : FuncData) : Prop := FunD K x qual (defArgs st) (defBody st) (defScope st) [] [] f fd

/-! ### a disk -/
def flds (a b c : Addr) : List (Str × V) := [("shown", .ref a), ("standing", .ref b), ("writes", .ref c)]
/-- a pending write as it stands: a tuple of its place and a tuple of its numbers -/
def Tw (H : Hp) (v : V) (w : Int × List Int) : Prop := ∃ t u, v = .ref t ∧ H t = some (.tup [.int w.1, .ref u]) ∧ H u = some (.tup (Ints w.2))
structure DiskAt (C : Addr) (H : Hp) (p a b c : Addr) (sh st : List Int) (ws : List (Int × List Int)) : Prop where
  ob : ∃ dx, H p = some (.ins C dx (flds a b c))
  sh : H a = some (.lst (Ints sh))
  st : H b = some (.lst (Ints st))
  ws : ∃ ts, H c = some (.lst ts) ∧ Paired (Tw H) ts ws
  ab : a ≠ b
  ac : a ≠ c
  bc : b ≠ c
theorem Tw.mono {H H' : Hp} {v : V} {w : Int × List Int} (h : Tw H v w) (k : ∀ t xs, H t = some (.tup xs) → H' t = some (.tup xs)) : Tw H' v w := let ⟨t, u, e, h1, h2⟩ := h; ⟨t, u, e, k _ _ h1, k _ _ h2⟩
theorem tups_of {S : List Addr} {H H' : Hp} (k : Kp S H H') (h : ∀ a ∈ S, ∀ xs, H a ≠ some (.tup xs)) : ∀ t xs, H t = some (.tup xs) → H' t = some (.tup xs) := fun t xs e => k t _ (fun z => h t z xs e) e
theorem paired_mono {H H' : Hp} {vs : List V} {ws : List (Int × List Int)} (h : Paired (Tw H) vs ws) (k : ∀ t xs, H t = some (.tup xs) → H' t = some (.tup xs)) : Paired (Tw H') vs ws := L2.Paired.mapP h fun _ _ t => t.mono k
/-- nothing of it was changed -/
theorem DiskAt.kp {C : Addr} {S : List Addr} {H H' : Hp} {p a b c : Addr} {sh st : List Int} {ws : List (Int × List Int)} (D : DiskAt C H p a b c sh st ws) (k : Kp S H H') (hp : p ∉ S) (ha : a ∉ S) (hb : b ∉ S) (hc : c ∉ S) (ht : ∀ a ∈ S, ∀ xs, H a ≠ some (.tup xs)) : DiskAt C H' p a b c sh st ws := by
  obtain ⟨⟨dx, h1⟩, h2, h3, ⟨ts, h4, h5⟩, n1, n2, n3⟩ := D
  exact ⟨⟨dx, k _ _ hp h1⟩, k _ _ ha h2, k _ _ hb h3, ⟨ts, k _ _ hc h4, paired_mono h5 (tups_of k ht)⟩, n1, n2, n3⟩
theorem DiskAt.same {C : Addr} {H H' : Hp} {p a b c : Addr} {sh st : List Int} {ws : List (Int × List Int)} (D : DiskAt C H p a b c sh st ws) (k : Same H H') : DiskAt C H' p a b c sh st ws :=
  D.kp (Kp.of [] k) (fun z => nomatch z) (fun z => nomatch z) (fun z => nomatch z) (fun z => nomatch z) (fun _ z => nomatch z)
/-- a sequence of these ints, a list or a tuple -/
def Seq (K : PySem.W.Frag) (H : Hp) (l : Addr) (ns : List Int) : Prop := SqL K H l (Ints ns) ∨ H l = some (.tup (Ints ns))
theorem Seq.sq {K : PySem.W.Frag} {H : Hp} {l : Addr} {ns : List Int} (h : Seq K H l ns) : SqL K H l (Ints ns) ∨ SqT K H l (Ints ns) := h.imp id SqT.of
def splice (xs : List Int) (at_ : Int) (ns : List Int) : List Int := xs.take at_.toNat ++ ns ++ xs.drop (at_ + ns.length).toNat
theorem splice_len {xs ns : List Int} {i : Int} (h0 : 0 ≤ i) (h : i + ns.length ≤ xs.length) : (splice xs i ns).length = xs.length := by
  unfold splice
  rw [List.length_append, List.length_append, List.length_take, List.length_drop]
  omega
/-! ### promises -/
def spInit (C : Addr) : Sp := fun vs H Q _ => ∃ (p dx : Addr) (n : Int), vs = [.ref p, .int n] ∧ H p = some (.ins C dx []) ∧ 0 ≤ n ∧ n ≤ 100000 ∧
  ∀ a b c H', H a = none → H b = none → H c = none → DiskAt C H' p a b c (List.replicate n.toNat 0) (List.replicate n.toNat 0) [] → Kp [p] H H' → Q .non H'
def spOf (K : PySem.W.Frag) (C : Addr) : Sp := fun vs H Q _ => ∃ (l : Addr) (ns : List Int), vs = [.ref C, .ref l] ∧ Seq K H l ns ∧ ns.length ≤ 100000 ∧
  ∀ p a b c H', H p = none → H a = none → H b = none → H c = none → DiskAt C H' p a b c ns ns [] → Same H H' → Q (.ref p) H'
/-- a property or method that looks at a disk: its answer in the unchanged heap, or a new tuple -/
def spCells (C : Addr) : Sp := fun vs H Q _ => ∃ p a b c sh st ws, vs = [.ref p] ∧ DiskAt C H p a b c sh st ws ∧ sh.length ≤ 100000 ∧ Nw H (.tup (Ints sh)) Q
def spPending (C : Addr) : Sp := fun vs H Q _ => ∃ p a b c sh st ws ts, vs = [.ref p] ∧ DiskAt C H p a b c sh st ws ∧ H c = some (.lst ts) ∧ Nw H (.tup ts) Q
def spLen (C : Addr) : Sp := fun vs H Q _ => ∃ p a b c sh st ws, vs = [.ref p] ∧ DiskAt C H p a b c sh st ws ∧ Q (.int sh.length) H
def spGet (C : Addr) : Sp := fun vs H Q _ => ∃ p a b c sh st ws, ∃ (i : Nat) (n : Int), vs = [.ref p, .int i] ∧ DiskAt C H p a b c sh st ws ∧ sh[i]? = some n ∧ Q (.int n) H
def spEq (K : PySem.W.Frag) (C : Addr) : Sp := fun vs H Q _ => (∃ p a b c sh st ws q a' b' c' sh' st' ws', vs = [.ref p, .ref q] ∧ DiskAt C H p a b c sh st ws ∧ DiskAt C H q a' b' c' sh' st' ws' ∧ Q (.bl (decide (sh = sh' ∧ ws = ws'))) H) ∨
  (∃ p a b c sh st ws y t, vs = [.ref p, y] ∧ DiskAt C H p a b c sh st ws ∧ TyX K H y t ∧ PySem.W.kitOne K t (.ref C) = some false ∧ Q (.bl false) H)
def spWrite (K : PySem.W.Frag) (C N : Addr) : Sp := fun vs H Q E => ∃ p a b c sh st ws, ∃ (i : Int) (l : Addr) (ns : List Int), vs = [.ref p, .int i, .ref l] ∧ DiskAt C H p a b c sh st ws ∧ Seq K H l ns ∧ l ≠ a ∧ 0 ≤ i ∧ sh.length ≤ 100000 ∧ ns.length ≤ 100000 ∧ ws.length ≤ 1000 ∧
  (i + ns.length ≤ sh.length → ∀ H', DiskAt C H' p a b c (splice sh i ns) st (ws ++ [(i, ns)]) → Kp [a, c] H H' → Q .non H') ∧
  (¬ i + ns.length ≤ sh.length → ∀ d H', H d = none → H' d = some (.xd [("lacking", .int (i + ns.length - sh.length))]) → Same H H' → E (.ref N) (some d) H')
def spBarrier (C : Addr) : Sp := fun vs H Q _ => ∃ p a b c sh st ws, vs = [.ref p] ∧ DiskAt C H p a b c sh st ws ∧ ∀ b' H', H b' = none → DiskAt C H' p a b' c sh sh [] → Kp [p, c] H H' → Q .non H'
section
variable {P : Program} {w : World} {K : PySem.W.Frag} {mg : Str → Option Value} {base : Heap} {C f : Addr} {fd : FuncData}
/-- what is asked of the class Disk -/
structure TD (K : PySem.W.Frag) (C : Addr) : Prop where
  ow : Own K C
  n1 : NoAttr K C "shown"
  n2 : NoAttr K C "standing"
  n3 : NoAttr K C "writes"
theorem rep_ints (n : Nat) : (List.replicate n [V.int 0]).flatten = Ints (List.replicate n 0) := by
  induction n with
  | zero => rfl
  | succ n ih => rw [List.replicate_succ, List.flatten_cons, ih]; rfl
theorem scInit : FnScope ["self", "size"] ["self", "size"] (defScope sInit) := ⟨rfl, rfl, rfl, by decide +kernel, rfl, by decide +kernel, by decide +kernel⟩
theorem nm0 {b : Addr} : b ∉ ([] : List Addr) := fun z => nomatch z
theorem nm1 {b a : Addr} (h : b ≠ a) : b ∉ [a] := fun z => h (by simpa using z)
theorem nm2 {b a c : Addr} (h : b ≠ a) (h' : b ≠ c) : b ∉ [a, c] := fun z => by simp at z; exact z.elim h h'
theorem ok_init (F : FnP K "__init__" "Disk.__init__" sInit f fd) (T : TD K C) : FnOk P w K mg base CX0 1 f fd ["self", "size"] (spInit C) := by
  refine F.ok scInit (fun vs H Q E h => ?_) (fun cdv A outer s H vs Q E hr h => ?_)
  · obtain ⟨p, dx, n, rfl, _⟩ := h
    rfl
  · obtain ⟨p, dx, n, rfl, hp, h0, h1, k⟩ := h
    have hz : (1 : Nat) ≤ sizeLine := by decide
    have hz2 : 1 * n.toNat ≤ sizeLine := by rw [sizeLine_eq]; omega
    refine ⟨_, pss_cons (ps_fldN (pv 0) (pe_op op_repN (pe_lstN (pa_cons pe_int pa_nil)) (pv 1))) (pss_cons (ps_fldN (pv 0) (pe_op op_repN (pe_lstN (pa_cons pe_int pa_nil)) (pv 1))) (pss_one (ps_fldN (pv 0) (pe_lstN pa_nil)))), ?_⟩
    refine ⟨hz, fun l H1 nl k1 e1 => ⟨_, rfl, l, n, _, rfl, rfl, e1, by omega, by omega, hz2, fun a H2 na k2 e2 => ?_⟩⟩
    refine ⟨_, rfl, p, C, dx, [], rfl, k2 _ _ (k1 _ _ hp), T.ow.cl, T.n1, by decide, fun H3 k3 e3 => ?_⟩
    refine ⟨hz, fun l2 H4 nl2 k4 e4 => ⟨_, rfl, l2, n, _, rfl, rfl, e4, by omega, by omega, hz2, fun b H5 nb k5 e5 => ?_⟩⟩
    refine ⟨_, rfl, p, C, dx, _, rfl, k5 _ _ (k4 _ _ e3), T.ow.cl, T.n2, by show 1 < 1000; decide, fun H6 k6 e6 => ?_⟩
    refine ⟨by decide, fun c H7 nc k7 e7 => ?_⟩
    refine ⟨_, rfl, p, C, dx, _, rfl, k7 _ _ e6, T.ow.cl, T.n3, by show 2 < 1000; decide, fun H8 k8 e8 => ?_⟩
    rw [rep_ints] at e2 e5
    -- the addresses
    have npa : a ≠ p := (ne_of_none (k1 _ _ hp) na).symm
    have a3 := k3 _ _ (nm1 npa) e2
    have a5 := k5 _ _ (k4 _ _ a3)
    have nab : a ≠ b := ne_of_none (k4 _ _ a3) nb
    have npb : b ≠ p := (ne_of_none (k4 _ _ e3) nb).symm
    have a6 := k6 _ _ (nm1 npa) a5
    have b6 := k6 _ _ (nm1 npb) e5
    have nac : a ≠ c := ne_of_none a6 nc
    have nbc : b ≠ c := ne_of_none b6 nc
    have npc : c ≠ p := (ne_of_none e6 nc).symm
    have kk : Kp [p] H H8 := ((((((Kp.of [p] k1).trans (Kp.of _ k2)).trans k3).trans (Kp.of _ k4)).trans (Kp.of _ k5)).trans k6).trans ((Kp.of _ k7).trans k8)
    have fr1 : Kp [p] H H4 := (((Kp.of [p] k1).trans (Kp.of _ k2)).trans k3).trans (Kp.of _ k4)
    have fr2 : Kp [p] H H6 := (fr1.trans (Kp.of _ k5)).trans k6
    refine k a b c H8 (k1.free na) (fr1.free (nm1 npb) nb) (fr2.free (nm1 npc) nc) ⟨⟨dx, e8⟩, k8 _ _ (nm1 npa) (k7 _ _ a6), k8 _ _ (nm1 npb) (k7 _ _ b6), ⟨[], k8 _ _ (nm1 npc) e7, .nil⟩, nab, nac, nbc⟩ kk
end
end Lp
namespace Lp
open PySem PySem.Spec PyProof.Rows L2 He
theorem Same.seq' {K : PySem.W.Frag} {H H' : Hp} {l : Addr} {ns : List Int} (k : Same H H') (h : Seq K H l ns) : Seq K H' l ns := h.imp k.seq fun h => k _ _ h
theorem Same.fresh {H H1 H2 : Hp} {x : Addr} (s : Same H H1) (f : H x = none) (k : Kp [x] H1 H2) : Same H H2 := ((Kp.of [] s).fresh f k).same
/-- the built-in names that the text leaves alone -/
structure TB (mg : Str → Option Value) : Prop where
  len : mg "len" = none
  list : mg "list" = none
  tuple : mg "tuple" = none
  isi : mg "isinstance" = none
  zip : mg "zip" = none
  abs : mg "abs" = none
  range : mg "range" = none
  max : mg "max" = none
  min : mg "min" = none
  repr : mg "repr" = none
  enum : mg "enumerate" = none
section
variable {P : Program} {w : World} {K : PySem.W.Frag} {mg : Str → Option Value} {base : Heap} {C N f : Addr} {fd : FuncData}
theorem ints_len (ns : List Int) : (Ints ns).length = ns.length := List.length_map _
theorem scOf : FnScope ["cls", "cells", "found"] ["cls", "cells"] (defScope sOf) := ⟨rfl, rfl, rfl, by decide +kernel, rfl, by decide +kernel, by decide +kernel⟩
theorem ok_of (F : FnP K "of" "Disk.of" sOf f fd) (T : TD K C) (B : TB mg) (cI : CalC P w K mg base CX0 1 "Disk" C ["self", "size"] (spInit C)) : FnOk P w K mg base CX0 3 f fd ["cls", "cells"] (spOf K C) := by
  refine F.ok scOf (fun vs H Q E h => ?_) (fun cdv A outer s H vs Q E hr h => ?_)
  · obtain ⟨l, ns, rfl, _⟩ := h
    rfl
  · obtain ⟨l, ns, rfl, hS, hn, k⟩ := h
    refine ⟨_, pss_cons (ps_set (i := 2) scOf.nd rfl (Or.inl rfl) (pe_mkLN cI hr pass0 (pv 0) (pa_cons (pe_callB call_len_seq (by rfl) B.len PySem.boot_len (pa_cons (pv 1) pa_nil)) pa_nil)))
      (pss_cons (ps_fldN (pv 2) (pe_callTy call_listN (by rfl) B.list (by decide +kernel) (pa_cons (pv 1) pa_nil)))
      (pss_cons (ps_fldN (pv 2) (pe_callTy call_listN (by rfl) B.list (by decide +kernel) (pa_cons (pv 1) pa_nil)))
      (pss_one (ps_ret (pv 2))))), ?_⟩
    refine ⟨rfl, _, rfl, l, Ints ns, rfl, hS.sq, fun x dx H1 nx ndx ne k1 ed ex => ⟨x, dx, _, rfl, ex, by omega, by rw [ints_len]; omega, fun a b c H2 na nb nc D k2 => ⟨rfl, ?_⟩⟩⟩
    have s2 : Same H H2 := Same.fresh k1 nx k2
    obtain ⟨⟨d2, o2⟩, h1, h2, ⟨ts, h3, h4⟩, n1, n2, n3⟩ := D
    cases h4
    refine ⟨_, rfl, l, Ints ns, rfl, (Same.seq' s2 hS).sq, fun a' H3 na' k3 e3 => ⟨_, rfl, x, C, d2, _, rfl, k3 _ _ o2, T.ow.cl, T.n1, by show 3 < 1000; decide, fun H4 k4 e4 => ?_⟩⟩
    have s4 : Same H H4 := Same.fresh (Same.trans s2 k3) nx k4
    refine ⟨_, rfl, l, Ints ns, rfl, (Same.seq' s4 hS).sq, fun b' H5 nb' k5 e5 => ⟨_, rfl, x, C, d2, _, rfl, k5 _ _ e4, T.ow.cl, T.n2, by show 3 < 1000; decide, fun H6 k6 e6 => ?_⟩⟩
    have s6 : Same H H6 := Same.fresh (Same.trans s4 k5) nx k6
    refine ⟨_, rfl, ?_⟩
    have nxa : a' ≠ x := (ne_of_none o2 na').symm
    have nac : c ≠ a' := ne_of_none h3 na'
    have nxc : c ≠ x := ne_of h3 o2 (fun z => nomatch z)
    have a4 := k4 _ _ (nm1 nxa) e3
    have c4 := k4 _ _ (nm1 nxc) (k3 _ _ h3)
    have nab : a' ≠ b' := ne_of_none a4 nb'
    have nxb : b' ≠ x := (ne_of_none e4 nb').symm
    have nbc : c ≠ b' := ne_of_none c4 nb'
    refine k x a' b' c H6 nx (s2.free na') (s4.free nb') (k1.free nc) ⟨⟨d2, e6⟩, k6 _ _ (nm1 nxa) (k5 _ _ a4), k6 _ _ (nm1 nxb) e5, ⟨[], k6 _ _ (nm1 nxc) (k5 _ _ c4), .nil⟩, nab, nac.symm, nbc.symm⟩ s6
theorem scCells : FnScope ["self"] ["self"] (defScope sCells) := ⟨rfl, rfl, rfl, by decide +kernel, rfl, by decide +kernel, by decide +kernel⟩
theorem ok_cells (F : FnP K "cells" "Disk.cells" sCells f fd) (T : TD K C) (B : TB mg) : FnOk P w K mg base CX0 1 f fd ["self"] (spCells C) := by
  refine F.ok scCells (fun vs H Q E h => ?_) (fun cdv A outer s H vs Q E hr h => ?_)
  · obtain ⟨p, a, b, c, sh, st, ws, rfl, _⟩ := h
    rfl
  · obtain ⟨p, a, b, c, sh, st, ws, rfl, D, hn, k⟩ := h
    obtain ⟨⟨dx, o⟩, h1, _⟩ := D
    refine ⟨_, pss_one (ps_ret (pe_callTy call_tupleN (by rfl) B.tuple (by decide +kernel) (pa_cons (pe_fld (pv 0) rfl) pa_nil))), ?_⟩
    exact ⟨_, rfl, p, C, dx, _, _, rfl, o, T.ow.cl, T.n1, rfl, a, _, rfl, .inl ⟨SqL.of h1, k⟩⟩
theorem scPending : FnScope ["self"] ["self"] (defScope sPending) := ⟨rfl, rfl, rfl, by decide +kernel, rfl, by decide +kernel, by decide +kernel⟩
theorem ok_pending (F : FnP K "pending" "Disk.pending" sPending f fd) (T : TD K C) (B : TB mg) : FnOk P w K mg base CX0 1 f fd ["self"] (spPending C) := by
  refine F.ok scPending (fun vs H Q E h => ?_) (fun cdv A outer s H vs Q E hr h => ?_)
  · obtain ⟨p, a, b, c, sh, st, ws, ts, rfl, _⟩ := h
    rfl
  · obtain ⟨p, a, b, c, sh, st, ws, ts, rfl, D, hts, k⟩ := h
    obtain ⟨⟨dx, o⟩, h1, _⟩ := D
    refine ⟨_, pss_one (ps_ret (pe_callTy call_tupleN (by rfl) B.tuple (by decide +kernel) (pa_cons (pe_fld (pv 0) rfl) pa_nil))), ?_⟩
    exact ⟨_, rfl, p, C, dx, _, _, rfl, o, T.ow.cl, T.n3, rfl, c, _, rfl, .inl ⟨SqL.of hts, k⟩⟩
theorem scLen : FnScope ["self"] ["self"] (defScope sLen) := ⟨rfl, rfl, rfl, by decide +kernel, rfl, by decide +kernel, by decide +kernel⟩
theorem ok_len (F : FnP K "__len__" "Disk.__len__" sLen f fd) (T : TD K C) (B : TB mg) : FnOk P w K mg base CX0 1 f fd ["self"] (spLen C) := by
  refine F.ok scLen (fun vs H Q E h => ?_) (fun cdv A outer s H vs Q E hr h => ?_)
  · obtain ⟨p, a, b, c, sh, st, ws, rfl, _⟩ := h
    rfl
  · obtain ⟨p, a, b, c, sh, st, ws, rfl, D, k⟩ := h
    obtain ⟨⟨dx, o⟩, h1, _⟩ := D
    refine ⟨_, pss_one (ps_ret (pe_callB call_len_seq (by rfl) B.len PySem.boot_len (pa_cons (pe_fld (pv 0) rfl) pa_nil))), ?_⟩
    refine ⟨_, rfl, p, C, dx, _, _, rfl, o, T.ow.cl, T.n1, rfl, a, _, rfl, .inl (SqL.of h1), ?_⟩
    rw [ints_len]
    exact k
theorem scGet : FnScope ["self", "at"] ["self", "at"] (defScope sGet) := ⟨rfl, rfl, rfl, by decide +kernel, rfl, by decide +kernel, by decide +kernel⟩
theorem ok_get (F : FnP K "__getitem__" "Disk.__getitem__" sGet f fd) (T : TD K C) : FnOk P w K mg base CX0 1 f fd ["self", "at"] (spGet C) := by
  refine F.ok scGet (fun vs H Q E h => ?_) (fun cdv A outer s H vs Q E hr h => ?_)
  · obtain ⟨p, a, b, c, sh, st, ws, i, n, rfl, _⟩ := h
    rfl
  · obtain ⟨p, a, b, c, sh, st, ws, i, n, rfl, D, hi, k⟩ := h
    obtain ⟨⟨dx, o⟩, h1, _⟩ := D
    refine ⟨_, pss_one (ps_ret (pe_ix ix_list (pe_fld (pv 0) rfl) (pv 1) (fun _ _ => rfl))), ?_⟩
    exact ⟨_, rfl, p, C, dx, _, _, rfl, o, T.ow.cl, T.n1, rfl, _, rfl, a, _, _, _, rfl, rfl, SqL.of h1, atI_nat (by rw [List.getElem?_map, hi]; rfl), k⟩
end
end Lp
namespace Lp
open PySem PySem.Spec PyProof.Rows L2 He
/-! ### pending writes as data -/
def dW (w : Int × List Int) : PyData := .tuple [.int w.1, .tuple (dI w.2)]
theorem tw_dp {K : PySem.W.Frag} {H : Hp} (v : V) (w : Int × List Int) (h : Tw H v w) : Dp K H v (dW w) := by
  obtain ⟨t, u, rfl, h1, h2⟩ := h
  exact .tup (SqT.of h1) (.cons (.int _) (.cons (.tup (SqT.of h2) (dpAll_ints _)) .nil))
theorem eqv_dW (x y : Int × List Int) : PyData.eqv (dW x) (dW y) = decide (x = y) := by
  obtain ⟨a, b⟩ := x
  obtain ⟨c, d⟩ := y
  show PyData.eqv (.tuple [.int a, .tuple (dI b)]) (.tuple [.int c, .tuple (dI d)]) = _
  simp only [PyData.eqv, PyData.eqvAll, eqvAll_map eqv_int, Bool.and_true, Prod.mk.injEq]
  by_cases e1 : a = c <;> by_cases e2 : b = d <;> simp [e1, e2]
theorem canLay_dW (x : Int × List Int) : (dW x).canLay0 = true := by
  simp only [dW, PyData.canLay0, PyData.canLayAll0, Bool.and_true, Bool.true_and]
  exact canLayAll_map (fun _ => rfl) x.2
theorem depth_dW (x : Int × List Int) : (dW x).depth ≤ 2 := by
  have : PyData.depthAll (dI x.2) ≤ 0 := depthAll_map (d := PyData.int) (n := 0) (fun _ => Nat.le_refl _) x.2
  simp only [dW, PyData.depth, PyData.depthAll]
  omega
theorem shaped_ws (ws : List (Int × List Int)) : SeqAt.shaped (.list (ws.map dW)) = true := shaped_of (by simp only [PyData.canLay0]; exact canLayAll_map canLay_dW ws) (by
  have : PyData.depthAll (ws.map dW) ≤ 2 := depthAll_map depth_dW ws
  simp only [PyData.depth]
  omega)
theorem paired_snoc {α β : Type} {R : α → β → Prop} {x : α} {y : β} : ∀ {xs : List α} {ys : List β}, Paired R xs ys → R x y → Paired R (xs ++ [x]) (ys ++ [y])
  | _, _, .nil, r => .cons r .nil
  | _, _, .cons q t, r => .cons q (paired_snoc t r)
section
variable {P : Program} {w : World} {K : PySem.W.Frag} {mg : Str → Option Value} {base : Heap} {C N f : Addr} {fd : FuncData}
theorem scEq : FnScope ["self", "other"] ["self", "other"] (defScope sEq) := ⟨rfl, rfl, rfl, by decide +kernel, rfl, by decide +kernel, by decide +kernel⟩
theorem ok_eq (F : FnP K "__eq__" "Disk.__eq__" sEq f fd) (T : TD K C) (B : TB mg) (gD : mg "Disk" = some (.ref C)) (kD : PySem.W.kitOne K (.ref C) (.ref C) = some true) : FnOk P w K mg base CX0 1 f fd ["self", "other"] (spEq K C) := by
  refine F.ok scEq (fun vs H Q E h => ?_) (fun cdv A outer s H vs Q E hr h => ?_)
  · rcases h with ⟨p, a, b, c, sh, st, ws, q, a', b', c', sh', st', ws', rfl, _⟩ | ⟨p, a, b, c, sh, st, ws, y, t, rfl, _⟩ <;> rfl
  · refine ⟨_, pss_one (ps_ret (pe_and (pe_callB call_isi (by rfl) B.isi (by decide +kernel) (pa_cons (pv 1) (pa_cons (pe_glob (v := .ref C) rfl gD rfl) pa_nil)))
      (pe_and (pe_cmpR (op_eqD hr.units) (pe_fld (pv 0) rfl) (pe_fld (pv 1) rfl) (nomark _)) (pe_one (pe_cmpR (op_eqD hr.units) (pe_fld (pv 0) rfl) (pe_fld (pv 1) rfl) (nomark _)))))), ?_⟩
    rcases h with ⟨p, a, b, c, sh, st, ws, q, a', b', c', sh', st', ws', rfl, D, D', k⟩ | ⟨p, a, b, c, sh, st, ws, y, t, rfl, D, ty, ki, k⟩
    · obtain ⟨⟨dx, o⟩, h1, h2, ⟨ts, h3, h4⟩, _⟩ := D
      obtain ⟨⟨dx', o'⟩, h1', h2', ⟨ts', h3', h4'⟩, _⟩ := D'
      refine ⟨_, rfl, _, .ref C, .ref C, _, true, rfl, .own C, T.ow.ty o', kD, true, rfl, iteT ?_⟩
      refine ⟨_, rfl, p, C, dx, _, _, rfl, o, T.ow.cl, T.n1, rfl, _, rfl, q, C, dx', _, _, rfl, o', T.ow.cl, T.n1, rfl, _, _, .lst (SqL.of h1) (dpAll_ints sh), .lst (SqL.of h1') (dpAll_ints sh'), shaped_ints sh, shaped_ints sh', _, rfl, ?_⟩
      rw [eqv_ints]
      by_cases e : sh = sh'
      · rw [decide_eq_true e]
        refine iteT ?_
        refine ⟨_, rfl, p, C, dx, _, _, rfl, o, T.ow.cl, T.n3, rfl, _, rfl, q, C, dx', _, _, rfl, o', T.ow.cl, T.n3, rfl, _, _, .lst (SqL.of h3) (dpAll_of tw_dp h4), .lst (SqL.of h3') (dpAll_of tw_dp h4'), shaped_ws ws, shaped_ws ws', ?_⟩
        have e2 : PyData.eqv (.list (ws.map dW)) (.list (ws'.map dW)) = decide (sh = sh' ∧ ws = ws') := by
          simp only [PyData.eqv, eqvAll_map eqv_dW, e, true_and]
        rw [e2]
        exact k
      · rw [decide_eq_false e]
        refine iteF ?_
        have e2 : decide (sh = sh' ∧ ws = ws') = false := decide_eq_false fun z => e z.1
        rw [e2] at k
        exact k
    · refine ⟨_, rfl, _, .ref C, _, _, false, rfl, .own C, ty, ki, false, rfl, iteF k⟩
theorem scWrite : FnScope ["self", "at", "numbers", "lacking"] ["self", "at", "numbers"] (defScope sWrite) := ⟨rfl, rfl, rfl, by decide +kernel, rfl, by decide +kernel, by decide +kernel⟩
theorem ok_write (F : FnP K "write" "Disk.write" sWrite f fd) (T : TD K C) (B : TB mg) (cE : CalE P w K mg base 1 "NoRoom" N "lacking") : FnOk P w K mg base (L2.CX P w) 3 f fd ["self", "at", "numbers"] (spWrite K C N) := by
  refine F.ok scWrite (fun vs H Q E h => ?_) (fun cdv A outer s H vs Q E hr h => ?_)
  · obtain ⟨p, a, b, c, sh, st, ws, i, l, ns, rfl, _⟩ := h
    rfl
  · obtain ⟨p, a, b, c, sh, st, ws, i, l, ns, rfl, D, hS, nla, h0, hl1, hl2, hl3, k1, k2⟩ := h
    obtain ⟨⟨dx, o⟩, h1, h2, ⟨ts, h3, h4⟩, n1, n2, n3⟩ := D
    refine ⟨_, pss_cons (ps_set (i := 3) scWrite.nd rfl (Or.inl rfl) (pe_op op_sub (pe_op op_add (pv 1) (pe_callB call_len_seq (by rfl) B.len PySem.boot_len (pa_cons (pv 2) pa_nil))) (pe_callB call_len_seq (by rfl) B.len PySem.boot_len (pa_cons (pe_fld (pv 0) rfl) pa_nil))))
      (pss_cons (ps_if (pt_cmpR op_gt (pv 3) pe_int (nomark _)) (pss_one (ps_raise rfl (takes_of rfl rfl rfl rfl) (pmk_er cE hr (pv 3)))) pss_nil)
      (pss_cons (ps_sliceN (pe_fld (pv 0) rfl) (pv 1) (pe_op op_add (pv 1) (pe_callB call_len_seq (by rfl) B.len PySem.boot_len (pa_cons (pv 2) pa_nil))) (pe_callTy call_listN (by rfl) B.list (by decide +kernel) (pa_cons (pv 2) pa_nil)))
      (pss_one (ps_expr (pe_bm PySem.F.plainAttrs_list PySem.F.slot_list_append PySem.F.type_list_append mt_appendN (pe_fld (pv 0) rfl)
        (pa_cons (pe_tupN (pa_cons (pv 1) (pa_cons (pe_callTy call_tupleN (by rfl) B.tuple (by decide +kernel) (pa_cons (pv 2) pa_nil)) pa_nil))) pa_nil)))))), ?_⟩
    refine ⟨_, rfl, _, rfl, l, Ints ns, rfl, hS.sq, _, _, rfl, rfl, _, rfl, p, C, dx, _, _, rfl, o, T.ow.cl, T.n1, rfl, a, _, rfl, .inl (SqL.of h1), _, _, rfl, rfl, ?_⟩
    rw [ints_len, ints_len]
    refine ⟨_, rfl, _, _, rfl, rfl, _, rfl, ?_⟩
    refine ite2 (fun e => ?_) (fun e => ?_)
    · have e : 0 < i + ↑ns.length - ↑sh.length := of_decide_eq_true e
      exact ⟨_, rfl, fun d H' hd hx hk => k2 (by omega) d H' hd hx hk⟩
    · have e : ¬ 0 < i + ↑ns.length - ↑sh.length := fun z => e (decide_eq_true z)
      have hle : i + ns.length ≤ sh.length := by omega
      have ln : (Ints ns).length ≤ 100000 := by rw [ints_len]; exact hl2
      refine ⟨_, rfl, l, Ints ns, rfl, hS.sq, fun q H1 nq s1 e1 => ?_⟩
      have aq : a ≠ q := ne_of_none h1 nq
      refine ⟨_, rfl, p, C, dx, _, _, rfl, s1 _ _ o, T.ow.cl, T.n1, rfl, _, rfl, _, rfl, _, rfl, l, Ints ns, rfl, (Same.seq' s1 hS).sq, _, _, rfl, rfl, a, q, _, _, _, _, rfl, rfl, rfl, rfl, s1 _ _ h1, e1, aq, h0, by omega, by rw [ints_len, ints_len]; omega, by rw [ints_len, ints_len, sizeLine_eq]; omega, fun H2 k2' e2 => ?_⟩
      have pa : p ≠ a := ne_of o h1 (fun z => nomatch z)
      have o2 := k2' _ _ (nm1 pa) (s1 _ _ o)
      have c2 := k2' _ _ (nm1 (Ne.symm n2)) (s1 _ _ h3)
      have b2 := k2' _ _ (nm1 (Ne.symm n1)) (s1 _ _ h2)
      have kA : Kp [a] H H2 := (Kp.of [a] s1).trans k2'
      have tA : ∀ t xs, H t = some (.tup xs) → H2 t = some (.tup xs) := tups_of kA fun x hx xs => by
        rw [List.mem_singleton.mp hx, h1]
        exact fun z => nomatch z
      have hS2 : Seq K H2 l ns := hS.imp (kA.seqL (nm1 nla)) fun z => tA _ _ z
      have tl : ts.length = ws.length := Paired.length h4
      -- behind the tuple of the numbers: u in H3
      have fin : ∀ (u : Addr) (H3 : Hp), Same H2 H3 → H3 u = some (.tup (Ints ns)) →
          ∀ (t : Addr) (H4 : Hp), H3 t = none → Same H3 H4 → H4 t = some (.tup [.int i, .ref u]) → ∀ H5, Kp [c] H4 H5 → H5 c = some (.lst (ts ++ [.ref t])) → Q .non H5 := by
        intro u H3 s3 eu t H4 nt s4 et H5 k5 e5
        have sc : Same H2 H4 := Same.trans s3 s4
        have pc : p ≠ c := ne_of o h3 (fun z => nomatch z)
        have kk : Kp [a, c] H H5 := ((kA.mono fun x hx => by rw [List.mem_singleton.mp hx]; simp).trans (Kp.of _ sc)).trans (k5.mono fun x hx => by rw [List.mem_singleton.mp hx]; simp)
        have tt : ∀ t xs, H4 t = some (.tup xs) → H5 t = some (.tup xs) := tups_of k5 fun x hx xs => by
          rw [List.mem_singleton.mp hx, sc _ _ c2]
          exact fun z => nomatch z
        refine k1 hle H5 ⟨⟨dx, k5 _ _ (nm1 pc) (sc _ _ o2)⟩, ?_, k5 _ _ (nm1 n3) (sc _ _ b2), ⟨_, e5, ?_⟩, n1, n2, n3⟩ kk
        · refine k5 _ _ (nm1 n2) (sc _ _ ?_)
          rw [e2]
          unfold splice
          simp only [List.map_append, List.map_take, List.map_drop, ints_len]
        · refine paired_snoc (paired_mono h4 fun t xs z => tt _ _ (sc _ _ (tA _ _ z))) ⟨t, u, rfl, tt _ _ et, tt _ _ (s4 _ _ eu)⟩
      refine ⟨_, rfl, p, C, dx, _, _, rfl, o2, T.ow.cl, T.n3, rfl, .inl ⟨rfl, _, SqL.of c2⟩, _, rfl, _, rfl, l, Ints ns, rfl, ?_⟩
      rcases hS2 with hL | hT
      · refine .inl ⟨hL, fun u H3 nu s3 eu => ⟨by show 2 ≤ sizeLine; decide, fun t H4 nt s4 et => ⟨c, ts, _, rfl, rfl, s4 _ _ (s3 _ _ c2), by rw [tl, sizeLine_eq]; omega, fun H5 k5 e5 => fin u H3 s3 eu t H4 nt s4 et H5 k5 e5⟩⟩⟩
      · refine .inr ⟨SqT.of hT, by show 2 ≤ sizeLine; decide, fun t H4 nt s4 et => ⟨c, ts, _, rfl, rfl, s4 _ _ c2, by rw [tl, sizeLine_eq]; omega, fun H5 k5 e5 => fin l H2 (Same.refl _) hT t H4 nt s4 et H5 k5 e5⟩⟩
theorem scBarrier : FnScope ["self"] ["self"] (defScope sBarrier) := ⟨rfl, rfl, rfl, by decide +kernel, rfl, by decide +kernel, by decide +kernel⟩
theorem ok_barrier (F : FnP K "barrier" "Disk.barrier" sBarrier f fd) (T : TD K C) (B : TB mg) : FnOk P w K mg base CX0 1 f fd ["self"] (spBarrier C) := by
  refine F.ok scBarrier (fun vs H Q E h => ?_) (fun cdv A outer s H vs Q E hr h => ?_)
  · obtain ⟨p, a, b, c, sh, st, ws, rfl, _⟩ := h
    rfl
  · obtain ⟨p, a, b, c, sh, st, ws, rfl, D, k⟩ := h
    obtain ⟨⟨dx, o⟩, h1, h2, ⟨ts, h3, h4⟩, n1, n2, n3⟩ := D
    refine ⟨_, pss_cons (ps_fldN (pv 0) (pe_callTy call_listN (by rfl) B.list (by decide +kernel) (pa_cons (pe_fld (pv 0) rfl) pa_nil)))
      (pss_one (ps_expr (pe_bm0 PySem.F.plainAttrs_list PySem.F.slot_list_clear PySem.F.type_list_clear mt_clearN (pe_fld (pv 0) rfl)))), ?_⟩
    refine ⟨_, rfl, p, C, dx, _, _, rfl, o, T.ow.cl, T.n1, rfl, a, _, rfl, .inl (SqL.of h1), fun b' H1 nb s1 e1 => ⟨_, rfl, p, C, dx, _, rfl, s1 _ _ o, T.ow.cl, T.n2, by show 3 < 1000; decide, fun H2 k2 e2 => ?_⟩⟩
    have pa : a ≠ p := ne_of h1 o (fun z => nomatch z)
    have pc : c ≠ p := ne_of h3 o (fun z => nomatch z)
    have pb : b' ≠ p := (ne_of_none o nb).symm
    have ab : a ≠ b' := ne_of_none h1 nb
    have cb : c ≠ b' := ne_of_none h3 nb
    refine ⟨_, rfl, p, C, dx, _, _, rfl, e2, T.ow.cl, T.n3, rfl, .inl ⟨rfl, _, SqL.of (k2 _ _ (nm1 pc) (s1 _ _ h3))⟩, c, ts, rfl, rfl, k2 _ _ (nm1 pc) (s1 _ _ h3), fun H3 k3 e3 => ?_⟩
    refine k b' H3 nb ⟨⟨dx, k3 _ _ (nm1 (Ne.symm pc)) e2⟩, k3 _ _ (nm1 n2) (k2 _ _ (nm1 pa) (s1 _ _ h1)), k3 _ _ (nm1 (Ne.symm cb)) (k2 _ _ (nm1 pb) e1), ⟨[], e3, .nil⟩, ab, n2, Ne.symm cb⟩ ?_
    exact ((Kp.of _ s1).trans (k2.mono fun x hx => by rw [List.mem_singleton.mp hx]; simp)).trans (k3.mono fun x hx => by rw [List.mem_singleton.mp hx]; simp)
end
end Lp
namespace Lp
open PySem PySem.Spec PyProof.Rows L2 He
/-! ### what a failure leaves -/
def fal1 (acc : List Int) (x : (Int × List Int) × Int) : List Int := splice acc x.1.1 (x.1.2.take x.2.toNat)
def fal (st : List Int) (ws : List (Int × List Int)) (ks : List Int) : List Int := (ws.zip ks).foldl fal1 st
theorem fal_succ {st : List Int} {ws : List (Int × List Int)} {ks : List Int} {j : Nat} {w : Int × List Int} {k : Int} (h1 : ws[j]? = some w) (h2 : ks[j]? = some k) : fal st (ws.take (j + 1)) (ks.take (j + 1)) = splice (fal st (ws.take j) (ks.take j)) w.1 (w.2.take k.toNat) := by
  unfold fal
  have e : ∀ m, (ws.take m).zip (ks.take m) = (ws.zip ks).take m := fun m => by simp [List.zip, List.take_zipWith]
  have hz : (ws.zip ks)[j]? = some (w, k) := by
    rw [List.getElem?_zip_eq_some]
    exact ⟨h1, h2⟩
  rw [e, e, List.take_add_one, hz, List.foldl_append]
  rfl
/-- the writes and the beginnings that are left fit -/
def Fits (n : Nat) (ws : List (Int × List Int)) (ks : List Int) : Prop := ∀ (j : Nat) (w : Int × List Int) (k : Int), ws[j]? = some w → ks[j]? = some k → 0 ≤ w.1 ∧ w.1 + w.2.length ≤ n ∧ 0 ≤ k ∧ k ≤ w.2.length
theorem fal_len {st : List Int} {ws : List (Int × List Int)} {ks : List Int} (h : Fits st.length ws ks) (hl : ws.length = ks.length) : ∀ j, j ≤ ws.length → (fal st (ws.take j) (ks.take j)).length = st.length
  | 0, _ => rfl
  | j + 1, hj => by
    have ih := fal_len h hl j (by omega)
    have h1 : ws[j]? = some ws[j] := List.getElem?_eq_getElem (by omega)
    have h2 : ks[j]? = some ks[j] := List.getElem?_eq_getElem (by omega)
    obtain ⟨a1, a2, a3, a4⟩ := h j _ _ h1 h2
    rw [fal_succ h1 h2, splice_len a1 (by rw [ih, List.length_take]; omega), ih]
def spFallen (K : PySem.W.Frag) (C : Addr) : Sp := fun vs H Q _ => ∃ p a b c sh st ws, ∃ (l : Addr) (ks : List Int), vs = [.ref p, .ref l] ∧ DiskAt C H p a b c sh st ws ∧ SqL K H l (Ints ks) ∧ ws.length = ks.length ∧ Fits st.length ws ks ∧ st.length ≤ 10000 ∧ ws.length ≤ 1000 ∧
  ∀ q a' b' c' H', H q = none → H a' = none → H b' = none → H c' = none → DiskAt C H' q a' b' c' (fal st ws ks) (fal st ws ks) [] → Same H H' → Q (.ref q) H'
section
variable {P : Program} {w : World} {K : PySem.W.Frag} {mg : Str → Option Value} {base : Heap} {C N f : Addr} {fd : FuncData}
theorem paired_get {α β : Type} {R : α → β → Prop} : ∀ {xs : List α} {ys : List β} {i : Nat} {x : α}, Paired R xs ys → xs[i]? = some x → ∃ y, ys[i]? = some y ∧ R x y
  | _, _, _, _, .nil, e => by simp at e
  | _, _, 0, _, .cons r _, e => by simp at e; subst e; exact ⟨_, rfl, r⟩
  | _, _, i + 1, x, .cons _ t, e => by
    obtain ⟨u, h1, h2⟩ := paired_get (i := i) (x := x) t (by simpa using e)
    exact ⟨u, by simpa using h1, h2⟩
theorem ints_get {ns : List Int} {i : Nat} {v : V} (h : (Ints ns)[i]? = some v) : ∃ n, ns[i]? = some n ∧ v = .int n := by
  rw [List.getElem?_map] at h
  cases e : ns[i]? with
  | none => rw [e] at h; cases h
  | some n => rw [e] at h; exact ⟨n, rfl, (Option.some.inj h).symm⟩
theorem scFallen : FnScope ["self", "lengths", "cells", "at", "numbers", "length"] ["self", "lengths"] (defScope sFallen) := ⟨rfl, rfl, rfl, by decide +kernel, rfl, by decide +kernel, by decide +kernel⟩
theorem ok_fallen (F : FnP K "fallen" "Disk.fallen" sFallen f fd) (T : TD K C) (B : TB mg) (cOf : CalCm P w K mg base CX0 3 "Disk" C "of" ["cls", "cells"] (spOf K C)) : FnOk P w K mg base CX0 4 f fd ["self", "lengths"] (spFallen K C) := by
  refine okN F scFallen (fun vs H Q E h => ?_) (fun cdv A outer s H vs Q E hr h => ?_)
  · obtain ⟨p, a, b, c, sh, st, ws, l, ks, rfl, _⟩ := h
    rfl
  · obtain ⟨p, a, b, c, sh, st, ws, l, ks, rfl, D, hL, hlen, hfit, hst, hws, k⟩ := h
    obtain ⟨⟨dx, o⟩, h1, h2, ⟨ts, h3, h4⟩, n1, n2, n3⟩ := id D
    have tl : ts.length = ws.length := Paired.length h4
    refine ⟨_, pss_cons (ps_set (i := 2) scFallen.nd rfl (Or.inl rfl) (pe_callTy call_listN (by rfl) B.list (by decide +kernel) (pa_cons (pe_fld (pv 0) rfl) pa_nil)))
      (pss_cons (ps_for PassesOwn.never rfl (pi_zip (by rfl) B.zip (pa_cons (pe_fld (pv 0) rfl) (pa_cons (pv 1) pa_nil)))
        (pg_tup rfl (pgs_cons (pg_tup rfl (pgs_cons (pg_name (i := 3) scFallen.nd rfl (Or.inl rfl)) (pgs_cons (pg_name (i := 4) scFallen.nd rfl (Or.inl rfl)) pgs_nil))) (pgs_cons (pg_name (i := 5) scFallen.nd rfl (Or.inl rfl)) pgs_nil)))
        (pss_one (ps_sliceN (pv 2) (pv 3) (pe_op op_add (pv 3) (pv 5)) (pe_callTy call_listN (by rfl) B.list (by decide +kernel) (pa_cons (pe_slice sl_tupN (pv 4) po_none (po_some (pv 5))) pa_nil)))))
      (pss_one (ps_ret (pe_cm cOf hr pass0 (pa_cons (pv 2) pa_nil))))), ?_⟩
    refine ⟨_, rfl, p, C, dx, _, _, rfl, o, T.ow.cl, T.n2, rfl, b, _, rfl, .inl (SqL.of h2), fun cl H1 ncl s1 e1 => ?_⟩
    refine ⟨_, rfl, p, C, dx, _, _, rfl, s1 _ _ o, T.ow.cl, T.n3, rfl, _, rfl, c, l, ts, Ints ks, rfl, SqL.of (s1 _ _ h3), s1.seq hL, ?_⟩
    refine RZ.for_zipL (K := K) (a := c) (b := l) (xs := ts) (ys := Ints ks) (by rw [ints_len, tl, hlen]) (fun j σ H2 => ∃ v3 v4 v5, σ = [some (.ref p), some (.ref l), some (.ref cl), v3, v4, v5] ∧ Same H H2 ∧ H2 cl = some (.lst (Ints (fal st (ws.take j) (ks.take j)))))
      ⟨none, none, none, rfl, s1, e1⟩ (fun j σ H2 ⟨_, _, _, _, s2, _⟩ => ⟨SqL.of (s2 _ _ h3), s2.seq hL⟩) ?_ ?_
    · rintro j x y t σ H2 hx hy ⟨v3, v4, v5, rfl, s2, e2⟩ nt
      obtain ⟨w, hw, r⟩ := paired_get h4 hx
      obtain ⟨k', hk, rfl⟩ := ints_get hy
      obtain ⟨tt, u, rfl, ht1, ht2⟩ := r
      obtain ⟨a1, a2, a3, a4⟩ := hfit j w k' hw hk
      have s3 : Same H (upd H2 t (.tup [.ref tt, .int k'])) := fun b o e => by rw [upd_ne (ne_of_none (s2 _ _ e) nt)]; exact s2 _ _ e
      have e3 : (upd H2 t (.tup [.ref tt, .int k'])) cl = some (.lst (Ints (fal st (ws.take j) (ks.take j)))) := by rw [upd_ne (ne_of_none e2 nt)]; exact e2
      have et : (upd H2 t (.tup [.ref tt, .int k'])) t = some (.tup [.ref tt, .int k']) := upd_same
      generalize upd H2 t (.tup [.ref tt, .int k']) = H3 at s3 e3 et ⊢
      refine ⟨t, _, rfl, SqT.of et, rfl, _, _, rfl, ⟨tt, _, rfl, SqT.of (s3 _ _ ht1), rfl, _, _, rfl, _, _, rfl, rfl, ?_⟩⟩
      refine ⟨_, _, rfl, rfl, ?_⟩
      have ka : k' = ((k'.toNat : Nat) : Int) := by omega
      refine ⟨_, rfl, _, rfl, k', rfl, u, _, rfl, SqT.of (s3 _ _ ht2), fun u2 H4 s4 hu2 => ?_⟩
      refine ⟨u2, _, rfl, .inr hu2, fun m H5 nm s5 e5 => ?_⟩
      have s45 : Same H3 H5 := Same.trans s4 s5
      rw [ka, cut_to] at e5
      have c5 := s45 _ _ e3
      have ncm : cl ≠ m := ne_of_none (s4 _ _ e3) nm
      have lw := fal_len hfit hlen j (by have := (List.getElem?_eq_some_iff.mp hw).1; omega)
      have tk : (List.take k'.toNat (Ints w.2)) = Ints (w.2.take k'.toNat) := by simp only [List.map_take]
      rw [tk] at e5
      have lk : (Ints (w.2.take k'.toNat)).length = k'.toNat := by rw [ints_len, List.length_take]; omega
      refine ⟨_, rfl, _, rfl, _, rfl, _, rfl, _, _, rfl, rfl, cl, m, _, _, w.1, _, rfl, rfl, rfl, rfl, c5, e5, ncm, a1, by omega, by rw [ints_len, lw]; omega, by rw [lk, ints_len, lw, sizeLine_eq]; omega, fun H6 k6 e6 => ?_⟩
      refine ⟨_, _, _, rfl, Same.fresh (Same.trans s3 s45) ncl k6, ?_⟩
      rw [e6, fal_succ hw hk]
      unfold splice
      have e7 : w.1 + ↑(w.2.take k'.toNat).length = w.1 + k' := by rw [List.length_take]; omega
      rw [e7]
      simp only [List.map_append, List.map_take, List.map_drop]
    · rintro σ H2 ⟨v3, v4, v5, rfl, s2, e2⟩
      rw [tl, List.take_length, hlen, List.take_length] at e2
      have lf : (fal st ws ks).length = st.length := by
        have := fal_len hfit hlen ws.length (Nat.le_refl _)
        rw [List.take_length, hlen, List.take_length] at this
        exact this
      refine ⟨rfl, _, rfl, cl, _, rfl, .inl (SqL.of e2), by rw [lf]; omega, fun q a' b' c' H3 nq na nb nc D3 s3 => ?_⟩
      exact k q a' b' c' H3 (s2.free nq) (s2.free na) (s2.free nb) (s2.free nc) D3 (Same.trans s2 s3)
end
end Lp
namespace Lp
open PySem PySem.Spec PyProof.Rows L2 He
abbrev sFeed : Stmt := top 10
abbrev sTake : Stmt := top 11
abbrev sSame : Stmt := top 12
abbrev sTold : Stmt := top 13
abbrev sCell : Stmt := top 14
/-! ### the source of draws -/
def FeedAt (H : Hp) (a : Addr) : Prop := ∃ x y : Int, H a = some (.lst [.int x, .int y]) ∧ 0 ≤ x ∧ 1 ≤ y ∧ y ≤ 2147483629
theorem FeedAt.kp {S : List Addr} {H H' : Hp} {a : Addr} (h : FeedAt H a) (k : Kp S H H') (n : a ∉ S) : FeedAt H' a := let ⟨x, y, e, r⟩ := h; ⟨x, y, k _ _ n e, r⟩
theorem FeedAt.same {H H' : Hp} {a : Addr} (h : FeedAt H a) (k : Same H H') : FeedAt H' a := let ⟨x, y, e, r⟩ := h; ⟨x, y, k _ _ e, r⟩
def spFeed (K : PySem.W.Frag) : Sp := fun vs H Q _ => ∃ (l : Addr) (ns : List Int) (k : Int), vs = [.ref l, .int k] ∧ SqL K H l (Ints ns) ∧ ns.length ≤ 63 ∧ 0 ≤ k ∧ k ≤ 1000 ∧ ∀ a H', H a = none → FeedAt H' a → Same H H' → Q (.ref a) H'
def spTake : Sp := fun vs H Q _ => ∃ (a : Addr) (m : Int), vs = [.ref a, .int m] ∧ FeedAt H a ∧ 1 ≤ m ∧ m ≤ 10 ^ 40 ∧ ∀ r H', 0 ≤ r → r < m → FeedAt H' a → Kp [a] H H' → Q (.int r) H'
section
variable {P : Program} {w : World} {K : PySem.W.Frag} {mg : Str → Option Value} {base : Heap} {C N f : Addr} {fd : FuncData}
theorem scFeed : FnScope ["_law_script", "_law_k", "_law_cell_here", "_law_own"] ["_law_script", "_law_k"] (defScope sFeed) := ⟨rfl, rfl, rfl, by decide +kernel, rfl, by decide +kernel, by decide +kernel⟩
theorem ok_feed (F : FnP K "_law_feed" "_law_feed" sFeed f fd) (B : TB mg) : FnOk P w K mg base CX0 1 f fd ["_law_script", "_law_k"] (spFeed K) := by
  refine okN F scFeed (fun vs H Q E h => ?_) (fun cdv A outer s H vs Q E hr h => ?_)
  · obtain ⟨l, ns, k, rfl, _⟩ := h
    rfl
  · obtain ⟨l, ns, k, rfl, hL, hn, h0, h1, q⟩ := h
    refine ⟨_, pss_cons (ps_set (i := 2) scFeed.nd rfl (Or.inl rfl) (pe_op op_add (pe_op op_mul pe_int (pv 1)) pe_int))
      (pss_cons (ps_cut (ps_if (pt_cmpR op_lt (pv 1) (pe_callB call_len_seq (by rfl) B.len PySem.boot_len (pa_cons (pv 0) pa_nil)) (nomark _))
        (pss_one (ps_set (i := 2) scFeed.nd rfl (Or.inl rfl) (pe_callB call_abs (by rfl) B.abs (by decide +kernel) (pa_cons (pe_ix ix_list (pv 0) (pv 1) (fun _ _ => rfl)) pa_nil))))
        (pss_one (ps_if (pt_cmpR op_gt (pe_callB call_len_seq (by rfl) B.len PySem.boot_len (pa_cons (pv 0) pa_nil)) pe_int (nomark _))
          (pss_one (ps_set (i := 2) scFeed.nd rfl (Or.inl rfl) (pe_op op_add (pe_op op_mul (pe_op op_mod (pe_callB call_abs (by rfl) B.abs (by decide +kernel) (pa_cons (pe_ix ix_list (pv 0) (pe_op op_mod (pv 1) (pe_callB call_len_seq (by rfl) B.len PySem.boot_len (pa_cons (pv 0) pa_nil))) (fun _ _ => rfl)) pa_nil)) pe_int) pe_int) (pe_op op_mul pe_int (pv 1)))))
          pss_nil))))
      (pss_cons (ps_set (i := 3) scFeed.nd rfl (Or.inl rfl) pe_int)
      (pss_cons (ps_cut (ps_if (pt_cmpR op_ge (pv 2) (pe_op op_pow pe_int pe_int) (nomark _)) (pss_one (ps_set (i := 3) scFeed.nd rfl (Or.inl rfl) (pv 2))) pss_nil))
      (pss_one (ps_ret (pe_lstN (pa_cons (pv 3) (pa_cons (pe_op op_add (pe_op op_mod (pe_op op_add (pe_op op_mul (pe_op op_mod (pv 2) pe_int) pe_int) (pe_op op_mul pe_int (pv 1))) pe_int) pe_int) pa_nil)))))))), ?_⟩
    refine ⟨_, rfl, _, _, rfl, rfl, .inl ⟨by decide, by decide⟩, _, _, rfl, rfl, ?_⟩
    refine ⟨fun σ' H' => ∃ c : Int, σ' = [some (.ref l), some (.int k), some (.int c), none] ∧ H' = H, ?_, ?_⟩
    · refine ⟨_, rfl, _, rfl, l, Ints ns, rfl, .inl hL, _, _, rfl, rfl, _, rfl, ite2 (fun e => ?_) (fun e => ?_)⟩
      · have e : k < ↑(Ints ns).length := of_decide_eq_true e
        rw [ints_len] at e
        obtain ⟨k', rfl⟩ := Int.eq_ofNat_of_zero_le h0
        exact ⟨_, rfl, _, rfl, l, _, _, _, rfl, rfl, hL, atI_nat (show (Ints ns)[k']? = some (.int ns[k']) by rw [List.getElem?_map, List.getElem?_eq_getElem (by omega)]; rfl), _, rfl, _, rfl, rfl⟩
      · refine ⟨_, rfl, l, Ints ns, rfl, .inl hL, _, _, rfl, rfl, _, rfl, ite2 (fun e => ?_) (fun e => ⟨_, rfl, rfl⟩)⟩
        have e : (0 : Int) < ↑(Ints ns).length := of_decide_eq_true e
        rw [ints_len] at e
        have hm0 : 0 ≤ k % ↑(Ints ns).length := Int.emod_nonneg _ (by rw [ints_len]; omega)
        have hm1 : k % ↑(Ints ns).length < ↑(Ints ns).length := Int.emod_lt_of_pos _ (by rw [ints_len]; omega)
        refine ⟨_, rfl, _, rfl, _, rfl, l, Ints ns, rfl, .inl hL, _, _, rfl, rfl, by rw [ints_len]; exact e, ?_⟩
        obtain ⟨j', hj⟩ := Int.eq_ofNat_of_zero_le hm0
        rw [hj, ints_len] at hm1
        refine ⟨l, _, _, .int (ns[j']'(by omega)), rfl, rfl, hL, by rw [hj]; exact atI_nat (by rw [List.getElem?_map, List.getElem?_eq_getElem (by omega)]; rfl), _, rfl, _, _, rfl, rfl, by show (0 : Int) < 2147483629; decide, _, _, rfl, rfl, .inr ⟨by decide, by decide⟩, _, rfl, _, _, rfl, rfl, .inl ⟨by decide, by decide⟩, _, _, rfl, rfl, _, rfl, rfl⟩
    · rintro σ' H' ⟨c, rfl, rfl⟩
      refine ⟨fun σ'' H'' => ∃ own : Int, 0 ≤ own ∧ σ'' = [some (.ref l), some (.int k), some (.int c), some (.int own)] ∧ H'' = H', ?_, ?_⟩
      · refine ⟨_, rfl, _, _, rfl, rfl, ⟨by decide, by decide, by decide⟩, _, _, rfl, rfl, _, rfl, ite2 (fun e => ?_) (fun e => ⟨0, Int.le_refl _, rfl, rfl⟩)⟩
        have e : (10 : Int) ^ (18 : Int).toNat ≤ c := of_decide_eq_true e
        have : (10 : Int) ^ (18 : Int).toNat = 1000000000000000000 := by decide
        exact ⟨_, rfl, c, by omega, rfl, rfl⟩
      · rintro σ'' H'' ⟨own, ho, rfl, rfl⟩
        refine ⟨_, rfl, _, rfl, _, _, rfl, rfl, by show (0 : Int) < 2147483629; decide, _, _, rfl, rfl, .inr ⟨by decide, by decide⟩, _, rfl, _, _, rfl, rfl, .inl ⟨by decide, by decide⟩, _, _, rfl, rfl, _, _, rfl, rfl, by show (0 : Int) < 2147483629; decide, _, _, rfl, rfl, by show 2 ≤ sizeLine; decide, fun p H3 np s3 e3 => ?_⟩
        exact q p H3 np ⟨_, _, e3, ho, by omega, by omega⟩ s3
theorem scTake : FnScope ["_law_feed_here", "_law_many", "_law_digit", "_law_one"] ["_law_feed_here", "_law_many"] (defScope sTake) := ⟨rfl, rfl, rfl, by decide +kernel, rfl, by decide +kernel, by decide +kernel⟩
theorem ok_take (F : FnP K "_law_take" "_law_take" sTake f fd) : FnOk P w K mg base CX0 1 f fd ["_law_feed_here", "_law_many"] spTake := by
  refine okN F scTake (fun vs H Q E h => ?_) (fun cdv A outer s H vs Q E hr h => ?_)
  · obtain ⟨a, m, rfl, _⟩ := h
    rfl
  · obtain ⟨a, m, rfl, ⟨x, y, e0, hx, hy, hy2⟩, h1, h2, q⟩ := h
    refine ⟨_, pss_cons (ps_if (pt_cmpR op_gt (pe_ix ix_list (pv 0) pe_int (fun _ _ => rfl)) pe_int (nomark _))
        (pss_cons (ps_set (i := 2) scTake.nd rfl (Or.inl rfl) (pe_op op_mod (pe_ix ix_list (pv 0) pe_int (fun _ _ => rfl)) (pv 1)))
        (pss_cons (ps_asg (pe_op op_fdivW (pe_ix ix_list (pv 0) pe_int (fun _ _ => rfl)) (pv 1)) (pg_sub (pv 0) pe_int set_listN))
        (pss_one (ps_ret (pv 2))))) pss_nil)
      (pss_cons (ps_set (i := 3) scTake.nd rfl (Or.inl rfl) (pe_op op_mod (pe_op op_mul (pe_ix ix_list (pv 0) pe_int (fun _ _ => rfl)) pe_int) pe_int))
      (pss_cons (ps_asg (pe_op op_add (pe_op op_mod (pe_op op_add (pe_op op_mul (pv 3) pe_int) pe_int) pe_int) pe_int) (pg_sub (pv 0) pe_int set_listN))
      (pss_one (ps_ret (pe_op op_mod (pe_op op_fdiv (pe_op op_add (pe_op op_mul (pv 3) pe_int) (pe_ix ix_list (pv 0) pe_int (fun _ _ => rfl))) pe_int) (pv 1)))))), ?_⟩
    have i0 : atI [V.int x, V.int y] 0 = some (.int x) := rfl
    have i1 : atI [V.int x, V.int y] 1 = some (.int y) := rfl
    have mp : (0 : Int) < m := by omega
    refine ⟨_, rfl, a, _, _, _, rfl, rfl, SqL.of e0, i0, _, _, rfl, rfl, _, rfl, ite2 (fun e => ?_) (fun e => ?_)⟩
    · refine ⟨_, rfl, a, _, _, _, rfl, rfl, SqL.of e0, i0, _, rfl, _, _, rfl, rfl, mp, ?_⟩
      refine ⟨_, rfl, a, _, _, _, rfl, rfl, SqL.of e0, i0, _, rfl, _, _, rfl, rfl, wide_div (b := 200) mp ?_ (by decide) (by decide), ?_⟩
      · have : (10 : Int) ^ 40 < 2 ^ 200 := by decide
        omega
      refine ⟨_, rfl, a, _, 0, 0, rfl, rfl, e0, rfl, fun H1 k1 e1 => ?_⟩
      refine ⟨_, rfl, q _ H1 (Int.emod_nonneg _ (by omega)) (Int.emod_lt_of_pos _ mp) ⟨_, _, e1, Int.ediv_nonneg hx (by omega), hy, hy2⟩ k1⟩
    · refine ⟨_, rfl, a, _, _, _, rfl, rfl, SqL.of e0, i1, _, _, rfl, rfl, .inr ⟨by decide, by decide⟩, _, _, rfl, rfl, by show (0 : Int) < 2147483647; decide, ?_⟩
      generalize hz : y * 48271 % 2147483647 = z
      have z0 : 0 ≤ z ∧ z < 2147483647 := by omega
      refine ⟨_, rfl, _, _, rfl, rfl, .inr ⟨by decide, by decide⟩, _, _, rfl, rfl, _, _, rfl, rfl, by show (0 : Int) < 2147483399; decide, _, _, rfl, rfl, ?_⟩
      generalize hv : (z * 40692 + 30103) % 2147483399 + 1 = v
      have v0 : 1 ≤ v ∧ v ≤ 2147483399 := by omega
      refine ⟨_, rfl, a, _, 1, 1, rfl, rfl, e0, rfl, fun H1 k1 e1 => ?_⟩
      refine ⟨_, rfl, _, _, rfl, rfl, .inr ⟨by decide, by decide⟩, _, rfl, a, _, _, _, rfl, rfl, SqL.of e1, rfl, _, _, rfl, rfl, _, _, rfl, rfl, ⟨by decide, by decide⟩, _, rfl, _, _, rfl, rfl, mp, ?_⟩
      exact q _ H1 (Int.emod_nonneg _ (by omega)) (Int.emod_lt_of_pos _ mp) ⟨_, _, e1, hx, by omega, by omega⟩ k1
end
end Lp
namespace Lp
open PySem PySem.Spec PyProof.Rows L2 He
/-- data that repr shows -/
structure Shows (d : PyData) : Prop where
  sh : d.showable = true
  cl : d.canLay0 = true
  dp : d.depth ≤ 60
  cn : cntD d ≤ 8000
def spSame (K : PySem.W.Frag) : Sp := fun vs H Q _ => ∃ x y d, vs = [x, y] ∧ Dp K H x d ∧ Dp K H y d ∧ Shows d ∧ Q (.bl true) H
/-- what a write tells: None, or the number of lacking cells -/
def toldD (i : Int) (n m : Nat) : PyData := if i + n ≤ m then .none else .tuple [.str "lacking", .int (i + n - m), .bool false]
def spTold (K : PySem.W.Frag) (C : Addr) : Sp := fun vs H Q _ => ∃ p a b c sh st ws, ∃ (i : Int) (l : Addr) (ns : List Int), vs = [.ref p, .int i, .ref l] ∧ DiskAt C H p a b c sh st ws ∧ Seq K H l ns ∧ l ≠ a ∧ 0 ≤ i ∧ sh.length ≤ 100000 ∧ ns.length ≤ 100000 ∧ ws.length ≤ 1000 ∧
  (i + ns.length ≤ sh.length → ∀ H', DiskAt C H' p a b c (splice sh i ns) st (ws ++ [(i, ns)]) → Kp [a, c] H H' → Q .non H') ∧
  (¬ i + ns.length ≤ sh.length → ∀ v H', Dp K H' v (.tuple [.str "lacking", .int (i + ns.length - sh.length), .bool false]) → Same H H' → Q v H')
section
variable {P : Program} {w : World} {K : PySem.W.Frag} {mg : Str → Option Value} {base : Heap} {C N f : Addr} {fd : FuncData}
theorem scSame : FnScope ["_law_one", "_law_other"] ["_law_one", "_law_other"] (defScope sSame) := ⟨rfl, rfl, rfl, by decide +kernel, rfl, by decide +kernel, by decide +kernel⟩
theorem ok_same (F : FnP K "_law_same" "_law_same" sSame f fd) (B : TB mg) : GOk P w K mg base CX0 1 f fd ["_law_one", "_law_other"] (spSame K) := by
  refine okGN F scSame (fun vs H Q E h => ?_) (fun cdv A outer s H vs Q E hg hr h => ?_)
  · obtain ⟨x, y, d, rfl, _⟩ := h
    rfl
  · obtain ⟨x, y, d, rfl, h1, h2, S, q⟩ := h
    refine ⟨_, pss_one (ps_ret (pe_cmpR op_eq (pe_callB (call_reprD hg hr.units) (by rfl) B.repr (by decide +kernel) (pa_cons (pv 0) pa_nil)) (pe_callB (call_reprD hg hr.units) (by rfl) B.repr (by decide +kernel) (pa_cons (pv 1) pa_nil)) (nomark _))), ?_⟩
    refine ⟨_, rfl, x, d, rfl, h1, S.sh, S.cl, S.dp, S.cn, _, rfl, y, d, rfl, h2, S.sh, S.cl, S.dp, S.cn, rfl, ?_⟩
    rw [decide_eq_true rfl]
    exact q
/-- what is asked of the error classes -/
structure TE1 (K : PySem.W.Frag) (mg : Str → Option Value) (N : Addr) : Prop where
  gR : mg "NoRoom" = some (.ref N)
  gS : mg "StoreError" = some (.ref (ga K "StoreError"))
  gH : mg "NoHand" = some (.ref (ga K "NoHand"))
  gP : mg "NoPage" = some (.ref (ga K "NoPage"))
  gL : mg "NoPlace" = some (.ref (ga K "NoPlace"))
  xm : PySem.W.exmOne K (.ref N) (.ref N) = some true
  ka : PySem.W.kitAny K (.ref N) [.ref (ga K "NoHand"), .ref (ga K "NoPage"), .ref (ga K "NoPlace")] = some false
  xf : XfC K N
  ec : ExcC K N
  no : NoAttr K N "lacking"
theorem scTold : FnScope ["_law_disk", "_law_at", "_law_numbers", "_law_found", "e"] ["_law_disk", "_law_at", "_law_numbers"] (defScope sTold) := ⟨rfl, rfl, rfl, by decide +kernel, rfl, by decide +kernel, by decide +kernel⟩
theorem ok_told (F : FnP K "_law_told_write" "_law_told_write" sTold f fd) (T : TE1 K mg N) (B : TB mg) (cW : CalM P w K mg base (L2.CX P w) 3 C "write" ["self", "at", "numbers"] (spWrite K C N)) : FnOk P w K mg base CX0 4 f fd ["_law_disk", "_law_at", "_law_numbers"] (spTold K C) := by
  refine okN F scTold (fun vs H Q E h => ?_) (fun cdv A outer s H vs Q E hr h => ?_)
  · obtain ⟨p, a, b, c, sh, st, ws, i, l, ns, rfl, _⟩ := h
    rfl
  · obtain ⟨p, a, b, c, sh, st, ws, i, l, ns, rfl, D, hS, nla, h0, hl1, hl2, hl3, k1, k2⟩ := h
    obtain ⟨⟨dx, o⟩, _⟩ := id D
    refine ⟨_, pss_cons (ps_set (i := 3) scTold.nd rfl (Or.inl rfl) pe_non)
      (pss_cons (ps_try_mix rfl rfl scTold.nd takes0 (fun W pn xe tk _ => pss_one (ps_set (i := 3) scTold.nd rfl (Or.inl rfl) (pe_mtS cW hr (fun σ => passAt tk σ) (pv 0) (pa_cons (pv 1) (pa_cons (pv 2) pa_nil)))))
        (HdsMix.as_ (i := 4) rfl rfl ⟨rfl, by decide, .inl T.gR⟩ (fun a oe cls d pn hz hf => pss_one (ps_set (i := 3) scTold.nd rfl (Or.inl rfl) (pe_tupN (pa_cons pe_str (pa_cons (pe_xf (C := N) T.xf T.no hz hf (pv 4)) (pa_cons
            (pe_callB (call_isET T.ec hz hf) (by rfl) B.isi (by decide +kernel) (pa_cons (pv 4) (pa_cons (pe_tupN (pa_cons (pe_glob (v := .ref _) rfl T.gH rfl) (pa_cons (pe_glob (v := .ref _) rfl T.gP rfl) (pa_cons (pe_glob (v := .ref _) rfl T.gL rfl) pa_nil)))) pa_nil))) pa_nil))))))
          (HdsMix.cons ⟨rfl, by decide, .inl T.gS⟩ (fun a oe cls d pn hz hf => pss_one (ps_set (i := 3) scTold.nd rfl (Or.inl rfl) (pe_tupN (pa_cons pe_str pa_nil)))) .nil)))
      (pss_one (ps_ret (pv 3)))), ?_⟩
    refine ⟨_, rfl, p, dx, _, rfl, o, rfl, _, rfl, _, rfl, p, a, b, c, sh, st, ws, i, l, ns, rfl, D, hS, nla, h0, hl1, hl2, hl3, fun hle H1 D1 kk => ⟨_, rfl, k1 hle H1 D1 kk⟩, fun hle d H1 nd ed s1 => ?_⟩
    refine ⟨true, T.xm, fun _ e he => ?_, fun z => nomatch z⟩
    refine ⟨_, rfl, rfl, rfl, d, _, _, rfl, ed, rfl, _, rfl, by show 3 ≤ sizeLine; decide, fun t H2 nt s2 et => ?_⟩
    refine ⟨rfl, t, _, _, false, rfl, et, .cons (.own _) (.cons (.own _) (.cons (.own _) .nil)), T.ka, fun dd e => ?_, by show 3 ≤ sizeLine; decide, fun r H3 nr s3 er => ?_⟩
    · cases e
      exact ⟨_, s2 _ _ ed⟩
    · refine ⟨_, rfl, k2 hle _ H3 ?_ (Same.trans (Same.trans s1 s2) s3)⟩
      exact .tup (SqT.of er) (.cons (.str _) (.cons (.int _) (.cons (.bl _) .nil)))
end
end Lp
namespace Lp
open PySem PySem.Spec PyProof.Rows L2 He
abbrev sGreat : Stmt := top 15
abbrev sAlike : Stmt := top 16
def spCell : Sp := fun vs H Q _ => ∃ a, vs = [.ref a] ∧ FeedAt H a ∧ ∀ n H', -(10 ^ 21) ≤ n → n ≤ 10 ^ 21 → FeedAt H' a → Kp [a] H H' → Q (.int n) H'
def spGreat : Sp := fun vs H Q _ => ∃ n : Int, vs = [.int n] ∧ 0 ≤ n ∧ n ≤ 1000 ∧ ∀ H', Same H H' → Q (.bl true) H'
section
variable {P : Program} {w : World} {K : PySem.W.Frag} {mg : Str → Option Value} {base : Heap} {C N f : Addr} {fd : FuncData}
theorem scCell : FnScope ["_law_feed_here"] ["_law_feed_here"] (defScope sCell) := ⟨rfl, rfl, rfl, by decide +kernel, rfl, by decide +kernel, by decide +kernel⟩
theorem ok_cell (F : FnP K "_law_cell" "_law_cell" sCell f fd) (cT : Cal P w K mg base CX0 1 "_law_take" ["_law_feed_here", "_law_many"] spTake) : FnOk P w K mg base CX0 2 f fd ["_law_feed_here"] spCell := by
  refine okN F scCell (fun vs H Q E h => ?_) (fun cdv A outer s H vs Q E hr h => ?_)
  · obtain ⟨a, rfl, _⟩ := h
    rfl
  · obtain ⟨a, rfl, FD, q⟩ := h
    refine ⟨_, pss_one (ps_ret (pe_ix ix_list (pe_lstN (pa_cons pe_int (pa_cons (pe_fn cT hr pass0 (pa_cons (pv 0) (pa_cons pe_int pa_nil))) (pa_cons (pe_op op_sub pe_int (pe_fn cT hr pass0 (pa_cons (pv 0) (pa_cons pe_int pa_nil))))
      (pa_cons (pe_op op_add (pe_op op_pow pe_int pe_int) (pe_fn cT hr pass0 (pa_cons (pv 0) (pa_cons pe_int pa_nil)))) pa_nil))))) (pe_fn cT hr pass0 (pa_cons (pv 0) (pa_cons pe_int pa_nil))) (fun _ _ => rfl))), ?_⟩
    refine ⟨_, rfl, a, 9, rfl, FD, by decide, by decide, fun r1 H1 a1 b1 F1 k1 => ?_⟩
    refine ⟨_, rfl, a, 9, rfl, F1, by decide, by decide, fun r2 H2 a2 b2 F2 k2 => ⟨_, _, rfl, rfl, ?_⟩⟩
    refine ⟨_, _, rfl, rfl, ⟨by decide, by decide, by decide⟩, _, rfl, a, 9, rfl, F2, by decide, by decide, fun r3 H3 a3 b3 F3 k3 => ⟨_, _, rfl, rfl, by show 4 ≤ sizeLine; decide, fun p H4 np s4 e4 => ?_⟩⟩
    refine ⟨_, rfl, a, 4, rfl, F3.same s4, by decide, by decide, fun r H5 a5 b5 F5 k5 => ?_⟩
    have npa : p ≠ a := fun z => by
      obtain ⟨x, y, e, _⟩ := F3
      rw [z, e] at np
      cases np
    have kk : Kp [a] H H5 := (((k1.trans k2).trans k3).trans (Kp.of _ s4)).trans k5
    have e5 := k5 _ _ (nm1 npa) e4
    have p20 : (10 : Int) ^ (20 : Int).toNat = 100000000000000000000 := by decide
    have p21 : (10 : Int) ^ 21 = 1000000000000000000000 := by decide
    have fin : ∀ n : Int, -1000000000000000000000 ≤ n → n ≤ 1000000000000000000000 → Q (.int n) H5 := fun n x y => q n H5 (by omega) (by omega) F5 kk
    have h4 : r = 0 ∨ r = 1 ∨ r = 2 ∨ r = 3 := by omega
    rcases h4 with rfl | rfl | rfl | rfl
    · exact ⟨p, _, _, _, rfl, rfl, SqL.of e5, rfl, fin 0 (by decide) (by decide)⟩
    · exact ⟨p, _, _, _, rfl, rfl, SqL.of e5, rfl, fin r1 (by omega) (by omega)⟩
    · exact ⟨p, _, _, _, rfl, rfl, SqL.of e5, rfl, fin (0 - r2) (by omega) (by omega)⟩
    · exact ⟨p, _, _, _, rfl, rfl, SqL.of e5, rfl, fin (10 ^ (20 : Int).toNat + r3) (by omega) (by omega)⟩
/-- all that the law says of disks by their own defs -/
structure CD (P : Program) (w : World) (K : PySem.W.Frag) (mg : Str → Option Value) (base : Heap) (C N : Addr) : Prop where
  mk_ : CalC P w K mg base CX0 1 "Disk" C ["self", "size"] (spInit C)
  of_ : CalCm P w K mg base CX0 3 "Disk" C "of" ["cls", "cells"] (spOf K C)
  cells : CalP P w K mg base CX0 1 C "cells" (spCells C)
  pend : CalP P w K mg base CX0 1 C "pending" (spPending C)
  len : CalM P w K mg base CX0 1 C "__len__" ["self"] (spLen C)
  get : CalM P w K mg base CX0 1 C "__getitem__" ["self", "at"] (spGet C)
  eq : CalM P w K mg base CX0 1 C "__eq__" ["self", "other"] (spEq K C)
  wr : CalM P w K mg base (L2.CX P w) 3 C "write" ["self", "at", "numbers"] (spWrite K C N)
  bar : CalM P w K mg base CX0 1 C "barrier" ["self"] (spBarrier C)
  fal : CalM P w K mg base CX0 4 C "fallen" ["self", "lengths"] (spFallen K C)
theorem lack_dp {H : Hp} {r : Addr} {i : Int} {b : Bool} (e : H r = some (.tup [.str "lacking", .int i, .bl b])) : Dp K H (.ref r) (.tuple [.str "lacking", .int i, .bool b]) := .tup (SqT.of e) (.cons (.str _) (.cons (.int _) (.cons (.bl _) .nil)))
theorem shaped_lack (i : Int) : SeqAt.shaped (.tuple [.str "lacking", .int i, .bool false]) = true := shaped_of (by
  have e : PyData.strOk (Str.ofString "lacking") = true := by decide +kernel
  simp [PyData.canLay0, PyData.canLayAll0, e]) (by simp [PyData.depth, PyData.depthAll])
theorem scGreat : FnScope ["_law_number", "_law_disk", "_law_none", "_law_given", "_law_other"] ["_law_number"] (defScope sGreat) := ⟨rfl, rfl, rfl, by decide +kernel, rfl, by decide +kernel, by decide +kernel⟩
theorem ok_great (F : FnP K "_law_great_right" "_law_great_right" sGreat f fd) (D : CD P w K mg base C N) (T : TD K C) (nf : PySem.W.notFirst K C (.ref C) = true) (B : TB mg) (cW : Cal P w K mg base CX0 4 "_law_told_write" ["_law_disk", "_law_at", "_law_numbers"] (spTold K C)) : FnOk P w K mg base CX0 6 f fd ["_law_number"] spGreat := by
  refine okN F scGreat (fun vs H Q E h => ?_) (fun cdv A outer s H vs Q E hr h => ?_)
  · obtain ⟨n, rfl, _⟩ := h
    rfl
  · obtain ⟨n, rfl, h0, h1, q⟩ := h
    have r2 : Room 2 _ := hr.mono (by decide)
    have r1 : Room 1 _ := hr.mono (by decide)
    have r3 : Room 3 _ := hr.mono (by decide)
    have r4 : Room 4 _ := hr.mono (by decide)
    refine ⟨_, pss_cons (ps_set (i := 1) scGreat.nd rfl (Or.inl rfl) (pe_mkN D.mk_ r2 pass0 (pa_cons pe_int pa_nil)))
      (pss_cons (ps_if (pt_cmpR op_notN (pe_fn cW r4 pass0 (pa_cons (pv 1) (pa_cons pe_int (pa_cons (pe_lstN (pa_cons (pv 0) (pa_cons pe_int pa_nil))) pa_nil)))) pe_non (nomark _)) (pss_one (ps_ret pe_bl)) pss_nil)
      (pss_cons (ps_if (pt_cmpR (op_neD hr.units) (pe_fn cW r4 pass0 (pa_cons (pv 1) (pa_cons pe_int (pa_cons (pe_tupN (pa_cons pe_int (pa_cons pe_int pa_nil))) pa_nil)))) (pe_tupN (pa_cons pe_str (pa_cons pe_int (pa_cons pe_bl pa_nil)))) (nomark _)) (pss_one (ps_ret pe_bl)) pss_nil)
      (pss_cons (ps_set (i := 2) scGreat.nd rfl (Or.inl rfl) (pe_mkN D.mk_ r2 pass0 (pa_cons pe_int pa_nil)))
      (pss_cons (ps_if (PW.pt (pw_or (pt_cmpR (op_neD hr.units) (pe_fn cW r4 pass0 (pa_cons (pv 2) (pa_cons pe_int (pa_cons (pe_lstN (pa_cons (pv 0) pa_nil)) pa_nil)))) (pe_tupN (pa_cons pe_str (pa_cons pe_int (pa_cons pe_bl pa_nil)))) (nomark _))
          (pw_or (pt_cmpR (op_neM D.eq r2 pass0) (pv 2) (pe_cm D.of_ r3 pass0 (pa_cons (pe_tupN pa_nil) pa_nil)) (nomark _))
          (pw_or1 (pt_cmpR (op_neD hr.units) (pe_pr D.cells r2 pass0 (pv 2)) (pe_tupN pa_nil) (nomark _)))))) (pss_one (ps_ret pe_bl)) pss_nil)
      (pss_cons (ps_set (i := 3) scGreat.nd rfl (Or.inl rfl) (pe_lstN (pa_cons (pv 0) (pa_cons pe_int pa_nil))))
      (pss_cons (ps_set (i := 4) scGreat.nd rfl (Or.inl rfl) (pe_cm D.of_ r3 pass0 (pa_cons (pv 3) pa_nil)))
      (pss_cons (ps_asg (pe_op op_sub pe_int (pv 0)) (pg_sub (pv 3) pe_int set_listN))
      (pss_cons (ps_expr (pe_mt D.wr r3 passL (pv 4) (pa_cons pe_int (pa_cons (pe_lstN (pa_cons pe_int pa_nil)) pa_nil))))
      (pss_cons (ps_if (pt_cmpR (op_neD hr.units) (pe_tupN (pa_cons (pe_pr D.cells r2 pass0 (pe_mt D.fal r4 pass0 (pv 4) (pa_cons (pe_lstN (pa_cons pe_int pa_nil)) pa_nil))) (pa_cons (pe_pr D.cells r2 pass0 (pv 4)) (pa_cons (pv 3) pa_nil))))
          (pe_tupN (pa_cons (pe_tupN (pa_cons (pv 0) (pa_cons pe_int pa_nil))) (pa_cons (pe_tupN (pa_cons (pv 0) (pa_cons pe_int pa_nil))) (pa_cons (pe_lstN (pa_cons (pe_op op_sub pe_int (pv 0)) (pa_cons pe_int pa_nil))) pa_nil)))) (nomark _)) (pss_one (ps_ret pe_bl)) pss_nil)
      (pss_one (ps_ret (pe_and (pe_cmpR (op_eqD hr.units) (pe_pr D.cells r2 pass0 (pv 1)) (pe_op op_catTN (pe_op op_repTN (pe_tupN (pa_cons pe_int pa_nil)) pe_int) (pe_tupN (pa_cons (pv 0) (pa_cons pe_int pa_nil)))) (nomark _))
        (pe_one (pe_cmpR (op_eqD hr.units) (pe_pr D.pend r2 pass0 (pv 1)) (pe_tupN (pa_cons (pe_tupN (pa_cons pe_int (pa_cons (pe_tupN (pa_cons (pv 0) (pa_cons pe_int pa_nil))) pa_nil))) pa_nil)) (nomark _))))))))))))))), ?_⟩
    have h5 : ((List.replicate (5000 : Int).toNat (0 : Int))).length = 5000 := List.length_replicate
    refine fun x dx H1 nx nd ne s1 ed ex => ⟨x, dx, _, rfl, ex, by decide, by decide, fun a b c H2 na nb nc D1 k1 => ⟨rfl, ?_⟩⟩
    have s2 : Same H H2 := Same.fresh s1 nx k1
    refine ⟨_, rfl, _, rfl, by show 2 ≤ sizeLine; decide, fun l H3 nl s3 e3 => ⟨x, a, b, c, _, _, _, 4998, l, [n, 3], rfl, D1.same s3, .inl (SqL.of e3), (ne_of_none D1.sh nl).symm, by decide, by rw [h5]; decide, by show 2 ≤ 100000; decide, by decide, fun _ H4 D4 k4 => ?_, fun z => absurd (by rw [h5]; show (4998 : Int) + ((2 : Nat) : Int) ≤ ((5000 : Nat) : Int); decide) z⟩⟩
    have s4 : Kp [a, c] H2 H4 := (Kp.of _ s3).trans k4
    have s4h : Same H H4 := same_freshL s2 (fun y hy => by
      rcases List.mem_cons.mp hy with rfl | hy
      · exact Same.free s1 na
      · rw [List.mem_singleton.mp hy]; exact Same.free s1 nc) s4
    refine ⟨rfl, false, rfl, iteF ?_⟩
    have l4 : (splice (List.replicate (5000 : Int).toNat 0) 4998 [n, 3]).length = 5000 := by rw [splice_len (by decide) (by rw [h5]; show (4998 : Int) + ((2 : Nat) : Int) ≤ ((5000 : Nat) : Int); decide), h5]
    refine ⟨_, rfl, by show 2 ≤ sizeLine; decide, fun l' H5 nl' s5 e5 => ⟨x, a, b, c, _, _, _, 4999, l', [8, 9], rfl, D4.same s5, .inr e5, (ne_of_none D4.sh nl').symm, by decide, by rw [l4]; decide, by decide, by show 1 ≤ 1000; decide, fun z => absurd z (by rw [l4]; decide), fun _ v H6 d6 s6 => ?_⟩⟩
    rw [l4] at d6
    refine ⟨by show 3 ≤ sizeLine; decide, fun r H7 nr s7 e7 => ⟨_, _, same_dp s7 _ _ d6, lack_dp e7, shaped_lack _, shaped_lack _, false, rfl, iteF ?_⟩⟩
    have s47 : Same H4 H7 := Same.trans (Same.trans s5 s6) s7
    refine fun x2 dx2 H8 nx2 _ _ s8 _ ex2 => ⟨x2, dx2, _, rfl, ex2, by decide, by decide, fun a2 b2 c2 H9 na2 nb2 nc2 D9 k9 => ⟨rfl, ?_⟩⟩
    have s49 : Same H4 H9 := Same.trans s47 (Same.fresh s8 nx2 k9)
    refine ⟨_, rfl, _, rfl, by show 1 ≤ sizeLine; decide, fun l2 H10 nl2 s10 e10 => ⟨x2, a2, b2, c2, _, _, _, 0, l2, [n], rfl, D9.same s10, .inl (SqL.of e10), (ne_of_none D9.sh nl2).symm, by decide, by decide, by show 1 ≤ 100000; decide, by decide, fun z => absurd z (by show ¬ (0 : Int) + ((1 : Nat) : Int) ≤ ((0 : Nat) : Int); decide), fun _ v2 H11 d11 s11 => ?_⟩⟩
    refine ⟨by show 3 ≤ sizeLine; decide, fun r2 H12 nr2 s12 e12 => ⟨_, _, same_dp s12 _ _ d11, lack_dp e12, shaped_lack _, shaped_lack _, false, rfl, iteF ?_⟩⟩
    have s9c : Same H9 H12 := Same.trans (Same.trans s10 s11) s12
    refine ⟨_, rfl, rfl, by show 0 ≤ sizeLine; decide, fun t0 H13 nt0 s13 e13 => ⟨t0, [], rfl, .inr e13, by decide, fun x3 a3 b3 c3 H14 nx3 na3 nb3 nc3 D14 s14 => ?_⟩⟩
    have s9e : Same H9 H14 := Same.trans (Same.trans s9c s13) s14
    have D9e := D9.same s9e
    obtain ⟨dxa, oxa⟩ := D9e.ob
    obtain ⟨dxb, oxb⟩ := D14.ob
    refine ⟨x2, dxa, _, _, rfl, oxa, T.ow.ty oxb, nf, .inl ⟨x2, a2, b2, c2, _, _, _, x3, a3, b3, c3, _, _, _, rfl, D9e, D14, true, rfl, false, rfl, iteF ?_⟩⟩
    have OB : ∀ {Hh : Hp} {p a b c : Addr} {sh st : List Int} {ws : List (Int × List Int)}, DiskAt C Hh p a b c sh st ws → ∃ dx, Hh p = some (.ins C dx (flds a b c)) := fun D => D.ob
    refine ⟨_, rfl, x2, dxa, _, rfl, oxa, x2, a2, b2, c2, _, _, _, rfl, D9e, by decide, fun t1 H15 nt1 s15 e15 => ⟨by show 0 ≤ sizeLine; decide, fun t2 H16 nt2 s16 e16 => ⟨_, _, .tup (SqT.of (s16 _ _ e15)) (dpAll_ints _), .tup (SqT.of e16) (dpAll_ints []), shaped_intsT _, shaped_intsT [], false, rfl, iteF ?_⟩⟩⟩
    have s4g : Same H4 H16 := Same.trans (Same.trans (Same.trans s49 s9e) s15) s16
    refine ⟨_, rfl, by show 2 ≤ sizeLine; decide, fun g H17 ng s17 e17 => ?_⟩
    refine ⟨rfl, _, rfl, g, [n, 2], rfl, .inl (SqL.of e17), by show 2 ≤ 100000; decide, fun x4 a4 b4 c4 H18 nx4 na4 nb4 nc4 D18 s18 => ?_⟩
    have n4 : ∀ {y : Addr}, H17 y = none → H16 y = none := fun h => Same.free s17 h
    refine ⟨_, rfl, _, _, rfl, rfl, _, rfl, g, _, 0, 0, rfl, rfl, s18 _ _ e17, rfl, fun H19 k19 e19 => ?_⟩
    have g18 := s18 _ _ e17
    have gx : ∀ {y : Addr}, H17 y = none → y ∉ [g] := fun h => nm1 (ne_of_none e17 h).symm
    have D19 : DiskAt C H19 x4 a4 b4 c4 [n, 2] [n, 2] [] := D18.kp k19 (gx nx4) (gx na4) (gx nb4) (gx nc4) (fun z hz => by rw [List.mem_singleton.mp hz, g18]; exact fun _ z => nomatch z)
    have s19 : Same H16 H19 := Same.fresh (Same.trans s17 s18) ng k19
    obtain ⟨dx4, ox4⟩ := D19.ob
    refine ⟨_, rfl, x4, dx4, _, rfl, ox4, rfl, by show 1 ≤ sizeLine; decide, fun l3 H20 nl3 s20 e20 => ⟨x4, a4, b4, c4, _, _, _, 1, l3, [5], rfl, D19.same s20, .inl (SqL.of e20), (ne_of_none D19.sh nl3).symm, by decide, by show 2 ≤ 100000; decide, by decide, by decide, fun _ H21 D21 k21 => ?_, fun z => absurd (by show (1 : Int) + ((1 : Nat) : Int) ≤ ((2 : Nat) : Int); decide) z⟩⟩
    have s21 : Same H16 H21 := same_freshL (Same.trans s19 s20) (fun y hy => by
      rcases List.mem_cons.mp hy with rfl | hy
      · exact n4 na4
      · rw [List.mem_singleton.mp hy]; exact n4 nc4) k21
    have g21 : H21 g = some (.lst [.int (7 - n), .int 2]) := k21 _ _ (fun hy => by
      rcases List.mem_cons.mp hy with rfl | hy
      · rw [na4] at e17; cases e17
      · rw [← List.mem_singleton.mp hy, e17] at nc4; cases nc4) (s20 _ _ e19)
    obtain ⟨dx5, ox5⟩ := D21.ob
    have hsp : splice [n, 2] 1 [5] = [n, 5] := rfl
    rw [hsp] at D21
    refine ⟨_, rfl, x4, dx5, _, rfl, ox5, rfl, by show 1 ≤ sizeLine; decide, fun l4' H22 nl4 s22 e22 => ⟨x4, a4, b4, c4, _, _, _, l4', [0], rfl, D21.same s22, SqL.of e22, rfl, ?_, by show 2 ≤ 10000; decide, by show 1 ≤ 1000; decide, fun x5 a5 b5 c5 H23 nx5 _ _ _ D23 s23 => ?_⟩⟩
    · intro j w k hw hk
      cases j with
      | zero => cases hw; cases hk; exact ⟨by decide, by show (1 : Int) + ((1 : Nat) : Int) ≤ ((2 : Nat) : Int); decide, by decide, by decide⟩
      | succ j => exact nomatch hw
    have hf : fal [n, 2] ([] ++ [(1, [5])]) [0] = [n, 2] := rfl
    rw [hf] at D23
    obtain ⟨dx6, ox6⟩ := D23.ob
    refine ⟨x5, dx6, _, rfl, ox6, x5, a5, b5, c5, _, _, _, rfl, D23, by show 2 ≤ 100000; decide, fun t3 H24 nt3 s24 e24 => ?_⟩
    have s2124 : Same H21 H24 := Same.trans (Same.trans s22 s23) s24
    refine ⟨_, rfl, x4, dx5, _, rfl, s2124 _ _ ox5, x4, a4, b4, c4, _, _, _, rfl, D21.same s2124, by show 2 ≤ 100000; decide, fun t4 H25 nt4 s25 e25 => ?_⟩
    refine ⟨_, rfl, by show 3 ≤ sizeLine; decide, fun t5 H26 nt5 s26 e26 => ?_⟩
    refine ⟨_, rfl, by show 2 ≤ sizeLine; decide, fun u1 H27 nu1 s27 f27 => ⟨_, rfl, by show 2 ≤ sizeLine; decide, fun u2 H28 nu2 s28 f28 => ⟨_, rfl, _, _, rfl, rfl, ?_⟩⟩⟩
    refine ⟨by show 2 ≤ sizeLine; decide, fun u3 H29 nu3 s29 f29 => ⟨by show 3 ≤ sizeLine; decide, fun u4 H30 nu4 s30 f30 => ?_⟩⟩
    have s2130 : Same H21 H30 := Same.trans (Same.trans (Same.trans (Same.trans (Same.trans (Same.trans s2124 s25) s26) s27) s28) s29) s30
    have z24 : Same H24 H30 := Same.trans (Same.trans (Same.trans (Same.trans (Same.trans s25 s26) s27) s28) s29) s30
    have z26 : Same H26 H30 := Same.trans (Same.trans (Same.trans s27 s28) s29) s30
    refine ⟨.tuple [.tuple (dI [n, 2]), .tuple (dI [n, 5]), .list (dI [7 - n, 2])], .tuple [.tuple (dI [n, 2]), .tuple (dI [n, 5]), .list (dI [7 - n, 2])],
      .tup (SqT.of (z26 _ _ e26)) (.cons (.tup (SqT.of (z24 _ _ e24)) (dpAll_ints [n, 2])) (.cons (.tup (SqT.of ((Same.trans s26 z26) _ _ e25)) (dpAll_ints [n, 5])) (.cons (.lst (SqL.of (s2130 _ _ g21)) (dpAll_ints [7 - n, 2])) .nil))),
      .tup (SqT.of f30) (.cons (.tup (SqT.of ((Same.trans (Same.trans s28 s29) s30) _ _ f27)) (dpAll_ints [n, 2])) (.cons (.tup (SqT.of ((Same.trans s29 s30) _ _ f28)) (dpAll_ints [n, 5])) (.cons (.lst (SqL.of (s30 _ _ f29)) (dpAll_ints [7 - n, 2])) .nil))),
      shaped_of (by simp [PyData.canLay0, PyData.canLayAll0]) (by simp [PyData.depth, PyData.depthAll]), shaped_of (by simp [PyData.canLay0, PyData.canLayAll0]) (by simp [PyData.depth, PyData.depthAll]), false, ?_, iteF ?_⟩
    · simp [PyData.eqv, PyData.eqvAll]
    have sD : Same H4 H30 := Same.trans (Same.trans s4g s21) s2130
    have D30 := D4.same sD
    obtain ⟨dx7, ox7⟩ := D30.ob
    refine ⟨_, rfl, x, dx7, _, rfl, ox7, x, a, b, c, _, _, _, rfl, D30, by rw [l4]; decide, fun t6 H31 nt6 s31 e31 => ?_⟩
    refine ⟨by show 1 ≤ sizeLine; decide, fun t7 H32 nt7 s32 e32 => ⟨t7, 4998, _, rfl, rfl, SqT.of e32, by decide, by decide, by decide, by show 1 ≤ 100; decide, fun t8 H33 nt8 s33 e33 => ?_⟩⟩
    rw [rep_ints] at e33
    refine ⟨_, rfl, by show 2 ≤ sizeLine; decide, fun t9 H34 nt9 s34 e34 => ⟨t8, t9, _, _, rfl, rfl, SqT.of (s34 _ _ e33), SqT.of e34, ?_, (fun z => nomatch z), ?_, fun t10 H35 nt10 s35 e35 => ?_⟩⟩
    · intro z
      have := congrArg List.length z
      rw [ints_len, List.length_replicate] at this
      cases this
    · rw [ints_len, List.length_replicate]
      show 5000 ≤ sizeLine
      decide
    have esp : splice (List.replicate (5000 : Int).toNat 0) 4998 [n, 3] = List.replicate (4998 : Int).toNat 0 ++ [n, 3] := by
      unfold splice
      have e1 : (4998 + (([n, 3] : List Int).length : Int)).toNat = 5000 := rfl
      rw [e1, List.take_replicate, List.drop_replicate]
      rfl
    have e35' : H35 t10 = some (.tup (Ints (List.replicate (4998 : Int).toNat 0 ++ [n, 3]))) := by
      rw [e35]
      simp only [Ints, List.map_append]
      rfl
    have s3035 : Same H30 H35 := Same.trans (Same.trans (Same.trans (Same.trans s31 s32) s33) s34) s35
    refine ⟨_, _, .tup (SqT.of ((Same.trans (Same.trans (Same.trans s32 s33) s34) s35) _ _ e31)) (dpAll_ints _), .tup (SqT.of e35') (dpAll_ints _), shaped_intsT _, shaped_intsT _, true, ?_, iteT ?_⟩
    · rw [eqv_intsT, decide_eq_true esp]
    have D35 := D30.same s3035
    obtain ⟨ts, h3, h4⟩ := D35.ws
    refine ⟨_, rfl, x, dx7, _, rfl, s3035 _ _ ox7, x, a, b, c, _, _, _, ts, rfl, D35, h3, fun p1 H36 np1 s36 e36 => ?_⟩
    refine ⟨_, rfl, by show 2 ≤ sizeLine; decide, fun p2 H37 np2 s37 e37 => ⟨by show 2 ≤ sizeLine; decide, fun p3 H38 np3 s38 e38 => ⟨by show 1 ≤ sizeLine; decide, fun p4 H39 np4 s39 e39 => ?_⟩⟩⟩
    have s3539 : Same H35 H39 := Same.trans (Same.trans (Same.trans s36 s37) s38) s39
    refine ⟨.tuple ([(4998, [n, 3])].map dW), .tuple ([(4998, [n, 3])].map dW), .tup (SqT.of ((Same.trans (Same.trans s37 s38) s39) _ _ e36)) (dpAll_of tw_dp (paired_mono h4 fun t xs e => s3539 _ _ e)),
      .tup (SqT.of e39) (.cons (tw_dp _ (4998, [n, 3]) ⟨p3, p2, rfl, s39 _ _ e38, (Same.trans s38 s39) _ _ e37⟩) .nil), ?_, ?_, ?_⟩
    · exact shaped_of (by simp [PyData.canLay0, PyData.canLayAll0, dW]) (by simp [PyData.depth, PyData.depthAll, dW])
    · exact shaped_of (by simp [PyData.canLay0, PyData.canLayAll0, dW]) (by simp [PyData.depth, PyData.depthAll, dW])
    have ee : PyData.eqv (.tuple ([(4998, [n, 3])].map dW)) (.tuple ([(4998, [n, 3])].map dW)) = true := by simp [PyData.eqv, PyData.eqvAll, dW]
    rw [ee]
    exact q _ (Same.trans (Same.trans (Same.trans s4h sD) s3035) s3539)
end
end Lp
namespace Lp
open PySem PySem.Spec PyProof.Rows L2 He
def lots43 : List (List (Int × List Int)) := [[(0, [1, 2]), (0, [1])], [(0, [1]), (1, [2])], [(1, [2]), (0, [1])], [(0, [1, 2])], [(0, [1, 2])]]
def dL (ws : List (Int × List Int)) : PyData := .list (ws.map dW)
def runW (st : List Int) (ws : List (Int × List Int)) : List Int := ws.foldl (fun acc w => splice acc w.1 w.2) st
theorem run43 (n i : Int) : ∀ ws ∈ lots43, runW [n, i] ws = [1, 2] := by
  intro ws h
  simp only [lots43, List.mem_cons, List.not_mem_nil, or_false] at h
  rcases h with rfl | rfl | rfl | rfl | rfl <;> rfl
theorem fit43 : ∀ ws ∈ lots43, ∀ w ∈ ws, 0 ≤ w.1 ∧ w.1 + w.2.length ≤ 2 := by decide
theorem len43 : ∀ ws ∈ lots43, ws.length ≤ 2 := by decide
theorem runW_snoc (st : List Int) (ws : List (Int × List Int)) (w : Int × List Int) : runW st (ws ++ [w]) = splice (runW st ws) w.1 w.2 := by
  unfold runW
  rw [List.foldl_append]
  rfl
theorem take_snoc {α : Type} {xs : List α} {i : Nat} {x : α} (h : xs[i]? = some x) : xs.take (i + 1) = xs.take i ++ [x] := by
  rw [List.take_add_one, h]
  rfl
theorem runW_len {st : List Int} {ws : List (Int × List Int)} (h : ∀ w ∈ ws, 0 ≤ w.1 ∧ w.1 + w.2.length ≤ st.length) : ∀ i, i ≤ ws.length → (runW st (ws.take i)).length = st.length
  | 0, _ => by simp [runW]
  | i + 1, hi => by
    have ih := runW_len h i (by omega)
    have e : ws[i]? = some ws[i] := by simp [hi]
    rw [take_snoc e, runW_snoc]
    have := h ws[i] (List.getElem_mem _)
    rw [splice_len this.1 (by rw [ih]; exact this.2), ih]
theorem atI_last (xs : List V) (x : V) : atI (xs ++ [x]) (-1) = some x := by
  unfold atI ixN
  rw [if_neg (by decide), if_pos (by rw [List.length_append]; simp; omega)]
  have e : (-1 + ((xs ++ [x]).length : Int)).toNat = xs.length := by rw [List.length_append]; simp; omega
  rw [e]
  show (xs ++ [x])[xs.length]? = some x
  simp
theorem take_snocM {α β : Type} {f : α → β} {xs : List α} {i : Nat} {x : α} (h : xs[i]? = some x) : (xs.take (i + 1)).map f = (xs.take i).map f ++ [f x] := by
  rw [take_snoc h, List.map_append]
  rfl
theorem atI_nat {xs : List V} {i : Nat} {x : V} (h : xs[i]? = some x) : atI xs (i : Nat) = some x := by
  have := (List.getElem?_eq_some_iff.mp h).1
  unfold atI ixN
  rw [if_pos (by omega), if_pos (by omega)]
  exact h
/-- the disks made so far -/
def MadeAt (C dm : Addr) (n : Int) (H : Hp) (ds : List V) (j : Nat) : Prop := ds.length = j ∧ ∀ (i : Nat) (v : V), ds[i]? = some v → ∃ ws p a b c, lots43[i]? = some ws ∧ v = .ref p ∧ DiskAt C H p a b c [1, 2] [n, i] ws ∧ p ≠ dm ∧ a ≠ dm ∧ b ≠ dm ∧ c ≠ dm
theorem MadeAt.kp {C dm : Addr} {n : Int} {H H' : Hp} {ds xs : List V} {j : Nat} (h : MadeAt C dm n H ds j) (e : H dm = some (.lst xs)) (k : Kp [dm] H H') : MadeAt C dm n H' ds j := ⟨h.1, fun i v hv => by
  obtain ⟨ws, p, a, b, c, h1, h2, D, n1, n2, n3, n4⟩ := h.2 i v hv
  exact ⟨ws, p, a, b, c, h1, h2, D.kp k (nm1 n1) (nm1 n2) (nm1 n3) (nm1 n4) (fun z hz => by rw [List.mem_singleton.mp hz, e]; exact fun _ z => nomatch z), n1, n2, n3, n4⟩⟩
def spAlike : Sp := fun vs H Q _ => ∃ n : Int, vs = [.int n] ∧ ∀ H', Same H H' → Q (.bl true) H'
section
variable {P : Program} {w : World} {K : PySem.W.Frag} {mg : Str → Option Value} {base : Heap} {C N f : Addr} {fd : FuncData}
abbrev nAlike : List Str := ["_law_number", "_law_lots", "_law_disks_made", "_law_at", "_law_writes", "_law_place", "_law_numbers", "_law_one", "_law_other"]
theorem scAlike : FnScope nAlike ["_law_number"] (defScope sAlike) := ⟨rfl, rfl, rfl, by decide +kernel, rfl, by decide +kernel, by decide +kernel⟩
theorem ok_alike (F : FnP K "_law_alike_right" "_law_alike_right" sAlike f fd) (D : CD P w K mg base C N) (T : TD K C) (nf : PySem.W.notFirst K C (.ref C) = true) (B : TB mg) : FnOk P w K mg base CX0 6 f fd ["_law_number"] spAlike := by
  refine okN F scAlike (fun vs H Q E h => ?_) (fun cdv A outer s H vs Q E hr h => ?_)
  · obtain ⟨n, rfl, _⟩ := h
    rfl
  · obtain ⟨n, rfl, q⟩ := h
    have r2 : Room 2 _ := hr.mono (by decide)
    have r1 : Room 1 _ := hr.mono (by decide)
    have r3 : Room 3 _ := hr.mono (by decide)
    refine ⟨_, pss_cons (ps_set (i := 1) scAlike.nd rfl (Or.inr rfl) (pd_lst (pds_cons (pd_lst (pds_cons (pd_tup (pds_cons pd_int (pds_cons (pd_tup (pds_cons pd_int (pds_cons pd_int pds_nil))) pds_nil))) (pds_cons (pd_tup (pds_cons pd_int (pds_cons (pd_tup (pds_cons pd_int pds_nil)) pds_nil))) pds_nil))) (pds_cons (pd_lst (pds_cons (pd_tup (pds_cons pd_int (pds_cons (pd_tup (pds_cons pd_int pds_nil)) pds_nil))) (pds_cons (pd_tup (pds_cons pd_int (pds_cons (pd_tup (pds_cons pd_int pds_nil)) pds_nil))) pds_nil))) (pds_cons (pd_lst (pds_cons (pd_tup (pds_cons pd_int (pds_cons (pd_tup (pds_cons pd_int pds_nil)) pds_nil))) (pds_cons (pd_tup (pds_cons pd_int (pds_cons (pd_tup (pds_cons pd_int pds_nil)) pds_nil))) pds_nil))) (pds_cons (pd_lst (pds_cons (pd_tup (pds_cons pd_int (pds_cons (pd_tup (pds_cons pd_int (pds_cons pd_int pds_nil))) pds_nil))) pds_nil)) (pds_cons (pd_lst (pds_cons (pd_tup (pds_cons pd_int (pds_cons (pd_tup (pds_cons pd_int (pds_cons pd_int pds_nil))) pds_nil))) pds_nil)) pds_nil)))))))
      (pss_cons (ps_set (i := 2) scAlike.nd rfl (Or.inl rfl) (pe_lstN pa_nil))
      (pss_cons (ps_for PassesOwn.never rfl (pi_enum (by rfl) B.enum (pa_cons (pv 1) pa_nil))
        (pg_tup rfl (pgs_cons (pg_name (i := 3) scAlike.nd rfl (Or.inr rfl)) (pgs_cons (pg_name (i := 4) scAlike.nd rfl (Or.inl rfl)) pgs_nil)))
        (pss_cons (ps_expr (pe_bm PySem.F.plainAttrs_list PySem.F.slot_list_append PySem.F.type_list_append mt_appendN (pv 2) (pa_cons (pe_cm D.of_ r3 pass0 (pa_cons (pe_lstN (pa_cons (pv 0) (pa_cons (pv 3) pa_nil))) pa_nil)) pa_nil)))
        (pss_one (ps_for PassesOwn.never rfl (pi_list (pv 4)) (pg_tup rfl (pgs_cons (pg_name (i := 5) scAlike.nd rfl (Or.inl rfl)) (pgs_cons (pg_name (i := 6) scAlike.nd rfl (Or.inl rfl)) pgs_nil)))
          (pss_one (ps_expr (pe_mt D.wr r3 passL (pe_ix ix_list (pv 2) (pe_un un_neg pe_int) (fun _ _ => rfl)) (pa_cons (pv 5) (pa_cons (pe_callTy call_listN (by rfl) B.list (by decide +kernel) (pa_cons (pv 6) pa_nil)) pa_nil)))))))))
      (pss_cons (ps_for PassesOwn.never rfl (pi_enum (by rfl) B.enum (pa_cons (pv 2) pa_nil))
        (pg_tup rfl (pgs_cons (pg_name (i := 3) scAlike.nd rfl (Or.inr rfl)) (pgs_cons (pg_name (i := 7) scAlike.nd rfl (Or.inr rfl)) pgs_nil)))
        (pss_one (ps_if (pt_cmpR (op_neD hr.units)
          (pe_lcN rfl scAlike.nd (pi_list (pv 2)) (blkOk_by (N := nAlike) (sc := defScope sAlike) (own := [("_law_other", 8)]) (by decide +kernel)) (fun _ _ _ _ _ => pg_name (i := 8) scAlike.nd rfl (Or.inl rfl)) (fun _ _ _ _ _ => pts_nil) (fun _ _ _ _ _ => pe_cmpR (r := rEqO K C (spEq K C) E0) (op_eqM D.eq r1 pass0) (pv 7) (pv 8) (nomark _)))
          (pe_lcN rfl scAlike.nd (pi_list (pv 1)) (blkOk_by (N := nAlike) (sc := defScope sAlike) (own := [("_law_writes", 4)]) (by decide +kernel)) (fun _ _ _ _ _ => pg_name (i := 4) scAlike.nd rfl (Or.inl rfl)) (fun _ _ _ _ _ => pts_nil) (fun _ _ _ _ _ => pe_cmpR (r := rEqD K) (op_eqD hr.units) (pe_ix (r := rIxL K) ix_list (pv 1) (pv 3) (fun _ _ => rfl)) (pv 4) (nomark _))) (nomark _))
          (pss_one (ps_ret pe_bl)) pss_nil)))
      (pss_one (ps_ret (pe_cmpR (op_eqD hr.units) (pe_lcN rfl scAlike.nd (pi_list (pv 2)) (blkOk_by (N := nAlike) (sc := defScope sAlike) (own := [("_law_one", 7)]) (by decide +kernel)) (fun _ _ _ _ _ => pg_name (i := 7) scAlike.nd rfl (Or.inl rfl)) (fun _ _ _ _ _ => pts_nil) (fun _ _ _ _ _ => pe_pr D.cells r2 pass0 (pv 7)))
        (pe_op op_repN (pe_lstN (pa_cons (pe_tupN (pa_cons pe_int (pa_cons pe_int pa_nil))) pa_nil)) pe_int) (nomark _))))))), ?_⟩
    refine fun v1 H1 s1 d1 => ?_
    obtain ⟨la, lxs, rfl, sql, dls⟩ := dp_lst d1
    have dls : DpAll K H1 lxs (lots43.map dL) := dls
    refine ⟨by show 0 ≤ sizeLine; decide, fun dm H2 ndm s2 e2 => ?_⟩
    have ll : lxs.length = 5 := dpAll_len dls
    refine ⟨_, rfl, la, lxs, rfl, s2.seq sql, ?_⟩
    refine for_it walk_enum (fun j σ H3 => ∃ v3 v4 v5 v6 v7 v8 ds, σ = [some (.int n), some (.ref la), some (.ref dm), v3, v4, v5, v6, v7, v8] ∧ Same H1 H3 ∧ H3 dm = some (.lst ds) ∧ MadeAt C dm n H3 ds j)
      ⟨none, none, none, none, none, none, [], rfl, s2, e2, rfl, fun i v z => nomatch z⟩ (fun j σ H3 _ ⟨_, _, _, _, _, _, _, _, s3, _⟩ => s3.seq sql) ?_ ?_
    · rintro j x σ H3 H4 hj ⟨v3, v4, v5, v6, v7, v8, ds, rfl, s3, e3, M3⟩ ⟨t, x0, y0, rfl, nt, rfl, hx0, hy0⟩
      cases hx0
      obtain ⟨H5, eH, s5, et⟩ := gen_new nt (.tup [.int (j : Nat), y0])
      rw [eH]
      clear eH
      obtain ⟨d0, hd0, dp0⟩ := dpAll_get dls hy0
      rw [List.getElem?_map] at hd0
      obtain ⟨ws, hws, rfl⟩ := Option.map_eq_some_iff.mp hd0
      obtain ⟨wa, wxs, rfl, sqw, dws⟩ := dp_lst dp0
      have mws : ws ∈ lots43 := List.mem_of_getElem? hws
      have lws : wxs.length = ws.length := by rw [dpAll_len dws, List.length_map]
      refine ⟨t, _, rfl, SqT.of et, rfl, _, _, rfl, _, _, rfl, rfl, ?_⟩
      have s15 : Same H1 H5 := Same.trans s3 s5
      refine ⟨_, rfl, .inl ⟨rfl, _, SqL.of (s5 _ _ e3)⟩, rfl, _, rfl, _, rfl, by show 2 ≤ sizeLine; decide, fun g H6 ng s6 eg => ⟨g, [n, j], rfl, .inl (SqL.of eg), by show 2 ≤ 100000; decide, fun p a b c H7 np na nb nc D7 s7 => ?_⟩⟩
      have s57 : Same H5 H7 := Same.trans s6 s7
      have e7 := s57 _ _ (s5 _ _ e3)
      refine ⟨dm, ds, _, rfl, rfl, e7, by rw [M3.1, sizeLine_eq]; omega, fun H8 k8 e8 => ?_⟩
      have dmne : ∀ {y : Addr}, H6 y = none → y ≠ dm := fun h => (ne_of_none (s6 _ _ (s5 _ _ e3)) h).symm
      have D8 : DiskAt C H8 p a b c [n, j] [n, j] [] := D7.kp k8 (nm1 (dmne np)) (nm1 (dmne na)) (nm1 (dmne nb)) (nm1 (dmne nc)) (fun z hz => by rw [List.mem_singleton.mp hz, e7]; exact fun _ z => nomatch z)
      have k38 : Kp [dm] H3 H8 := (Kp.of [dm] (Same.trans s5 s57)).trans k8
      have s18 : Same H1 H8 := Same.fresh (Same.trans s15 s57) ndm k8
      refine ⟨_, rfl, wa, rfl, ⟨wxs, s18.seq sqw⟩, ?_⟩
      have hac : ∀ y ∈ [a, c], H3 y = none := fun y hy => by
        rcases List.mem_cons.mp hy with rfl | hy
        · exact Same.free s5 (Same.free s6 na)
        · rw [List.mem_singleton.mp hy]; exact Same.free s5 (Same.free s6 nc)
      have f3 : ∀ {y : Addr}, H6 y = none → H3 y = none := fun h => Same.free s5 (Same.free s6 h)
      refine for_list (fun i σ H9 => ∃ v5 v6 v7 v8, σ = [some (.int n), some (.ref la), some (.ref dm), some (.int (j : Nat)), some (.ref wa), v5, v6, v7, v8] ∧ Kp [a, c] H8 H9 ∧ DiskAt C H9 p a b c (runW [n, j] (ws.take i)) [n, j] (ws.take i))
        ⟨v5, v6, v7, v8, rfl, Kp.refl _, D8⟩ (fun i σ H9 _ ⟨_, _, _, _, _, k9, _⟩ => (same_freshL s18 (fun y hy => Same.free s3 (hac y hy)) k9).seq sqw) ?_ ?_
      · rintro i x σ H9 hx ⟨v5, v6, v7, v8, rfl, k9, D9⟩
        have s19 : Same H1 H9 := same_freshL s18 (fun y hy => Same.free s3 (hac y hy)) k9
        obtain ⟨d2, hd2, dp2⟩ := dpAll_get dws hx
        rw [List.getElem?_map] at hd2
        obtain ⟨w, hw, rfl⟩ := Option.map_eq_some_iff.mp hd2
        obtain ⟨ta, txs, rfl, sqt, dts⟩ := dp_tup dp2
        cases dts with
        | cons da dts =>
        cases dts with
        | cons db dts =>
        cases dts
        rw [dp_int da] at sqt
        obtain ⟨na', nxs, rfl, sqn, dns⟩ := dp_tup db
        rw [dpAll_ints' dns] at sqn
        have fw := fit43 ws mws w (List.mem_of_getElem? hw)
        have li : i < ws.length := (List.getElem?_eq_some_iff.mp hw).1
        have lr : (runW [n, (j : Int)] (ws.take i)).length = 2 := runW_len (fit43 ws mws) i (by omega)
        have e9 : H9 dm = some (.lst (ds ++ [.ref p])) := k9 _ _ (fun hy => by
          rcases List.mem_cons.mp hy with z | hy
          · exact dmne na z.symm
          · exact dmne nc (List.mem_singleton.mp hy).symm) e8
        refine ⟨ta, _, rfl, same_sqT s19 sqt, rfl, _, _, rfl, _, _, rfl, rfl, ?_⟩
        obtain ⟨dx9, o9⟩ := D9.ob
        refine ⟨_, rfl, _, rfl, dm, _, _, .ref p, rfl, rfl, SqL.of e9, atI_last _ _, p, dx9, _, rfl, o9, rfl, _, rfl, _, rfl, na', _, rfl, .inr (same_sqT s19 sqn), fun l H10 nl s10 el => ?_⟩
        refine ⟨p, a, b, c, _, _, _, w.1, l, w.2, rfl, D9.same s10, .inl (SqL.of el), (ne_of_none D9.sh nl).symm, fw.1, by rw [lr]; decide, by omega, by rw [List.length_take]; have := len43 ws mws; omega, fun _ H11 D11 k11 => ?_, fun z => absurd (by rw [lr]; exact fw.2) z⟩
        rw [← runW_snoc, ← take_snoc hw] at D11
        exact ⟨_, _, _, _, rfl, (k9.trans (Kp.of _ s10)).trans k11, D11⟩
      · rintro σ H9 ⟨v5, v6, v7, v8, rfl, k9, D9⟩
        rw [lws, List.take_length, run43 _ _ ws mws] at D9
        have s19 : Same H1 H9 := same_freshL s18 (fun y hy => Same.free s3 (hac y hy)) k9
        have k39 : Kp [dm] H3 H9 := kp_freshL k38 hac k9
        have e9 : H9 dm = some (.lst (ds ++ [.ref p])) := k9 _ _ (fun hy => by
          rcases List.mem_cons.mp hy with z | hy
          · exact dmne na z.symm
          · exact dmne nc (List.mem_singleton.mp hy).symm) e8
        refine ⟨_, _, _, _, _, _, _, rfl, s19, e9, by rw [List.length_append, M3.1]; rfl, fun i v hv => ?_⟩
        by_cases hi : i < ds.length
        · rw [List.getElem?_append_left hi] at hv
          exact (M3.kp e3 k39).2 i v hv
        · have hi' : i = ds.length := by
            have := (List.getElem?_eq_some_iff.mp hv).1
            rw [List.length_append] at this
            simp at this
            omega
          rw [hi', List.getElem?_concat_length] at hv
          cases hv
          rw [hi', M3.1]
          exact ⟨ws, p, a, b, c, hws, rfl, D9, dmne np, dmne na, dmne nb, dmne nc⟩
    · rintro σ H3 ⟨v3, v4, v5, v6, v7, v8, ds, rfl, s3, e3, M3⟩
      rw [ll] at M3
      have a3 : Dp K H3 (.ref la) (.list (lots43.map dL)) := .lst (s3.seq sql) (same_dpAll s3 _ _ dls)
      refine ⟨_, rfl, dm, ds, rfl, SqL.of e3, ?_⟩
      refine for_it walk_enum (fun j σ H4 => ∃ v3 v4 v5 v6 v7 v8, σ = [some (.int n), some (.ref la), some (.ref dm), v3, v4, v5, v6, v7, v8] ∧ Same H3 H4)
        ⟨v3, v4, v5, v6, v7, v8, rfl, Same.refl _⟩ (fun j σ H4 _ ⟨_, _, _, _, _, _, _, s4⟩ => SqL.of (s4 _ _ e3)) ?_ ?_
      · rintro j x σ H4 H5 hj ⟨v3, v4, v5, v6, v7, v8, rfl, s4⟩ ⟨t, x0, y0, rfl, nt, rfl, hx0, hy0⟩
        cases hx0
        obtain ⟨H6, eH, s6, et⟩ := gen_new nt (.tup [.int (j : Nat), y0])
        rw [eH]
        clear eH
        obtain ⟨ws, p, a, b, c, hws, rfl, D3, _⟩ := M3.2 j y0 hy0
        refine ⟨t, _, rfl, SqT.of et, rfl, _, _, rfl, _, _, rfl, rfl, ?_⟩
        have s36 : Same H3 H6 := Same.trans s4 s6
        have el : ds.length = 5 := M3.1
        refine ⟨_, rfl, dm, rfl, ⟨ds, SqL.of (s36 _ _ e3)⟩, _, _, _, walk_list (xs := ds), by rw [el, sizeLine_eq]; omega, fun R nR => ⟨fun i acc H8 => acc = (lots43.take i).map (fun us => V.bl (decide (ws = us))) ∧ Same H6 H8, fun H8 s8 _ => ⟨rfl, s8⟩, fun i acc H8 _ _ p => SqL.of (p.2 _ _ (s36 _ _ e3)), ?_, ?_⟩⟩
        · rintro i x acc _ H8 hi e8 l8 ⟨ea, s8⟩ ⟨rfl, hx⟩
          obtain ⟨us, p', a', b', c', hus, rfl, D3', _⟩ := M3.2 i x hx
          have s38 : Same H3 H8 := Same.trans s36 s8
          have Da := D3.same s38
          have Db := D3'.same s38
          obtain ⟨dxa, oa⟩ := Da.ob
          obtain ⟨dxb, ob⟩ := Db.ob
          refine ⟨rfl, fun _ => ?_, (fun z => nomatch z)⟩
          refine ⟨_, rfl, _, rfl, p, dxa, _, _, rfl, oa, T.ow.ty ob, nf, .inl ⟨p, a, b, c, _, _, _, p', a', b', c', _, _, _, rfl, Da, Db, e8, fun H9 k9 e9 => ⟨?_, Same.fresh s8 nR k9⟩⟩⟩
          rw [ea, take_snocM hus]
          congr 3
          by_cases e : ws = us <;> simp [e]
        · rintro acc H8 e8 l8 ⟨ea, s8⟩
          have s38 : Same H3 H8 := Same.trans s36 s8
          have a8 := same_dp s38 _ _ a3
          obtain ⟨_, lys, e0, sq8, dl8⟩ := dp_lst a8
          cases e0
          have ll8 : lys.length = 5 := dpAll_len dl8
          refine ⟨_, rfl, la, rfl, ⟨lys, sq8⟩, _, _, _, walk_list (xs := lys), by rw [ll8, sizeLine_eq]; omega, fun R' nR' => ⟨fun i acc H9 => acc = (lots43.take i).map (fun us => V.bl (decide (ws = us))) ∧ Same H8 H9, fun H9 s9 _ => ⟨rfl, s9⟩, fun i acc H9 _ _ p => p.2.seq sq8, ?_, ?_⟩⟩
          · rintro i x acc' _ H9 hi e9 l9 ⟨ea', s9⟩ ⟨rfl, hx⟩
            obtain ⟨d2, hd2, dp2⟩ := dpAll_get dl8 hx
            rw [List.getElem?_map] at hd2
            obtain ⟨us, hus, rfl⟩ := Option.map_eq_some_iff.mp hd2
            have hj5 : j < lys.length := by rw [ll8, ← el]; exact hj
            obtain ⟨dj, hdj, dpj⟩ := dpAll_get dl8 (List.getElem?_eq_getElem hj5)
            rw [List.getElem?_map, hws] at hdj
            cases hdj
            refine ⟨rfl, fun _ => ?_, (fun z => nomatch z)⟩
            refine ⟨_, rfl, _, rfl, la, lys, _, _, rfl, rfl, s9.seq sq8, atI_nat (List.getElem?_eq_getElem hj5), _, rfl, dL ws, dL us, same_dp s9 _ _ dpj, same_dp s9 _ _ dp2, shaped_ws ws, shaped_ws us, e9, fun H10 k10 e10 => ⟨?_, Same.fresh s9 nR' k10⟩⟩
            rw [ea', take_snocM hus]
            have e2 : PyData.eqv (dL ws) (dL us) = decide (ws = us) := by
              simp only [dL, PyData.eqv, eqvAll_map eqv_dW]
            rw [e2]
          · rintro acc' H9 e9 l9 ⟨ea', s9⟩
            rw [el] at ea
            rw [ll8] at ea'
            have e8' := s9 _ _ e8
            rw [ea] at e8'
            rw [ea'] at e9
            have mm : (lots43.take 5).map (fun us => V.bl (decide (ws = us))) = ((lots43.take 5).map fun us => decide (ws = us)).map V.bl := by rw [List.map_map]; rfl
            rw [mm] at e8' e9
            have lb : (PyData.list (((lots43.take 5).map fun us => decide (ws = us)).map PyData.bool)).canLay0 = true := by
              simp only [PyData.canLay0]
              exact canLayAll_map (fun _ => rfl) _
            have ld : (PyData.list (((lots43.take 5).map fun us => decide (ws = us)).map PyData.bool)).depth ≤ 64 := by
              have : PyData.depthAll (((lots43.take 5).map fun us => decide (ws = us)).map PyData.bool) ≤ 0 := depthAll_map (d := PyData.bool) (n := 0) (fun _ => Nat.le_refl _) _
              simp only [PyData.depth]
              omega
            refine ⟨_, _, .lst (SqL.of e8') (dpAll_bls _), .lst (SqL.of e9) (dpAll_bls _), shaped_of lb ld, shaped_of lb ld, false, ?_, iteF ?_⟩
            · simp only [PyData.eqv, eqvAll_map eqv_bool]
              rfl
            · exact ⟨_, _, _, _, _, _, rfl, Same.trans s38 s9 |> fun z => z⟩
      · rintro σ H4 ⟨v3, v4, v5, v6, v7, v8, rfl, s4⟩
        have el : ds.length = 5 := M3.1
        refine ⟨_, rfl, dm, rfl, ⟨ds, SqL.of (s4 _ _ e3)⟩, _, _, _, walk_list (xs := ds), by rw [el, sizeLine_eq]; omega, fun R nR => ⟨fun i acc H8 => acc.length = i ∧ (∀ v ∈ acc, ∃ t, v = .ref t ∧ H8 t = some (.tup (Ints [1, 2]))) ∧ Same H4 H8, fun H8 s8 _ => ⟨rfl, (fun v hv => nomatch hv), s8⟩, fun i acc H8 _ _ p => SqL.of (p.2.2 _ _ (s4 _ _ e3)), ?_, ?_⟩⟩
        · rintro i x acc _ H8 hi e8 l8 ⟨la8, ea, s8⟩ ⟨rfl, hx⟩
          obtain ⟨us, p', a', b', c', hus, rfl, D3', _⟩ := M3.2 i x hx
          have Db := D3'.same (Same.trans s4 s8)
          obtain ⟨dxb, ob⟩ := Db.ob
          refine ⟨rfl, fun _ => ?_, (fun z => nomatch z)⟩
          refine ⟨_, rfl, p', dxb, _, rfl, ob, p', a', b', c', _, _, _, rfl, Db, by show 2 ≤ 100000; decide, fun t H9 nt s9 e9 => ⟨s9 _ _ e8, fun H10 k10 e10 => ⟨by rw [List.length_append, la8]; rfl, fun v hv => ?_, Same.fresh (Same.trans s8 s9) nR k10⟩⟩⟩
          have tt : ∀ t' xs, H9 t' = some (.tup xs) → H10 t' = some (.tup xs) := tups_of k10 fun z hz xs => by
            rw [List.mem_singleton.mp hz, s9 _ _ e8]
            exact fun z => nomatch z
          rcases List.mem_append.mp hv with hv | hv
          · obtain ⟨t', rfl, e'⟩ := ea v hv
            exact ⟨t', rfl, tt _ _ (s9 _ _ e')⟩
          · rw [List.mem_singleton.mp hv]
            exact ⟨t, rfl, tt _ _ e9⟩
        · rintro acc H8 e8 l8 ⟨la8, ea, s8⟩
          rw [el] at la8
          refine ⟨by show 2 ≤ sizeLine; decide, fun t H9 nt s9 e9 => ⟨by show 1 ≤ sizeLine; decide, fun l H10 nl s10 e10 => ⟨l, 5, _, rfl, rfl, e10, by decide, by decide, by show 1 * 5 ≤ sizeLine; decide, fun m H11 nm s11 e11 => ?_⟩⟩⟩
          have s811 : Same H8 H11 := Same.trans (Same.trans s9 s10) s11
          have dd : ∀ k, DpAll K H11 (List.replicate k (.ref t)) (List.replicate k (.tuple (dI [1, 2]))) := fun k => by
            induction k with
            | zero => exact .nil
            | succ k ih => exact .cons (.tup (SqT.of ((Same.trans s10 s11) _ _ e9)) (dpAll_ints [1, 2])) ih
          have da : ∀ (acc : List V), (∀ v ∈ acc, ∃ t, v = .ref t ∧ H8 t = some (.tup (Ints [1, 2]))) → DpAll K H11 acc (List.replicate acc.length (.tuple (dI [1, 2]))) := fun acc h => by
            induction acc with
            | nil => exact .nil
            | cons v acc ih =>
              obtain ⟨t', rfl, e'⟩ := h v (List.mem_cons_self ..)
              exact .cons (.tup (SqT.of (s811 _ _ e')) (dpAll_ints [1, 2])) (ih fun v hv => h v (List.mem_cons_of_mem _ hv))
          have d1 := da acc ea
          rw [la8] at d1
          have hsh : SeqAt.shaped (.list (List.replicate 5 (.tuple (dI [1, 2])))) = true := shaped_of (by simp [PyData.canLay0, PyData.canLayAll0, List.replicate]) (by simp [PyData.depth, PyData.depthAll, List.replicate])
          refine ⟨_, _, .lst (SqL.of (s811 _ _ e8)) d1, .lst (SqL.of e11) (dd 5), hsh, hsh, ?_⟩
          have ee : PyData.eqv (.list (List.replicate 5 (.tuple (dI [1, 2])))) (.list (List.replicate 5 (.tuple (dI [1, 2])))) = true := by simp [PyData.eqv, PyData.eqvAll, List.replicate]
          rw [ee]
          exact q _ (Same.trans (Same.trans (Same.trans (Same.trans s1 s3) s4) s8) s811)
end
end Lp
namespace Lp
open PySem PySem.Spec PyProof.Rows L2 He
/-! ### the law's state -/
abbrev Sh (x : Int) : Prop := (PyData.int x).showable = true
theorem sh_of {x : Int} (h1 : -(10 ^ 21) ≤ x) (h2 : x ≤ 10 ^ 21) : Sh x := by
  have hn : x.natAbs ≤ 10 ^ 21 := by omega
  unfold Sh PyData.showable
  refine decide_eq_true ?_
  by_cases h0 : x.natAbs = 0
  · rw [h0]; decide
  · refine (Nat.log2_lt h0).mpr (Nat.lt_of_le_of_lt hn ?_)
    have a1 : (10 : Nat) ^ 21 ≤ 2 ^ 70 := by decide
    exact Nat.lt_of_le_of_lt a1 (Nat.pow_lt_pow_right (by decide) (by decide))
theorem sh_zero : Sh 0 := sh_of (by decide) (by decide)
theorem ints_app (xs ys : List Int) : Ints (xs ++ ys) = Ints xs ++ Ints ys := List.map_append
theorem atI_zero (x : V) (xs : List V) : atI (x :: xs) 0 = some x := atI_nat (i := 0) rfl
theorem ixN_zero (n : Nat) : ixN (n + 1) 0 = some 0 := by
  unfold ixN
  rw [if_pos (by decide), if_pos (by omega)]
  rfl
/-- a pending write of the law -/
structure Wr (w : Int × List Int) : Prop where
  lo : 0 ≤ w.1
  hi : w.1 ≤ 1000
  ln : w.2.length ≤ 5
  sh : ∀ x ∈ w.2, Sh x
abbrev own43 (C fh cl gc sp p a b c wt dx : Addr) (fo : HO) (cells st gs : List Int) (ts tw : List V) : List (Addr × HO) :=
  [(fh, fo), (cl, .lst (Ints cells)), (gc, .lst (Ints gs)), (sp, .lst (Ints gs)), (p, .ins C dx (flds a b c)), (a, .lst (Ints cells)), (b, .lst (Ints st)), (c, .lst ts), (wt, .lst tw)]
structure Bd43 (H' : Hp) (fh : Addr) (cells st : List Int) (ws : List (Int × List Int)) (ts tw : List V) : Prop where
  feed : FeedAt H' fh
  pts : Paired (Tw H') ts ws
  ptw : Paired (Tw H') tw ws
  l1 : 1 ≤ cells.length
  l2 : cells.length ≤ 12
  shc : ∀ x ∈ cells, Sh x
  shw : ∀ w ∈ ws, Wr w
theorem Bd43.keep {H' H'' : Hp} {fh : Addr} {cells st : List Int} {ws : List (Int × List Int)} {ts tw : List V} (h : Bd43 H' fh cells st ws ts tw) (f : FeedAt H'' fh) (k : ∀ t xs, H' t = some (.tup xs) → H'' t = some (.tup xs)) : Bd43 H'' fh cells st ws ts tw :=
  ⟨f, paired_mono h.pts k, paired_mono h.ptw k, h.l1, h.l2, h.shc, h.shw⟩
theorem Bd43.same {H' H'' : Hp} {fh : Addr} {cells st : List Int} {ws : List (Int × List Int)} {ts tw : List V} (h : Bd43 H' fh cells st ws ts tw) (s : Same H' H'') : Bd43 H'' fh cells st ws ts tw := h.keep (h.feed.same s) fun _ _ e => s _ _ e
section
variable {C fh cl gc sp p a b c wt dx : Addr} {fo : HO} {cells st gs : List Int} {ts tw : List V} {H0 H H' : Hp} {L : List (Addr × HO)} {ws : List (Int × List Int)}
theorem disk_of (w : Ow H0 H L) (ip ia ib ic : Nat) (hp : L[ip]? = some (p, .ins C dx (flds a b c))) (ha : L[ia]? = some (a, .lst (Ints cells))) (hb : L[ib]? = some (b, .lst (Ints st))) (hc : L[ic]? = some (c, .lst ts)) (n1 : ia ≠ ib) (n2 : ia ≠ ic) (n3 : ib ≠ ic) (h : Paired (Tw H) ts ws) :
    DiskAt C H p a b c cells st ws := ⟨⟨dx, w.get ip hp⟩, w.get ia ha, w.get ib hb, ⟨ts, w.get ic hc, h⟩, w.ne ia ib ha hb n1, w.ne ia ic ha hc n2, w.ne ib ic hb hc n3⟩
/-- ahead of each turn of the inner loop -/
def Pv43 (H0 : Hp) (C l fh cl gc sp p a c : Addr) (i : Int) (gs : List Int) (t : Nat) (σ : L2.St) (Hy : Hp) : Prop := ∃ b wt dx fo cells st ws ts tw w8 w9 w10 w11 w12 w13 w14 w15,
  σ = [some (.ref l), some (.int i), some (.ref fh), some (.ref cl), some (.ref gc), some (.ref sp), some (.ref p), some (.ref wt), w8, w9, w10, w11, w12, w13, w14, w15] ∧
  Ow H0 Hy (own43 C fh cl gc sp p a b c wt dx fo cells st gs ts tw) ∧ Bd43 Hy fh cells st ws ts tw ∧ ws.length ≤ t
theorem ints_splice (xs ns : List Int) (i : Int) : (Ints xs).take i.toNat ++ Ints ns ++ (Ints xs).drop (i + ns.length).toNat = Ints (splice xs i ns) := by
  unfold splice
  simp only [List.map_append, List.map_take, List.map_drop]
theorem ow_disk (w : Ow H0 H L) (np : H p = none) (na : H a = none) (nb : H b = none) (nc : H c = none) (D : DiskAt C H' p a b c cells st []) (s : Same H H') : ∃ dx, Ow H0 H' ([(p, .ins C dx (flds a b c)), (a, .lst (Ints cells)), (b, .lst (Ints st)), (c, .lst [])] ++ L) := by
  obtain ⟨⟨dx, o⟩, h1, h2, ⟨ts, h3, h4⟩, n1, n2, n3⟩ := D
  cases h4
  have pa : p ≠ a := ne_of o h1 (fun z => nomatch z)
  have pb : p ≠ b := ne_of o h2 (fun z => nomatch z)
  have pc : p ≠ c := ne_of o h3 (fun z => nomatch z)
  refine ⟨dx, w.newL _ ?_ ?_ s ?_⟩
  · simp only [List.map_cons, List.map_nil, List.nodup_cons, List.mem_cons, List.not_mem_nil, or_false, not_or, not_false_iff, List.nodup_nil, and_true]
    exact ⟨⟨pa, pb, pc⟩, ⟨n1, n2⟩, n3⟩
  · intro x hx
    simp only [List.mem_cons, List.not_mem_nil, or_false] at hx
    rcases hx with rfl | rfl | rfl | rfl <;> assumption
  · intro x hx
    simp only [List.mem_cons, List.not_mem_nil, or_false] at hx
    rcases hx with rfl | rfl | rfl | rfl <;> assumption
theorem feed_set (w : Ow H0 H L) (i : Nat) (h : L[i]? = some (fh, fo)) (F : FeedAt H' fh) (k : Kp [fh] H H') : ∃ fo', Ow H0 H' (L.set i (fh, fo')) := let ⟨_, _, e, _⟩ := F; ⟨_, w.set i h k e⟩
theorem feed_tup (F : FeedAt H fh) (k : Kp [fh] H H') : ∀ t xs, H t = some (.tup xs) → H' t = some (.tup xs) := tups_of k fun z hz xs => by
  obtain ⟨_, _, e, _⟩ := F
  rw [List.mem_singleton.mp hz, e]
  exact fun z => nomatch z
theorem lst_tup {l : Addr} {xs : List V} (e : H l = some (.lst xs)) (k : Kp [l] H H') : ∀ t xs, H t = some (.tup xs) → H' t = some (.tup xs) := tups_of k fun z hz xs => by
  rw [List.mem_singleton.mp hz, e]
  exact fun z => nomatch z
/-- the data of the state shows -/
def stD (cells : List Int) (ws : List (Int × List Int)) : PyData := .tuple [.tuple (dI cells), .tuple (ws.map dW), .int cells.length]
theorem sh_dW {w : Int × List Int} (h : Wr w) : (dW w).showable = true := by
  have h1 : Sh w.1 := sh_of (by have := h.lo; omega) (by have := h.hi; omega)
  have h2 : PyData.showableAll (dI w.2) = true := showAll_map h.sh
  unfold dW
  simp only [PyData.showable, PyData.showableAll, Bool.and_true, Bool.and_eq_true]
  exact ⟨h1, h2⟩
theorem cnt_dW {w : Int × List Int} (h : Wr w) : cntD (dW w) ≤ 8 := by
  have h2 : cntAll (dI w.2) ≤ 1 * w.2.length := cntAll_map (d := PyData.int) (n := 1) (fun _ _ => Nat.le_refl _)
  have := h.ln
  unfold dW
  simp only [cntD, cntAll]
  omega
theorem shows_st (h1 : cells.length ≤ 12) (h2 : ∀ x ∈ cells, Sh x) (h3 : ∀ w ∈ ws, Wr w) (h4 : ws.length ≤ 100) : Shows (stD cells ws) where
  sh := by
    unfold stD
    simp only [PyData.showable, PyData.showableAll, Bool.and_true, Bool.and_eq_true]
    refine ⟨showAll_map h2, showAll_map fun w hw => sh_dW (h3 w hw), ?_⟩
    exact sh_of (x := cells.length) (by omega) (by omega)
  cl := by
    unfold stD
    simp only [PyData.canLay0, PyData.canLayAll0, Bool.and_true, Bool.and_eq_true]
    exact ⟨canLayAll_map (fun _ => rfl) cells, canLayAll_map canLay_dW ws⟩
  dp := by
    have a1 : PyData.depthAll (dI cells) ≤ 0 := depthAll_map (d := PyData.int) (n := 0) (fun _ => Nat.le_refl _) cells
    have a2 : PyData.depthAll (ws.map dW) ≤ 2 := depthAll_map depth_dW ws
    unfold stD
    simp only [PyData.depth, PyData.depthAll]
    omega
  cn := by
    have a1 : cntAll (dI cells) ≤ 1 * cells.length := cntAll_map (d := PyData.int) (n := 1) (fun _ _ => Nat.le_refl _)
    have a2 : cntAll (ws.map dW) ≤ 8 * ws.length := cntAll_map fun w hw => cnt_dW (h3 w hw)
    unfold stD
    simp only [cntD, cntAll]
    omega
theorem shows_lack {i : Int} (h1 : 0 ≤ i) (h2 : i ≤ 1000) : Shows (.tuple [.str "lacking", .int i, .bool false]) where
  sh := by
    simp only [PyData.showable, PyData.showableAll, Bool.and_true, Bool.true_and]
    exact sh_of (x := i) (by omega) (by omega)
  cl := by
    have e : PyData.strOk (Str.ofString "lacking") = true := by decide +kernel
    simp [PyData.canLay0, PyData.canLayAll0, e]
  dp := by simp [PyData.depth, PyData.depthAll]
  cn := by
    simp only [cntD, cntAll]
    decide +kernel
theorem shows_none : Shows .none := ⟨rfl, rfl, by decide, by decide⟩
theorem shaped_bool (b : Bool) : SeqAt.shaped (.bool b) = true := shaped_of rfl (by show 0 ≤ 64; decide)
theorem mem_splice {xs ns : List Int} {i : Int} {x : Int} (h : x ∈ splice xs i ns) : x ∈ xs ∨ x ∈ ns := by
  unfold splice at h
  rcases List.mem_append.mp h with h | h
  · rcases List.mem_append.mp h with h | h
    · exact .inl (List.mem_of_mem_take h)
    · exact .inr h
  · exact .inl (List.mem_of_mem_drop h)
end
end Lp
namespace Lp
open PySem PySem.Spec PyProof.Rows L2 He
abbrev sLaw : Stmt := top 17
def spLaw (K : PySem.W.Frag) : Sp := fun vs H Q _ => ∃ (l : Addr) (ns : List Int), vs = [.ref l] ∧ SqL K H l (Ints ns) ∧ ns.length ≤ 63 ∧ ∀ H', Q (.bl true) H'
abbrev nLaw : List Str := ["_law_script", "_law_k", "_law_feed_here", "_law_cells", "_law_given_cells", "_law_spoilt", "_law_disk", "_law_waiting", "_law_turn", "_law_at", "_law_numbers", "_law_lacking", "_law_kept_numbers", "_law_due", "_law_given", "_law_more"]
section
variable {P : Program} {w : World} {K : PySem.W.Frag} {mg : Str → Option Value} {base : Heap} {C N f : Addr} {fd : FuncData}
theorem scLaw : FnScope nLaw ["_law_script"] (defScope sLaw) := ⟨rfl, rfl, rfl, by decide +kernel, rfl, by decide +kernel, by decide +kernel⟩
/-- the law's own defs -/
structure CL (P : Program) (w : World) (K : PySem.W.Frag) (mg : Str → Option Value) (base : Heap) (C : Addr) : Prop where
  feed : Cal P w K mg base CX0 1 "_law_feed" ["_law_script", "_law_k"] (spFeed K)
  take : Cal P w K mg base CX0 1 "_law_take" ["_law_feed_here", "_law_many"] spTake
  same : CalG P w K mg base CX0 1 "_law_same" ["_law_one", "_law_other"] (spSame K)
  told : Cal P w K mg base CX0 4 "_law_told_write" ["_law_disk", "_law_at", "_law_numbers"] (spTold K C)
  cell : Cal P w K mg base CX0 2 "_law_cell" ["_law_feed_here"] spCell
  great : Cal P w K mg base CX0 6 "_law_great_right" ["_law_number"] spGreat
  alike : Cal P w K mg base CX0 6 "_law_alike_right" ["_law_number"] spAlike
theorem ok_law (F : FnP K "law" "law" sLaw f fd) (D : CD P w K mg base C N) (L : CL P w K mg base C) (T : TD K C) (nf : PySem.W.notFirst K C (.ref C) = true) (nft : PySem.W.notFirst K C (.type "tuple") = true) (kt : PySem.W.kitOne K (.type "tuple") (.ref C) = some false) (B : TB mg) : GOk P w K mg base CX0 7 f fd ["_law_script"] (spLaw K) := by
  refine okGN F scLaw (fun vs H Q E h => ?_) (fun cdv A outer s H vs Q E hg hr h => ?_)
  · obtain ⟨l, ns, rfl, _⟩ := h
    rfl
  · obtain ⟨l, ns, rfl, hS, hn, q⟩ := h
    have r1 : Room 1 _ := hr.mono (by decide)
    have r2 : Room 2 _ := hr.mono (by decide)
    have r3 : Room 3 _ := hr.mono (by decide)
    have r4 : Room 4 _ := hr.mono (by decide)
    have r6 : Room 6 _ := hr.mono (by decide)
    refine ⟨_, pss_cons (ps_for PassesOwn.never rfl (pi_range1 (by rfl) B.range (pa_cons (pe_callB (call_max2 rfl) (by rfl) B.max (by decide +kernel) (pa_cons pe_int (pa_cons (pe_callB (call_min2 rfl) (by rfl) B.min (by decide +kernel) (pa_cons pe_int (pa_cons (pe_callB call_len_seq (by rfl) B.len PySem.boot_len (pa_cons (pv 0) pa_nil)) pa_nil))) pa_nil))) pa_nil))
        (pg_name (i := 1) scLaw.nd rfl (Or.inl rfl))
        (pss_cons (ps_set (i := 2) scLaw.nd rfl (Or.inr rfl) (pe_fn L.feed r1 pass0 (pa_cons (pv 0) (pa_cons (pv 1) pa_nil))))
        (pss_cons (ps_if (PW.pt (pw_or (pt_not (pt_val (pe_fn L.great r6 pass0 (pa_cons (pe_fn L.take r1 pass0 (pa_cons (pv 2) (pa_cons pe_int pa_nil))) pa_nil)))) (pw_or1 (pt_not (pt_val (pe_fn L.alike r6 pass0 (pa_cons (pe_op op_add pe_int (pe_fn L.take r1 pass0 (pa_cons (pv 2) (pa_cons pe_int pa_nil)))) pa_nil))))))) (pss_one (ps_ret pe_bl)) pss_nil)
        (pss_cons (ps_setLcN (i := 3) rfl scLaw.nd rfl rfl (sw_true rfl rfl rfl rfl) (pi_range1 (by rfl) B.range (pa_cons (pe_op op_add pe_int (pe_fn L.take r1 pass0 (pa_cons (pv 2) (pa_cons pe_int pa_nil)))) pa_nil)) (blkOk_by (N := nLaw) (sc := defScope sLaw) (own := [("_law_turn", 8)]) (by decide +kernel))
            (fun _ _ _ _ _ => pg_name (i := 8) scLaw.nd rfl (Or.inl rfl)) (fun _ _ _ _ _ => pts_nil) (fun _ _ _ _ _ => pe_fn L.cell r2 pass0 (pa_cons (pv 2) pa_nil)))
        (pss_cons (ps_par (i := 4) (j := 5) rfl scLaw.nd rfl rfl (by decide) rfl rfl (pa_cons (pe_callTy call_listN (by rfl) B.list (by decide +kernel) (pa_cons (pv 3) pa_nil)) (pa_cons (pe_op op_catN (pe_lstN (pa_cons (pe_op op_add (pe_ix ix_list (pv 3) pe_int (fun _ _ => rfl)) pe_int) pa_nil)) (pe_slice sl_listN (pv 3) (po_some pe_int) po_none)) pa_nil)) rfl)
        (pss_cons (ps_asg (pe_tupN (pa_cons (pe_cm D.of_ r3 pass0 (pa_cons (pv 4) pa_nil)) (pa_cons (pe_lstN pa_nil) pa_nil))) (pg_tup rfl (pgs_cons (pg_name (i := 6) scLaw.nd rfl (Or.inr rfl)) (pgs_cons (pg_name (i := 7) scLaw.nd rfl (Or.inl rfl)) pgs_nil))))
        (pss_cons (ps_asg (pe_op op_add (pe_ix ix_list (pv 4) pe_int (fun _ _ => rfl)) pe_int) (pg_sub (pv 4) pe_int set_listN))
        (pss_cons (ps_cut (ps_if (pt_cmpR op_eq (pe_fn L.take r1 pass0 (pa_cons (pv 2) (pa_cons pe_int pa_nil))) pe_int (nomark _))
            (pss_cons (ps_set (i := 3) scLaw.nd rfl (Or.inl rfl) (pe_op op_repN (pe_lstN (pa_cons pe_int pa_nil)) (pe_callB call_len_seq (by rfl) B.len PySem.boot_len (pa_cons (pv 3) pa_nil))))
            (pss_one (ps_set (i := 6) scLaw.nd rfl (Or.inr rfl) (pe_mkN D.mk_ r2 pass0 (pa_cons (pe_callB call_len_seq (by rfl) B.len PySem.boot_len (pa_cons (pv 3) pa_nil)) pa_nil))))) pss_nil))
        (pss_one (ps_for PassesOwn.never rfl (pi_range1 (by rfl) B.range (pa_cons (pe_op op_add pe_int (pe_fn L.take r1 pass0 (pa_cons (pv 2) (pa_cons pe_int pa_nil)))) pa_nil)) (pg_name (i := 8) scLaw.nd rfl (Or.inl rfl))
          (pss_cons (ps_par (i := 9) (j := 10) rfl scLaw.nd rfl rfl (by decide) rfl rfl (pa_cons (pe_fn L.take r1 pass0 (pa_cons (pv 2) (pa_cons (pe_op op_add (pe_callB call_len_seq (by rfl) B.len PySem.boot_len (pa_cons (pv 3) pa_nil)) pe_int) pa_nil)))
              (pa_cons (pe_lcN rfl scLaw.nd (pi_range1 (by rfl) B.range (pa_cons (pe_op op_add pe_int (pe_fn L.take r1 pass0 (pa_cons (pv 2) (pa_cons pe_int pa_nil)))) pa_nil)) (blkOk_by (N := nLaw) (sc := defScope sLaw) (own := [("_law_more", 15)]) (by decide +kernel))
                (fun _ _ _ _ _ => pg_name (i := 15) scLaw.nd rfl (Or.inl rfl)) (fun _ _ _ _ _ => pts_nil) (fun _ _ _ _ _ => pe_fn L.cell r2 pass0 (pa_cons (pv 2) pa_nil))) pa_nil)) rfl)
          (pss_cons (ps_cut (ps_if (pt_cmpR op_eq (pe_fn L.take r1 pass0 (pa_cons (pv 2) (pa_cons pe_int pa_nil))) pe_int (nomark _))
              (pss_cons (ps_if (pt_cmpR op_notN (pe_mt0 D.bar r1 pass0 (pv 6)) pe_non (nomark _)) (pss_one (ps_ret pe_bl)) pss_nil)
              (pss_one (ps_set (i := 7) scLaw.nd rfl (Or.inl rfl) (pe_lstN pa_nil))))
              (pss_cons (ps_par (i := 11) (j := 12) rfl scLaw.nd rfl rfl (by decide) rfl rfl (pa_cons (pe_op op_sub (pe_op op_add (pv 9) (pe_callB call_len_seq (by rfl) B.len PySem.boot_len (pa_cons (pv 10) pa_nil))) (pe_callB call_len_seq (by rfl) B.len PySem.boot_len (pa_cons (pv 3) pa_nil)))
                  (pa_cons (pe_callTy call_tupleN (by rfl) B.tuple (by decide +kernel) (pa_cons (pv 10) pa_nil)) pa_nil)) rfl)
              (pss_cons (ps_set (i := 13) scLaw.nd rfl (Or.inl rfl) (pe_ifExp (pt_cmpR op_gt (pv 11) pe_int (nomark _)) (pe_tupN (pa_cons pe_str (pa_cons (pv 11) (pa_cons pe_bl pa_nil)))) pe_non))
              (pss_cons (ps_cut (ps_if (pt_cmpR op_le (pv 11) pe_int (nomark _)) (pss_cons (ps_sliceN (pv 3) (pv 9) (pe_op op_add (pv 9) (pe_callB call_len_seq (by rfl) B.len PySem.boot_len (pa_cons (pv 10) pa_nil))) (pv 10))
                  (pss_one (ps_expr (pe_bm PySem.F.plainAttrs_list PySem.F.slot_list_append PySem.F.type_list_append mt_appendN (pv 7) (pa_cons (pe_tupN (pa_cons (pv 9) (pa_cons (pv 12) pa_nil))) pa_nil))))) pss_nil))
              (pss_cons (ps_set (i := 14) scLaw.nd rfl (Or.inl rfl) (pe_ix ix_list (pe_lstN (pa_cons (pv 10) (pa_cons (pv 12) pa_nil))) (pe_fn L.take r1 pass0 (pa_cons (pv 2) (pa_cons pe_int pa_nil))) (fun _ _ => rfl)))
              (pss_cons (ps_if (pt_not (pt_val (pe_fnG L.same hg r1 pass0 (pa_cons (pe_fn L.told r4 pass0 (pa_cons (pv 6) (pa_cons (pv 9) (pa_cons (pv 14) pa_nil)))) (pa_cons (pv 13) pa_nil))))) (pss_one (ps_ret pe_bl)) pss_nil)
              (pss_one (ps_expr (pe_bm PySem.F.plainAttrs_list PySem.F.slot_list_append PySem.F.type_list_append mt_appendN (pv 10) (pa_cons pe_int pa_nil)))))))))))
          (pss_cons (ps_if (pt_not (pt_val (pe_fnG L.same hg r1 pass0 (pa_cons (pe_tupN (pa_cons (pe_pr D.cells r2 pass0 (pv 6)) (pa_cons (pe_pr D.pend r2 pass0 (pv 6)) (pa_cons (pe_callB (call_lenM D.len r2 pass0) (by rfl) B.len PySem.boot_len (pa_cons (pv 6) pa_nil)) pa_nil))))
              (pa_cons (pe_tupN (pa_cons (pe_callTy call_tupleN (by rfl) B.tuple (by decide +kernel) (pa_cons (pv 3) pa_nil)) (pa_cons (pe_callTy call_tupleN (by rfl) B.tuple (by decide +kernel) (pa_cons (pv 7) pa_nil)) (pa_cons (pe_callB call_len_seq (by rfl) B.len PySem.boot_len (pa_cons (pv 3) pa_nil)) pa_nil)))) pa_nil))))) (pss_one (ps_ret pe_bl)) pss_nil)
          (pss_cons (ps_if (pt_cmpR (op_neD hr.units) (pe_lcN rfl scLaw.nd (pi_range1 (by rfl) B.range (pa_cons (pe_callB call_len_seq (by rfl) B.len PySem.boot_len (pa_cons (pv 3) pa_nil)) pa_nil)) (blkOk_by (N := nLaw) (sc := defScope sLaw) (own := [("_law_at", 9)]) (by decide +kernel))
                (fun _ _ _ _ _ => pg_name (i := 9) scLaw.nd rfl (Or.inl rfl)) (fun _ _ _ _ _ => pts_nil) (fun _ _ _ _ _ => pe_ixM D.get r2 pass0 (pv 6) (pv 9))) (pv 3) (nomark _)) (pss_one (ps_ret pe_bl)) pss_nil)
          (pss_one (ps_if (PW.pt (pw_or (pt_cmpR (op_neD hr.units) (pe_cmpR (op_eqM D.eq r1 pass0) (pv 6) (pe_cm D.of_ r3 pass0 (pa_cons (pv 3) pa_nil)) (nomark _)) (pe_cmpR (op_eqD hr.units) (pv 7) (pe_lstN pa_nil) (nomark _)) (nomark _))
              (pw_or (pt_cmpR (op_eqM D.eq r1 pass0) (pv 6) (pe_callTy call_tupleN (by rfl) B.tuple (by decide +kernel) (pa_cons (pv 3) pa_nil)) (nomark _)) (pw_or1 (pt_cmpR (op_neD hr.units) (pv 4) (pv 5) (nomark _)))))) (pss_one (ps_ret pe_bl)) pss_nil))))))))))))))))
      (pss_one (ps_ret pe_bl)), ?_⟩
    refine ⟨_, rfl, l, Ints ns, rfl, .inl hS, _, _, rfl, _, _, rfl, _, rfl, ?_⟩
    rw [ints_len]
    have hcnt : (if (if ((ns.length : Nat) : Int) < 4 then ((ns.length : Nat) : Int) else 4) > 1 then (if ((ns.length : Nat) : Int) < 4 then ((ns.length : Nat) : Int) else 4) else 1) ≤ 4 ∧ 1 ≤ (if (if ((ns.length : Nat) : Int) < 4 then ((ns.length : Nat) : Int) else 4) > 1 then (if ((ns.length : Nat) : Int) < 4 then ((ns.length : Nat) : Int) else 4) else 1) := by split <;> split <;> omega
    generalize (if (if ((ns.length : Nat) : Int) < 4 then ((ns.length : Nat) : Int) else 4) > 1 then (if ((ns.length : Nat) : Int) < 4 then ((ns.length : Nat) : Int) else 4) else 1) = cnt at hcnt ⊢
    refine ⟨by omega, by omega, for_range (fun i σ H1 => ∃ v1 v2 v3 v4 v5 v6 v7 v8 v9 v10 v11 v12 v13 v14 v15, σ = [some (.ref l), v1, v2, v3, v4, v5, v6, v7, v8, v9, v10, v11, v12, v13, v14, v15] ∧ Same H H1)
      ⟨none, none, none, none, none, none, none, none, none, none, none, none, none, none, none, rfl, Same.refl _⟩ ?_ ?_⟩
    · rintro i σ H1 hi ⟨v1, v2, v3, v4, v5, v6, v7, v8, v9, v10, v11, v12, v13, v14, v15, rfl, s1⟩
      refine ⟨_, rfl, _, rfl, l, ns, _, rfl, s1.seq hS, hn, by omega, by omega, fun fh H2 nfh F2 s2 => ?_⟩
      obtain ⟨fo2, w2⟩ : ∃ fo, Ow H H2 [(fh, fo)] := by
        obtain ⟨x2, y2, e2, _⟩ := F2
        exact ⟨_, ((Ow.start H).same s1).new nfh s2 e2⟩
      refine ⟨_, rfl, fh, 99, rfl, F2, by decide, by decide, fun r3 H3 a3 b3 F3 k3 => ⟨r3, rfl, a3, by omega, fun H4 s4 => ⟨true, rfl, iteF ?_⟩⟩⟩
      obtain ⟨fo3, w3⟩ := feed_set w2 0 rfl F3 k3
      have w4 := w3.same s4
      refine ⟨_, rfl, fh, 9, rfl, F3.same s4, by decide, by decide, fun r5 H5 a5 b5 F5 k5 => ⟨_, _, rfl, rfl, _, rfl, fun H6 s6 => ⟨true, rfl, iteF ?_⟩⟩⟩
      obtain ⟨fo5, w5⟩ := feed_set w4 0 rfl F5 k5
      have w6 := w5.same s6
      refine ⟨_, rfl, fh, 12, rfl, F5.same s6, by decide, by decide, fun r7 H7 a7 b7 F7 k7 => ⟨_, _, rfl, rfl, _, rfl, by omega, by omega, _, _, _, walk_range, by rw [sizeLine_eq]; omega, fun R nR => ?_⟩⟩
      obtain ⟨fo7, w7⟩ := feed_set w6 0 rfl F7 k7
      refine ⟨fun i acc H8 => ∃ xs fo, acc = Ints xs ∧ xs.length = i ∧ (∀ x ∈ xs, Sh x) ∧ Ow H H8 [(R, .lst acc), (fh, fo)] ∧ FeedAt H8 fh,
        fun H8 s8 e8 => ⟨[], fo7, rfl, rfl, (fun x z => nomatch z), w7.new nR s8 e8, F7.same s8⟩, fun _ _ _ _ _ _ => trivial, ?_, ?_⟩
      · rintro i x acc _ H8 hi8 eR lR ⟨xs, fo, ea, lx, bd, w8, F8⟩ ⟨rfl, rfl⟩
        refine ⟨rfl, fun _ => ⟨_, rfl, fh, rfl, F8, fun n H9 b1 b2 F9 k9 => ?_⟩, (fun z => nomatch z)⟩
        obtain ⟨fo9, w9⟩ := feed_set w8 1 rfl F9 k9
        refine ⟨w9.get 0 rfl, fun H10 k10 e10 => ⟨xs ++ [n], fo9, by rw [ea, ints_app]; rfl, by rw [List.length_append, lx]; rfl, fun y hy => ?_, w9.set 0 rfl k10 e10, F9.kp k10 (nm1 (w9.ne 1 0 rfl rfl (by decide)))⟩⟩
        rcases List.mem_append.mp hy with hy | hy
        · exact bd y hy
        · rw [List.mem_singleton.mp hy]; exact sh_of b1 b2
      · rintro acc H8 eR lR ⟨cells, fo8, rfl, lc, bdc, w8, F8⟩
        obtain ⟨x0, xr, rfl⟩ : ∃ x0 xr, cells = x0 :: xr := by
          cases cells with
          | nil => rw [List.length_nil] at lc; omega
          | cons x0 xr => exact ⟨x0, xr, rfl⟩
        have lc2 : (x0 :: xr).length ≤ 12 := by rw [lc]; omega
        -- given cells, spoilt
        refine ⟨_, rfl, R, _, rfl, .inl (SqL.of (w8.get 0 rfl)), fun gc H9 ngc s9 e9 => ?_⟩
        have w9 := w8.new ngc s9 e9
        refine ⟨_, rfl, R, _, 0, _, rfl, rfl, SqL.of (w9.get 1 rfl), atI_zero _ _, _, _, rfl, rfl, by show 1 ≤ sizeLine; decide, fun l1 H10 nl1 s10 e10 => ?_⟩
        refine ⟨_, rfl, 1, rfl, R, _, rfl, SqL.of ((w9.same s10).get 1 rfl), fun l2 H11 nl2 s11 e11 => ?_⟩
        have ecut : cutV (Ints (x0 :: xr)) (some 1) none = Ints xr := cut_from _ 1
        rw [ecut] at e11
        refine ⟨l1, l2, _, _, rfl, rfl, s11 _ _ e10, e11, by rw [ints_len]; rw [List.length_cons] at lc2; show 1 + _ ≤ sizeLine; rw [sizeLine_eq]; omega, fun sp H12 nsp s12 e12 => ?_⟩
        have w12 := ((w9.same s10).same s11).new nsp s12 e12
        refine ⟨_, _, rfl, ?_⟩
        -- the disk, the waiting writes
        refine ⟨rfl, _, rfl, gc, x0 :: xr, rfl, .inl (SqL.of (w12.get 1 rfl)), by omega, fun p a b c H13 np na nb nc D13 s13 => ⟨by show 0 ≤ sizeLine; decide, fun wt H14 nwt s14 e14 => ⟨by show 2 ≤ sizeLine; decide, fun tu H15 ntu s15 e15 => ⟨tu, _, rfl, SqT.of e15, rfl, _, _, rfl, _, _, rfl, rfl, ?_⟩⟩⟩⟩
        obtain ⟨dx, w13⟩ := ow_disk w12 np na nb nc D13 s13
        have w15 := ((w13.new nwt s14 e14).same s15).pick [8, 7, 6, 5, 1, 2, 3, 4, 0] rfl
        have F15 := (((((((F8.same s9).same s10).same s11).same s12).same s13).same s14).same s15)
        refine ⟨_, rfl, gc, _, 0, _, rfl, rfl, SqL.of (w15.get 2 rfl), atI_zero _ _, _, _, rfl, rfl, _, rfl, gc, _, 0, 0, rfl, rfl, w15.get 2 rfl, ixN_zero _, fun H16 k16 e16 => ?_⟩
        have w16 := w15.set 2 rfl k16 e16
        have F16 : FeedAt H16 fh := F15.kp k16 (nm1 (w15.ne 0 2 rfl rfl (by decide)))
        refine ⟨fun σ Hx => ∃ cl p a b c dx fo cells st w8 w9 w10 w11 w12 w13 w14 w15, σ = [some (.ref l), some (.int (0 + i)), some (.ref fh), some (.ref cl), some (.ref gc), some (.ref sp), some (.ref p), some (.ref wt), w8, w9, w10, w11, w12, w13, w14, w15] ∧
          Ow H Hx (own43 C fh cl gc sp p a b c wt dx fo cells st ((x0 + 1) :: xr) [] []) ∧ Bd43 Hx fh cells st [] [] [], ?_, ?_⟩
        · refine ⟨_, rfl, fh, 2, rfl, F16, by decide, by decide, fun r17 H17 a17 b17 F17 k17 => ⟨rfl, ?_⟩⟩
          obtain ⟨fo17, w17⟩ := feed_set w16 0 rfl F17 k17
          refine ⟨_, rfl, ite2 (fun _ => ?_) (fun _ => ?_)⟩
          · refine ⟨by show 1 ≤ sizeLine; decide, fun l3 H18 nl3 s18 e18 => ⟨_, rfl, R, _, rfl, .inl (SqL.of ((w17.same s18).get 1 rfl)), l3, _, _, rfl, rfl, e18, by omega, by rw [ints_len]; omega, by rw [ints_len, sizeLine_eq]; show 1 * _ ≤ _; omega, fun cl H19 ncl s19 e19 => ?_⟩⟩
            have w19 := (w17.same s18).new ncl s19 e19
            have F19 := (F17.same s18).same s19
            rw [ints_len] at e19 w19
            refine ⟨_, rfl, cl, _, rfl, .inl (SqL.of e19), fun x dx2 H20 nx _ _ s20 _ ex => ⟨x, dx2, _, rfl, ex, by omega, ?_, fun a2 b2 c2 H21 na2 nb2 nc2 D21 k21 => ⟨rfl, ?_⟩⟩⟩
            · rw [rep_ints, ints_len, List.length_replicate]; omega
            have s21 : Same H19 H21 := Same.fresh s20 nx k21
            have hl : (Ints (List.replicate (x0 :: xr).length 0)).length = (x0 :: xr).length := by rw [ints_len, List.length_replicate]
            have ei : (((x0 :: xr).length : Nat) : Int).toNat = (x0 :: xr).length := by omega
            rw [rep_ints, ei] at D21 w19
            rw [hl, ei] at D21
            obtain ⟨dx3, w21⟩ := ow_disk w19 nx (Same.free s20 na2) (Same.free s20 nb2) (Same.free s20 nc2) D21 s21
            refine ⟨cl, x, a2, b2, c2, dx3, fo17, _, _, _, _, _, _, _, _, _, _, rfl, w21.pick [5, 4, 7, 8, 0, 1, 2, 3, 13] rfl, ⟨F19.same s21, .nil, .nil, ?_, ?_, ?_, (fun w z => nomatch z)⟩⟩
            · rw [List.length_replicate, List.length_cons]; omega
            · rw [List.length_replicate]; exact lc2
            · intro y hy
              rw [(List.mem_replicate.mp hy).2]
              exact sh_zero
          · exact ⟨R, p, a, b, c, dx, fo17, _, _, _, _, _, _, _, _, _, _, rfl, w17, ⟨F17, .nil, .nil, by rw [List.length_cons]; omega, lc2, bdc, (fun w z => nomatch z)⟩⟩
        · rintro σ Hx ⟨cl, p, a, b, c, dx, fo, cells, st, w8, w9, w10, w11, w12, w13, w14, w15, rfl, wx, bx⟩
          refine ⟨_, rfl, fh, 10, rfl, bx.feed, by decide, by decide, fun rr Hr ar br Fr kr => ⟨_, _, rfl, rfl, _, rfl, by omega, by omega, ?_⟩⟩
          obtain ⟨for_, wr⟩ := feed_set wx 0 rfl Fr kr
          refine for_range (Pv43 H C l fh cl gc sp p a c (0 + i) ((x0 + 1) :: xr)) ⟨b, wt, dx, for_, cells, st, [], [], [], w8, w9, w10, w11, w12, w13, w14, w15, rfl, wr, bx.keep Fr (feed_tup bx.feed kr), Nat.zero_le _⟩ ?_ ?_
          · clear wr wx bx Fr kr
            rintro t σ Hy ht ⟨b, wt, dx, fo, cells, st, ws, ts, tw, w8, w9, w10, w11, w12, w13, w14, w15, rfl, wy, by_, lw⟩
            -- a place, some numbers
            refine ⟨_, rfl, _, rfl, cl, _, rfl, .inl (SqL.of (wy.get 1 rfl)), _, _, rfl, rfl, fh, _, rfl, by_.feed, by omega, by rw [ints_len]; have := by_.l2; omega, fun at_ H1 a1 b1 F1 k1 => ?_⟩
            rw [ints_len] at b1
            obtain ⟨fo1, w1⟩ := feed_set wy 0 rfl F1 k1
            have bd1 := by_.keep F1 (feed_tup by_.feed k1)
            refine ⟨_, rfl, fh, 5, rfl, F1, by decide, by decide, fun r2 H2 a2 b2 F2 k2 => ⟨_, _, rfl, rfl, _, rfl, by omega, by omega, _, _, _, walk_range, by rw [sizeLine_eq]; omega, fun R nR => ?_⟩⟩
            obtain ⟨fo2, w2⟩ := feed_set w1 0 rfl F2 k2
            have bd2 := bd1.keep F2 (feed_tup F1 k2)
            refine ⟨fun i acc H8 => ∃ xs fo, acc = Ints xs ∧ xs.length = i ∧ (∀ x ∈ xs, Sh x) ∧ Ow H H8 ((R, .lst acc) :: own43 C fh cl gc sp p a b c wt dx fo cells st ((x0 + 1) :: xr) ts tw) ∧ Bd43 H8 fh cells st ws ts tw,
              fun H8 s8 e8 => ⟨[], fo2, rfl, rfl, (fun x z => nomatch z), w2.new nR s8 e8, bd2.same s8⟩, fun _ _ _ _ _ _ => trivial, ?_, ?_⟩
            · rintro i x acc _ H8 hi8 eR lR ⟨xs, fo, ea, lx, bd, w8, bd8⟩ ⟨rfl, rfl⟩
              refine ⟨rfl, fun _ => ⟨_, rfl, fh, rfl, bd8.feed, fun n H9 b1 b2 F9 k9 => ?_⟩, (fun z => nomatch z)⟩
              obtain ⟨fo9, w9⟩ := feed_set w8 1 rfl F9 k9
              have e9 := w9.get 0 rfl
              refine ⟨e9, fun H10 k10 e10 => ⟨xs ++ [n], fo9, by rw [ea, ints_app]; rfl, by rw [List.length_append, lx]; rfl, fun y hy => ?_, w9.set 0 rfl k10 e10, ?_⟩⟩
              · rcases List.mem_append.mp hy with hy | hy
                · exact bd y hy
                · rw [List.mem_singleton.mp hy]; exact sh_of b1 b2
              · exact (bd8.keep F9 (feed_tup bd8.feed k9)).keep (F9.kp k10 (nm1 (w9.ne 1 0 rfl rfl (by decide)))) (lst_tup e9 k10)
            · rintro acc H8 eR lR ⟨nums, fo8, rfl, ln, shn, w8, bd8⟩
              refine ⟨_, _, rfl, ?_⟩
              refine ⟨Pv43 H C l fh cl gc sp p a c (0 + i) ((x0 + 1) :: xr) (t + 1), ?_, ?_⟩
              · refine ⟨_, rfl, fh, 5, rfl, bd8.feed, by decide, by decide, fun r9 H9 a9 b9 F9 k9 => ⟨rfl, _, rfl, ?_⟩⟩
                obtain ⟨fo9, w9⟩ := feed_set w8 1 rfl F9 k9
                have bd9 := bd8.keep F9 (feed_tup bd8.feed k9)
                have D9 : DiskAt C H9 p a b c cells st ws := disk_of w9 5 6 7 8 rfl rfl rfl rfl (by decide) (by decide) (by decide) bd9.pts
                refine ite2 (fun _ => ?_) (fun _ => ?_)
                · refine ⟨_, rfl, p, dx, _, rfl, w9.get 5 rfl, rfl, p, a, b, c, _, _, _, rfl, D9, fun b' H10 nb' D10 k10 => ⟨rfl, false, rfl, iteF ⟨by show 0 ≤ sizeLine; decide, fun wt' H11 nwt s11 e11 => ?_⟩⟩⟩
                  obtain ⟨⟨dx', o'⟩, h1, h2, ⟨ts', h3, h4⟩, _⟩ := D10
                  cases h4
                  obtain ⟨Hm, wm, sm, km⟩ := w9.setNew nb' h2 k10
                  have w10 := wm.set2 6 9 rfl rfl (by decide) km o' h3
                  have w11 := (w10.new nwt s11 e11).pick [3, 4, 5, 6, 7, 8, 1, 10, 0] rfl
                  refine ⟨b', wt', dx', fo9, cells, cells, [], [], [], _, _, _, _, _, _, _, _, rfl, w11, ⟨?_, .nil, .nil, bd9.l1, bd9.l2, bd9.shc, (fun w z => nomatch z)⟩, Nat.zero_le _⟩
                  refine FeedAt.same (FeedAt.kp bd9.feed k10 (fun z => ?_)) s11
                  simp only [List.mem_cons, List.not_mem_nil, or_false] at z
                  rcases z with z | z
                  · exact w9.ne 1 5 rfl rfl (by decide) z
                  · exact w9.ne 1 8 rfl rfl (by decide) z
                · -- a write
                  have l12 := bd9.l2
                  have ht' : t < 13 := by omega
                  have ln5 : nums.length ≤ 5 := by rw [ln]; omega
                  refine ⟨_, rfl, _, rfl, R, _, rfl, .inl (SqL.of (w9.get 0 rfl)), _, _, rfl, rfl, _, rfl, cl, _, rfl, .inl (SqL.of (w9.get 2 rfl)), _, _, rfl, rfl, _, rfl, R, _, rfl, .inl ⟨SqL.of (w9.get 0 rfl), fun kt10 H10 nkt s10 e10 => ⟨_, _, rfl, ?_⟩⟩⟩
                  rw [ints_len, ints_len]
                  have w10 := w9.same s10
                  have bd10 := bd9.same s10
                  -- what is given to the disk: the list or the tuple
                  have giv : ∀ (Hh : Hp) (L' : List (Addr × HO)) (r : Int), Ow H Hh L' → L'[0]? = some (R, .lst (Ints nums)) → (∃ j o, L'[j]? = some (a, o) ∧ j ≠ 0 ∧ (∀ xs, o ≠ .tup xs)) → Hh kt10 = some (.tup (Ints nums)) → 0 ≤ r → r < 2 →
                      ∃ g, atI [V.ref R, V.ref kt10] r = some (.ref g) ∧ Seq K Hh g nums ∧ g ≠ a := fun Hh L' r wh h0 ⟨j, o, hj, nj, no⟩ hk hr0 hr2 => by
                    have hr' : r = 0 ∨ r = 1 := by omega
                    rcases hr' with rfl | rfl
                    · exact ⟨R, rfl, .inl (SqL.of (wh.get 0 h0)), wh.ne 0 j h0 hj (Ne.symm nj)⟩
                    · exact ⟨kt10, rfl, .inr hk, ne_of hk (wh.get j hj) (fun z => no _ z.symm)⟩
                  by_cases hfit : at_ + (nums.length : Int) ≤ cells.length
                  · -- it fits
                    refine ⟨_, rfl, _, _, rfl, rfl, _, rfl, ite2 (fun z => absurd (of_decide_eq_true z) (by omega)) (fun _ => ?_)⟩
                    refine ⟨_, ?_, fun _ _ h => h⟩
                    refine ⟨_, rfl, _, _, rfl, rfl, _, rfl, ite2 (fun _ => ?_) (fun z => absurd (decide_eq_true (by omega)) z)⟩
                    refine ⟨_, rfl, _, rfl, _, rfl, _, rfl, _, rfl, R, _, rfl, .inl (SqL.of (w10.get 0 rfl)), _, _, rfl, rfl, cl, R, _, _, at_, _, rfl, rfl, rfl, rfl, w10.get 2 rfl, w10.get 0 rfl, w10.ne 2 0 rfl rfl (by decide), a1, by omega, by rw [ints_len, ints_len]; omega, by rw [ints_len, ints_len, sizeLine_eq]; omega, fun H11 k11 e11 => ?_⟩
                    rw [ints_len, ints_splice] at e11
                    have w11 := w10.set 2 rfl k11 e11
                    have tt11 := lst_tup (w10.get 2 rfl) k11
                    have kt11 := tt11 _ _ e10
                    have F11 : FeedAt H11 fh := bd10.feed.kp k11 (nm1 (w10.ne 1 2 rfl rfl (by decide)))
                    have p11 := paired_mono bd10.pts tt11
                    have q11 := paired_mono bd10.ptw tt11
                    refine ⟨_, rfl, .inl ⟨rfl, _, SqL.of (w11.get 9 rfl)⟩, _, rfl, _, rfl, by show 2 ≤ sizeLine; decide, fun t2 H12 nt2 s12 e12 => ⟨wt, tw, _, rfl, rfl, (w11.same s12).get 9 rfl, ?_, fun H13 k13 e13 => ?_⟩⟩
                    · have := Paired.length bd10.ptw
                      rw [this, sizeLine_eq]; omega
                    have w13 := (w11.same s12).set 9 rfl k13 e13
                    have tt13 := lst_tup ((w11.same s12).get 9 rfl) k13
                    have F13 : FeedAt H13 fh := (F11.same s12).kp k13 (nm1 ((w11.same s12).ne 1 9 rfl rfl (by decide)))
                    have kt13 := tt13 _ _ (s12 _ _ kt11)
                    have p13 := paired_mono p11 (fun t xs e => tt13 t xs (s12 _ _ e))
                    have q13 : Paired (Tw H13) (tw ++ [.ref t2]) (ws ++ [(at_, nums)]) := paired_snoc (paired_mono q11 (fun t xs e => tt13 t xs (s12 _ _ e))) ⟨t2, kt10, rfl, tt13 _ _ e12, kt13⟩
                    -- given
                    refine ⟨_, rfl, _, rfl, by show 2 ≤ sizeLine; decide, fun l4 H14 nl4 s14 e14 => ⟨_, rfl, fh, 2, rfl, F13.same s14, by decide, by decide, fun r15 H15 a15 b15 F15 k15 => ?_⟩⟩
                    have wq := (w13.same s14).new (p := l4) (o := .lst [.ref R, .ref kt10]) (H' := H14)
                    have w14 := w13.new nl4 s14 e14
                    obtain ⟨fo15, w15⟩ := feed_set w14 2 rfl F15 k15
                    have tt15 := feed_tup (F13.same s14) k15
                    obtain ⟨g, hg1, hg2, hg3⟩ := giv H15 _ r15 (w15.pick [1, 2, 3, 4, 5, 6, 7, 8, 9, 10] rfl) rfl ⟨6, _, rfl, by decide, fun xs z => nomatch z⟩ (tt15 _ _ (s14 _ _ kt13)) a15 b15
                    have p15 := paired_mono p13 (fun t xs e => tt15 t xs (s14 _ _ e))
                    have q15 := paired_mono q13 (fun t xs e => tt15 t xs (s14 _ _ e))
                    have D15 : DiskAt C H15 p a b c cells st ws := disk_of w15 6 7 8 9 rfl rfl rfl rfl (by decide) (by decide) (by decide) p15
                    refine ⟨l4, _, r15, .ref g, rfl, rfl, SqL.of (w15.get 0 rfl), hg1, ?_⟩
                    refine ⟨_, rfl, _, rfl, _, rfl, p, a, b, c, cells, st, ws, at_, g, nums, rfl, D15, hg2, hg3, a1, by omega, by omega, by omega, fun _ H16 D16 k16 => ?_, fun z => absurd hfit z⟩
                    refine ⟨_, rfl, .non, .non, .none, rfl, .non, .non, shows_none, true, rfl, iteF ?_⟩
                    obtain ⟨⟨dx', o'⟩, h1, h2, ⟨ts', h3, h4⟩, _⟩ := D16
                    have w16 := w15.set2 7 9 rfl rfl (by decide) k16 h1 h3
                    have tt16 : ∀ t xs, H15 t = some (.tup xs) → H16 t = some (.tup xs) := tups_of k16 fun z hz xs => by
                      simp only [List.mem_cons, List.not_mem_nil, or_false] at hz
                      rcases hz with rfl | rfl
                      · rw [w15.get 7 rfl]; exact fun z => nomatch z
                      · rw [w15.get 9 rfl]; exact fun z => nomatch z
                    have F16' : FeedAt H16 fh := F15.kp k16 (fun z => by
                      simp only [List.mem_cons, List.not_mem_nil, or_false] at z
                      rcases z with z | z
                      · exact w15.ne 2 7 rfl rfl (by decide) z
                      · exact w15.ne 2 9 rfl rfl (by decide) z)
                    refine ⟨_, rfl, .inl ⟨rfl, _, SqL.of (w16.get 1 rfl)⟩, R, _, _, rfl, rfl, w16.get 1 rfl, by rw [ints_len, sizeLine_eq]; omega, fun H17 k17 e17 => ?_⟩
                    have w17 := (w16.set 1 rfl k17 e17).pick [2, 3, 4, 5, 6, 7, 8, 9, 10] rfl
                    have tt17 := lst_tup (w16.get 1 rfl) k17
                    refine ⟨b, wt, _, fo15, splice cells at_ nums, st, ws ++ [(at_, nums)], ts', tw ++ [.ref t2], _, _, _, _, _, _, _, _, rfl, w17, ⟨?_, paired_mono h4 tt17, paired_mono q15 (fun t xs e => tt17 t xs (tt16 t xs e)), ?_, ?_, ?_, ?_⟩, ?_⟩
                    · exact F16'.kp k17 (nm1 (w16.ne 2 1 rfl rfl (by decide)))
                    · rw [splice_len a1 hfit]; exact bd9.l1
                    · rw [splice_len a1 hfit]; exact bd9.l2
                    · intro x hx
                      rcases mem_splice hx with hx | hx
                      · exact bd9.shc x hx
                      · exact shn x hx
                    · intro w hw
                      rcases List.mem_append.mp hw with hw | hw
                      · exact bd9.shw w hw
                      · rw [List.mem_singleton.mp hw]
                        exact ⟨a1, by show at_ ≤ 1000; omega, ln5, shn⟩
                    · rw [List.length_append]; simp; omega
                  · -- it lacks room
                    refine ⟨_, rfl, _, _, rfl, rfl, _, rfl, ite2 (fun _ => ?_) (fun z => absurd (decide_eq_true (by omega)) z)⟩
                    refine ⟨_, rfl, by show 3 ≤ sizeLine; decide, fun du H11 ndu s11 e11 => ?_⟩
                    refine ⟨_, ?_, fun _ _ h => h⟩
                    refine ⟨_, rfl, _, _, rfl, rfl, _, rfl, ite2 (fun z => absurd (of_decide_eq_true z) (by omega)) (fun _ => ?_)⟩
                    have w11 := w10.same s11
                    have bd11 := bd10.same s11
                    refine ⟨_, rfl, _, rfl, by show 2 ≤ sizeLine; decide, fun l4 H14 nl4 s14 e14 => ⟨_, rfl, fh, 2, rfl, bd11.feed.same s14, by decide, by decide, fun r15 H15 a15 b15 F15 k15 => ?_⟩⟩
                    have w14 := w11.new nl4 s14 e14
                    obtain ⟨fo15, w15⟩ := feed_set w14 2 rfl F15 k15
                    have tt15 := feed_tup (bd11.feed.same s14) k15
                    have bd15 := (bd11.same s14).keep F15 tt15
                    obtain ⟨g, hg1, hg2, hg3⟩ := giv H15 _ r15 (w15.pick [1, 2, 3, 4, 5, 6, 7, 8, 9, 10] rfl) rfl ⟨6, _, rfl, by decide, fun xs z => nomatch z⟩ (tt15 _ _ (s14 _ _ (s11 _ _ e10))) a15 b15
                    have D15 : DiskAt C H15 p a b c cells st ws := disk_of w15 6 7 8 9 rfl rfl rfl rfl (by decide) (by decide) (by decide) bd15.pts
                    refine ⟨l4, _, r15, .ref g, rfl, rfl, SqL.of (w15.get 0 rfl), hg1, ?_⟩
                    refine ⟨_, rfl, _, rfl, _, rfl, p, a, b, c, cells, st, ws, at_, g, nums, rfl, D15, hg2, hg3, a1, by omega, by omega, by omega, fun z => absurd z hfit, fun _ v H16 d16 s16 => ?_⟩
                    have du16 := s16 _ _ (tt15 _ _ (s14 _ _ e11))
                    refine ⟨_, rfl, v, .ref du, _, rfl, d16, lack_dp du16, shows_lack (by omega) (by omega), true, rfl, iteF ?_⟩
                    have w16 := w15.same s16
                    have bd16 := bd15.same s16
                    refine ⟨_, rfl, .inl ⟨rfl, _, SqL.of (w16.get 1 rfl)⟩, R, _, _, rfl, rfl, w16.get 1 rfl, by rw [ints_len, sizeLine_eq]; omega, fun H17 k17 e17 => ?_⟩
                    have w17 := (w16.set 1 rfl k17 e17).pick [2, 3, 4, 5, 6, 7, 8, 9, 10] rfl
                    have tt17 := lst_tup (w16.get 1 rfl) k17
                    exact ⟨b, wt, _, fo15, cells, st, ws, ts, tw, _, _, _, _, _, _, _, _, rfl, w17, bd16.keep (bd16.feed.kp k17 (nm1 (w16.ne 2 1 rfl rfl (by decide)))) tt17, by omega⟩
              · -- looked at
                clear bd8 w8 bd2 w2 F2 k2 bd1 w1 F1 k1 by_ wy
                rintro σ Hz ⟨b, wt, dx, fo, cells, st, ws, ts, tw, w8, w9, w10, w11, w12, w13, w14, w15, rfl, wz, bz, lw⟩
                have l12 := bz.l2
                have ht' : t < 13 := by omega
                have Dz : DiskAt C Hz p a b c cells st ws := disk_of wz 4 5 6 7 rfl rfl rfl rfl (by decide) (by decide) (by decide) bz.pts
                have oz := wz.get 4 rfl
                refine ⟨_, rfl, p, dx, _, rfl, oz, p, a, b, c, _, _, _, rfl, Dz, by omega, fun t1 H1 nt1 s1 e1 => ?_⟩
                refine ⟨_, rfl, p, dx, _, rfl, s1 _ _ oz, p, a, b, c, _, _, _, ts, rfl, Dz.same s1, (wz.same s1).get 7 rfl, fun t2 H2 nt2 s2 e2 => ?_⟩
                refine ⟨_, rfl, p, dx, _, rfl, s2 _ _ (s1 _ _ oz), p, a, b, c, _, _, _, rfl, (Dz.same s1).same s2, _, rfl, by omega, by omega, ?_⟩
                refine ⟨by show 3 ≤ sizeLine; decide, fun t3 H3 nt3 s3 e3 => ?_⟩
                have w3 := ((wz.same s1).same s2).same s3
                have b3 := ((bz.same s1).same s2).same s3
                refine ⟨_, rfl, cl, _, rfl, .inl ⟨SqL.of (w3.get 1 rfl), fun u1 H4 nu1 s4 e4 => ?_⟩⟩
                refine ⟨_, rfl, wt, _, rfl, .inl ⟨SqL.of ((w3.same s4).get 8 rfl), fun u2 H5 nu2 s5 e5 => ?_⟩⟩
                refine ⟨_, rfl, cl, _, rfl, .inl (SqL.of (((w3.same s4).same s5).get 1 rfl)), by show 3 ≤ sizeLine; decide, fun u3 H6 nu3 s6 e6 => ?_⟩
                have w6 := ((w3.same s4).same s5).same s6
                have b6 := ((b3.same s4).same s5).same s6
                rw [ints_len] at e6
                refine ⟨.ref t3, .ref u3, stD cells ws, rfl, ?_, ?_, shows_st l12 bz.shc bz.shw (by omega), true, rfl, iteF ?_⟩
                · exact .tup (SqT.of (s6 _ _ (s5 _ _ (s4 _ _ e3)))) (.cons (.tup (SqT.of (s6 _ _ (s5 _ _ (s4 _ _ (s3 _ _ (s2 _ _ e1)))))) (dpAll_ints cells)) (.cons (.tup (SqT.of (s6 _ _ (s5 _ _ (s4 _ _ (s3 _ _ e2))))) (dpAll_of tw_dp b6.pts)) (.cons (.int _) .nil)))
                · exact .tup (SqT.of e6) (.cons (.tup (SqT.of (s6 _ _ (s5 _ _ e4))) (dpAll_ints cells)) (.cons (.tup (SqT.of (s6 _ _ e5)) (dpAll_of tw_dp b6.ptw)) (.cons (.int _) .nil)))
                -- cell by cell
                refine ⟨_, rfl, cl, _, rfl, .inl (SqL.of (w6.get 1 rfl)), _, rfl, by omega, by rw [ints_len]; omega, _, _, _, walk_range, by rw [ints_len, sizeLine_eq]; omega, fun R nR => ?_⟩
                refine ⟨fun i acc H8 => acc = Ints (cells.take i) ∧ Ow H H8 ((R, .lst acc) :: own43 C fh cl gc sp p a b c wt dx fo cells st ((x0 + 1) :: xr) ts tw) ∧ Bd43 H8 fh cells st ws ts tw, fun H8 s8 e8 => ⟨rfl, w6.new nR s8 e8, b6.same s8⟩, fun _ _ _ _ _ _ => trivial, ?_, ?_⟩
                · rintro i x acc _ H8 hi8 eR lR ⟨ea, w8, b8⟩ ⟨rfl, rfl⟩
                  have hi' : i < cells.length := by rw [ints_len] at hi8; omega
                  have D8 : DiskAt C H8 p a b c cells st ws := disk_of w8 5 6 7 8 rfl rfl rfl rfl (by decide) (by decide) (by decide) b8.pts
                  have ei : (0 + (i : Int)) = ((i : Nat) : Int) := by omega
                  refine ⟨rfl, fun _ => ⟨_, rfl, _, rfl, p, dx, _, rfl, w8.get 5 rfl, p, a, b, c, _, _, _, i, cells[i], by show [V.ref p, V.int (0 + (i : Int))] = _; rw [ei], D8, List.getElem?_eq_getElem hi', eR, fun H9 k9 e9 => ⟨?_, w8.set 0 rfl k9 e9, b8.keep (b8.feed.kp k9 (nm1 (w8.ne 1 0 rfl rfl (by decide)))) (lst_tup eR k9)⟩⟩, (fun z => nomatch z)⟩
                  rw [ea, take_snoc (List.getElem?_eq_getElem hi'), ints_app]
                  rfl
                · rintro acc H8 eR lR ⟨ea, w8, b8⟩
                  have ea' : acc = Ints cells := by
                    rw [ea, ints_len]
                    have : ((cells.length : Nat) : Int).toNat = cells.length := by omega
                    rw [this, List.take_length]
                  rw [ea'] at eR
                  refine ⟨_, rfl, .list (dI cells), .list (dI cells), .lst (SqL.of eR) (dpAll_ints cells), .lst (SqL.of (w8.get 2 rfl)) (dpAll_ints cells), shaped_ints cells, shaped_ints cells, false, ?_, iteF ?_⟩
                  · rw [eqv_ints, decide_eq_true rfl]; rfl
                  -- equal to a disk of its cells, if nothing waits
                  have D8 : DiskAt C H8 p a b c cells st ws := disk_of w8 5 6 7 8 rfl rfl rfl rfl (by decide) (by decide) (by decide) b8.pts
                  refine ⟨_, rfl, rfl, _, rfl, cl, cells, rfl, .inl (SqL.of (w8.get 2 rfl)), by omega, fun p2 a2 b2 c2 H9 np2 na2 nb2 nc2 D9 s9 => ?_⟩
                  obtain ⟨dx2, o9⟩ := D9.ob
                  have w9 := w8.same s9
                  have b9 := b8.same s9
                  refine ⟨p, dx, _, _, rfl, w9.get 5 rfl, T.ow.ty o9, nf, .inl ⟨p, a, b, c, _, _, _, p2, a2, b2, c2, _, _, _, rfl, D8.same s9, D9, ?_⟩⟩
                  refine ⟨_, rfl, by show 0 ≤ sizeLine; decide, fun e10 H10 ne10 s10 ee10 => ?_⟩
                  have w10 := w9.same s10
                  have b10 := b9.same s10
                  refine ⟨.list (ws.map dW), .list (([] : List (Int × List Int)).map dW), .lst (SqL.of (w10.get 9 rfl)) (dpAll_of tw_dp b10.ptw), .lst (SqL.of ee10) .nil, shaped_ws ws, shaped_ws [], ?_⟩
                  refine ⟨_, _, .bl _, .bl _, shaped_bool _, shaped_bool _, false, ?_, iteF ?_⟩
                  · have e2 : PyData.eqv (.list (ws.map dW)) (.list (([] : List (Int × List Int)).map dW)) = decide (ws = []) := by
                      simp only [PyData.eqv, eqvAll_map eqv_dW]
                    rw [e2, eqv_bool]
                    simp
                  -- no tuple equals it
                  refine ⟨_, rfl, _, rfl, cl, _, rfl, .inl ⟨SqL.of (w10.get 2 rfl), fun tu H11 ntu s11 e11 => ?_⟩⟩
                  have w11 := w10.same s11
                  refine ⟨p, dx, _, _, rfl, w11.get 5 rfl, .base (.tup e11), nft, .inr ⟨p, a, b, c, _, _, _, _, _, rfl, ((D8.same s9).same s10).same s11, .base (.tup e11), kt, false, rfl, iteF ?_⟩⟩
                  -- what was given is spoilt alone
                  refine ⟨_, rfl, _, rfl, .list (dI ((x0 + 1) :: xr)), .list (dI ((x0 + 1) :: xr)), .lst (SqL.of (w11.get 3 rfl)) (dpAll_ints _), .lst (SqL.of (w11.get 4 rfl)) (dpAll_ints _), shaped_ints _, shaped_ints _, false, ?_, iteF ?_⟩
                  · rw [eqv_ints, decide_eq_true rfl]; rfl
                  exact ⟨b, wt, dx, fo, cells, st, ws, ts, tw, _, _, _, _, _, _, _, _, rfl, w11.pick [1, 2, 3, 4, 5, 6, 7, 8, 9] rfl, b10.same s11, lw⟩
          · rintro σ Hy ⟨b, wt, dx, fo, cells, st, ws, ts, tw, w8, w9, w10, w11, w12, w13, w14, w15, rfl, wy, by_, lw⟩
            exact ⟨_, _, _, _, _, _, _, _, _, _, _, _, _, _, _, rfl, wy.sm⟩
    · rintro σ H1 ⟨v1, v2, v3, v4, v5, v6, v7, v8, v9, v10, v11, v12, v13, v14, v15, rfl, s1⟩
      exact q _
end
end Lp
namespace Lp
open PySem PySem.Spec PyProof.Rows L2 He
section
variable {P : Program} {w : World} {K : PySem.W.Frag} {mg : Str → Option Value} {base : Heap} {C N f cda cc : Addr} {fd : FuncData}
theorem scNoRoom : SScope ["self", "lacking"] ["self", "lacking"] (defScope sNoRoom) := sscope_by (by decide +kernel)
theorem ok_noroom (F : FunS K "__init__" "NoRoom.__init__" (defArgs sNoRoom) (defBody sNoRoom) (defScope sNoRoom) [] N cda cc f fd) (U : SupK P K mg f cda cc N) (T : Err K N f) (hno : NoAttr K N "lacking") : FnOk P w K mg base CX0 1 f fd ["self", "lacking"] (spErr1 N "lacking") := by
  refine F.ok scNoRoom (fun vs H Q E h => err1_len h) (fun A outer s H vs Q E hr h => ⟨_, psa_cons (psa_expr (pea_superX U (pa_cons pe_str pa_nil))) (PSsA.of (pss_one (ps_ost (pv 0) (pv 1)))), ?_⟩)
  exact err1_reads T hno h
end
end Lp
namespace Lp
open PySem PySem.Spec PyProof.Rows L2 He
/-! ### the head: facts by names, the run -/
def fb43 : List (PySem.W.Frag → Bool) := [
  fun K => (Fa.glo "_law_feed").ok K,
  fun K => (Fa.glo "_law_take").ok K,
  fun K => (Fa.glo "_law_same").ok K,
  fun K => (Fa.glo "_law_told_write").ok K,
  fun K => (Fa.glo "_law_cell").ok K,
  fun K => (Fa.glo "_law_great_right").ok K,
  fun K => (Fa.glo "_law_alike_right").ok K,
  fun K => (Fa.glo "law").ok K,
  fun K => (Fa.glo "NoRoom").ok K,
  fun K => (Fa.glo "StoreError").ok K,
  fun K => (Fa.glo "NoHand").ok K,
  fun K => (Fa.glo "NoPage").ok K,
  fun K => (Fa.glo "NoPlace").ok K,
  fun K => (Fa.glo "Disk").ok K,
  fun K => (Fa.free "len").ok K,
  fun K => (Fa.free "list").ok K,
  fun K => (Fa.free "tuple").ok K,
  fun K => (Fa.free "isinstance").ok K,
  fun K => (Fa.free "zip").ok K,
  fun K => (Fa.free "abs").ok K,
  fun K => (Fa.free "range").ok K,
  fun K => (Fa.free "max").ok K,
  fun K => (Fa.free "min").ok K,
  fun K => (Fa.free "repr").ok K,
  fun K => (Fa.free "enumerate").ok K,
  fun K => (Fa.free "super").ok K,
  fun K => ownB K (ga K "Disk"),
  fun K => noB K (ga K "Disk") "shown",
  fun K => noB K (ga K "Disk") "standing",
  fun K => noB K (ga K "Disk") "writes",
  fun K => mkB K (ga K "Disk") (ma K (ga K "Disk") "__init__"),
  fun K => cmB K (ga K "Disk") "of" (ma K (ga K "Disk") "of") (recA K (ma K (ga K "Disk") "of") "classmethod"),
  fun K => propB K (ga K "Disk") "cells" (ma K (ga K "Disk") "cells") (recA K (ma K (ga K "Disk") "cells") "property"),
  fun K => propB K (ga K "Disk") "pending" (ma K (ga K "Disk") "pending") (recA K (ma K (ga K "Disk") "pending") "property"),
  fun K => methB K (ga K "Disk") "__len__" (ma K (ga K "Disk") "__len__"),
  fun K => methB K (ga K "Disk") "__getitem__" (ma K (ga K "Disk") "__getitem__"),
  fun K => methB K (ga K "Disk") "__eq__" (ma K (ga K "Disk") "__eq__"),
  fun K => methB K (ga K "Disk") "write" (ma K (ga K "Disk") "write"),
  fun K => methB K (ga K "Disk") "barrier" (ma K (ga K "Disk") "barrier"),
  fun K => methB K (ga K "Disk") "fallen" (ma K (ga K "Disk") "fallen"),
  fun K => decide (PySem.W.kitOne K (.ref (ga K "Disk")) (.ref (ga K "Disk")) = some true),
  fun K => decide (PySem.W.kitOne K (.type "tuple") (.ref (ga K "Disk")) = some false),
  fun K => PySem.W.notFirst K (ga K "Disk") (.ref (ga K "Disk")),
  fun K => PySem.W.notFirst K (ga K "Disk") (.type "tuple"),
  fun K => errB K (ga K "NoRoom") (ma K (ga K "NoRoom") "__init__"),
  fun K => noB K (ga K "NoRoom") "lacking",
  fun K => decide (PySem.W.exmOne K (.ref (ga K "NoRoom")) (.ref (ga K "NoRoom")) = some true),
  fun K => decide (PySem.W.kitAny K (.ref (ga K "NoRoom")) [.ref (ga K "NoHand"), .ref (ga K "NoPage"), .ref (ga K "NoPlace")] = some false),
  fun K => eqO (PySem.W.nsIn K cStatics "thirdparty.any") (some none)]
def dNoRoom : DefL := ⟨.meth "NoRoom" "__init__", "__init__", "NoRoom.__init__", defArgs sNoRoom, defBody sNoRoom, defScope sNoRoom, [], some "NoRoom"⟩
def dInit : DefL := ⟨.meth "Disk" "__init__", "__init__", "Disk.__init__", defArgs sInit, defBody sInit, defScope sInit, [], none⟩
def dOf : DefL := ⟨.cm "Disk" "of", "of", "Disk.of", defArgs sOf, defBody sOf, defScope sOf, [], none⟩
def dCells : DefL := ⟨.prop "Disk" "cells", "cells", "Disk.cells", defArgs sCells, defBody sCells, defScope sCells, [], none⟩
def dPending : DefL := ⟨.prop "Disk" "pending", "pending", "Disk.pending", defArgs sPending, defBody sPending, defScope sPending, [], none⟩
def dLen : DefL := ⟨.meth "Disk" "__len__", "__len__", "Disk.__len__", defArgs sLen, defBody sLen, defScope sLen, [], none⟩
def dGet : DefL := ⟨.meth "Disk" "__getitem__", "__getitem__", "Disk.__getitem__", defArgs sGet, defBody sGet, defScope sGet, [], none⟩
def dEq : DefL := ⟨.meth "Disk" "__eq__", "__eq__", "Disk.__eq__", defArgs sEq, defBody sEq, defScope sEq, [], none⟩
def dWrite : DefL := ⟨.meth "Disk" "write", "write", "Disk.write", defArgs sWrite, defBody sWrite, defScope sWrite, [], none⟩
def dBarrier : DefL := ⟨.meth "Disk" "barrier", "barrier", "Disk.barrier", defArgs sBarrier, defBody sBarrier, defScope sBarrier, [], none⟩
def dFallen : DefL := ⟨.meth "Disk" "fallen", "fallen", "Disk.fallen", defArgs sFallen, defBody sFallen, defScope sFallen, [], none⟩
def dFeed : DefL := ⟨.glo "_law_feed", "_law_feed", "_law_feed", defArgs sFeed, defBody sFeed, defScope sFeed, [], none⟩
def dTake : DefL := ⟨.glo "_law_take", "_law_take", "_law_take", defArgs sTake, defBody sTake, defScope sTake, [], none⟩
def dSame : DefL := ⟨.glo "_law_same", "_law_same", "_law_same", defArgs sSame, defBody sSame, defScope sSame, [], none⟩
def dTold : DefL := ⟨.glo "_law_told_write", "_law_told_write", "_law_told_write", defArgs sTold, defBody sTold, defScope sTold, [], none⟩
def dCell : DefL := ⟨.glo "_law_cell", "_law_cell", "_law_cell", defArgs sCell, defBody sCell, defScope sCell, [], none⟩
def dGreat : DefL := ⟨.glo "_law_great_right", "_law_great_right", "_law_great_right", defArgs sGreat, defBody sGreat, defScope sGreat, [], none⟩
def dAlike : DefL := ⟨.glo "_law_alike_right", "_law_alike_right", "_law_alike_right", defArgs sAlike, defBody sAlike, defScope sAlike, [], none⟩
def dLaw : DefL := ⟨.glo "law", "law", "law", defArgs sLaw, defBody sLaw, defScope sLaw, [], none⟩
def fn43 : List DefL := [dNoRoom, dInit, dOf, dCells, dPending, dLen, dGet, dEq, dWrite, dBarrier, dFallen, dFeed, dTake, dSame, dTold, dCell, dGreat, dAlike, dLaw]
abbrev R43 : PySem.W.OpenRow := PySem.W.OpenLaw.row PySem.Challenge.rw_lateplace_k43_writes_of_disks
abbrev hk43 : PySem.W.Hook := hookL 6 (R43.prog.main.file) fb43 fn43
def ob43 (s : PySem.W.SharedT) : AlL := obsLG 6 (R43.prog.main.file) fb43 fn43 (HandSHeadRun.getT s)
theorem ob43_eq (s : PySem.W.SharedT) : ob43 s = hk43.obs s.abs := obsLG_eq (HandSHeadRun.getT_eq s)
def names43 : List PySem.Str := ["_wall","StoreError","NoRoom","NoPage","NoPlace","NoHand","Disk","_law_feed","_law_take","_law_same","_law_told_write","_law_cell","_law_great_right","_law_alike_right"]
theorem run43h (w : World) : HandSHeadRun.RunEq R43 (PySem.W.view R43.prog [17]) hk43 ob43 4000 names43 w := by
  intro os
  kernel_rfl
end Lp
namespace Lp
open PySem PySem.Spec PyProof.Rows L2 He
theorem facts43 {w : World} {K : PySem.W.Frag} {h : Heap} {mg : Str → Option Value} {f : Addr} (X : K.In h) (G : h.Ns mainGlobals mg) (hfa : mg ("law" : Str) = some (.ref f)) (c : SaysL (R43.prog.main.file) fb43 fn43 K) :
    ∃ fd : FuncData, (∀ (s : Shared) (v : Value), BindsTo s fd ⟨[v], []⟩ [("_law_script", v)]) ∧ ∀ base : Heap, K.In base → base.Ns mainGlobals mg → GOk R43.prog w K mg base CX0 7 f fd ["_law_script"] (spLaw K) := by
  obtain ⟨cda, cc, fdNoRoom, FNoRoom, UNoRoom⟩ := DefL.funS (P := R43.prog) (mg := mg) (x := "NoRoom") rfl (c.defE 0 (d := dNoRoom) rfl).1 (c.defE 0 (d := dNoRoom) rfl).2 rfl (free_ok X G (c.fact 25)) (by decide +kernel) (eqO_ok (c.fact 48))
  obtain ⟨fdInit, FInit⟩ := DefL.funD (d := dInit) rfl (c.defE 1 rfl).1 (c.defE 1 rfl).2
  obtain ⟨fdOf, FOf⟩ := DefL.funD (d := dOf) rfl (c.defE 2 rfl).1 (c.defE 2 rfl).2
  obtain ⟨fdCells, FCells⟩ := DefL.funD (d := dCells) rfl (c.defE 3 rfl).1 (c.defE 3 rfl).2
  obtain ⟨fdPending, FPending⟩ := DefL.funD (d := dPending) rfl (c.defE 4 rfl).1 (c.defE 4 rfl).2
  obtain ⟨fdLen, FLen⟩ := DefL.funD (d := dLen) rfl (c.defE 5 rfl).1 (c.defE 5 rfl).2
  obtain ⟨fdGet, FGet⟩ := DefL.funD (d := dGet) rfl (c.defE 6 rfl).1 (c.defE 6 rfl).2
  obtain ⟨fdEq, FEq⟩ := DefL.funD (d := dEq) rfl (c.defE 7 rfl).1 (c.defE 7 rfl).2
  obtain ⟨fdWrite, FWrite⟩ := DefL.funD (d := dWrite) rfl (c.defE 8 rfl).1 (c.defE 8 rfl).2
  obtain ⟨fdBarrier, FBarrier⟩ := DefL.funD (d := dBarrier) rfl (c.defE 9 rfl).1 (c.defE 9 rfl).2
  obtain ⟨fdFallen, FFallen⟩ := DefL.funD (d := dFallen) rfl (c.defE 10 rfl).1 (c.defE 10 rfl).2
  obtain ⟨fdFeed, FFeed⟩ := DefL.funD (d := dFeed) rfl (c.defE 11 rfl).1 (c.defE 11 rfl).2
  obtain ⟨fdTake, FTake⟩ := DefL.funD (d := dTake) rfl (c.defE 12 rfl).1 (c.defE 12 rfl).2
  obtain ⟨fdSame, FSame⟩ := DefL.funD (d := dSame) rfl (c.defE 13 rfl).1 (c.defE 13 rfl).2
  obtain ⟨fdTold, FTold⟩ := DefL.funD (d := dTold) rfl (c.defE 14 rfl).1 (c.defE 14 rfl).2
  obtain ⟨fdCell, FCell⟩ := DefL.funD (d := dCell) rfl (c.defE 15 rfl).1 (c.defE 15 rfl).2
  obtain ⟨fdGreat, FGreat⟩ := DefL.funD (d := dGreat) rfl (c.defE 16 rfl).1 (c.defE 16 rfl).2
  obtain ⟨fdAlike, FAlike⟩ := DefL.funD (d := dAlike) rfl (c.defE 17 rfl).1 (c.defE 17 rfl).2
  obtain ⟨fdLaw, FLaw⟩ := DefL.funD (d := dLaw) rfl (c.defE 18 rfl).1 (c.defE 18 rfl).2
  have bNoRoom : Binds K fdNoRoom ["self", "lacking"] [] := FunS.bindsN0 FNoRoom fun _ _ _ _ _ us hl => match us, hl with | [_, _], _ => rfl
  have bInit : Binds K fdInit ["self", "size"] [] := FunD.bindsN FInit fun _ _ _ _ _ _ us hl => match us, hl with | [_, _], _ => rfl
  have bOf : Binds K fdOf ["cls", "cells"] [] := FunD.bindsN FOf fun _ _ _ _ _ _ us hl => match us, hl with | [_, _], _ => rfl
  have bCells : Binds K fdCells ["self"] [] := FunD.bindsN FCells fun _ _ _ _ _ _ us hl => match us, hl with | [_], _ => rfl
  have bPending : Binds K fdPending ["self"] [] := FunD.bindsN FPending fun _ _ _ _ _ _ us hl => match us, hl with | [_], _ => rfl
  have bLen : Binds K fdLen ["self"] [] := FunD.bindsN FLen fun _ _ _ _ _ _ us hl => match us, hl with | [_], _ => rfl
  have bGet : Binds K fdGet ["self", "at"] [] := FunD.bindsN FGet fun _ _ _ _ _ _ us hl => match us, hl with | [_, _], _ => rfl
  have bEq : Binds K fdEq ["self", "other"] [] := FunD.bindsN FEq fun _ _ _ _ _ _ us hl => match us, hl with | [_, _], _ => rfl
  have bWrite : Binds K fdWrite ["self", "at", "numbers"] [] := FunD.bindsN FWrite fun _ _ _ _ _ _ us hl => match us, hl with | [_, _, _], _ => rfl
  have bBarrier : Binds K fdBarrier ["self"] [] := FunD.bindsN FBarrier fun _ _ _ _ _ _ us hl => match us, hl with | [_], _ => rfl
  have bFallen : Binds K fdFallen ["self", "lengths"] [] := FunD.bindsN FFallen fun _ _ _ _ _ _ us hl => match us, hl with | [_, _], _ => rfl
  have bFeed : Binds K fdFeed ["_law_script", "_law_k"] [] := FunD.bindsN FFeed fun _ _ _ _ _ _ us hl => match us, hl with | [_, _], _ => rfl
  have bTake : Binds K fdTake ["_law_feed_here", "_law_many"] [] := FunD.bindsN FTake fun _ _ _ _ _ _ us hl => match us, hl with | [_, _], _ => rfl
  have bSame : Binds K fdSame ["_law_one", "_law_other"] [] := FunD.bindsN FSame fun _ _ _ _ _ _ us hl => match us, hl with | [_, _], _ => rfl
  have bTold : Binds K fdTold ["_law_disk", "_law_at", "_law_numbers"] [] := FunD.bindsN FTold fun _ _ _ _ _ _ us hl => match us, hl with | [_, _, _], _ => rfl
  have bCell : Binds K fdCell ["_law_feed_here"] [] := FunD.bindsN FCell fun _ _ _ _ _ _ us hl => match us, hl with | [_], _ => rfl
  have bGreat : Binds K fdGreat ["_law_number"] [] := FunD.bindsN FGreat fun _ _ _ _ _ _ us hl => match us, hl with | [_], _ => rfl
  have bAlike : Binds K fdAlike ["_law_number"] [] := FunD.bindsN FAlike fun _ _ _ _ _ _ us hl => match us, hl with | [_], _ => rfl
  have bLaw : Binds K fdLaw ["_law_script"] [] := FunD.bindsN FLaw fun _ _ _ _ _ _ us hl => match us, hl with | [_], _ => rfl
  have gl : ∀ {x : Str}, (Fa.glo x).ok K = true → mg x = some (.ref (ga K x)) := fun h => glo_ok X G h
  have fr : ∀ {x : Str}, (Fa.free x).ok K = true → mg x = none := fun h => free_ok X G h
  have e := hfa.symm.trans (gl (c.fact 7))
  cases e
  have B : TB mg := ⟨fr (c.fact 14), fr (c.fact 15), fr (c.fact 16), fr (c.fact 17), fr (c.fact 18), fr (c.fact 19), fr (c.fact 20), fr (c.fact 21), fr (c.fact 22), fr (c.fact 23), fr (c.fact 24)⟩
  have T : TD K (ga K "Disk") := ⟨ownB_ok (c.fact 26), noB_ok (c.fact 27), noB_ok (c.fact 28), noB_ok (c.fact 29)⟩
  have gD := gl (c.fact 13)
  have er := errB_ok (c.fact 44)
  have noL := noB_ok (c.fact 45)
  have kD := of_decide_eq_true (c.fact 40)
  have kT := of_decide_eq_true (c.fact 41)
  have b := FunD.bindsA (ps := ["_law_script"]) FLaw fun _ _ _ _ _ _ us hl => match us, hl with | [_], _ => rfl
  refine ⟨fdLaw, fun s v => b s [v] rfl, fun base _ _ => ?_⟩
  have cE : CalE R43.prog w K mg base 1 "NoRoom" (ga K "NoRoom") "lacking" := ⟨⟨_, fdNoRoom, er, bNoRoom, ok_noroom FNoRoom UNoRoom er noL⟩, gl (c.fact 8), noL⟩
  have T1 : TE1 K mg (ga K "NoRoom") := ⟨gl (c.fact 8), gl (c.fact 9), gl (c.fact 10), gl (c.fact 11), gl (c.fact 12), of_decide_eq_true (c.fact 46), of_decide_eq_true (c.fact 47), er.xf, er.ec, noL⟩
  have cI : CalC R43.prog w K mg base CX0 1 "Disk" (ga K "Disk") ["self", "size"] (spInit (ga K "Disk")) := ⟨⟨_, fdInit, mkB_ok (c.fact 30), bInit, ok_init FInit T⟩, gD⟩
  have cOf : CalCm R43.prog w K mg base CX0 3 "Disk" (ga K "Disk") "of" ["cls", "cells"] (spOf K (ga K "Disk")) := ⟨⟨_, _, fdOf, cmB_ok (c.fact 31), bOf, ok_of FOf T B cI⟩, gD⟩
  have D : CD R43.prog w K mg base (ga K "Disk") (ga K "NoRoom") :=
    { mk_ := cI, of_ := cOf
      cells := ⟨⟨_, _, fdCells, propB_ok (c.fact 32), bCells, ok_cells FCells T B⟩, T.ow⟩
      pend := ⟨⟨_, _, fdPending, propB_ok (c.fact 33), bPending, ok_pending FPending T B⟩, T.ow⟩
      len := ⟨⟨_, fdLen, methB_ok (c.fact 34), bLen, ok_len FLen T B⟩, T.ow⟩
      get := ⟨⟨_, fdGet, methB_ok (c.fact 35), bGet, ok_get FGet T⟩, T.ow⟩
      eq := ⟨⟨_, fdEq, methB_ok (c.fact 36), bEq, ok_eq FEq T B gD kD⟩, T.ow⟩
      wr := ⟨⟨_, fdWrite, methB_ok (c.fact 37), bWrite, ok_write FWrite T B cE⟩, T.ow⟩
      bar := ⟨⟨_, fdBarrier, methB_ok (c.fact 38), bBarrier, ok_barrier FBarrier T B⟩, T.ow⟩
      fal := ⟨⟨_, fdFallen, methB_ok (c.fact 39), bFallen, ok_fallen FFallen T B cOf⟩, T.ow⟩ }
  have cT : Cal R43.prog w K mg base CX0 1 "_law_take" ["_law_feed_here", "_law_many"] spTake := ⟨_, fdTake, gl (c.fact 1), FTake.kp, bTake, ok_take FTake⟩
  have cW : Cal R43.prog w K mg base CX0 4 "_law_told_write" ["_law_disk", "_law_at", "_law_numbers"] (spTold K (ga K "Disk")) := ⟨_, fdTold, gl (c.fact 3), FTold.kp, bTold, ok_told FTold T1 B D.wr⟩
  have L : CL R43.prog w K mg base (ga K "Disk") :=
    { feed := ⟨_, fdFeed, gl (c.fact 0), FFeed.kp, bFeed, ok_feed FFeed B⟩
      take := cT
      same := ⟨_, fdSame, gl (c.fact 2), FSame.kp, bSame, ok_same FSame B⟩
      told := cW
      cell := ⟨_, fdCell, gl (c.fact 4), FCell.kp, bCell, ok_cell FCell cT⟩
      great := ⟨_, fdGreat, gl (c.fact 5), FGreat.kp, bGreat, ok_great FGreat D T (c.fact 42) B cW⟩
      alike := ⟨_, fdAlike, gl (c.fact 6), FAlike.kp, bAlike, ok_alike FAlike D T (c.fact 42) B⟩ }
  exact ok_law FLaw D L T (c.fact 42) (c.fact 43) kT B
end Lp
open PySem PySem.W PySem.Calls PyProof.Rows
theorem PySem.Challenge.cw_lateplace_k43_writes_of_disks_holds : PySem.Challenge.rw_lateplace_k43_writes_of_disks.Holds := by
  w_on; o_law
  refine HandSHeadRun.head_any (r := OpenLaw.row PySem.Challenge.rw_lateplace_k43_writes_of_disks) (q := view (OpenLaw.row PySem.Challenge.rw_lateplace_k43_writes_of_disks).prog [17]) (H := Lp.hk43) (ob := Lp.ob43) (M := 4000) (loose := Lp.names43) (d := HandSHeadRun.topDef (OpenLaw.row PySem.Challenge.rw_lateplace_k43_writes_of_disks).prog 17) (kwd := []) Lp.ob43_eq
    (by kernel_rfl) (fun s => by kernel_rfl) Lp.run43h (by kernel_rfl) (by kernel_rfl) (by kernel_rfl) (by rfl) (by first | assumption | decide +kernel) (by decide +kernel) ⟨rfl, rfl, rfl, rfl, rfl, by decide +kernel⟩ ?hw ?hc
  case hw => w_witness2
  case hc =>
    refine Lp.walk_ofG (l := PySem.Challenge.rw_lateplace_k43_writes_of_disks) (n := 63) (k := 7) (x := "_law_script") rfl (by decide) (by kernel_rfl) ⟨rfl, by decide, by decide⟩ ?F
    intro w mg fa h Y G hmg0
    obtain ⟨K, KX, c⟩ := Y
    have hmg : mg ("law" : PySem.Str) = some (.ref fa) := by
      have e : (HandSHeadRun.topDef (OpenLaw.row PySem.Challenge.rw_lateplace_k43_writes_of_disks).prog 17).name = ("law" : PySem.Str) := by kernel_rfl
      rw [← e]
      exact hmg0
    obtain ⟨fd, hb, hF⟩ := Lp.facts43 (w := w) KX G hmg c
    exact ⟨K, fd, Lp.spLaw K, KX, hb, fun H a ns hl _ hS => ⟨a, ns, rfl, hS, hl, fun _ => rfl⟩, hF⟩
