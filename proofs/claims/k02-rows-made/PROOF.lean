import PyProof.Rows.All
import Wide.All
import OpenK.AllK
import Wide.FinOn
import HandS.ForMost
import HandS.ClsMeth
import HandS.IsInst
import KE.KSuper
import HandS.Walk
import HandS.FStr
import HandS.Star
import HandS.TupAny
import HandS.TupMul
import HandS.Style
import HandS.RaiseMore
import HandS.More
import HandS.SlotsOwn
import KE.KCallOwn
import HandS.Text
import HandS.Dict
import PyProof.StrOps2
import HandS.EndBits
import PySem.Challenge.RW_wholetraces_k02_rows_made
set_option Elab.async false
set_option linter.all false
set_option maxRecDepth 100000
set_option maxHeartbeats 4000000
namespace L2
open PySem PySem.Spec PyProof.Rows
/-- names of a method that says super(): the parameters first, all local; __class__ alone is free -/
structure FnScopeS (N P : List Str) (sc : Scope) : Prop where
  kind : sc.kind = .function
  co : sc.isCoroutine = false
  gen : sc.isGenerator = false
  nd : N.Nodup
  pre : N.take P.length = P
  par : ∀ x ∈ P, sc.names.lookup x = some .local
  nocell : ∀ y ∈ sc.names, y.2 ≠ .cell
  free : ∀ y ∈ sc.names, y.2 = .free → y.1 = "__class__"
  sup : sc.names.lookup ("super" : Str) = some .globalImplicit
  cls : sc.names.lookup ("__class__" : Str) = some .free
def cxS (CX : CXT) (P : Program) (w : World) (K : PySem.W.Frag) (mg : Str → Option Value) (base : Heap) (N : List Str) (qual : Str) (scope : Scope) (f : Addr) (cd : Value) (cc : Addr) (A : Around) (outer : List Env) (s : Shared) (H : Hp) (E : XK) : Cx where
  prog := P
  w := w
  K := K
  mg := mg
  base := base
  A := A.deeper (PySem.W.ksEnv qual scope s.heap.objs.size f cd cc)
  N := N
  s_0 := s
  H_0 := H
  env := PySem.W.ksEnv qual scope s.heap.objs.size f cd cc
  outer := outer
  stack := PySem.W.ksEnv qual scope s.heap.objs.size f cd cc :: outer
  ex := []
  calm := true
  fn := fun _ => false
  pn := []
  xe := fun e s' => wpAny (model P w) (A.deeper (PySem.W.ksEnv qual scope s.heap.objs.size f cd cc)) (leaving (PySem.W.ksEnv qual scope s.heap.objs.size f cd cc) e) (fun _ s'' => CX outer H s E e s'') (fun e' s'' => CX outer H s E e' s'') s'
theorem zip_lookup {P : List Str} {us : List Value} {i : Nat} {x : Str} {u : Value} (nd : P.Nodup) (h1 : P[i]? = some x) (h2 : us[i]? = some u) : (P.zip us).reverse.lookup x = some u := by
  have nd2 : ((P.zip us).reverse.map (·.1)).Nodup := by
    rw [List.map_reverse]
    show List.Pairwise (· ≠ ·) _
    rw [List.pairwise_reverse]
    refine List.Pairwise.imp (R := (· ≠ ·)) (fun h => h.symm) ?_
    show List.Nodup _
    have e : (P.zip us).map (·.1) = P.take us.length := by
      clear nd h1 h2
      induction P generalizing us with
      | nil => simp
      | cons a P ih =>
        cases us with
        | nil => simp
        | cons b us => simp [ih]
    rw [e]
    exact nd.sublist (List.take_sublist _ _)
  have mem : (x, u) ∈ (P.zip us).reverse := by
    rw [List.mem_reverse]
    have z : (P.zip us)[i]? = some (x, u) := by
      rw [List.getElem?_zip_eq_some]
      exact ⟨h1, h2⟩
    exact List.mem_of_getElem? z
  generalize (P.zip us).reverse = l at nd2 mem
  induction l with
  | nil => cases mem
  | cons p l ih =>
    obtain ⟨y, v⟩ := p
    rw [List.map_cons, List.nodup_cons] at nd2
    rcases List.mem_cons.mp mem with e | e
    · cases e
      simp [List.lookup]
    · have ne : x ≠ y := fun z => nd2.1 (by rw [← z]; exact List.mem_map_of_mem (f := (·.1)) e)
      have q : (x == y) = false := by simpa using ne
      simp only [List.lookup, q]
      exact ih nd2.2 e
theorem inv_startS {CX : CXT} {P : Program} {w : World} {K : PySem.W.Frag} {mg : Str → Option Value} {base : Heap} {N ps : List Str} {qual : Str} {scope : Scope} {f : Addr} {cd : Value} {cc : Addr} {A : Around} {outer : List Env} {s : Shared} {H : Hp} {E : XK} {us : List Value} {vs : List V} {h1 : Heap} {tk : Nat}
    {cl : Value} {cld : Option Addr} {csl : Array (Option Value)} {cv : Option Value}
    (S : FnScopeS N ps scope) (hd : A.handled = none) (e0 : Env0 P w K mg base A outer s H) (hl : vs.length = ps.length) (r : Vals vs us) (hcc : K.lookup cc = some ⟨cl, cld, .cell cv, csl⟩)
    (hns : h1.Ns s.heap.objs.size (fun x => (ps.zip us).reverse.lookup x)) (hk : ∀ b o, s.heap.get? b = some o → h1.get? b = some o) :
    Inv (cxS CX P w K mg base N qual scope f cd cc A outer s H E) [] (start N vs) H { s with heap := h1, toks := tk } := by
  have hpl : ps.length ≤ N.length := by have := congrArg List.length S.pre; rw [List.length_take] at this; omega
  have noA : ∀ b : Addr, b ∉ (cxS CX P w K mg base N qual scope f cd cc A outer s H E).ex := fun b z => absurd (show b ∈ ([] : List Addr) from z) (by simp)
  have cel : ∀ y c, (cxS CX P w K mg base N qual scope f cd cc A outer s H E).env.cells.lookup y = some c → y = "__class__" ∧ c = cc := fun y c h => by
    have h' : ([(("__class__" : Str), cc)] : List (Str × Addr)).lookup y = some c := h
    by_cases z : y = "__class__"
    · subst z
      have q : ([(("__class__" : Str), cc)] : List (Str × Addr)).lookup ("__class__" : Str) = some cc := by simp [List.lookup]
      rw [q] at h'
      exact ⟨rfl, (Option.some.inj h').symm⟩
    · have q : (y == ("__class__" : Str)) = false := by simpa using z
      simp [List.lookup, q] at h'
  have kcc : base.get? cc = some ⟨cl, cld, .cell cv, csl⟩ := e0.mod.kin _ _ hcc
  refine ⟨⟨e0.mod, S.kind, rfl, rfl, Nat.le_refl _, fun y z c h1 h2 => ?_, fun y hy => ?_, fun y c h _ => ?_, fun _ => hd, Around.frames_deeper e0.frames, .inr ⟨rfl, rfl⟩, fun b z => absurd z (noA b), e0.bs, e0.bsz, fun b _ _ => noA b, fun b z => absurd z (noA b), e0.funs, e0.frf⟩,
    rfl, e0.bare, Un.kept hk, ⟨_, hns, fun i y v h1 h2 h3 => ?_⟩, fun y c h => ?_, e0.hok.fresh (Nat.le_refl _), fun y c h => ?_, fun p hp => absurd (show p ∈ ([] : List (Addr × Obj)) from hp) (by simp), e0.hok.kept hk, ?_⟩
  · rw [(cel y c h1).1, (cel z c h2).1]
  · have hy : scope.names.lookup y = some .cell ∨ scope.names.lookup y = some .free := hy
    rcases hy with hy | hy
    · exact absurd rfl (S.nocell _ (PySem.mem_of_lookup hy))
    · have e := S.free _ (PySem.mem_of_lookup hy) rfl
      have e' : y = "__class__" := e
      subst e'
      exact ⟨cc, by show ([(("__class__" : Str), cc)] : List (Str × Addr)).lookup ("__class__" : Str) = some cc; simp [List.lookup]⟩
  · exact Bool.noConfusion h
  · have hi : i < vs.length := by
      unfold start at h2
      by_cases hi : i < vs.length
      · exact hi
      · rw [List.getElem?_append_right (by simpa using hi)] at h2
        rw [List.getElem?_replicate] at h2
        split at h2 <;> cases h2
    have ha : vs[i]? = some v := by
      unfold start at h2
      rw [List.getElem?_append_left (by simpa using hi), List.getElem?_map] at h2
      cases e : vs[i]? with
      | none => rw [e] at h2; cases h2
      | some a => rw [e] at h2; cases h2; rfl
    obtain ⟨u, hu, rv⟩ := r.get ha
    have hp : ps[i]? = some y := by
      rw [← S.pre, List.getElem?_take_of_lt (by omega)]; exact h1
    have ndP : ps.Nodup := by rw [← S.pre]; exact S.nd.sublist (List.take_sublist _ _)
    exact ⟨u, rv, .inl ⟨S.par y (List.mem_of_getElem? hp), zip_lookup ndP hp hu⟩⟩
  · obtain ⟨_, e2⟩ := cel y c h
    subst e2
    exact ⟨cv, _, hk _ _ (e0.bs _ _ kcc).1, rfl⟩
  · obtain ⟨_, e2⟩ := cel y c h
    subst e2
    exact (e0.bs _ _ kcc).2
  · unfold start
    show _ = N.length
    rw [List.length_append, List.length_map, List.length_replicate]
    omega
/-! ### blocks at a known activation -/
structure PSA (X : Cx) (c : Code) (st : Stmt) (t : TS) : Prop where
  run : ∀ (pins : List (Addr × Obj)) (s : Shared) (σ : St) (H : Hp) (D : Ends), Inv X pins σ H s → t D σ H → _root_.PySem.wpAt (model X.prog X.w) X.A c (exec st X.env) (SP X pins D) X.xe s
structure PSsA (X : Cx) (c : Code) (st : List Stmt) (t : TS) : Prop where
  run : ∀ (pins : List (Addr × Obj)) (s : Shared) (σ : St) (H : Hp) (D : Ends), Inv X pins σ H s → t D σ H → _root_.PySem.wpAt (model X.prog X.w) X.A c (execs st X.env) (SP X pins D) X.xe s
section
variable {X : Cx} {c : Code} {st : Stmt} {rest : List Stmt} {t u : TS}
theorem psa_of (h : PS X st t) : PSA X c st t := ⟨fun pins s σ H D I q => wpAt_of_wpAny (h.run pins s σ H D I q)⟩
theorem pssa_of (h : PSs X rest t) : PSsA X c rest t := ⟨fun pins s σ H D I q => wpAt_of_wpAny (h.run pins s σ H D I q)⟩
theorem pssa_cons (h1 : PSA X c st t) (h2 : PSsA X c rest u) : PSsA X c (st :: rest) (tSeq t u) := by
  refine ⟨fun pins s σ H D I h => ?_⟩
  refine ks_wpAt_execs_cons (ks_wpAt_mono (h1.run pins s σ H { D with nx := u D } I h) (fun f s1 q => ?_) fun _ _ z => z)
  cases f with
  | next =>
    obtain ⟨σ', H', I', q⟩ := q
    exact h2.run pins s1 σ' H' D I' q
  | ret v => exact q
  | brk => exact q
  | cont => exact q
/-- a statement, a word between, the rest -/
def tMid (t u : TS) : TS := fun D σ H => ∃ Mid : St → Hp → Prop, t { D with nx := Mid } σ H ∧ ∀ σ' H', Mid σ' H' → u D σ' H'
theorem pss_cut (h1 : PS X st t) (h2 : PSs X rest u) : PSs X (st :: rest) (tMid t u) := by
  refine ⟨fun pins s σ H D I ⟨Mid, h, k⟩ => ?_⟩
  refine wpAny_execs_cons (thn (h1.run pins s σ H { D with nx := Mid } I h) fun f s1 q => ?_)
  cases f with
  | next => exact let ⟨σ', H', I', q⟩ := q; h2.run pins s1 σ' H' D I' (k σ' H' q)
  | ret v => exact q
  | brk => exact q
  | cont => exact q
theorem pssa_cut (h1 : PSA X c st t) (h2 : PSsA X c rest u) : PSsA X c (st :: rest) (tMid t u) := by
  refine ⟨fun pins s σ H D I ⟨Mid, h, k⟩ => ?_⟩
  refine ks_wpAt_execs_cons (ks_wpAt_mono (h1.run pins s σ H { D with nx := Mid } I h) (fun f s1 q => ?_) fun _ _ z => z)
  cases f with
  | next => exact let ⟨σ', H', I', q⟩ := q; h2.run pins s1 σ' H' D I' (k σ' H' q)
  | ret v => exact q
  | brk => exact q
  | cont => exact q
theorem rd_cut {D : Ends} {σ : St} {H : Hp} (Mid : St → Hp → Prop) (h : t { D with nx := Mid } σ H) (k : ∀ σ' H', Mid σ' H' → u D σ' H') : tMid t u D σ H := ⟨Mid, h, k⟩
theorem pssa_one (h1 : PSA X c st t) : PSsA X c [st] t := by
  refine ⟨fun pins s σ H D I h => ?_⟩
  refine ks_wpAt_execs_cons (ks_wpAt_mono (h1.run pins s σ H D I h) (fun f s1 q => ?_) fun _ _ z => z)
  cases f with
  | next => exact wpAt_of_wpAny (wpAny_execs_nil q)
  | ret v => exact q
  | brk => exact q
  | cont => exact q
end
/-- THE RULE for a method that says super() -/
theorem fnS_of {CX : CXT} {P : Program} {w : World} {K : PySem.W.Frag} {mg : Str → Option Value} {base : Heap} {k : Nat} {f : Addr} {name qual : Str} {params : Arguments} {body : List Stmt} {scope : Scope} {dV kV doc pm cdv ct oc : Value} {an od : Option Addr} {cc : Addr}
    {osl : Array (Option Value)} {N ps : List Str} {sp : Sp} {cl : Value} {cld : Option Addr} {csl : Array (Option Value)} {cv : Option Value} (hcc : K.lookup cc = some ⟨cl, cld, .cell cv, csl⟩)
    (lk : K.lookup f = some ⟨oc, od, .func (PySem.W.ksFn name qual params body scope dV kV doc pm an cdv ct cc), osl⟩) (hcd : PySem.W.codeIn K cdv qual = true) (S : FnScopeS N ps scope)
    (len : ∀ vs H Q E, sp vs H Q E → vs.length = ps.length)
    (hbody : ∀ (A : Around) (outer : List Env) (s : Shared) (H : Hp) (vs : List V) (Q : VK) (E : XK), Room k (A.deeper (PySem.W.ksEnv qual scope s.heap.objs.size f cdv cc)) → sp vs H Q E →
      ∃ t, PSsA (cxS CX P w K mg base N qual scope f cdv cc A outer s H E) (.func body (PySem.W.ksEnv qual scope s.heap.objs.size f cdv cc)) body t ∧ t { nx := fun _ H' => Q .non H', rt := Q } (start N vs) H) :
    FnOk P w K mg base CX (k + 1) f (PySem.W.ksFn name qual params body scope dV kV doc pm an cdv ct cc) ps sp := by
  refine ⟨len, fun A outer s H args us vs Q E hr e0 hb r hsp => ?_⟩
  have hl := len _ _ _ _ hsp
  have KX : K.In s.heap := e0.mod.kin.keeps fun b o e => (e0.bs b o e).1
  have lim : s.heap.NoLimit := e0.mod.nolimit.keeps fun b o e => (e0.bs b o e).1
  have hloc : ∀ y ∈ ps.zip us, scope.names.lookup y.1 = some .local := fun ⟨n, v⟩ hy => S.par n (List.of_mem_zip hy).1
  obtain ⟨t, ht, hq⟩ := hbody A outer s H vs Q E (hr.deeper _) hsp
  refine ks_codeAny_call_defAt (fd := PySem.W.ksFn name qual params body scope dV kV doc pm an cdv ct cc) (body := body) (binds := ps.zip us) hr.depth (KX _ _ lk) rfl lim (PySem.W.codeRec_of KX hcd) rfl hb S.nocell hloc (fun h₁ hns hk₁ => ?_) S.co S.gen S.kind
  have I : Inv (cxS CX P w K mg base N qual scope f cdv cc A outer s H E) [] (start N vs) H { s with heap := h₁, toks := s.toks + (ps.zip us).length } := inv_startS S hr.hd e0 hl r hcc hns hk₁
  refine ks_wpAt_mono (ht.run [] _ (start N vs) H _ I hq) (fun fl s' hs => ?_) fun e s' hs => hs
  have fin : ∀ {σ' : St} {H' : Hp} {v : V} {u : Value}, Inv (cxS CX P w K mg base N qual scope f cdv cc A outer s H E) [] σ' H' s' → RelV v u → Q v H' → CE outer P w H s Q u s' :=
    fun {σ' H' v u} J rv q => ⟨v, H', J.os, J.bare, J.base, J.hok, rv, q⟩
  cases fl with
  | ret u =>
    obtain ⟨v, σ', H', J, rv, q⟩ := hs
    exact fin J rv q
  | next =>
    obtain ⟨σ', H', J, q⟩ := hs
    exact fin (v := V.non) (u := Value.none) J rfl q
  | brk =>
    obtain ⟨_, _, _, q⟩ := hs
    exact False.elim q
  | cont =>
    obtain ⟨_, _, _, q⟩ := hs
    exact False.elim q
/-! ### super().m(e, ..) -/
/-- what is known of the running body -/
structure SupX (X : Cx) (D : Addr) (y : Str) : Prop where
  sup : X.env.scope.names.lookup ("super" : Str) = some .globalImplicit
  cls : X.env.scope.names.lookup ("__class__" : Str) = some .free
  kind : X.env.scope.kind = .function
  fn : ∃ (f : Addr) (oc : Value) (od : Option Addr) (fd : FuncData) (osl : Array (Option Value)) (ar : Arg), X.env.func = some f ∧ X.K.lookup f = some ⟨oc, od, .func fd, osl⟩ ∧ (fd.params.posonlyargs ++ fd.params.args).head? = some ar ∧ ar.arg = y
  code : ∃ (cda : Addr) (ccl : Value) (cdd : Option Addr) (vs : Array Value) (ccs : Array (Option Value)) (file : Str) (tf : Tok), X.env.code = .ref cda ∧ X.K.lookup cda = some ⟨ccl, cdd, .fields vs, ccs⟩ ∧ vs[2]? = some (.str file tf) ∧ ((X.prog.main.file : Str) == file) = true
  top : (X.prog.main.scope.names.lookup ("super" : Str)).isSome = false
  mg : X.mg "super" = none
  cell : ∃ (cc : Addr) (cl : Value) (cld : Option Addr) (csl : Array (Option Value)), X.env.cells.lookup ("__class__" : Str) = some cc ∧ X.K.lookup cc = some ⟨cl, cld, .cell (some (.ref D)), csl⟩
  dcl : ∃ cdD, PySem.W.clsIn X.K D = some cdD
  loc : X.env.scope.names.lookup y = some .local
  opq : PySem.W.nsIn X.K cStatics "thirdparty.any" = some none
/-- C's next m behind D is the def at g -/
structure SupM (K : PySem.W.Frag) (C D : Addr) (m : Str) (g : Addr) : Prop where
  sub : PySem.W.mroIn K C (.ref D) = some true
  at_ : PySem.W.ks_superIn K C D m = some (some (.ref g))
  ty : PySem.W.typeIn K (.ref g) = some (.type "function")
  fi : PySem.W.fnIn K g = true
section
variable {X : Cx} {pins : List (Addr × Obj)} {σ : St} {H : Hp} {s : Shared} {D C a dx g : Addr} {fs : List (Str × V)} {y m : Str}
theorem sup_base {body : List Stmt} {p0 p1 : Pos} {whole : Sem Value} {i : Nat} {ox : Obj} {odx : Option Obj} {Q : Value → Shared → Prop} (S : SupX X D y) (I : Inv X pins σ H s) (hN : X.N[i]? = some y) (hv : σ[i]? = some (some (.ref a)))
    (J : PySem.W.InstAt s.heap a ox C odx) (hsub : PySem.W.mroIn X.K C (.ref D) = some true) (hm : (m == ("__class__" : Str)) = false)
    (h : ∀ so s', Inv X ((so, PySem.W.ks_superObj D a C) :: pins) σ H s' → (∀ b o, s.heap.get? b = some o → s'.heap.get? b = some o) → Q (.ref so) s') :
    _root_.PySem.wpAt (model X.prog X.w) X.A (.func body X.env) (attributeBase (.Call (.Name "super" p0) [] [] p1) m X.env whole) Q X.xe s := by
  obtain ⟨f, oc, od, fd, osl, ar, hfu, hf, hp, har⟩ := S.fn
  obtain ⟨cda, ccl, cdd, vs, ccs, file, tf, hco, hcode, hvs, hfile⟩ := S.code
  obtain ⟨cc, cl, cld, csl, hcl, hcell⟩ := S.cell
  obtain ⟨cdD, hD⟩ := S.dcl
  have X1 : X.K.In s.heap := I.kIn
  obtain ⟨mm, hns, hloc⟩ := I.loc
  obtain ⟨oD, hD1, hD2⟩ : ∃ oD, s.heap.get? D = some oD ∧ oD.data = .cls cdD := by
    unfold PySem.W.clsIn at hD
    split at hD
    · rename_i c d cd' sl ho
      cases hD
      exact ⟨_, X1 _ _ ho, rfl⟩
    · cases hD
  subst har
  obtain ⟨u, ru, lk⟩ := hloc i _ _ hN hv (.inl S.loc)
  obtain rfl : u = Value.ref a := ru
  have hself : mm ar.arg = some (.ref a) := by
    rcases lk with ⟨_, e⟩ | ⟨k, _⟩
    · exact e
    · have k' : X.env.scope.names.lookup ar.arg = some .cell ∨ X.env.scope.names.lookup ar.arg = some .free := k
      rw [S.loc] at k'
      rcases k' with z | z <;> cases z
  refine ks_wpAt_super_base (env := X.env) S.sup S.cls hm hfu (X1 _ _ hf) rfl hp hco (X1 _ _ hcode) rfl hvs hfile S.top ?_
  obtain ⟨mb, hb1, hb2⟩ := I.mod.blt
  refine PySem.W.ks_loadName_global S.kind S.sup (PySem.Calls.loadGlobal_builtin (env := X.env) (by rw [I.ok.glob]; exact I.mod.glob.keeps I.bk) S.mg (by rw [I.ok.blt]; exact hb1.keeps I.bk) ((hb2 _ (by decide +kernel)).trans (by first | boot_by_name | rfl | kernel_rfl)) ⟨rfl, ?_⟩)
  refine wpAny_loadName_free S.kind S.cls hcl ⟨_, X1 _ _ hcell, rfl⟩ ?_
  refine wpAny_loadName_local S.kind S.loc hns hself ?_
  refine ks_wpAny_isType_cls hD1 hD2 ⟨rfl, ?_⟩
  obtain ⟨hh, gg, d, t, os⟩ := s
  refine ks_wpAny_call_super hD1 hD2 J.at_ J.cls (fun c e => ?_) (PySem.W.looks_mroIn X1 hsub) (fun h' e k => ?_)
  · have := J.no
    unfold PySem.W.notCls at this
    rw [e] at this
    exact Bool.noConfusion this
  · exact h _ _ (ClX.pin_new (t' := t) I k (Nat.le_refl _) e (fun v z => nomatch z)) k
end
/-- super().m(e, ..) as a statement, the first parameter in slot i -/
def tSup (K : PySem.W.Frag) (D : Addr) (m : Str) (g : Addr) (sp : Sp) (E : XK) (i : Nat) (ta : TA) : TS := fun Dn σ H => ∃ (a C dx : Addr) (fs : List (Str × V)), σ[i]? = some (some (.ref a)) ∧ H a = some (.ins C dx fs) ∧ SupM K C D m g ∧
  ta σ H fun vs H1 => sp (.ref a :: vs) H1 (fun _ H2 => Dn.nx σ H2) E
section
variable {X : Cx} {D g : Addr} {y m : Str} {CX : CXT} {k : Nat} {fd : FuncData} {ps : List Str} {sp : Sp} {E : XK} {e : Expr} {es : List Expr} {ta : TA} {p0 p1 p2 pos pos' : Pos} {i : Nat} {pl : Sem Bool} {body : List Stmt}
theorem psa_super (S : SupX X D y) (F : FnOk X.prog X.w X.K X.mg X.base CX k g fd ps sp) (hr : Room k X.A) (hb : Binds X.K fd ps []) (hx : Passes CX X E) (ha : PA X (e :: es) ta) (hN : X.N[i]? = some y := by rfl) (hm : (m == ("__class__" : Str)) = false := by decide)
    (hi : interactive X.env = false := by rfl) (hs : swapsWith (.Call (.Attribute (.Call (.Name "super" p0) [] [] p1) m p2) (e :: es) [] pos) none pos'.line X.env = pure false := by rfl)
    (hst : starEach (e :: es) X.env = (false, eval e X.env) :: starEach es X.env := by rfl) (hpl : (backTo pos (starEach es X.env)).any (·.1) = false := by rfl)
    (he : eval (.Call (.Attribute (.Call (.Name "super" p0) [] [] p1) m p2) (e :: es) [] pos) X.env = (do
      let ov ← attributeBase (.Call (.Name "super" p0) [] [] p1) m X.env (eval (.Call (.Name "super" p0) [] [] p1) X.env)
      standAt p2.atName
      let (f, first) ← holding [ov] (getMethod ov m pl)
      callWith pos f first (backTo pos (starEach (e :: es) X.env)) []) := by rfl) :
    PSA X (.func body X.env) (.Expr (.Call (.Attribute (.Call (.Name "super" p0) [] [] p1) m p2) (e :: es) [] pos) pos') (tSup X.K D m g sp E i ta) := by
  refine ⟨fun pins s σ H Dn I h => ?_⟩
  obtain ⟨a, C, dx, fs, hv, ea, SM, q⟩ := h
  refine ks_wpAt_Expr_any ?_ hi hs
  refine ks_wpAt_MethodCall ?_ he
  obtain ⟨mA, O, _⟩ := ins_get I.hok ea
  obtain ⟨od, J, _⟩ := O.look
  refine sup_base S I hN hv J SM.sub hm fun so s1 I1 k1 => ?_
  obtain ⟨mA1, O1, _⟩ := ins_get I1.hok ea
  obtain ⟨od1, J1, _⟩ := O1.look
  have hat := SM.at_
  cases hc : PySem.W.clsIn X.K C with
  | none =>
    unfold PySem.W.ks_superIn at hat
    rw [hc] at hat
    cases hat
  | some cd =>
    unfold PySem.W.ks_superIn at hat
    rw [hc] at hat
    obtain ⟨of, hof, hofc⟩ : ∃ of, s1.heap.get? g = some of ∧ of.cls = .type "function" := by
      have ht' : (X.K.lookup g).map (·.cls) = some (.type "function") := SM.ty
      cases z : X.K.lookup g with
      | none => rw [z] at ht'; cases ht'
      | some of => rw [z] at ht'; exact ⟨of, I1.kIn _ _ z, Option.some.inj ht'⟩
    obtain ⟨hh, gg, d, t, os⟩ := s1
    refine ks_wpAny_getMethod_super (ClX.pin_at I1) (PySem.W.looks_opaque I1.kIn S.opq) (l₀ := cd.mro) ?_ rfl I1.kIn hat hof hofc (PySem.W.ks_ne I1.kIn J1 hc) hm ?_
    · exact fun A Q E s k q => wpAny_bind ((PySem.W.looks_clsIn I1.kIn hc) A _ E s k (wpAny_pure q))
    · have I2 := ClX.met_new (g := g) (C := a) I1
      refine ClX.callwith_cm I2 (ClX.base_none I1 (Nat.le_refl _)) SM.fi (thn (ha.run pos _ _ σ H _ I2 q) fun us s3 ⟨vs, H2, I3, rv, q2⟩ => ⟨⟨ClX.pin_at I3, I3.kIn⟩, ?_⟩) hst hpl
      have r2 : Vals (V.ref a :: vs) (Value.ref a :: us) := .cons rfl rv
      have hl : ((Value.ref a :: us) ++ []).length = ps.length := by
        rw [List.append_nil, ← r2.length]
        exact F.len _ _ _ _ q2
      have bt := hb s3 (Value.ref a :: us) I3.kIn hl
      rw [List.append_nil] at bt
      refine wpAny_call (PySem.W.method_call (ClX.pin_at I3) (codeAny_mono (F.run X.A X.stack s3 H2 ⟨Value.ref a :: us, []⟩ (Value.ref a :: us) (V.ref a :: vs) _ E hr I3.env0 bt r2 q2) fun r s' hq => ?_))
      cases r with
      | error er => exact hx _ σ H2 s3 er s' I3 hq
      | ok fl =>
        cases fl with
        | ret u =>
          obtain ⟨v, H', I4, _, q4⟩ := I3.after hq
          exact ⟨σ, H', ClX.unpin (ClX.unpin I4), q4⟩
        | next => exact False.elim hq
        | brk => exact False.elim hq
        | cont => exact False.elim hq
end
end L2
namespace L2
open PySem PySem.Spec PyProof.Rows
/-! ### steps of a reading, by its head -/
section
variable {D : Ends} {σ : St} {H : Hp} {Q : VK} {QT : Bool → Hp → Prop} {QA : List V → Hp → Prop} {ta tb te tc : TE} {tA tr : TA} {t1 t2 : TS} {c u : TT} {v x y : V} {i : Nat} {r r' : R2} {b : Bool} {K : PySem.W.Frag}
theorem rd_seq (h : t1 { D with nx := t2 D } σ H) : tSeq t1 t2 D σ H := h
theorem rd_next (h : D.nx σ H) : tNext D σ H := h
theorem rd_brk (h : D.bk σ H) : tBreak D σ H := h
theorem rd_cont (h : D.ct σ H) : tCont D σ H := h
theorem rd_drop (h : te σ H fun _ H1 => D.nx σ H1) : tDrop te D σ H := h
theorem rd_ret (h : te σ H fun x H1 => D.rt x H1) : tRet te D σ H := h
theorem rd_retN (h : D.rt .non H) : tRetN D σ H := h
theorem rd_ifs (h : c σ H fun b H1 => if b = true then t1 D σ H1 else t2 D σ H1) : tIfS c t1 t2 D σ H := h
theorem rd_asg {g : TG} (h : te σ H fun x H1 => g x σ H1 D.nx) : tAsg te g D σ H := h
theorem rd_gname {P : St → Hp → Prop} (h : P (σ.set i (some v)) H) : gName i v σ H P := h
theorem rd_gsub {to ti : TE} {t : TSet} {P : St → Hp → Prop} (h : to σ H fun o H1 => ti σ H1 fun i H2 => t o i v H2 fun H3 => P σ H3) : gSub to ti t v σ H P := h
theorem rd_gtup {n : Nat} {tg : TGs} {a : Addr} {xs : List V} {P : St → Hp → Prop} (hs : SqT K H a xs) (hl : xs.length = n) (h : tg xs σ H P) : gTup K n tg (.ref a) σ H P := ⟨a, xs, rfl, hs, hl, h⟩
theorem rd_gcons {t : TG} {us : TGs} {w : V} {ws : List V} {P : St → Hp → Prop} (h : t w σ H fun σ' H' => us ws σ' H' P) : gCons t us (w :: ws) σ H P := ⟨w, ws, rfl, h⟩
theorem rd_gnil {P : St → Hp → Prop} (h : P σ H) : gNil [] σ H P := ⟨rfl, h⟩
theorem rd_par {j : Nat} (h : tA σ H fun vs H1 => ∃ v w, vs = [v, w] ∧ D.nx ((σ.set i (some v)).set j (some w)) H1) : tPar i j tA D σ H := h
theorem rd_par3 {j l : Nat} (h : tA σ H fun vs H1 => ∃ u v w, vs = [u, v, w] ∧ D.nx (((σ.set i (some u)).set j (some v)).set l (some w)) H1) : tPar3 i j l tA D σ H := h
theorem rd_vs2 {w : V} {P : V → V → Prop} (h : P v w) : ∃ a b, [v, w] = [a, b] ∧ P a b := ⟨v, w, rfl, h⟩
theorem rd_vs3 {w z : V} {P : V → V → V → Prop} (h : P v w z) : ∃ a b c, [v, w, z] = [a, b, c] ∧ P a b c := ⟨v, w, z, rfl, h⟩
theorem rd_aug {ti : TIp} (hx : σ[i]? = some (some x)) (h : te σ H fun y H1 => ti x y H1 fun z H2 => D.nx (σ.set i (some z)) H2) : tAug i te ti D σ H := ⟨x, hx, h⟩
theorem rd_var (hx : σ[i]? = some (some v)) (h : Q v H) : tVar i σ H Q := ⟨v, hx, h⟩
theorem rd_c (h : Q v H) : tC v σ H Q := h
theorem rd_op (h : ta σ H fun x H1 => tb σ H1 fun y H2 => r x y H2 Q) : tOp r ta tb σ H Q := h
theorem rd_un {ru : V → Hp → VK → Prop} (h : ta σ H fun x H1 => ru x H1 Q) : tUn ru ta σ H Q := h
theorem rd_test (h : te σ H fun x H' => ∃ k, x = .bl k ∧ QT k H') : tTest te σ H QT := h
theorem rd_b (h : te σ H fun x H' => ∃ k, x = .bl k ∧ QT k H') : tB te σ H QT := h
theorem rd_bl {P : Bool → Prop} (h : P b) : ∃ k, V.bl b = V.bl k ∧ P k := ⟨b, rfl, h⟩
theorem rd_and (h : c σ H fun k H1 => if k = true then u σ H1 QT else QT false H1) : tAnd c u σ H QT := h
theorem rd_or (h : c σ H fun k H1 => if k = true then QT true H1 else u σ H1 QT) : tOr c u σ H QT := h
theorem rd_not (h : c σ H fun k H1 => QT (!k) H1) : tNot c σ H QT := h
theorem rd_andV (h : ta σ H fun x H1 => ∃ k, x = .bl k ∧ if k = true then tb σ H1 Q else Q (.bl false) H1) : tAndV ta tb σ H Q := h
theorem rd_orV (h : ta σ H fun x H1 => ∃ k, x = .bl k ∧ if k = true then Q (.bl true) H1 else tb σ H1 Q) : tOrV ta tb σ H Q := h
theorem rd_notV (h : ta σ H fun x H1 => ∃ k, x = .bl k ∧ Q (.bl (!k)) H1) : tNotV ta σ H Q := h
theorem rd_ifE (h : c σ H fun k H1 => if k = true then ta σ H1 Q else tb σ H1 Q) : tIf c ta tb σ H Q := h
theorem rd_chain (h : ta σ H fun x H1 => tb σ H1 fun y H2 => r x y H2 fun z H3 => ∃ k, z = .bl k ∧ (if k = true then tc σ H3 fun w' H4 => r' y w' H4 Q else Q (.bl false) H3)) : tChain r r' ta tb tc σ H Q := h
theorem rd_nil (h : QA [] H) : tNil σ H QA := h
theorem rd_cons (h : te σ H fun x H1 => tr σ H1 fun xs H2 => QA (x :: xs) H2) : tCons te tr σ H QA := h
theorem rd_yes (h : QT true H) : tYes σ H QT := h
theorem rd_cb {rc : List V → Hp → VK → Prop} (h : tA σ H fun vs H1 => rc vs H1 Q) : tCB rc tA σ H Q := h
theorem rd_call {sp : Sp} {dvs : List V} {E : XK} (h : tA σ H fun vs H1 => sp (vs ++ dvs) H1 Q E) : tCall sp dvs E tA σ H Q := h
theorem rd_tup (h : tA σ H fun xs H1 => xs.length ≤ sizeLine ∧ ∀ p, H1 p = none → Q (.ref p) (upd H1 p (.tup xs))) : tTup tA σ H Q := h
theorem rd_lst (h : tA σ H fun xs H1 => xs.length ≤ sizeLine ∧ ∀ p, H1 p = none → Q (.ref p) (upd H1 p (.lst xs))) : tLst tA σ H Q := h
theorem Same.new {p : Addr} {o : HO} (h : H p = none) : Same H (upd H p o) := fun a u e => by
  rw [upd_ne (ne_of_none e h)]
  exact e
/-- a new thing: the heap has grown by it -/
theorem rd_new {o : HO} {P : Addr → Hp → Prop} (h : ∀ p H2, H p = none → Same H H2 → H2 p = some o → P p H2) : ∀ p, H p = none → P p (upd H p o) := fun p hp => h p _ hp (Same.new hp) upd_same
theorem rd_newz {o : HO} {n : Nat} {P : Addr → Hp → Prop} (hz : n ≤ sizeLine) (h : ∀ p H2, H p = none → Same H H2 → H2 p = some o → P p H2) : n ≤ sizeLine ∧ ∀ p, H p = none → P p (upd H p o) := ⟨hz, rd_new h⟩
theorem new_of {p : Addr} {o : HO} {H1 : Hp} (h : upd H p o = H1) (n : H p = none) : Same H H1 ∧ H1 p = some o := by
  subst h
  exact ⟨Same.new n, upd_same⟩
/-! operators -/
theorem rd_I0 {g : Int → Int → V} {m n : Int} (h : Q (g m n) H) : rI0 g (.int m) (.int n) H Q := ⟨m, n, rfl, rfl, h⟩
theorem rd_I {C : Int → Int → Prop} {g : Int → Int → V} {m n : Int} (hc : C m n) (h : Q (g m n) H) : rI C g (.int m) (.int n) H Q := ⟨m, n, rfl, rfl, hc, h⟩
theorem rd_U {g : Int → V} {m : Int} (h : Q (g m) H) : rU g (.int m) H Q := ⟨m, rfl, h⟩
theorem rd_eq (hs : scal x y = true) (h : Q (.bl (decide (x = y))) H) : rEq x y H Q := ⟨hs, h⟩
theorem rd_ne (hs : scal x y = true) (h : Q (.bl (!decide (x = y))) H) : rNe x y H Q := ⟨hs, h⟩
theorem rd_ixL {p : Addr} {xs : List V} {m : Int} (hs : SqL K H p xs) (ha : atI xs m = some v) (h : Q v H) : rIxL K (.ref p) (.int m) H Q := ⟨p, xs, m, v, rfl, rfl, hs, ha, h⟩
theorem rd_ixT {p : Addr} {xs : List V} {m : Int} (hs : SqT K H p xs) (ha : atI xs m = some v) (h : Q v H) : rIxT K (.ref p) (.int m) H Q := ⟨p, xs, m, v, rfl, rfl, hs, ha, h⟩
theorem rd_ixS {z : Str} {m : Int} {k : Nat} (hz : z.length ≤ sizeLine) (ha : atI z.cps.toList m = some k) (h : Q (.str ⟨#[k]⟩) H) : rIxS (.str z) (.int m) H Q := ⟨z, m, k, rfl, rfl, hz, ha, h⟩
theorem rd_inT {neg : Bool} {p : Addr} {xs : List V} (hs : SqT K H p xs) (hx : flatV x = true) (ha : xs.all flatV = true) (h : Q (.bl (if neg then !inV x xs else inV x xs)) H) : rIn K neg x (.ref p) H Q := ⟨p, xs, rfl, .inr hs, hx, ha, h⟩
theorem rd_inL {neg : Bool} {p : Addr} {xs : List V} (hs : SqL K H p xs) (hx : flatV x = true) (ha : xs.all flatV = true) (h : Q (.bl (if neg then !inV x xs else inV x xs)) H) : rIn K neg x (.ref p) H Q := ⟨p, xs, rfl, .inl hs, hx, ha, h⟩
theorem rd_setL {p : Addr} {xs : List V} {m : Int} {j : Nat} {P : Hp → Prop} (hs : H p = some (.lst xs)) (hj : ixN xs.length m = some j) (h : P (upd H p (.lst (xs.set j v)))) : rSetL (.ref p) (.int m) v H P := ⟨p, xs, m, j, rfl, rfl, hs, hj, h⟩
theorem rd_eqD {d e : PyData} (hd : Dp K H x d) (he : Dp K H y e) (h1 : SeqAt.shaped d = true) (h2 : SeqAt.shaped e = true) (h : Q (.bl (PyData.eqv d e)) H) : rEqD K x y H Q := ⟨d, e, hd, he, h1, h2, h⟩
theorem rd_neD {d e : PyData} (hd : Dp K H x d) (he : Dp K H y e) (h1 : SeqAt.shaped d = true) (h2 : SeqAt.shaped e = true) (h : Q (.bl (!PyData.eqv d e)) H) : rNeD K x y H Q := ⟨d, e, hd, he, h1, h2, h⟩
theorem rd_int1 {m : Int} {P : Int → Prop} {P2 : Bool → Prop} (h : P m) : (∃ i, [V.int m] = [V.int i] ∧ P i) ∨ ∃ k, [V.int m] = [V.bl k] ∧ P2 k := .inl ⟨m, rfl, h⟩
theorem rd_x1 {α : Type} {f : α → V} {m : α} {P : α → Prop} (h : P m) : ∃ i, [f m] = [f i] ∧ P i := ⟨m, rfl, h⟩
theorem rd_isi {t w : Value} {cl : V} (hc : ClsV cl w) (ht : TyX K H x t) (hk : PySem.W.kitOne K t w = some b) (h : Q (.bl b) H) : rIsi K [x, cl] H Q := ⟨x, cl, t, w, b, rfl, hc, ht, hk, h⟩
theorem rd_all {p : Addr} {bs : List Bool} (hs : SqL K H p (bs.map V.bl)) (h : Q (.bl (bs.all id)) H) : rAll K [.ref p] H Q := ⟨p, bs, rfl, hs, h⟩
theorem rd_any {p : Addr} {bs : List Bool} (hs : SqL K H p (bs.map V.bl)) (h : Q (.bl (bs.any id)) H) : rAny K [.ref p] H Q := ⟨p, bs, rfl, hs, h⟩
theorem rd_lenL {a : Addr} {xs : List V} {P : List V → Prop} (hs : SqL K H a xs) (h : P xs) : ∃ p ys, [V.ref a] = [V.ref p] ∧ (SqL K H p ys ∨ SqT K H p ys) ∧ P ys := ⟨a, xs, rfl, .inl hs, h⟩
theorem rd_lenT {a : Addr} {xs : List V} {P : List V → Prop} (hs : SqT K H a xs) (h : P xs) : ∃ p ys, [V.ref a] = [V.ref p] ∧ (SqL K H p ys ∨ SqT K H p ys) ∧ P ys := ⟨a, xs, rfl, .inr hs, h⟩
theorem rd_lenS {z : Str} {P : Str → Prop} (hz : z.length ≤ sizeLine) (h : P z) : ∃ y, [V.str z] = [V.str y] ∧ y.length ≤ sizeLine ∧ P y := ⟨z, rfl, hz, h⟩
/-! fields, methods -/
theorem rd_fld {a C dx : Addr} {fs : List (Str × V)} {f : Str} (h : ta σ H fun x H1 => ∃ a C dx fs v, x = .ref a ∧ H1 a = some (.ins C dx fs) ∧ Cls K C ∧ NoAttr K C f ∧ fs.lookup f = some v ∧ Q v H1) : tFld K ta f σ H Q := h
theorem rd_fldv {a C dx : Addr} {fs : List (Str × V)} {f : Str} (ho : H a = some (.ins C dx fs)) (hc : Cls K C) (hn : NoAttr K C f) (hl : fs.lookup f = some v) (h : Q v H) : ∃ a' C dx fs v, V.ref a = .ref a' ∧ H a' = some (.ins C dx fs) ∧ Cls K C ∧ NoAttr K C f ∧ fs.lookup f = some v ∧ Q v H := ⟨a, C, dx, fs, v, rfl, ho, hc, hn, hl, h⟩
theorem rd_bm {T : String} {rm : V → List V → Hp → VK → Prop} (h : ta σ H fun x H1 => tyV K T x H1 ∧ tA σ H1 fun xs H2 => rm x xs H2 Q) : tBM K T rm ta tA σ H Q := h
theorem rd_bm0 {T : String} {rm : V → List V → Hp → VK → Prop} (h : ta σ H fun x H1 => tyV K T x H1 ∧ rm x [] H1 Q) : tBM0 K T rm ta σ H Q := h
theorem rd_tyL {a : Addr} {xs : List V} {P : Prop} (hs : SqL K H a xs) (h : P) : tyV K "list" (.ref a) H ∧ P := ⟨.inl ⟨rfl, _, hs⟩, h⟩
theorem rd_append {l : Addr} {xs : List V} (hl : H l = some (.lst xs)) (hz : xs.length < sizeLine) (h : Q .non (upd H l (.lst (xs ++ [y])))) : rAppend (.ref l) [y] H Q := ⟨l, xs, y, rfl, rfl, hl, hz, h⟩
theorem rd_fmt (h : te σ H fun x H1 => (∃ y : Str, x = .str y ∧ y.length ≤ sizeLine ∧ Q (.str y) H1) ∨ ∃ i : Int, x = .int i ∧ i.natAbs.log2 < 1920 ∧ Q (.str (toString i)) H1) : tFmt te σ H Q := h
theorem rd_fmts {z : Str} {P : Str → Prop} {P2 : Int → Prop} (hz : z.length ≤ sizeLine) (h : P z) : (∃ y : Str, V.str z = .str y ∧ y.length ≤ sizeLine ∧ P y) ∨ ∃ i : Int, V.str z = .int i ∧ P2 i := .inl ⟨z, rfl, hz, h⟩
theorem rd_js {ts : List TE} {acc : Str} {P : Str → Hp → Prop} (h : te σ H fun x H1 => ∃ y : Str, x = .str y ∧ (acc ++ y).length ≤ sizeLine ∧ tJs ts (acc ++ y) σ H1 P) : tJs (te :: ts) acc σ H P := h
theorem rd_jsv {z acc : Str} {P : Str → Prop} (hz : (acc ++ z).length ≤ sizeLine) (h : P z) : ∃ y : Str, V.str z = .str y ∧ (acc ++ y).length ≤ sizeLine ∧ P y := ⟨z, rfl, hz, h⟩
theorem rd_jsn {acc : Str} {P : Str → Hp → Prop} (h : P acc H) : tJs [] acc σ H P := h
end
/-! ### heaps -/
section
variable {H H1 H2 : Hp} {a p : Addr} {o : HO} {K : PySem.W.Frag} {xs : List V}
theorem exget (e : Same H H1) (h : H a = some o) : H1 a = some o := e a o h
theorem Same.sqt (e : Same H H1) (h : SqT K H a xs) : SqT K H1 a xs := by
  rcases h with (h | ⟨o, h⟩) | h
  · exact .inl (.inl (e _ _ h))
  · exact .inl (.inr ⟨o, e _ _ h⟩)
  · exact .inr h
theorem Same.mut {o u : HO} (h : H p = none) (e : Same H H1) : Same H (upd H1 p u) := fun b w q => by
  rw [upd_ne (ne_of_none q h)]
  exact e b w q
theorem Same.fresh (e : Same H H1) (h : H1 p = none) : H p = none := e.free h
/-- what never changes once it stands: all but lists of ints -/
def fz : HO → Bool
  | .lst xs => !(xs.all fun v => match v with | .int _ => true | _ => false) || xs.isEmpty
  | .tup _ => true
  | .ins _ _ _ => true
  | .dK _ => true
  | .frz _ _ => true
  | _ => false
def Kp (H H' : Hp) : Prop := ∀ a o, H a = some o → fz o = true → H' a = some o
theorem Kp.refl (H : Hp) : Kp H H := fun _ _ h _ => h
theorem Kp.trans (a : Kp H H1) (b : Kp H1 H2) : Kp H H2 := fun c o h z => b c o (a c o h z) z
theorem Same.kp (e : Same H H1) : Kp H H1 := fun a o h _ => e a o h
theorem Kp.same (a : Kp H H1) (b : Same H1 H2) : Kp H H2 := a.trans b.kp
theorem Same.thenKp (a : Same H H1) (b : Kp H1 H2) : Kp H H2 := a.kp.trans b
theorem kpget (e : Kp H H1) (h : H a = some o) (z : fz o = true) : H1 a = some o := e a o h z
/-- the script, or a list that stands in the written part -/
def SqF (K : PySem.W.Frag) (H : Hp) (a : Addr) (xs : List V) : Prop := (∃ o, H a = some (.frz o (.lst xs))) ∨ ∃ (o : Obj) (its : Array Value) (n : Nat), K.lookup a = some o ∧ o.cls = .type "list" ∧ o.dict = none ∧ o.data = .seq its n ∧ its.size ≤ sizeLine ∧ Vals xs its.toList
theorem SqF.l (h : SqF K H a xs) : SqL K H a xs := by
  rcases h with ⟨o, h⟩ | h
  · exact .inl (.inr ⟨o, h⟩)
  · exact .inr h
theorem SqF.kp (e : Kp H H1) (h : SqF K H a xs) : SqF K H1 a xs := by
  rcases h with ⟨o, h⟩ | h
  · exact .inl ⟨o, e _ _ h rfl⟩
  · exact .inr h
theorem SqF.of (ho : ∀ b, H b = none ∨ ∃ o xs, H b = some (.frz o (.lst xs))) (h : SqL K H a xs) : SqF K H a xs := by
  rcases h with (h | ⟨o, h⟩) | h
  · rcases ho a with z | ⟨o, ys, z⟩
    · rw [h] at z; cases z
    · rw [h] at z; cases z
  · exact .inl ⟨o, h⟩
  · exact .inr h
end
theorem inV_strs (z : Str) (l : List Str) : inV (.str z) (l.map V.str) = l.contains z := by
  induction l with
  | nil => rfl
  | cons a l ih =>
    show (eqV (.str a) (.str z) || inV (.str z) (l.map V.str)) = _
    rw [ih, List.contains_cons]
    show ((a == z) || _) = _
    rw [show (a == z) = (z == a) from by rw [Bool.eq_iff_iff, beq_iff_eq, beq_iff_eq]; exact eq_comm]
theorem flat_strs (l : List Str) : (l.map V.str).all flatV = true := by
  rw [List.all_map]
  exact List.all_eq_true.mpr fun _ _ => rfl
section
variable {K : PySem.W.Frag} {H : Hp} {Q : VK} {p : Addr} {z : Str} {ws : List Str}
theorem rd_inTs (hs : SqT K H p (ws.map V.str)) (h : Q (.bl (ws.contains z)) H) : rIn K false (.str z) (.ref p) H Q := ⟨p, _, rfl, .inr hs, rfl, flat_strs ws, by rw [if_neg Bool.false_ne_true, inV_strs]; exact h⟩
theorem rd_niTs (hs : SqT K H p (ws.map V.str)) (h : Q (.bl (!ws.contains z)) H) : rIn K true (.str z) (.ref p) H Q := ⟨p, _, rfl, .inr hs, rfl, flat_strs ws, by rw [if_pos rfl, inV_strs]; exact h⟩
theorem rd_inLs (hs : SqL K H p (ws.map V.str)) (h : Q (.bl (ws.contains z)) H) : rIn K false (.str z) (.ref p) H Q := ⟨p, _, rfl, .inl hs, rfl, flat_strs ws, by rw [if_neg Bool.false_ne_true, inV_strs]; exact h⟩
theorem rd_niLs (hs : SqL K H p (ws.map V.str)) (h : Q (.bl (!ws.contains z)) H) : rIn K true (.str z) (.ref p) H Q := ⟨p, _, rfl, .inl hs, rfl, flat_strs ws, by rw [if_pos rfl, inV_strs]; exact h⟩
end
theorem iteNT {A B : Prop} (h : B) : if (!true) = true then A else B := iteF h
theorem iteNF {A B : Prop} (h : A) : if (!false) = true then A else B := iteT h
section
variable {K : PySem.W.Frag} {H H1 : Hp} {σ : St} {Q : VK} {D : Ends} {ta tv : TE} {f : Str} {a C dx : Addr} {fs : List (Str × V)} {v y : V}
theorem rd_fld1 (h : ta σ H fun x H1 => ∃ a C dx fs v, x = .ref a ∧ H1 a = some (.ins C dx fs) ∧ Cls K C ∧ NoAttr K C f ∧ fs.lookup f = some v ∧ Q v H1) : tFld K ta f σ H Q := h
theorem rd_fld2 {P : V → Prop} (ho : H a = some (.ins C dx fs)) (hc : Cls K C) (hn : NoAttr K C f) (hl : fs.lookup f = some v) (h : P v) : ∃ a' C dx fs v, V.ref a = .ref a' ∧ H a' = some (.ins C dx fs) ∧ Cls K C ∧ NoAttr K C f ∧ fs.lookup f = some v ∧ P v := ⟨a, C, dx, fs, v, rfl, ho, hc, hn, hl, h⟩
theorem rd_sfld (h : tv σ H fun y H1 => ta σ H1 fun x H2 => ∃ a C dx fs, x = .ref a ∧ H2 a = some (.ins C dx fs) ∧ Cls K C ∧ NoAttr K C f ∧ fs.length < 1000 ∧ D.nx σ (upd H2 a (.ins C dx (putF f y fs)))) : sFld K ta tv f D σ H := h
theorem rd_sfld2 {P : Addr → Addr → Addr → List (Str × V) → Prop} (ho : H a = some (.ins C dx fs)) (hc : Cls K C) (hn : NoAttr K C f) (hl : fs.length < 1000) (h : P a C dx fs) : ∃ a' C dx fs, V.ref a = .ref a' ∧ H a' = some (.ins C dx fs) ∧ Cls K C ∧ NoAttr K C f ∧ fs.length < 1000 ∧ P a' C dx fs := ⟨a, C, dx, fs, rfl, ho, hc, hn, hl, h⟩
theorem TyX.same {t : Value} (e : Same H H1) (h : TyX K H v t) : TyX K H1 v t := by
  cases h with
  | base b =>
    cases b with
    | non => exact .base .non
    | bl x => exact .base (.bl x)
    | int i => exact .base (.int i)
    | str x => exact .base (.str x)
    | flt x => exact .base (.flt x)
    | lst q => exact .base (.lst (e _ _ q))
    | frz q => exact .base (.frz (e _ _ q))
    | tup q => exact .base (.tup (e _ _ q))
    | dK q => exact .base (.dK (e _ _ q))
    | dT q => exact .base (.dT (e _ _ q))
    | ins q cl ha hn htk hm => exact .base (.ins (e _ _ q) cl ha hn htk hm)
  | byt b => exact .byt b
  | set q => exact .set (e _ _ q)
  | kList q c => exact .kList q c
  | kTuple q c => exact .kTuple q c
  | kDict q c => exact .kDict q c
  | fTuple q => exact .fTuple (e _ _ q)
  | fDict q => exact .fDict (e _ _ q)
end
theorem sz1000 {n : Nat} (h : n ≤ 1000) : n ≤ sizeLine := Nat.le_trans h (by decide)
theorem s_len (a b : Str) : (a ++ b).length = a.length + b.length := by
  rw [TL.len_tl, TL.len_tl, TL.len_tl, TL.tl_append, List.length_append]
theorem L_empty : Str.empty.length = 0 := rfl
theorem L_sp : (" " : Str).length = 1 := by decide +kernel
theorem L_begin : ("begin " : Str).length = 6 := by decide +kernel
theorem L_send : ("send " : Str).length = 5 := by decide +kernel
theorem L_back : ("back " : Str).length = 5 := by decide +kernel
theorem L_end : ("end " : Str).length = 4 := by decide +kernel
theorem put_le (f : Str) (v : V) : ∀ fs : List (Str × V), (putF f v fs).length ≤ fs.length + 1
  | [] => Nat.le_refl _
  | (g, x) :: r => by
    unfold putF
    split
    · exact Nat.le_succ _
    · exact Nat.succ_le_succ (put_le f v r)
theorem put_lt {n : Nat} {f : Str} {v : V} {fs : List (Str × V)} (h : fs.length < n) : (putF f v fs).length < n + 1 := Nat.lt_of_le_of_lt (put_le f v fs) (Nat.succ_lt_succ h)
/-! ### comprehensions -/
theorem take_snoc {α : Type} {l : List α} {i : Nat} {x : α} (h : l[i]? = some x) : l.take (i + 1) = l.take i ++ [x] := by
  rw [List.take_add_one, h]
  rfl
/-- [test of c for c in text] -/
theorem lc_strB {z : Str} {j : Nat} {ta te : TE} {vs : List Nat} {σ : St} {H : Hp} {Q : VK} (f : Nat → Bool) (hz : z.length ≤ 1000) (hta : ∀ R : VK, R (.str z) H → ta σ H R) (hw : ∀ x, wipe ((wipe σ vs).set j (some x)) vs = wipe σ vs)
    (ht : ∀ (c : Nat) (H' : Hp) (P : VK), P (.bl (f c)) H' → te ((wipe σ vs).set j (some (.str ⟨#[c]⟩))) H' P)
    (k : ∀ p H', H p = none → Same H H' → H' p = some (.lst ((z.cps.toList.map f).map V.bl)) → Q (.ref p) H') : tLc (iStr ta) (gName j) tYes te vs σ H Q := by
  refine hta _ ?_
  refine ⟨z, rfl, fun D hD => ?_⟩
  refine lc_it (walk_str (z := z)) (fun i H' => Same H H' ∧ H' D = some (.lst (((z.cps.toList.take i).map f).map V.bl))) ⟨Same.new hD, upd_same⟩ (fun _ _ _ _ => True.intro) (fun i x H1 H2 hi ⟨e1, e2⟩ ⟨e3, c, hc, e4⟩ => ?_) (fun H1 ⟨e1, e2⟩ => ?_)
  · subst e3 e4
    refine ⟨hw _, ?_⟩
    refine rd_yes (iteT ?_)
    refine ht c H2 _ ?_
    have hc' : z.cps.toList[i]? = some c := by rw [Array.getElem?_toList]; exact hc
    refine ⟨_, e2, ?_, Same.mut (o := .lst []) hD e1, ?_⟩
    · rw [List.length_map, List.length_map, List.length_take]
      have : z.cps.toList.length = z.length := by rw [Array.length_toList]; rfl
      have h2 : (1000 : Nat) < sizeLine := by decide
      omega
    · rw [upd_same, take_snoc hc', List.map_append, List.map_append]
      rfl
  · have e : z.cps.toList.take z.cps.size = z.cps.toList := by rw [← Array.length_toList]; exact List.take_length
    rw [e] at e2
    exact k D H1 hD e1 e2
theorem rd_inS {c : Nat} {z : Str} {P : Nat → Str → Prop} (h : P c z) : ∃ c' z', V.str ⟨#[c]⟩ = V.str ⟨#[c']⟩ ∧ V.str z = V.str z' ∧ P c' z' := ⟨c, z, rfl, rfl, h⟩
end L2
namespace L2
open PySem PySem.Spec PyProof.Rows
section
variable {X : Cx} {pins : List (Addr × Obj)} {σ : St} {H : Hp} {s : Shared}
theorem looks_ty {x : V} {u t : Value} (I : Inv X pins σ H s) (rx : RelV x u) (ty : TyX X.K H x t) : PySem.W.Looks (model X.prog X.w) s.heap (typeOf u) t := by
  obtain ⟨P, Z, p, _⟩ := kit_of I rx ty
  exact Z.ty _ _ I.kIn p
end
/-- the class at C compares by its own __eq__ at g, and has no __ne__ of its own -/
structure EqC (K : PySem.W.Frag) (C g : Addr) : Prop where
  eq : PySem.W.findIn K (.ref C) "__eq__" = some (some (.ref g))
  fn : PySem.W.isFn K (.ref g) = true
  ne : PySem.W.findIn K (.ref C) "__ne__" = some (some (.builtin "object.__ne__"))
  ob : PySem.W.mroIn K C (.type "object") = some true
def rOwnEq (K : PySem.W.Frag) (g : Addr) (sp : Sp) (E : XK) : R2 := fun x y H Q => ∃ (a C dx : Addr) (fs : List (Str × V)) (tb : Value), x = .ref a ∧ H a = some (.ins C dx fs) ∧ EqC K C g ∧ TyX K H y tb ∧ PySem.W.notFirst K C tb = true ∧ sp [x, y] H Q E
def rOwnNe (K : PySem.W.Frag) (g : Addr) (sp : Sp) (E : XK) : R2 := fun x y H Q => ∃ (a C dx : Addr) (fs : List (Str × V)) (tb : Value), x = .ref a ∧ H a = some (.ins C dx fs) ∧ EqC K C g ∧ TyX K H y tb ∧ PySem.W.notFirst K C tb = true ∧ sp [x, y] H (fun z H' => ∃ b, z = .bl b ∧ Q (.bl (!b)) H') E
section
variable {prog : Program} {w : World} {A : Around} {E : Value → Shared → Prop} {s : Shared} {K : PySem.W.Frag} {x C f : Addr} {ox : Obj} {od : Option Obj} {b tb : Value}
open PySem.W in
theorem ifBound_Kb {M : Model} {name : Str} {id : String} {args : List Value} {Q : Option Value → Shared → Prop} (X : K.In s.heap) (I : InstAt s.heap x ox C od) (hs : findIn K (.ref C) name = some (some (.builtin id))) (hb : bindSpecial (.builtin id) (.ref x) = pure (.builtin id, [.ref x]))
    (h : wpAny M A (call (.builtin id) (.ref x :: args)) (fun v => Q (some v)) E s) : wpAny M A (callSpecialIfBound? (.ref x) name args) Q E s := by
  simp only [callSpecialIfBound?, bindSpecialIfBound?]
  refine wpAny_holding (wpAny_bind (wpAny_bind (wpAny_bind (I.type.here ((looks_findIn X hs).here ?_)))))
  refine wpAny_bind (wpAny_askSetting (wpAny_ite ?_))
  have fin : wpAny M A (call (.builtin id) ([.ref x] ++ args) >>= fun v => pure (some v)) Q E s := wpAny_bind (wpAny_mono h (fun v s' h' => wpAny_pure h') fun _ _ h' => h')
  dsimp only
  rw [hb]
  split
  · exact wpAny_bind (wpAny_pure (wpAny_pure fin))
  · exact wpAny_tryCatch (wpAny_bind (wpAny_pure (wpAny_pure fin)))
open PySem.W in
theorem cmpNe_K {Q : Value → Shared → Prop} (hu : A.units + 1 < cLine) (X : K.In s.heap) (I : InstAt s.heap x ox C od) (hb : Looks (model prog w) s.heap (typeOf b) tb) (hn : notFirst K C tb = true) (e : EqC K C f)
    (h : wpAny (model prog w) A.in1 (call (.ref f) [.ref x, b]) (fun v s' => ∃ k, v = .bool k ∧ Q (.bool (!k)) s') E s) : wpAny (model prog w) A (richCompare .NotEq (.ref x) b) Q E s := by
  have hin : Looks (model prog w) s.heap (isInstance (.ref x) (.type "object")) true := I.type.andThen (looks_mroIn X e.ob)
  have body : wpAny (model prog w) A (call (.builtin "object.__ne__") [.ref x, b]) (fun v s' => ∃ k, v = .bool k ∧ Q (.bool k) s') E s := by
    refine wpAny_call (codeAny_call_builtin F.cmp_object.ne.plain F.cmpEntry_ne (check_slot F.cmpKind_ne F.cmpSplit_ne hin (F.cmpArgs_ne _ _) ?_))
    unfold Builtin.«object.__ne__»
    repeat (first
      | with_reducible refine wpAny_cRoomFor (show A.in1.units < cLine from hu) ?_
      | (refine wpAny_bind (m := callSpecialIfBound? (.ref x) (Str.ofString "__eq__") [b])
          (ifBound_K X I e.eq e.fn (wpAny_mono h (fun r s' hr => by
            obtain ⟨k, rfl, hq⟩ := hr
            repeat (first | exact ⟨_, rfl, hq⟩ | exact wpAny_pure ⟨_, rfl, hq⟩ | exact wpAny_truthy_bool ⟨_, rfl, hq⟩ | (refine wpAny_bind (m := truthy (.bool _)) (wpAny_truthy_bool ?_)) | wp_step)) fun _ _ e => e)))
      | wp_step)
  have one : wpAny (model prog w) A (tryCompare (.ref x) (cmpInfo .NotEq).2.1 b) (fun r s' => ∃ v, r = some v ∧ Q v s') E s := by
    unfold tryCompare
    refine wpAny_bind (ifBound_Kb X I e.ne (F.cmp_object.ne.bind _) (wpAny_mono body (fun v s' hv => ?_) fun _ _ e => e))
    obtain ⟨k, rfl, hq⟩ := hv
    exact wpAny_pure ⟨_, rfl, hq⟩
  unfold richCompare
  simp only [oneThing_ref]
  refine wpAny_holding (wpAny_bind (wpAny_cRoomFor (Nat.lt_of_succ_lt hu) ?_))
  refine wpAny_bind (I.type.here (wpAny_bind (hb.here ?_)))
  split
  · rename_i q
    have e : subIn K tb (.ref C) = some false := by
      rcases Bool.or_eq_true_iff.mp hn with e | e
      · rw [beq_iff_eq.mp e] at q; simp at q
      · exact beq_iff_eq.mp e
    refine wpAny_bind ((looks_subIn X e).here ?_)
    simp only [Bool.false_eq_true, if_false]
    refine wpAny_bind (wpAny_mono one (fun r s' z => ?_) fun _ _ e => e)
    obtain ⟨v, rfl, hq⟩ := z
    exact wpAny_pure hq
  · refine wpAny_bind (wpAny_pure ?_)
    simp only [Bool.false_eq_true, if_false]
    refine wpAny_bind (wpAny_mono one (fun r s' z => ?_) fun _ _ e => e)
    obtain ⟨v, rfl, hq⟩ := z
    exact wpAny_pure hq
end
section
variable {X : Cx} {CX : CXT} {n : Nat} {g : Addr} {sp : Sp} {E : XK}
theorem op_ownEq (F : FnR X.prog X.w X.K X.mg X.base CX n g sp) (hr : Room n X.A) (hx : Passes CX X E) : OpR X (compareOp .Eq) (rOwnEq X.K g sp E) := by
  intro pins s σ H x y v u Q I rx ry h
  obtain ⟨a, C, dx, fs, tb, rfl, ha, e, ty, hn, q⟩ := h
  cases (show v = Value.ref a from rx)
  obtain ⟨mA, O, _⟩ := ins_get I.hok ha
  obtain ⟨od, J, _⟩ := O.look
  obtain ⟨m, hF⟩ := I.fr
  show wpAny _ _ (richCompare .Eq (.ref a) u) _ _ _
  refine PySem.W.cmp_K (op := .Eq) (tb := tb) hr.units0 hF I.ok.mod.kin J (looks_ty I ry ty) hn e.eq e.fn ?_
  refine wpAny_mono (wpAny_call (run_fnR (us := [.ref a, u]) (vs := [.ref a, y]) F hr hx I (.cons rfl (.cons ry .nil)) q)) (fun w s' z => ?_) fun _ _ x => x
  obtain ⟨z', H', I', rz, qz⟩ := z
  exact SlX.cmpback rz ⟨z', H', I', rz, qz⟩
theorem op_ownNe (F : FnR X.prog X.w X.K X.mg X.base CX n g sp) (hr : Room (n + 1) X.A) (hx : Passes CX X E) : OpR X (compareOp .NotEq) (rOwnNe X.K g sp E) := by
  intro pins s σ H x y v u Q I rx ry h
  obtain ⟨a, C, dx, fs, tb, rfl, ha, e, ty, hn, q⟩ := h
  cases (show v = Value.ref a from rx)
  obtain ⟨mA, O, _⟩ := ins_get I.hok ha
  obtain ⟨od, J, _⟩ := O.look
  show wpAny _ _ (richCompare .NotEq (.ref a) u) _ _ _
  refine cmpNe_K (tb := tb) (Nat.lt_of_le_of_lt (Nat.add_le_add_left (by decide : 1 ≤ 64) _) hr.units) I.kIn J (looks_ty I ry ty) hn e ?_
  refine wpAny_mono (wpAny_call (SlX.run_at (us := [.ref a, u]) (ws := [.ref a, y]) F hr.in1 I.env0.in1 hx I (.cons rfl (.cons ry .nil)) q)) (fun w s' z => ?_) fun _ _ x => x
  obtain ⟨z', H', I', rz, b, eb, qz⟩ := z
  subst eb
  cases (show w = Value.bool b from rz)
  exact ⟨b, rfl, .bl (!b), H', I', rfl, qz⟩
/-- str(o), o an instance whose class has its own __str__ at g -/
def rStrOwn (K : PySem.W.Frag) (g : Addr) (sp : Sp) (E : XK) : List V → Hp → VK → Prop := fun xs H Q => ∃ (a C dx : Addr) (fs : List (Str × V)), xs = [V.ref a] ∧ H a = some (.ins C dx fs) ∧ PySem.W.findIn K (.ref C) "__str__" = some (some (.ref g)) ∧ sp [.ref a] H (fun z H' => ∃ t, z = .str t ∧ Q z H') E
theorem call_strOwn (hf : PySem.W.isFn X.K (.ref g) = true) (F : FnR X.prog X.w X.K X.mg X.base CX n g sp) (hr : Room (n + 2) X.A) (hx : Passes CX X E) : CallR X (.type "str") (rStrOwn X.K g sp E) := by
  intro pins s σ H xs us Q I r h
  obtain ⟨a, C, dx, fs, rfl, ha, hs, q⟩ := h
  obtain ⟨u, rfl, ru⟩ := r.one
  cases (show u = Value.ref a from ru)
  obtain ⟨mA, O, _⟩ := ins_get I.hok ha
  obtain ⟨od, J, _⟩ := O.look
  have hr2 : Room n X.A.in1.in1 := (show Room (n + 1) X.A.in1 from Room.in1 hr).in1
  refine PySem.W.kso_call hr2.units0 I.kIn J hs hf (wpAny_mono (wpAny_call (SlX.run_at (us := [.ref a]) (ws := [.ref a]) F hr2 I.env0.in1.in1 hx I (.cons rfl .nil) q)) (fun w s' z => ?_) fun _ _ x => x)
  obtain ⟨z', H', I', rz, t, et, qz⟩ := z
  subst et
  obtain ⟨tk, e⟩ := (show ∃ tk, w = Value.str t tk from rz)
  cases e
  exact ⟨.str t, H', I', ⟨tk, rfl⟩, qz⟩
/-- repr(x), x a list or a tuple of data; of a text; the frame is under no repr -/
def rRepr (K : PySem.W.Frag) : List V → Hp → VK → Prop := fun xs H Q => ∃ (a : Addr) (d : PyData), xs = [V.ref a] ∧ Dp K H (.ref a) d ∧ d.showable = true ∧ d.hasDict = false ∧ d.depth ≤ 50 ∧ d.shown.length ≤ sizeLine ∧ Q (.str d.shown) H
theorem call_repr (hg : X.A.guards = some []) (hr : Room n X.A) : CallR X (.builtin "repr") (rRepr X.K) := by
  intro pins s σ H xs us Q I r h
  obtain ⟨a, d, rfl, dp, hs, hnd, hdep, hsz, q⟩ := h
  obtain ⟨u, rfl, ru⟩ := r.one
  cases (show u = Value.ref a from ru)
  obtain ⟨as, rd⟩ := Dp.reads I d _ _ dp (show RelV (.ref a) (Value.ref a) from rfl)
  have hu := hr.units
  exact repr_of_reads' rd hs (PyData.noDict_hsm hnd) hg (by omega) (fun _ _ e => e) (fun h' u tk hk => ⟨.str d.shown, H, I.kept hk, ⟨u, rfl⟩, q⟩) hsz
end
end L2
namespace L2
open PySem PySem.Spec PyProof.Rows
/-- a def of the module: its text, its name, how it binds -/
structure Dn (K : PySem.W.Frag) (mg : Str → Option Value) (x : Str) (st : Stmt) (ps : List Str) (f : Addr) (fd : FuncData) : Prop where
  F : Fun K x x st f fd
  g : mg x = some (.ref f)
  b : Binds K fd ps []
/-- a method -/
structure Mn (K : PySem.W.Frag) (x qual : Str) (st : Stmt) (ps : List Str) (f : Addr) (fd : FuncData) : Prop where
  F : Fun K x qual st f fd
  b : Binds K fd ps []
  fn : PySem.W.isFn K (.ref f) = true
/-- a method that says super(), written in the class at D -/
structure Sn (P : Program) (K : PySem.W.Frag) (x qual : Str) (st : Stmt) (ps : List Str) (f : Addr) (fd : FuncData) (D : Addr) : Prop where
  ex : ∃ (oc : Value) (od : Option Addr) (kV doc pm : Value) (an : Option Addr) (cda : Addr) (ct : Value) (osl : Array (Option Value)) (cc : Addr) (cl : Value) (cld : Option Addr) (csl : Array (Option Value)) (ccl : Value) (cdd : Option Addr) (vs : Array Value) (ccs : Array (Option Value)) (file : Str) (tf : Tok),
    fd = PySem.W.ksFn x qual (defArgs st) (defBody st) (defScope st) .none kV doc pm an (.ref cda) ct cc ∧ K.lookup f = some ⟨oc, od, .func fd, osl⟩ ∧ PySem.W.codeIn K (.ref cda) qual = true ∧ K.lookup cc = some ⟨cl, cld, .cell (some (.ref D)), csl⟩ ∧
    K.lookup cda = some ⟨ccl, cdd, .fields vs, ccs⟩ ∧ vs[2]? = some (.str file tf) ∧ ((P.main.file : Str) == file) = true
  b : Binds K fd ps []
  fn : PySem.W.isFn K (.ref f) = true
  kp : PySem.W.keepIn K (.ref f) = true
  fi : PySem.W.fnIn K f = true
/-- what super() asks of the module -/
structure SupT (P : Program) (K : PySem.W.Frag) (mg : Str → Option Value) : Prop where
  top : (P.main.scope.names.lookup ("super" : Str)).isSome = false
  mg : mg "super" = none
  opq : PySem.W.nsIn K cStatics "thirdparty.any" = some none
/-- a class, as instances ask for it -/
structure ClsT (K : PySem.W.Frag) (C : Addr) : Prop where
  cl : Cls K C
  ha : PySem.W.findIn K (.ref C) "__class__" = some (some (.builtin "object.__class__"))
  hn : PySem.W.specialIn K (.builtin "object.__class__") "__get__" = some (some (.builtin "getset_descriptor.__get__"))
  htk : PySem.W.takesIn K (.builtin "object.__class__") = some true
  hm : PySem.W.mroIn K C (.type "object") = some true
theorem ClsT.ty {K : PySem.W.Frag} {C a dx : Addr} {H : Hp} {fs : List (Str × V)} (c : ClsT K C) (h : H a = some (.ins C dx fs)) : TyX K H (.ref a) (.ref C) := .base (.ins h c.cl c.ha c.hn c.htk c.hm)
theorem kit_ownT {K : PySem.W.Frag} {t : Value} {C : Addr} {cd : ClassData} (h : PySem.W.clsIn K C = some cd) (ht : PySem.W.typeIn K (.ref C) = some (.type "type")) (hs : PySem.W.subIn K t (.ref C) = some true) : PySem.W.kitOne K t (.ref C) = some true := by
  unfold PySem.W.kitOne
  by_cases e : (t == .ref C) = true
  · rw [if_pos e]
  · rw [if_neg e]
    show (if ((PySem.W.clsIn K C).isSome && PySem.W.typeIn K (.ref C) == some (.type "type")) = true then PySem.W.subIn K t (.ref C) else none) = some true
    rw [h, ht]
    exact (if_pos rfl).trans hs
theorem kit_ownF {K : PySem.W.Frag} {n : String} {C : Addr} {cd : ClassData} (h : PySem.W.clsIn K C = some cd) (ht : PySem.W.typeIn K (.ref C) = some (.type "type")) (hs : PySem.W.subIn K (.type n) (.ref C) = some false) : PySem.W.kitOne K (.type n) (.ref C) = some false := by
  show (if ((PySem.W.clsIn K C).isSome && PySem.W.typeIn K (.ref C) == some (.type "type")) = true then PySem.W.subIn K (.type n) (.ref C) else none) = some false
  rw [h, ht]
  exact (if_pos rfl).trans hs
structure Cn (K : PySem.W.Frag) (mg : Str → Option Value) (x : Str) (C fI : Addr) : Prop where
  g : mg x = some (.ref C)
  t : ClsT K C
  m : Mk K C fI
section
variable {P : Program} {w : World} {K : PySem.W.Frag} {mg : Str → Option Value} {base : Heap}
theorem Sn.okX {CX : CXT} {x qual y : Str} {st : Stmt} {f D : Addr} {fd : FuncData} {N ps : List Str} {k : Nat} {sp : Sp} {ar : Arg} {cdD : ClassData} (F : Sn P K x qual st ps f fd D) (T : SupT P K mg) (S : FnScopeS N ps (defScope st)) (hD : PySem.W.clsIn K D = some cdD)
    (hp : ((defArgs st).posonlyargs ++ (defArgs st).args).head? = some ar) (hy : ar.arg = y) (hl : (defScope st).names.lookup y = some .local) (len : ∀ vs H Q E, sp vs H Q E → vs.length = ps.length)
    (hbody : ∀ (cdv : Value) (cc : Addr) (A : Around) (outer : List Env) (s : Shared) (H : Hp) (vs : List V) (Q : VK) (E : XK), Room k (A.deeper (PySem.W.ksEnv qual (defScope st) s.heap.objs.size f cdv cc)) →
      SupX (cxS CX P w K mg base N qual (defScope st) f cdv cc A outer s H E) D y → sp vs H Q E →
      ∃ t, PSsA (cxS CX P w K mg base N qual (defScope st) f cdv cc A outer s H E) (.func (defBody st) (PySem.W.ksEnv qual (defScope st) s.heap.objs.size f cdv cc)) (defBody st) t ∧ t { nx := fun _ H' => Q .non H', rt := Q } (start N vs) H) :
    FnOk P w K mg base CX (k + 1) f fd ps sp := by
  obtain ⟨oc, od, kV, doc, pm, an, cda, ct, osl, cc, cl, cld, csl, ccl, cdd, vs, ccs, file, tf, rfl, lk, hcd, hcc, hco, hvs, hfile⟩ := F.ex
  refine fnS_of hcc lk hcd S len fun A outer s H ws Q E hr hsp => ?_
  refine hbody (.ref cda) cc A outer s H ws Q E hr ⟨S.sup, S.cls, S.kind, ⟨f, oc, od, _, osl, ar, rfl, lk, hp, hy⟩, ⟨cda, ccl, cdd, vs, ccs, file, tf, rfl, hco, hvs, hfile⟩, T.top, T.mg, ⟨cc, cl, cld, csl, ?_, hcc⟩, ⟨cdD, hD⟩, hl, T.opq⟩ hsp
  show ([(("__class__" : Str), cc)] : List (Str × Addr)).lookup ("__class__" : Str) = some cc
  simp [List.lookup]
end
theorem rd_sup {K : PySem.W.Frag} {D : Addr} {m : Str} {g : Addr} {sp : Sp} {E : XK} {i : Nat} {tA : TA} {Dn : Ends} {σ : St} {H : Hp} {a C dx : Addr} {fs : List (Str × V)} (ha : σ[i]? = some (some (.ref a))) (ho : H a = some (.ins C dx fs)) (hm : SupM K C D m g)
    (h : tA σ H fun vs H1 => sp (.ref a :: vs) H1 (fun _ H2 => Dn.nx σ H2) E) : tSup K D m g sp E i tA Dn σ H := ⟨a, C, dx, fs, ha, ho, hm, h⟩
/-- all but the thing at p is as it was -/
def But (p : Addr) (H H' : Hp) : Prop := ∀ a o, a ≠ p → H a = some o → H' a = some o
theorem But.refl {p : Addr} (H : Hp) : But p H H := fun _ _ _ h => h
theorem But.trans {p : Addr} {H H1 H2 : Hp} (x : But p H H1) (y : But p H1 H2) : But p H H2 := fun a o n e => y a o n (x a o n e)
theorem Same.but {p : Addr} {H H1 : Hp} (e : Same H H1) : But p H H1 := fun a o _ h => e a o h
theorem But.upd {p : Addr} {H : Hp} {o : HO} : But p H (upd H p o) := fun a u n e => by rw [upd_ne n]; exact e
/-! ### the box of draws -/
abbrev boxO (w s c : Int) : HO := .lst [.int w, .int s, .int c]
def BoxAt (H : Hp) (b : Addr) : Prop := ∃ w s c : Int, H b = some (boxO w s c)
theorem BoxAt.same {H H' : Hp} {b : Addr} (e : Same H H') (h : BoxAt H b) : BoxAt H' b := let ⟨w, s, c, q⟩ := h; ⟨w, s, c, e _ _ q⟩
/-- the box at b may have changed, nothing else -/
structure Bx (b : Addr) (H H' : Hp) : Prop where
  kx : ∀ a o, a ≠ b → H a = some o → H' a = some o
  b0 : BoxAt H b
  b1 : BoxAt H' b
section
variable {H H1 H2 : Hp} {a b p : Addr} {o : HO}
theorem Bx.refl (h : BoxAt H b) : Bx b H H := ⟨fun _ _ _ e => e, h, h⟩
theorem Bx.trans (x : Bx b H H1) (y : Bx b H1 H2) : Bx b H H2 := ⟨fun c o n e => y.kx c o n (x.kx c o n e), x.b0, y.b1⟩
theorem Bx.same (x : Bx b H H1) (e : Same H1 H2) : Bx b H H2 := ⟨fun c o n q => e c o (x.kx c o n q), x.b0, x.b1.same e⟩
theorem Same.bx (e : Same H H1) (h : BoxAt H b) : Bx b H H1 := ⟨fun c o _ q => e c o q, h, h.same e⟩
theorem Same.bxs (e : Same H H1) (h : BoxAt H b) (y : Bx b H1 H2) : Bx b H H2 := (e.bx h).trans y
theorem Bx.upd {w s c : Int} (h : BoxAt H b) : Bx b H (upd H b (boxO w s c)) := ⟨fun a o n e => by rw [upd_ne n]; exact e, h, ⟨w, s, c, upd_same⟩⟩
theorem BoxAt.ne (h : BoxAt H b) (e : H a = some o) (z : fz o = true) : a ≠ b := fun q => by
  obtain ⟨w', s', c', hb⟩ := h
  rw [q, hb] at e
  cases e
  cases z
theorem Bx.kp (x : Bx b H H1) : Kp H H1 := fun a o e z => x.kx a o (x.b0.ne e z) e
theorem bxget (x : Bx b H H1) (h : H a = some o) (z : fz o = true) : H1 a = some o := x.kp a o h z
theorem Bx.free (x : Bx b H H1) (h : H1 p = none) : H p = none := by
  cases q : H p with
  | none => rfl
  | some u =>
    by_cases hp : p = b
    · obtain ⟨w', s', c', hb⟩ := x.b1
      rw [hp, hb] at h
      cases h
    · rw [x.kx p u hp q] at h
      cases h
/-- a thing that was made since may be changed -/
theorem Bx.mut {u : HO} (x : Bx b H H1) (h : H p = none) : Bx b H (L2.upd H1 p u) := by
  have np : p ≠ b := fun q => by
    obtain ⟨w', s', c', hb⟩ := x.b0
    rw [q, hb] at h
    cases h
  refine ⟨fun a o n e => ?_, x.b0, ?_⟩
  · rw [upd_ne (ne_of_none e h)]
    exact x.kx a o n e
  · obtain ⟨w', s', c', hb⟩ := x.b1
    exact ⟨w', s', c', by rw [upd_ne np.symm]; exact hb⟩
theorem SqF.bx {K : PySem.W.Frag} {xs : List V} (x : Bx b H H1) (h : SqF K H a xs) : SqF K H1 a xs := h.kp x.kp
end
end L2
namespace L2
open PySem PySem.Spec PyProof.Rows
/-! ### comprehensions over a frame -/
/-- what a heap may become while a list is made -/
structure FrR (R : Hp → Hp → Prop) : Prop where
  trans : ∀ {H H1 H2}, R H H1 → R H1 H2 → R H H2
  chg : ∀ {H H1 p o}, R H H1 → H p = none → R H (upd H1 p o)
  keep : ∀ {H H1 H2 p o}, R H H1 → H p = none → R H1 H2 → H1 p = some o → H2 p = some o
theorem frSame : FrR Same := ⟨fun a b => a.trans b, fun e h => Same.mut (o := .lst []) h e, fun _ _ e q => e _ _ q⟩
theorem frBx {b : Addr} : FrR (Bx b) := ⟨fun a c => a.trans c, fun e h => e.mut h, fun {H H1 H2 p o} a n c q => c.kx _ _ (fun e => by
  obtain ⟨w, s, z, hb⟩ := a.b0
  rw [e, hb] at n
  cases n) q⟩
/-- the turns of a comprehension over J -/
def LcI (J : It) (g : TG) (tt : TT) (te : TE) (vs : List Nat) (σ : St) (H1 : Hp) (Q : VK) : Prop := ∀ D, H1 D = none → ∃ W : Nat → Nat → Hp → Prop, (∃ m, W 0 m (upd H1 D (.lst []))) ∧ ∀ i m H, W i m H →
  (J.stop i H ∧ Q (.ref D) H) ∨ (J.go i H ∧ ∃ Nx : Hp → Prop, (∀ H', Nx H' → ∃ m', m' < m ∧ W (i + 1) m' H') ∧ ∀ x H', J.yld i H x H' → g x (wipe σ vs) H' fun σ2 H2 => wipe σ2 vs = wipe σ vs ∧ tt σ2 H2 fun b H3 =>
    if b = true then te σ2 H3 fun y H4 => ∃ acc, H4 D = some (.lst acc) ∧ acc.length < sizeLine ∧ Nx (upd H4 D (.lst (acc ++ [y]))) else Nx H3)
theorem rd_lc {wi : TI} {g : TG} {tt : TT} {te : TE} {vs : List Nat} {σ : St} {H : Hp} {Q : VK} (h : wi σ H fun J H1 => LcI J g tt te vs σ H1 Q) : tLc wi g tt te vs σ H Q := h
/-- [e for x in it]: the i-th element as E says -/
theorem lcI {R : Hp → Hp → Prop} (F : FrR R) {J : It} {n : Nat} {G : Hp → Prop} {Y : Nat → Hp → V → Hp → Prop} (w : Walk J n G Y) {g : TG} {te : TE} {vs : List Nat} {σ : St} {H : Hp} {Q : VK} (hn : n ≤ 1000)
    (r0 : R H H) (E : Nat → V → Hp → Prop) (hE : ∀ i v H1 H2, R H1 H2 → E i v H1 → E i v H2) (hD : ∀ i v H1 D acc acc', H1 D = some (.lst acc) → E i v H1 → E i v (upd H1 D (.lst acc')))
    (hG : ∀ H1, R H H1 → G H1)
    (ht : ∀ i x H1 H2, i < n → R H H1 → Y i H1 x H2 → ∀ P : VK, (∀ y H3, R H1 H3 → E i y H3 → P y H3) → g x (wipe σ vs) H2 fun σ2 H3 => wipe σ2 vs = wipe σ vs ∧ te σ2 H3 P)
    (k : ∀ p H' ys, H p = none → R H H' → H' p = some (.lst ys) → ys.length = n → (∀ i y, ys[i]? = some y → E i y H') → Q (.ref p) H') (gm : ∀ x σ1 H1 (P P' : St → Hp → Prop), (∀ a b, P a b → P' a b) → g x σ1 H1 P → g x σ1 H1 P') : LcI J g tYes te vs σ H Q := by
  intro D hD0
  refine lc_it w (fun i H' => R H H' ∧ ∃ ys, H' D = some (.lst ys) ∧ ys.length = i ∧ ∀ j y, ys[j]? = some y → E j y H') ⟨F.chg r0 hD0, [], upd_same, rfl, fun j y h => by simp at h⟩ (fun _ H1 _ ⟨e, _⟩ => hG H1 e) (fun i x H1 H2 hi ⟨e1, ys, e2, e3, e4⟩ y => ?_) (fun H1 ⟨e1, ys, e2, e3, e4⟩ => k D H1 ys hD0 e1 e2 e3 e4)
  refine gm _ _ _ _ _ (fun σ2 H3 q => ?_) (ht i x H1 H2 hi e1 y (fun y H4 => ∃ acc, H4 D = some (.lst acc) ∧ acc.length < sizeLine ∧ R H (upd H4 D (.lst (acc ++ [y]))) ∧ ∃ ys, upd H4 D (.lst (acc ++ [y])) D = some (.lst ys) ∧ ys.length = i + 1 ∧ ∀ j z, ys[j]? = some z → E j z (upd H4 D (.lst (acc ++ [y])))) fun y H4 r2 ey => ?_)
  · exact ⟨q.1, rd_yes (iteT q.2)⟩
  · have h4 : H4 D = some (.lst ys) := F.keep e1 hD0 r2 e2
    refine ⟨ys, h4, ?_, F.chg (F.trans e1 r2) hD0, ys ++ [y], upd_same, by simp [e3], fun j z hz => ?_⟩
    · have h2 : (1000 : Nat) < sizeLine := by decide
      omega
    · refine hD j z H4 D ys _ h4 ?_
      by_cases hj : j < ys.length
      · rw [List.getElem?_append_left hj] at hz
        exact hE j z H1 H4 r2 (e4 j z hz)
      · have hj2 : j = ys.length := by
          have := (List.getElem?_eq_some_iff.mp hz).1
          simp at this
          omega
        subst hj2
        rw [List.getElem?_append_right (Nat.le_refl _)] at hz
        simp at hz
        subst hz
        rw [e3]
        exact ey
/-- [e for x in it]: the i-th element as E says -/
theorem lcR {R : Hp → Hp → Prop} (F : FrR R) {J : It} {n : Nat} {G : Hp → Prop} {Y : Nat → Hp → V → Hp → Prop} (w : Walk J n G Y) {wi : TI} {g : TG} {te : TE} {vs : List Nat} {σ : St} {H0 H : Hp} {Q : VK} (hn : n ≤ 1000)
    (hJ : ∀ R' : It → Hp → Prop, R' J H → wi σ H0 R') (r0 : R H H) (E : Nat → V → Hp → Prop) (hE : ∀ i v H1 H2, R H1 H2 → E i v H1 → E i v H2) (hD : ∀ i v H1 D acc acc', H1 D = some (.lst acc) → E i v H1 → E i v (upd H1 D (.lst acc')))
    (hG : ∀ H1, R H H1 → G H1)
    (ht : ∀ i x H1 H2, i < n → R H H1 → Y i H1 x H2 → ∀ P : VK, (∀ y H3, R H1 H3 → E i y H3 → P y H3) → g x (wipe σ vs) H2 fun σ2 H3 => wipe σ2 vs = wipe σ vs ∧ te σ2 H3 P)
    (k : ∀ p H' ys, H p = none → R H H' → H' p = some (.lst ys) → ys.length = n → (∀ i y, ys[i]? = some y → E i y H') → Q (.ref p) H') (gm : ∀ x σ1 H1 (P P' : St → Hp → Prop), (∀ a b, P a b → P' a b) → g x σ1 H1 P → g x σ1 H1 P') : tLc wi g tYes te vs σ H0 Q := rd_lc (hJ _ (lcI F w hn r0 E hE hD hG ht k gm))
theorem gm_name {j : Nat} {x : V} {σ1 : St} {H1 : Hp} {P P' : St → Hp → Prop} (h : ∀ a b, P a b → P' a b) (q : gName j x σ1 H1 P) : gName j x σ1 H1 P' := h _ _ q
/-! ### texts: repetition -/
def repS (z : Str) (n : Nat) : Str := ⟨(List.replicate n z.cps).foldl (· ++ ·) #[]⟩
def rRepS : R2 := fun x y H Q => ∃ (z : Str) (k : Int), x = .str z ∧ y = .int k ∧ 0 ≤ k ∧ k ≤ 1000 ∧ 1 ≤ z.length ∧ z.length ≤ 1000 ∧ Q (.str (repS z k.toNat)) H
theorem rd_repS {z : Str} {k : Int} {H : Hp} {Q : VK} (h0 : 0 ≤ k) (h1 : k ≤ 1000) (h2 : 1 ≤ z.length) (h3 : z.length ≤ 1000) (h : Q (.str (repS z k.toNat)) H) : rRepS (.str z) (.int k) H Q := ⟨z, k, rfl, rfl, h0, h1, h2, h3, h⟩
section
variable {X : Cx}
theorem op_repS : OpR X (binaryOp .Mult) rRepS := by
  intro pins s σ H x y v u Q I rx ry h
  obtain ⟨z, k, rfl, rfl, h0, h1, h2, h3, q⟩ := h
  obtain ⟨t, rfl⟩ := rx
  obtain ⟨t2, rfl⟩ := ry
  have hm : z.length * k.toNat ≤ 1000 * 1000 := Nat.mul_le_mul h3 (by omega)
  refine P.mul_str ?_ (fun a b => ?_) (fun a b => ?_) ?_
  · rw [decide_eq_false (by omega), decide_eq_false (by omega)]
    rfl
  · intro c
    have : (1000 : Int) ≤ (2 ^ 63 - 1) / k := by
      rw [Int.le_ediv_iff_mul_le (by omega)]
      omega
    omega
  · unfold Builtin.Str.tooLong
    have e : (1000 * 1000 : Nat) ≤ sizeLine := by decide
    first | exact decide_eq_false (by omega) | (simp; omega)
  · by_cases c : k < 1
    · have e : k = 0 := by omega
      subst e
      rw [if_pos (by decide)]
      exact ⟨by decide, .str _, H, I.tok _, ⟨_, rfl⟩, q⟩
    · rw [if_neg c]
      by_cases c2 : (k == 1 || z.length == 0) = true
      · have e : k = 1 := by
          simp only [Bool.or_eq_true, beq_iff_eq] at c2
          omega
        subst e
        rw [if_pos c2]
        have ez : repS z (1 : Int).toNat = z := by
          show (⟨#[] ++ z.cps⟩ : Str) = z
          rw [Array.empty_append]
        rw [ez] at q
        exact ⟨.str z, H, I, ⟨t, rfl⟩, q⟩
      · rw [if_neg c2]
        refine ⟨?_, .str _, H, I.tok _, ⟨_, rfl⟩, q⟩
        have len : ∀ (n : Nat) (acc : Array Nat), ((List.replicate n z.cps).foldl (· ++ ·) acc).size = acc.size + n * z.cps.size := by
          intro n
          induction n with
          | zero => intro acc; simp
          | succ n ih =>
            intro acc
            rw [List.replicate_succ, List.foldl_cons, ih, Array.size_append, Nat.add_mul]
            omega
        show ((List.replicate k.toNat z.cps).foldl (· ++ ·) #[]).size ≤ sizeLine
        rw [len]
        have e : (1000 * 1000 : Nat) ≤ sizeLine := by decide
        have e2 : k.toNat * z.cps.size = z.length * k.toNat := Nat.mul_comm ..
        simp
        omega
end
/-! ### data of texts -/
def dStrs (ws : List Str) : List PyData := ws.map PyData.str
theorem dp_strs {K : PySem.W.Frag} {H : Hp} : ∀ ws : List Str, DpAll K H (ws.map V.str) (dStrs ws)
  | [] => .nil
  | w :: ws => .cons (.str w) (dp_strs ws)
theorem eqv_strs : ∀ ws zs : List Str, PyData.eqvAll (dStrs ws) (dStrs zs) = decide (ws = zs)
  | [], [] => by simp [dStrs, PyData.eqvAll]
  | [], z :: zs => by simp [dStrs, PyData.eqvAll]
  | w :: ws, [] => by simp [dStrs, PyData.eqvAll]
  | w :: ws, z :: zs => by
    have ih := eqv_strs ws zs
    unfold dStrs at ih
    show (PyData.eqv (.str w) (.str z) && PyData.eqvAll (ws.map PyData.str) (zs.map PyData.str)) = _
    rw [ih]
    show ((w == z) && _) = _
    rw [Bool.eq_iff_iff]
    simp
def okS (ws : List Str) : Bool := ws.all fun w => PyData.strOk w
theorem lay_strs : ∀ {ws : List Str}, okS ws = true → PyData.canLayAll0 (dStrs ws) = true
  | [], _ => rfl
  | w :: ws, h => by
    have h' : PyData.strOk w = true ∧ okS ws = true := by simpa [okS] using h
    show (PyData.canLay0 (.str w) && PyData.canLayAll0 (dStrs ws)) = true
    rw [lay_strs h'.2, Bool.and_true]
    simpa only [PyData.canLay0] using h'.1
theorem depth_strs : ∀ ws : List Str, PyData.depthAll (dStrs ws) = 0
  | [] => rfl
  | w :: ws => by
    show max (PyData.depth (.str w)) (PyData.depthAll (dStrs ws)) = 0
    rw [depth_strs ws]
    simp only [PyData.depth]
    rfl
theorem shapedL {ws : List Str} (h : okS ws = true) : SeqAt.shaped (.list (dStrs ws)) = true := by
  have e1 : PyData.canLay0 (.list (dStrs ws)) = true := by simpa only [PyData.canLay0] using lay_strs h
  have e2 : PyData.depth (.list (dStrs ws)) = 1 := by
    have e := depth_strs ws
    simp only [PyData.depth]
    omega
  unfold SeqAt.shaped
  rw [e1, decide_eq_true (by omega)]
  rfl
theorem shapedT {ws : List Str} (h : okS ws = true) : SeqAt.shaped (.tuple (dStrs ws)) = true := by
  have e1 : PyData.canLay0 (.tuple (dStrs ws)) = true := by simpa only [PyData.canLay0] using lay_strs h
  have e2 : PyData.depth (.tuple (dStrs ws)) = 1 := by
    have e := depth_strs ws
    simp only [PyData.depth]
    omega
  unfold SeqAt.shaped
  rw [e1, decide_eq_true (by omega)]
  rfl
section
variable {K : PySem.W.Frag} {H H1 : Hp} {Q : VK} {a b : Addr} {ws zs : List Str}
theorem rd_eqLs (ha : SqL K H a (ws.map V.str)) (hb : SqL K H b (zs.map V.str)) (h1 : okS ws = true) (h2 : okS zs = true) (h : Q (.bl (decide (ws = zs))) H) : rEqD K (.ref a) (.ref b) H Q :=
  ⟨_, _, .lst ha (dp_strs ws), .lst hb (dp_strs zs), shapedL h1, shapedL h2, by simp only [PyData.eqv]; rw [eqv_strs]; exact h⟩
theorem rd_neLs (ha : SqL K H a (ws.map V.str)) (hb : SqL K H b (zs.map V.str)) (h1 : okS ws = true) (h2 : okS zs = true) (h : Q (.bl (!decide (ws = zs))) H) : rNeD K (.ref a) (.ref b) H Q :=
  ⟨_, _, .lst ha (dp_strs ws), .lst hb (dp_strs zs), shapedL h1, shapedL h2, by simp only [PyData.eqv]; rw [eqv_strs]; exact h⟩
theorem rd_eqTs (ha : SqT K H a (ws.map V.str)) (hb : SqT K H b (zs.map V.str)) (h1 : okS ws = true) (h2 : okS zs = true) (h : Q (.bl (decide (ws = zs))) H) : rEqD K (.ref a) (.ref b) H Q :=
  ⟨_, _, .tup ha (dp_strs ws), .tup hb (dp_strs zs), shapedT h1, shapedT h2, by simp only [PyData.eqv]; rw [eqv_strs]; exact h⟩
theorem rd_neTs (ha : SqT K H a (ws.map V.str)) (hb : SqT K H b (zs.map V.str)) (h1 : okS ws = true) (h2 : okS zs = true) (h : Q (.bl (!decide (ws = zs))) H) : rNeD K (.ref a) (.ref b) H Q :=
  ⟨_, _, .tup ha (dp_strs ws), .tup hb (dp_strs zs), shapedT h1, shapedT h2, by simp only [PyData.eqv]; rw [eqv_strs]; exact h⟩
theorem rd_popAt {l : Addr} {xs : List V} {i : Int} {y : V} (hl : H l = some (.lst xs)) (h0 : 0 ≤ i) (h1 : i < (xs.length : Int)) (hz : xs.length ≤ 1000) (hy : xs[i.toNat]? = some y) (h : Q y (upd H l (.lst (xs.eraseIdx i.toNat)))) : rPopAt (.ref l) [.int i] H Q := by
  refine ⟨l, xs, i, i.toNat, y, rfl, rfl, hl, by omega, by omega, ?_, hy, h⟩
  unfold seqIndex?
  simp only
  rw [if_neg (show ¬ i < 0 by omega)]
  rw [if_pos]
  simp only [Bool.and_eq_true, decide_eq_true_eq]
  exact ⟨h0, h1⟩
end
theorem fz_strs (ws : List Str) : fz (.lst (ws.map V.str)) = true := by
  cases ws with
  | nil => rfl
  | cons w ws => rfl
/-! what calls answer, by the given part -/
abbrev rLenK (K : PySem.W.Frag) : List V → Hp → VK → Prop := fun xs H Q => ∃ p ys, xs = [V.ref p] ∧ (SqL K H p ys ∨ SqT K H p ys) ∧ Q (.int ys.length) H
abbrev rListK (K : PySem.W.Frag) : List V → Hp → VK → Prop := fun xs H Q => ∃ p ys, xs = [V.ref p] ∧ (SqL K H p ys ∨ SqT K H p ys) ∧ ∀ l, H l = none → Q (.ref l) (upd H l (.lst ys))
abbrev rTupleK (K : PySem.W.Frag) : List V → Hp → VK → Prop := fun xs H Q => ∃ p ys, xs = [V.ref p] ∧ ((SqL K H p ys ∧ ∀ l, H l = none → Q (.ref l) (upd H l (.tup ys))) ∨ (SqT K H p ys ∧ Q (.ref p) H))
/-! more steps -/
section
variable {D : Ends} {σ : St} {H : Hp} {Q : VK} {ta te : TE} {K : PySem.W.Frag} {x : V}
theorem rd_sl {r : V → Option Int → Option Int → Hp → VK → Prop} {tl th : TO} (h : te σ H fun x H1 => tl σ H1 fun l H2 => th σ H2 fun u H3 => r x l u H3 Q) : tSl r te tl th σ H Q := h
theorem rd_nopart {P : Option Int → Hp → Prop} (h : P none H) : tNoPart σ H P := h
theorem rd_part {P : Option Int → Hp → Prop} (h : te σ H fun x H1 => ∃ i, x = .int i ∧ P (some i) H1) : tPart te σ H P := h
theorem rd_partv {m : Int} {P : Int → Prop} (h : P m) : ∃ i, V.int m = .int i ∧ P i := ⟨m, rfl, h⟩
theorem rd_slS {z : Str} {lo hi : Option Int} (hz : z.length ≤ sizeLine) (h : Q (.str (cutS z lo hi)) H) : rSlS (.str z) lo hi H Q := ⟨z, rfl, hz, h⟩
theorem rd_slL {a : Addr} {xs : List V} {lo hi : Option Int} (hs : SqL K H a xs) (h : ∀ p, H p = none → Q (.ref p) (upd H p (.lst (cutV xs lo hi)))) : rSlL K (.ref a) lo hi H Q := ⟨a, xs, rfl, hs, h⟩
theorem rd_adds {a b : Str} {P : Str → Str → Prop} (hz : a.length + b.length ≤ sizeLine) (h : P a b) : ∃ i j, V.str a = .str i ∧ V.str b = .str j ∧ i.length + j.length ≤ sizeLine ∧ P i j := ⟨a, b, rfl, rfl, hz, h⟩
theorem rd_m0 {r : V → List V → Hp → VK → Prop} (h : ta σ H fun x H1 => (∃ a, x = .str a) ∧ r x [] H1 Q) : tM0 r ta σ H Q := h
theorem rd_m1 {r : V → List V → Hp → VK → Prop} (h : ta σ H fun x H1 => (∃ a, x = .str a) ∧ te σ H1 fun y H2 => r x [y] H2 Q) : tM1 r ta te σ H Q := h
theorem rd_ms {z : Str} {P : Prop} (h : P) : (∃ a, V.str z = .str a) ∧ P := ⟨⟨z, rfl⟩, h⟩
theorem rd_joinL {sep : Str} {p : Addr} {ys : List Str} {P : Str → List Str → Prop} (hs : SqL K H p (ys.map V.str)) (hz : (ys.map (·.length)).sum + ys.length * sep.length ≤ 16777216) (h : P sep ys) :
    ∃ a q, ∃ zs : List Str, V.str sep = .str a ∧ [V.ref p] = [V.ref q] ∧ (SqL K H q (zs.map V.str) ∨ SqT K H q (zs.map V.str)) ∧ (zs.map (·.length)).sum + zs.length * a.length ≤ 16777216 ∧ P a zs := ⟨sep, p, ys, rfl, rfl, .inl hs, hz, h⟩
theorem rd_joinT {sep : Str} {p : Addr} {ys : List Str} {P : Str → List Str → Prop} (hs : SqT K H p (ys.map V.str)) (hz : (ys.map (·.length)).sum + ys.length * sep.length ≤ 16777216) (h : P sep ys) :
    ∃ a q, ∃ zs : List Str, V.str sep = .str a ∧ [V.ref p] = [V.ref q] ∧ (SqL K H q (zs.map V.str) ∨ SqT K H q (zs.map V.str)) ∧ (zs.map (·.length)).sum + zs.length * a.length ≤ 16777216 ∧ P a zs := ⟨sep, p, ys, rfl, rfl, .inr hs, hz, h⟩
theorem rd_dg (h : ta σ H fun x H1 => te σ H1 fun y H2 => ∃ a v, x = .ref a ∧ DGet H2 a y (some v) ∧ Q v H2) : tDGet ta te σ H Q := h
theorem rd_dgv {a : Addr} {kvs : List (Key × V)} {k : Key} {y v : V} {P : V → Prop} (hd : H a = some (.dK kvs)) (hy : y = kV k) (hv : valV kvs k = some v) (h : P v) : ∃ b v, V.ref a = .ref b ∧ DGet H b y (some v) ∧ P v := ⟨a, v, rfl, by rw [hy, ← hv]; exact DGet.k hd, h⟩
/-- a for over J -/
def ForI (J : It) (g : TG) (tb : TS) (D : Ends) (σ : St) (H : Hp) : Prop := ∃ W : Nat → Nat → St → Hp → Prop, (∃ m, W 0 m σ H) ∧ ∀ i m σ H, W i m σ H →
    (J.stop i H ∧ D.nx σ H) ∨ (J.go i H ∧ ∃ N : St → Hp → Prop, (∀ σ' H', N σ' H' → ∃ m', m' < m ∧ W (i + 1) m' σ' H') ∧ ∀ x H', J.yld i H x H' → g x σ H' fun σ2 H2 => tb { D with nx := N, ct := N, bk := D.nx } σ2 H2)
theorem rd_for {wi : TI} {g : TG} {tb : TS} (h : wi σ H fun J H1 => ForI J g tb D σ H1) : tFor wi g tb D σ H := h
theorem forL {a : Addr} {xs : List V} {g : TG} {tb : TS} (Pv : Nat → St → Hp → Prop) (h0 : Pv 0 σ H) (hl : ∀ i σ H, i ≤ xs.length → Pv i σ H → SqL K H a xs)
    (hs : ∀ i x σ H, xs[i]? = some x → Pv i σ H → g x σ H fun σ2 H2 => tb { D with nx := Pv (i + 1), ct := Pv (i + 1), bk := D.nx } σ2 H2) (hd : ∀ σ H, Pv xs.length σ H → D.nx σ H) : ForI (Itl K a) g tb D σ H := for_list Pv h0 hl hs hd
theorem forT {a : Addr} {xs : List V} {g : TG} {tb : TS} (Pv : Nat → St → Hp → Prop) (h0 : Pv 0 σ H) (hl : ∀ i σ H, i ≤ xs.length → Pv i σ H → SqT K H a xs)
    (hs : ∀ i x σ H, xs[i]? = some x → Pv i σ H → g x σ H fun σ2 H2 => tb { D with nx := Pv (i + 1), ct := Pv (i + 1), bk := D.nx } σ2 H2) (hd : ∀ σ H, Pv xs.length σ H → D.nx σ H) : ForI (Itt K a) g tb D σ H := for_tup Pv h0 hl hs hd
theorem forR {n : Nat} {g : TG} {tb : TS} (Pv : Nat → St → Hp → Prop) (h0 : Pv 0 σ H)
    (hs : ∀ i σ H, i < n → Pv i σ H → g (.int (i : Nat)) σ H fun σ2 H2 => tb { D with nx := Pv (i + 1), ct := Pv (i + 1), bk := D.nx } σ2 H2) (hd : ∀ σ H, Pv n σ H → D.nx σ H) : ForI (Itr 0 n) g tb D σ H :=
  for_range Pv h0 (fun i σ H hi p => by rw [Int.zero_add]; exact hs i σ H hi p) hd
theorem rd_iL {R : It → Hp → Prop} (h : te σ H fun x H1 => ∃ a, x = .ref a ∧ (∃ xs, SqL K H1 a xs) ∧ R (Itl K a) H1) : iList K te σ H R := h
theorem rd_iT {R : It → Hp → Prop} (h : te σ H fun x H1 => ∃ a, x = .ref a ∧ (∃ xs, SqT K H1 a xs) ∧ R (Itt K a) H1) : iTup K te σ H R := h
theorem rd_iLv {a : Addr} {xs : List V} {P : Addr → Prop} (hs : SqL K H a xs) (h : P a) : ∃ b, V.ref a = .ref b ∧ (∃ xs, SqL K H b xs) ∧ P b := ⟨a, rfl, ⟨xs, hs⟩, h⟩
theorem rd_iTv {a : Addr} {xs : List V} {P : Addr → Prop} (hs : SqT K H a xs) (h : P a) : ∃ b, V.ref a = .ref b ∧ (∃ xs, SqT K H b xs) ∧ P b := ⟨a, rfl, ⟨xs, hs⟩, h⟩
theorem rd_ir1 {tA : TA} {R : It → Hp → Prop} (h : tA σ H fun vs H1 => ∃ j : Int, vs = [.int j] ∧ -(2 ^ 62) ≤ j ∧ j < 2 ^ 62 ∧ R (Itr 0 j.toNat) H1) : iRng1 tA σ H R := h
theorem rd_ir1v {j : Int} {P : Int → Prop} (h0 : 0 ≤ j) (h1 : j < 1000000) (h : P j) : ∃ i : Int, [V.int j] = [.int i] ∧ -(2 ^ 62) ≤ i ∧ i < 2 ^ 62 ∧ P i := ⟨j, rfl, by omega, by omega, h⟩
end
theorem L_tttt : ("tttt" : Str).length = 4 := by decide +kernel
theorem L_v : ("v" : Str).length = 1 := by decide +kernel
theorem ite_d {c : Bool} {A B : Prop} (h : c = true) (k : A) : if c = true then A else B := by rw [h]; exact k
theorem ite_e {c : Bool} {A B : Prop} (h : c = false) (k : B) : if c = true then A else B := by rw [h]; exact k
theorem rd_make {C : Addr} {sp : Sp} {dvs : List V} {E : XK} {tA : TA} {σ : St} {H : Hp} {Q : VK} (h : tA σ H fun vs H1 => ∀ x dx, H1 x = none → H1 dx = none → dx ≠ x → sp (.ref x :: (vs ++ dvs)) (upd (upd H1 dx (.own x)) x (.ins C dx [])) (fun v H2 => v = .non ∧ Q (.ref x) H2) E) : tMake C sp dvs E tA σ H Q := h
theorem make_same {H H' : Hp} {x dx : Addr} {o u : HO} (hx : H x = none) (hd : H dx = none) (b : But x (upd (upd H dx o) x u) H') : Same H H' := fun a v e => b a v (ne_of_none e hx) (by rw [upd_ne (ne_of_none e hx), upd_ne (ne_of_none e hd)]; exact e)
end L2
namespace L2
open PySem PySem.Spec PyProof.Rows
/-! ### promises under no repr -/
/-- as FnOk, at a frame that is under no repr -/
structure FnG (P : Program) (w : World) (K : PySem.W.Frag) (mg : Str → Option Value) (base : Heap) (CX : CXT) (k : Nat) (f : Addr) (fd : FuncData) (ps : List Str) (sp : Sp) : Prop where
  len : ∀ vs H Q E, sp vs H Q E → vs.length = ps.length
  run : ∀ (A : Around) (outer : List Env) (s : Shared) (H : Hp) (args : Args) (us : List Value) (vs : List V) (Q : VK) (E : XK), A.guards = some [] → Room k A → Env0 P w K mg base A outer s H → BindsTo s fd args (ps.zip us) → Vals vs us → sp vs H Q E →
    codeAny (model P w) A (.call (.ref f) args) (CR CX outer P w H s Q E) s
section
variable {P : Program} {w : World} {K : PySem.W.Frag} {mg : Str → Option Value} {base : Heap}
/-- one body, at a frame that is given -/
theorem run_at {CX : CXT} {A : Around} {outer : List Env} {k : Nat} {f : Addr} {name qual : Str} {params : Arguments} {body : List Stmt} {scope : Scope} {dV kV doc pm cdv ct oc : Value} {an od : Option Addr} {osl : Array (Option Value)} {N ps : List Str} {s : Shared} {H : Hp} {args : Args} {us : List Value} {vs : List V} {Q : VK} {E : XK} {t : TS}
    (lk : K.lookup f = some ⟨oc, od, .func (PySem.W.fnOf name qual params body scope dV kV doc pm an cdv ct), osl⟩) (hcd : PySem.W.codeIn K cdv qual = true) (S : FnScope N ps scope) (hl : vs.length = ps.length) (hr : Room (k + 1) A)
    (e0 : Env0 P w K mg base A outer s H) (hb : BindsTo s (PySem.W.fnOf name qual params body scope dV kV doc pm an cdv ct) args (ps.zip us)) (r : Vals vs us)
    (ht : PSs (cxOf CX P w K mg base N qual scope f cdv A outer s H E) body t) (hq : t { nx := fun _ H' => Q .non H', rt := Q } (start N vs) H) : codeAny (model P w) A (.call (.ref f) args) (CR CX outer P w H s Q E) s := by
  have kx : K.In s.heap := e0.mod.kin.keeps fun b o e => (e0.bs b o e).1
  have nl : s.heap.NoLimit := e0.mod.nolimit.keeps fun b o e => (e0.bs b o e).1
  refine codeAny_call_function hr.depth (kx _ _ lk) rfl S.co S.gen rfl (PySem.W.codeRec_of kx hcd) (hb _ _ _ _ ?_)
  refine wpAny_newFunctionEnv_cells S.kind ?_ fun env he s1 x => ?_
  · rintro ⟨n, v⟩ hy
    exact (S.par n (List.of_mem_zip hy).1).imp _root_.id fun q => ⟨q, PySem.W.cellsFrom_some _ _ _ (.inl q)⟩
  · subst he
    refine ⟨nl.keeps x.toInCall.keep, codeAny_func (wpAny_mono (ht.run [] s1 (start N vs) H _ (inv_start S hr.hd e0 hl r x) hq) ?_ fun _ _ z => z)⟩
    rintro (_ | _ | _ | u) s' hs
    · obtain ⟨σ', H', J, q⟩ := hs
      exact ⟨V.non, H', J.os, J.bare, J.base, J.hok, rfl, q⟩
    · exact hs.elim fun _ z => z.elim fun _ z => (show False from z.2).elim
    · exact hs.elim fun _ z => z.elim fun _ z => (show False from z.2).elim
    · obtain ⟨v, σ', H', J, rv, q⟩ := hs
      exact ⟨v, H', J.os, J.bare, J.base, J.hok, rv, q⟩
theorem Fun.okG {x qual : Str} {st : Stmt} {f : Addr} {fd : FuncData} {N ps : List Str} {k : Nat} {sp : Sp} (F : Fun K x qual st f fd) (S : FnScope N ps (defScope st)) (len : ∀ vs H Q E, sp vs H Q E → vs.length = ps.length)
    (hbody : ∀ (cdv : Value) (A : Around) (outer : List Env) (s : Shared) (H : Hp) (vs : List V) (Q : VK) (E : XK), Room k (A.deeper (envOfC qual (defScope st) s.heap.objs.size f cdv)) → (A.deeper (envOfC qual (defScope st) s.heap.objs.size f cdv)).guards = some [] → sp vs H Q E →
      ∃ t, PSs (cxOf CX0 P w K mg base N qual (defScope st) f cdv A outer s H E).nox (defBody st) t ∧ t { nx := fun _ H' => Q .non H', rt := Q } (start N vs) H) : FnG P w K mg base CX0 (k + 1) f fd ps sp := by
  obtain ⟨oc, od, kV, doc, pm, an, cdv, ct, osl, rfl, lk, hcd⟩ := F.ex
  refine ⟨len, fun A outer s H args us vs Q E hg hr e0 hb r hsp => ?_⟩
  obtain ⟨t, h, q⟩ := hbody cdv A outer s H vs Q E (hr.deeper _) (by exact hg) hsp
  exact run_at lk hcd S (len _ _ _ _ hsp) hr e0 hb r h.nox q
/-! ### the head, at the caller's own frame -/
section
variable {mb : Str → Option Value} {CX : CXT} {fa a : Addr} {s₁ : Shared} {vs : List Value} {ns : List Int}
/-- from a heap in which nothing but the script is tracked -/
theorem head_core (KX : K.In s₁.heap) (hns : s₁.heap.Ns mainGlobals mg) (hb : s₁.heap.Ns builtinsNs mb) (hbb : ∀ x : Str, x ≠ "__name__" → mb x = bootBuiltins x) (hlim : s₁.heap.NoLimit) (hg : s₁.gens = #[])
    (ha : s₁.heap.get? a = some { cls := .type "list", data := .seq vs.toArray }) {H : Hp} (hO : Only H) (hok : HOk P w H s₁.heap) (hA : ∀ b, H b ≠ none → b = a) (hK : H a ≠ none → K.lookup a = none)
    (run : ∀ base : Heap, Env0 P w K mg base callerA [] s₁ H → codeAny (model P w) callerA (.call (.ref fa) ⟨[.ref a], []⟩) (CR CX [] P w H s₁ (fun v _ => v = .bl true) fun _ _ _ => False) s₁)
    (hCX : ∀ e s', CX [] H s₁ (fun _ _ _ => False) e s' → False) :
    codeAny (model P w) callerA (.call (.ref fa) ⟨[.ref a], []⟩) (fun r s' => r = .ok (.ret (.bool true)) ∧ OldK s₁.heap s'.heap ∧ s'.os = s₁.os ∧ AllBare s'.gens) s₁ := by
  have free : ∀ {b : Addr}, b ≠ a → H b = none := fun {b} n => Classical.byContradiction fun q => n (hA b q)
  have dict : ∀ {b : Addr} {m : Str → Option Value}, s₁.heap.Ns b m → (hidT s₁.heap H).Ns b m := fun {b m} ⟨o, es, ep, e, d, r⟩ => ⟨o, es, ep, hidT_get e (free fun q => by
    rw [q, ha] at e
    cases e
    cases (show Data.seq vs.toArray _ = Data.dict es ep from d)), d, r⟩
  have kin : K.In (hidT s₁.heap H) := fun b o e => hidT_get (KX b o e) (by
    by_cases q : b = a
    · subst q
      exact Classical.byContradiction fun z => by rw [hK z] at e; cases e
    · exact free q)
  refine codeAny_mono (run (hidT s₁.heap H) ⟨rfl, ⟨kin, dict hns, ⟨mb, dict hb, hbb⟩, hlim.elim fun mc z => ⟨mc, dict z.1, z.2⟩⟩, fun b o e => of_hidT e, Nat.le_of_eq (hidT_size _ _), trivial, fun b z => absurd (show b ∈ ([] : List Addr) from z) (by simp), hok, .of_eq hg⟩) ?_
  rintro (e | _ | _ | _ | u) s' h
  · exact (hCX e s' h).elim
  · exact False.elim h
  · exact False.elim h
  · exact False.elim h
  · obtain ⟨v, H', os, bare, un, hok', r', q⟩ := h
    cases (show v = V.bl true from q)
    cases (show u = Value.bool true from r')
    refine ⟨rfl, OldK.of_keep fun b o e => ?_, os, bare⟩
    rcases hO b with z | ⟨ob, xs, z⟩
    · exact un.keep b o e z (fun y => absurd (show b ∈ ([] : List Addr) from y) (by simp)) (by simp)
    · have e1 := (hok b _ z).1
      rw [e] at e1
      cases e1
      exact (hok' b _ (un.frzs b _ _ z)).1
theorem head_call (KX : K.In s₁.heap) (hns : s₁.heap.Ns mainGlobals mg) (hb : s₁.heap.Ns builtinsNs mb) (hbb : ∀ x : Str, x ≠ "__name__" → mb x = bootBuiltins x) (hlim : s₁.heap.NoLimit) (hg : s₁.gens = #[])
    (ha : s₁.heap.get? a = some { cls := .type "list", data := .seq vs.toArray }) (hi : IntsAre vs ns) (hl : ns.length ≤ sizeLine)
    (run : ∀ (H : Hp) (base : Heap), Only H → SqL K H a (ns.map V.int) → Env0 P w K mg base callerA [] s₁ H → codeAny (model P w) callerA (.call (.ref fa) ⟨[.ref a], []⟩) (CR CX [] P w H s₁ (fun v _ => v = .bl true) fun _ _ _ => False) s₁)
    (hCX : ∀ H e s', CX [] H s₁ (fun _ _ _ => False) e s' → False) :
    codeAny (model P w) callerA (.call (.ref fa) ⟨[.ref a], []⟩) (fun r s' => r = .ok (.ret (.bool true)) ∧ OldK s₁.heap s'.heap ∧ s'.os = s₁.os ∧ AllBare s'.gens) s₁ := by
  have rv := vals_ints hi
  cases hk : K.lookup a with
  | some o =>
    have e := KX a o hk
    rw [ha] at e
    cases e
    have hO : Only (fun _ => none) := fun _ => .inl rfl
    exact head_core KX hns hb hbb hlim hg ha hO (fun _ _ z => by cases z) (fun _ z => absurd rfl z) (fun z => absurd rfl z)
      (fun base e0 => run _ base hO (.inr ⟨_, vs.toArray, _, hk, rfl, rfl, rfl, by rw [List.size_toArray, hi.length]; exact hl, by simpa using rv⟩) e0) fun e s' => hCX _ e s'
  | none =>
    have hO : Only (fun b => if b = a then some (.frz { cls := .type "list", data := .seq vs.toArray } (.lst (ns.map V.int))) else none) := fun b => by
      by_cases q : b = a
      · exact .inr ⟨_, _, if_pos q⟩
      · exact .inl (if_neg q)
    refine head_core KX hns hb hbb hlim hg ha hO (fun b u z => ?_) (fun b z => ?_) (fun _ => hk) (fun base e0 => run _ base hO (.inl (.inr ⟨_, if_pos rfl⟩)) e0) fun e s' => hCX _ e s'
    · by_cases q : b = a
      · cases (if_pos q).symm.trans z
        subst q
        exact ⟨ha, by rw [List.length_map]; exact hl, vs, _, rv, ha⟩
      · cases (if_neg q).symm.trans z
    · exact Classical.byContradiction fun q => z (if_neg q)
end
/-- the goal that k_head leaves, from a promise under no repr -/
theorem walk_ofG {l : PySem.W.OpenLaw} {n k : Nat} {q : Program} {loose : List Str} {XP : (Str → Option Value) → Heap → Prop} {YP : World → Heap → Prop} {d : DefRec} {K : Params → PySem.W.Frag} {CX : CXT} {sp : PySem.W.Frag → Sp} {x : Str}
    (hn : l.most = some n) (hn2 : n ≤ sizeLine) (hdf : d.params.defaults = []) (hr : Room k callerA) (hY : ∀ (w : World) (h : Heap), YP w h → (K w.params).In h)
    (F : ∀ (w : World) (mg : Str → Option Value) (fa : Addr) (h : Heap), (K w.params).In h → h.Ns mainGlobals mg → mg d.name = some (.ref fa) →
      ∃ fd : FuncData, (∀ (s : Shared) (u : Value), BindsTo s fd ⟨[u], []⟩ [(x, u)]) ∧ ∀ base : Heap, FnG l.prog w (K w.params) mg base CX k fa fd [x] (sp (K w.params)))
    (hsp : ∀ (K : PySem.W.Frag) (H : Hp) (a : Addr) (ns : List Int), ns.length ≤ n → Only H → SqL K H a (ns.map V.int) → sp K [.ref a] H (fun v _ => v = .bl true) fun _ _ _ => False)
    (hCX : ∀ (H : Hp) (s : Shared) (e : Value) (s' : Shared), CX [] H s (fun _ _ _ => False) e s' → False) :
    PySem.W.WalkO q loose XP YP l.row.toRowW d [] (fun f vs => PySem.call f vs) := by
  refine Att.attach_call hn hdf fun w s₀ s₁ mg mb fa o pm cd doc a vs ns G Y ho hd hcd hmg hobj hints hlen hg => ?_
  obtain ⟨fd, hb, hF⟩ := F w mg fa _ (hY w _ Y) G.T.g hmg
  refine head_call (hY w _ Y) G.T.g G.T.b G.T.builtins G.T.nolimit hg hobj hints (Nat.le_trans hlen hn2) (fun H base hO hS e0 => ?_) fun H e s' => hCX H s₁ e s'
  exact (hF base).run callerA [] s₁ H ⟨[.ref a], []⟩ [.ref a] [.ref a] _ _ rfl hr e0 (hb s₁ (.ref a)) (.cons rfl .nil) (hsp _ H a ns hlen hO hS)
end
end L2
open PySem L2 TL
local macro_rules | `(tactic| walk_at "lk") => `(tactic| first
  | assumption
  | exact upd_same
  | (refine exget (by assumption) ?_; walk_at "lk")
  | (refine bxget (by assumption) ?_ (by rfl); walk_at "lk")
  | (refine kpget (by assumption) ?_ (by rfl); walk_at "lk"))
local macro_rules | `(tactic| walk_at "sc") => `(tactic| first
  | exact Or.inr ⟨by decide, by decide⟩
  | exact Or.inl ⟨by decide, by decide⟩
  | (dsimp only; omega)
  | omega
  | exact ⟨by omega, by omega⟩
  | exact ⟨by decide, by decide, by decide⟩)
local macro_rules | `(tactic| walk_at "sz") => `(tactic| first | decide | (simp only [List.length_cons, List.length_nil]; decide) | (simp only [List.length_cons, List.length_nil]; omega))
local macro_rules | `(tactic| walk_at "sqL") => `(tactic| first | assumption | exact SqF.l (by assumption) | exact SqL.of (by walk_at "lk"))
local macro_rules | `(tactic| walk_at "sqT") => `(tactic| first | assumption | exact SqT.of (by walk_at "lk"))
local macro_rules | `(tactic| walk_at "szs") => `(tactic| first | exact sz1000 (by omega) | (refine sz1000 ?_; simp only [s_len, L_empty, L_sp, L_begin, L_send, L_back, L_end]; omega))
local macro_rules | `(tactic| walk_at "l1000") => `(tactic| first
  | exact (show (0 : Nat) < 1000 by decide)
  | exact put_lt (n := 999) (show (0 : Nat) < 999 by decide)
  | exact put_lt (n := 999) (put_lt (n := 998) (show (0 : Nat) < 998 by decide))
  | exact put_lt (n := 999) (put_lt (n := 998) (put_lt (n := 997) (show (0 : Nat) < 997 by decide)))
  | exact put_lt (n := 999) (put_lt (n := 998) (put_lt (n := 997) (put_lt (n := 996) (show (0 : Nat) < 996 by decide)))))
local macro_rules | `(tactic| walk_at "rd1") => `(tactic| first
  | with_reducible refine rd_seq ?_ | with_reducible refine rd_next ?_ | with_reducible refine rd_drop ?_ | with_reducible refine rd_ret ?_ | with_reducible refine rd_retN ?_
  | with_reducible refine rd_ifs ?_ | with_reducible refine rd_asg ?_ | with_reducible refine rd_gname ?_ | with_reducible refine rd_gsub ?_
  | with_reducible refine rd_par ?_ | with_reducible refine rd_par3 ?_ | with_reducible refine rd_vs2 ?_ | with_reducible refine rd_vs3 ?_
  | ((with_reducible refine' rd_var ?lk1 ?_); (case lk1 => exact rfl)) | with_reducible refine rd_c ?_ | with_reducible refine rd_op ?_ | with_reducible refine rd_un ?_ | with_reducible refine rd_test ?_ | with_reducible refine rd_b ?_ | with_reducible refine rd_bl ?_
  | with_reducible refine rd_and ?_ | with_reducible refine rd_or ?_ | with_reducible refine rd_not ?_ | with_reducible refine rd_andV ?_ | with_reducible refine rd_orV ?_ | with_reducible refine rd_notV ?_ | with_reducible refine rd_ifE ?_ | with_reducible refine rd_chain ?_
  | with_reducible refine iteT ?_ | with_reducible refine iteF ?_ | with_reducible refine iteNT ?_ | with_reducible refine iteNF ?_
  | with_reducible refine rd_nil ?_ | with_reducible refine rd_cons ?_ | with_reducible refine rd_yes ?_ | with_reducible refine rd_cb ?_ | with_reducible refine rd_call ?_ | with_reducible refine rd_tup ?_ | with_reducible refine rd_lst ?_
  | with_reducible refine rd_I0 ?_ | with_reducible refine rd_U ?_ | ((with_reducible refine' rd_I ?lk1 ?_); (case lk1 => walk_at "sc")) | ((with_reducible refine' rd_eq ?lk1 ?_); (case lk1 => exact rfl)) | ((with_reducible refine' rd_ne ?lk1 ?_); (case lk1 => exact rfl))
  | ((with_reducible refine' rd_ixL ?lk1 ?lk2 ?_); (case lk1 => walk_at "sqL"); (case lk2 => exact rfl))
  | ((with_reducible refine' rd_ixT ?lk1 ?lk2 ?_); (case lk1 => walk_at "sqT"); (case lk2 => exact rfl))
  | ((with_reducible refine' rd_sfld2 ?lk1 ?lk2 ?lk3 ?lk4 ?_); (case lk1 => walk_at "lk"); (case lk2 => assumption); (case lk3 => assumption); (case lk4 => walk_at "l1000"))
  | with_reducible refine rd_sfld ?_ | with_reducible refine rd_fld1 ?_
  | with_reducible refine rd_bm ?_ | with_reducible refine rd_bm0 ?_ | with_reducible refine rd_fmt ?_ | with_reducible refine rd_js ?_ | with_reducible refine rd_jsn ?_ | ((with_reducible refine' rd_fmts ?lk1 ?_); (case lk1 => walk_at "szs")) | ((with_reducible refine' rd_jsv ?lk1 ?_); (case lk1 => walk_at "szs")) | with_reducible refine rd_int1 ?_
  | ((with_reducible refine' rd_lenL ?lk1 ?_); (case lk1 => walk_at "sqL")) | ((with_reducible refine' rd_lenT ?lk1 ?_); (case lk1 => walk_at "sqT"))
  | ((with_reducible refine' rd_tyL ?lk1 ?_); (case lk1 => walk_at "sqL"))
  | with_reducible refine rd_gcons ?_ | with_reducible refine rd_gnil ?_ | ((with_reducible refine' rd_gtup ?lk1 ?lk2 ?_); (case lk1 => walk_at "sqT"); (case lk2 => exact rfl))
  | with_reducible refine rd_sl ?_ | with_reducible refine rd_nopart ?_ | with_reducible refine rd_part ?_ | with_reducible refine rd_partv ?_ | with_reducible refine rd_m0 ?_ | with_reducible refine rd_m1 ?_ | with_reducible refine rd_ms ?_ | with_reducible refine rd_dg ?_
  | with_reducible refine rd_for ?_ | with_reducible refine rd_iL ?_ | with_reducible refine rd_iT ?_ | with_reducible refine rd_ir1 ?_
  | ((with_reducible refine' rd_iLv ?lk1 ?_); (case lk1 => walk_at "sqL")) | ((with_reducible refine' rd_iTv ?lk1 ?_); (case lk1 => walk_at "sqT"))
  | with_reducible refine rd_make ?_
  | with_reducible refine rd_x1 ?_ | with_reducible refine ⟨_, _, rfl, ?_⟩
  | ((with_reducible refine' rd_setL ?lk1 ?lk2 ?_); (case lk1 => walk_at "lk"); (case lk2 => exact rfl)))
local macro_rules | `(tactic| walk_at "rd") => `(tactic| repeat (first | ((walk_at "rd1"); (try dsimp only [Bool.not_true, Bool.not_false])) | dsimp only [Bool.not_true, Bool.not_false]))
local macro_rules | `(tactic| walk_at "go") => `(tactic| ((try dsimp only [cxOf, Cx.nox, Cx.wish, cxS]); walk_at "rd"))
local macro_rules | `(tactic| walk_at "lit") => `(tactic| first | (refine ite_d (by decide +kernel) ?_) | (refine ite_e (by decide +kernel) ?_))
local macro_rules | `(tactic| walk_at "rl") => `(tactic| ((walk_at "rd"); repeat ((walk_at "lit"); (walk_at "rd"))))
namespace K
open PySem L2
abbrev PG : Program := PySem.Challenge.pw_wholetraces_k02_rows_made
def topS (i : Nat) : Stmt := PG.main.body.getD i (.Pass ⟨0, 0, 0, 0⟩)
abbrev s_is_name : Stmt := topS 7
theorem sc_is_name : FnScope ["value", "letter"] ["value"] (defScope s_is_name) := ⟨rfl, rfl, rfl, by decide +kernel, rfl, by decide +kernel, by decide +kernel⟩
abbrev s_is_word : Stmt := topS 8
theorem sc_is_word : FnScope ["value", "others"] ["value", "others"] (defScope s_is_word) := ⟨rfl, rfl, rfl, by decide +kernel, rfl, by decide +kernel, by decide +kernel⟩
abbrev s_is_mark : Stmt := topS 9
theorem sc_is_mark : FnScope ["value"] ["value"] (defScope s_is_mark) := ⟨rfl, rfl, rfl, by decide +kernel, rfl, by decide +kernel, by decide +kernel⟩
abbrev s_is_sign : Stmt := topS 10
theorem sc_is_sign : FnScope ["value"] ["value"] (defScope s_is_sign) := ⟨rfl, rfl, rfl, by decide +kernel, rfl, by decide +kernel, by decide +kernel⟩
abbrev s_Row_init : Stmt := inClass (topS 12) 0
theorem sc_Row_init : FnScope ["self", "text"] ["self", "text"] (defScope s_Row_init) := ⟨rfl, rfl, rfl, by decide +kernel, rfl, by decide +kernel, by decide +kernel⟩
abbrev s_Row_str : Stmt := inClass (topS 12) 1
theorem sc_Row_str : FnScope ["self"] ["self"] (defScope s_Row_str) := ⟨rfl, rfl, rfl, by decide +kernel, rfl, by decide +kernel, by decide +kernel⟩
abbrev s_Row_eq : Stmt := inClass (topS 12) 2
theorem sc_Row_eq : FnScope ["self", "other"] ["self", "other"] (defScope s_Row_eq) := ⟨rfl, rfl, rfl, by decide +kernel, rfl, by decide +kernel, by decide +kernel⟩
abbrev s_need : Stmt := topS 13
theorem sc_need : FnScope ["is_right", "word"] ["is_right", "word"] (defScope s_need) := ⟨rfl, rfl, rfl, by decide +kernel, rfl, by decide +kernel, by decide +kernel⟩
abbrev s_Begin_init : Stmt := inClass (topS 14) 0
theorem sc_Begin_init : FnScopeS ["self", "mark", "kind", "mood"] ["self", "mark", "kind", "mood"] (defScope s_Begin_init) := ⟨rfl, rfl, rfl, by decide +kernel, rfl, by decide +kernel, by decide +kernel, by decide +kernel, rfl, rfl⟩
abbrev s_Send_init : Stmt := inClass (topS 15) 0
theorem sc_Send_init : FnScopeS ["self", "mood", "service", "mark"] ["self", "mood", "service", "mark"] (defScope s_Send_init) := ⟨rfl, rfl, rfl, by decide +kernel, rfl, by decide +kernel, by decide +kernel, by decide +kernel, rfl, rfl⟩
abbrev s_Back_init : Stmt := inClass (topS 16) 0
theorem sc_Back_init : FnScopeS ["self", "mood", "service", "sign", "then"] ["self", "mood", "service", "sign", "then"] (defScope s_Back_init) := ⟨rfl, rfl, rfl, by decide +kernel, rfl, by decide +kernel, by decide +kernel, by decide +kernel, rfl, rfl⟩
abbrev s_End_init : Stmt := inClass (topS 17) 0
theorem sc_End_init : FnScopeS ["self", "mood", "outcome", "sign", "part"] ["self", "mood", "outcome", "sign", "part"] (defScope s_End_init) := ⟨rfl, rfl, rfl, by decide +kernel, rfl, by decide +kernel, by decide +kernel, by decide +kernel, rfl, rfl⟩
abbrev s__law_box : Stmt := topS 19
theorem sc__law_box : FnScope ["_law_script", "_law_k", "_law_cell", "_law_seed", "_law_wide"] ["_law_script", "_law_k"] (defScope s__law_box) := ⟨rfl, rfl, rfl, by decide +kernel, rfl, by decide +kernel, by decide +kernel⟩
abbrev s__law_take : Stmt := topS 20
theorem sc__law_take : FnScope ["_law_box_here", "_law_many", "_law_digit", "_law_near"] ["_law_box_here", "_law_many"] (defScope s__law_take) := ⟨rfl, rfl, rfl, by decide +kernel, rfl, by decide +kernel, by decide +kernel⟩
abbrev s__law_pick : Stmt := topS 21
theorem sc__law_pick : FnScope ["_law_box_here", "_law_some"] ["_law_box_here", "_law_some"] (defScope s__law_pick) := ⟨rfl, rfl, rfl, by decide +kernel, rfl, by decide +kernel, by decide +kernel⟩
abbrev s__law_mixed : Stmt := topS 22
theorem sc__law_mixed : FnScope ["_law_box_here", "_law_some", "_law_left", "_law_found"] ["_law_box_here", "_law_some"] (defScope s__law_mixed) := ⟨rfl, rfl, rfl, by decide +kernel, rfl, by decide +kernel, by decide +kernel⟩
abbrev s__law_names : Stmt := topS 23
theorem sc__law_names : FnScope ["_law_box_here", "_law_many", "_law_words_here", "_law_letters", "_law_form", "_law_spot", "_law_k"] ["_law_box_here", "_law_many"] (defScope s__law_names) := ⟨rfl, rfl, rfl, by decide +kernel, rfl, by decide +kernel, by decide +kernel⟩
abbrev s__law_row_text : Stmt := topS 24
theorem sc__law_row_text : FnScope ["_law_row_here"] ["_law_row_here"] (defScope s__law_row_text) := ⟨rfl, rfl, rfl, by decide +kernel, rfl, by decide +kernel, by decide +kernel⟩
abbrev s__law_row : Stmt := topS 25
theorem sc__law_row : FnScope ["_law_row_here"] ["_law_row_here"] (defScope s__law_row) := ⟨rfl, rfl, rfl, by decide +kernel, rfl, by decide +kernel, by decide +kernel⟩
abbrev s__law_words : Stmt := topS 26
theorem sc__law_words : FnScope ["_law_row_here"] ["_law_row_here"] (defScope s__law_words) := ⟨rfl, rfl, rfl, by decide +kernel, rfl, by decide +kernel, by decide +kernel⟩
abbrev s__law_drawn_row : Stmt := topS 27
theorem sc__law_drawn_row : FnScope ["_law_box_here", "_law_sort", "_law_pools", "_law_found", "_law_word", "_law_others", "_law_names_here", "_law_near"] ["_law_box_here", "_law_sort", "_law_pools"] (defScope s__law_drawn_row) := ⟨rfl, rfl, rfl, by decide +kernel, rfl, by decide +kernel, by decide +kernel⟩
abbrev s__law_told : Stmt := topS 28
theorem sc__law_told : FnScope ["_law_made", "_law_sort"] ["_law_made", "_law_sort"] (defScope s__law_told) := ⟨rfl, rfl, rfl, by decide +kernel, rfl, by decide +kernel, by decide +kernel⟩
abbrev s_law : Stmt := topS 29
theorem sc_law : FnScope ["_law_script", "_law_k", "_law_box_here", "_law_names_here", "_law_pools", "_law_rows", "_law_row_here", "_law_made", "_law_other", "_law_word", "_law_sort"] ["_law_script"] (defScope s_law) := ⟨rfl, rfl, rfl, by decide +kernel, rfl, by decide +kernel, by decide +kernel⟩
structure Ad where
  is_name : Addr
  is_name_d : FuncData
  is_word : Addr
  is_word_d : FuncData
  is_mark : Addr
  is_mark_d : FuncData
  is_sign : Addr
  is_sign_d : FuncData
  Row_init : Addr
  Row_init_d : FuncData
  Row_str : Addr
  Row_str_d : FuncData
  Row_eq : Addr
  Row_eq_d : FuncData
  need : Addr
  need_d : FuncData
  Begin_init : Addr
  Begin_init_d : FuncData
  Send_init : Addr
  Send_init_d : FuncData
  Back_init : Addr
  Back_init_d : FuncData
  End_init : Addr
  End_init_d : FuncData
  _law_box : Addr
  _law_box_d : FuncData
  _law_take : Addr
  _law_take_d : FuncData
  _law_pick : Addr
  _law_pick_d : FuncData
  _law_mixed : Addr
  _law_mixed_d : FuncData
  _law_names : Addr
  _law_names_d : FuncData
  _law_row_text : Addr
  _law_row_text_d : FuncData
  _law_row : Addr
  _law_row_d : FuncData
  _law_words : Addr
  _law_words_d : FuncData
  _law_drawn_row : Addr
  _law_drawn_row_d : FuncData
  _law_told : Addr
  _law_told_d : FuncData
  law : Addr
  law_d : FuncData
  C_Row : Addr
  C_Begin : Addr
  C_Send : Addr
  C_Back : Addr
  C_End : Addr
  k_LETTERS : Tok
  k_BARRED : Addr
  k_MOST_LETTERS : Tok
structure Tx (K : PySem.W.Frag) (mg : Str → Option Value) (A : Ad) : Prop where
  is_name : Dn K mg "is_name" s_is_name ["value"] A.is_name A.is_name_d
  is_word : Dn K mg "is_word" s_is_word ["value", "others"] A.is_word A.is_word_d
  is_mark : Dn K mg "is_mark" s_is_mark ["value"] A.is_mark A.is_mark_d
  is_sign : Dn K mg "is_sign" s_is_sign ["value"] A.is_sign A.is_sign_d
  Row_init : Mn K "__init__" "Row.__init__" s_Row_init ["self", "text"] A.Row_init A.Row_init_d
  Row_str : Mn K "__str__" "Row.__str__" s_Row_str ["self"] A.Row_str A.Row_str_d
  Row_eq : Mn K "__eq__" "Row.__eq__" s_Row_eq ["self", "other"] A.Row_eq A.Row_eq_d
  need : Dn K mg "need" s_need ["is_right", "word"] A.need A.need_d
  Begin_init : Sn PG K "__init__" "Begin.__init__" s_Begin_init ["self", "mark", "kind", "mood"] A.Begin_init A.Begin_init_d A.C_Begin
  Send_init : Sn PG K "__init__" "Send.__init__" s_Send_init ["self", "mood", "service", "mark"] A.Send_init A.Send_init_d A.C_Send
  Back_init : Sn PG K "__init__" "Back.__init__" s_Back_init ["self", "mood", "service", "sign", "then"] A.Back_init A.Back_init_d A.C_Back
  End_init : Sn PG K "__init__" "End.__init__" s_End_init ["self", "mood", "outcome", "sign", "part"] A.End_init A.End_init_d A.C_End
  _law_box : Dn K mg "_law_box" s__law_box ["_law_script", "_law_k"] A._law_box A._law_box_d
  _law_take : Dn K mg "_law_take" s__law_take ["_law_box_here", "_law_many"] A._law_take A._law_take_d
  _law_pick : Dn K mg "_law_pick" s__law_pick ["_law_box_here", "_law_some"] A._law_pick A._law_pick_d
  _law_mixed : Dn K mg "_law_mixed" s__law_mixed ["_law_box_here", "_law_some"] A._law_mixed A._law_mixed_d
  _law_names : Dn K mg "_law_names" s__law_names ["_law_box_here", "_law_many"] A._law_names A._law_names_d
  _law_row_text : Dn K mg "_law_row_text" s__law_row_text ["_law_row_here"] A._law_row_text A._law_row_text_d
  _law_row : Dn K mg "_law_row" s__law_row ["_law_row_here"] A._law_row A._law_row_d
  _law_words : Dn K mg "_law_words" s__law_words ["_law_row_here"] A._law_words A._law_words_d
  _law_drawn_row : Dn K mg "_law_drawn_row" s__law_drawn_row ["_law_box_here", "_law_sort", "_law_pools"] A._law_drawn_row A._law_drawn_row_d
  _law_told : Dn K mg "_law_told" s__law_told ["_law_made", "_law_sort"] A._law_told A._law_told_d
  law : Dn K mg "law" s_law ["_law_script"] A.law A.law_d
  b_len : mg "len" = none
  b_abs : mg "abs" = none
  b_max : mg "max" = none
  b_min : mg "min" = none
  b_int : mg "int" = none
  b_str : mg "str" = none
  b_isinstance : mg "isinstance" = none
  b_all : mg "all" = none
  b_range : mg "range" = none
  b_list : mg "list" = none
  b_tuple : mg "tuple" = none
  b_dict : mg "dict" = none
  b_repr : mg "repr" = none
  c_LETTERS : mg "LETTERS" = some (.str "abcdefghijklmnopqrstuvwxyz" A.k_LETTERS)
  c_BARRED : mg "BARRED" = some (.ref A.k_BARRED)
  t_BARRED : ∀ H : Hp, SqT K H A.k_BARRED [.str "none", .str "any", .str "same", .str "keep", .str "drop", .str "good", .str "bad", .str "old", .str "new", .str "both"]
  c_MOST_LETTERS : mg "MOST_LETTERS" = some (.int 4 A.k_MOST_LETTERS)
  sup : SupT PG K mg
  C_Row : Cn K mg "Row" A.C_Row A.Row_init
  na_Row_text : NoAttr K A.C_Row "text"
  eq_Row : EqC K A.C_Row A.Row_eq
  st_Row : PySem.W.findIn K (.ref A.C_Row) "__str__" = some (some (.ref A.Row_str))
  C_Begin : Cn K mg "Begin" A.C_Begin A.Begin_init
  na_Begin_text : NoAttr K A.C_Begin "text"
  na_Begin_mark : NoAttr K A.C_Begin "mark"
  na_Begin_kind : NoAttr K A.C_Begin "kind"
  na_Begin_mood : NoAttr K A.C_Begin "mood"
  eq_Begin : EqC K A.C_Begin A.Row_eq
  st_Begin : PySem.W.findIn K (.ref A.C_Begin) "__str__" = some (some (.ref A.Row_str))
  su_Begin : SupM K A.C_Begin A.C_Begin "__init__" A.Row_init
  cd_Begin : ∃ cd, PySem.W.clsIn K A.C_Begin = some cd
  C_Send : Cn K mg "Send" A.C_Send A.Send_init
  na_Send_text : NoAttr K A.C_Send "text"
  na_Send_mood : NoAttr K A.C_Send "mood"
  na_Send_service : NoAttr K A.C_Send "service"
  na_Send_mark : NoAttr K A.C_Send "mark"
  eq_Send : EqC K A.C_Send A.Row_eq
  st_Send : PySem.W.findIn K (.ref A.C_Send) "__str__" = some (some (.ref A.Row_str))
  su_Send : SupM K A.C_Send A.C_Send "__init__" A.Row_init
  cd_Send : ∃ cd, PySem.W.clsIn K A.C_Send = some cd
  C_Back : Cn K mg "Back" A.C_Back A.Back_init
  na_Back_text : NoAttr K A.C_Back "text"
  na_Back_mood : NoAttr K A.C_Back "mood"
  na_Back_service : NoAttr K A.C_Back "service"
  na_Back_sign : NoAttr K A.C_Back "sign"
  na_Back_then : NoAttr K A.C_Back "then"
  eq_Back : EqC K A.C_Back A.Row_eq
  st_Back : PySem.W.findIn K (.ref A.C_Back) "__str__" = some (some (.ref A.Row_str))
  su_Back : SupM K A.C_Back A.C_Back "__init__" A.Row_init
  cd_Back : ∃ cd, PySem.W.clsIn K A.C_Back = some cd
  C_End : Cn K mg "End" A.C_End A.End_init
  na_End_text : NoAttr K A.C_End "text"
  na_End_mood : NoAttr K A.C_End "mood"
  na_End_outcome : NoAttr K A.C_End "outcome"
  na_End_sign : NoAttr K A.C_End "sign"
  na_End_part : NoAttr K A.C_End "part"
  eq_End : EqC K A.C_End A.Row_eq
  st_End : PySem.W.findIn K (.ref A.C_End) "__str__" = some (some (.ref A.Row_str))
  su_End : SupM K A.C_End A.C_End "__init__" A.Row_init
  cd_End : ∃ cd, PySem.W.clsIn K A.C_End = some cd
  nf_Begin_Begin : PySem.W.notFirst K A.C_Begin (.ref A.C_Begin) = true
  nf_Begin_Send : PySem.W.notFirst K A.C_Begin (.ref A.C_Send) = true
  nf_Begin_Back : PySem.W.notFirst K A.C_Begin (.ref A.C_Back) = true
  nf_Begin_End : PySem.W.notFirst K A.C_Begin (.ref A.C_End) = true
  nf_Send_Begin : PySem.W.notFirst K A.C_Send (.ref A.C_Begin) = true
  nf_Send_Send : PySem.W.notFirst K A.C_Send (.ref A.C_Send) = true
  nf_Send_Back : PySem.W.notFirst K A.C_Send (.ref A.C_Back) = true
  nf_Send_End : PySem.W.notFirst K A.C_Send (.ref A.C_End) = true
  nf_Back_Begin : PySem.W.notFirst K A.C_Back (.ref A.C_Begin) = true
  nf_Back_Send : PySem.W.notFirst K A.C_Back (.ref A.C_Send) = true
  nf_Back_Back : PySem.W.notFirst K A.C_Back (.ref A.C_Back) = true
  nf_Back_End : PySem.W.notFirst K A.C_Back (.ref A.C_End) = true
  nf_End_Begin : PySem.W.notFirst K A.C_End (.ref A.C_Begin) = true
  nf_End_Send : PySem.W.notFirst K A.C_End (.ref A.C_Send) = true
  nf_End_Back : PySem.W.notFirst K A.C_End (.ref A.C_Back) = true
  nf_End_End : PySem.W.notFirst K A.C_End (.ref A.C_End) = true
  nf_Begin_str : PySem.W.notFirst K A.C_Begin (.type "str") = true
  nf_Begin_tuple : PySem.W.notFirst K A.C_Begin (.type "tuple") = true
  nf_Send_str : PySem.W.notFirst K A.C_Send (.type "str") = true
  nf_Send_tuple : PySem.W.notFirst K A.C_Send (.type "tuple") = true
  nf_Back_str : PySem.W.notFirst K A.C_Back (.type "str") = true
  nf_Back_tuple : PySem.W.notFirst K A.C_Back (.type "tuple") = true
  nf_End_str : PySem.W.notFirst K A.C_End (.type "str") = true
  nf_End_tuple : PySem.W.notFirst K A.C_End (.type "tuple") = true
  ki_Begin : PySem.W.kitOne K (.ref A.C_Begin) (.ref A.C_Row) = some true
  ki_Send : PySem.W.kitOne K (.ref A.C_Send) (.ref A.C_Row) = some true
  ki_Back : PySem.W.kitOne K (.ref A.C_Back) (.ref A.C_Row) = some true
  ki_End : PySem.W.kitOne K (.ref A.C_End) (.ref A.C_Row) = some true
  ki_str : PySem.W.kitOne K (.type "str") (.ref A.C_Row) = some false
  ki_tuple : PySem.W.kitOne K (.type "tuple") (.ref A.C_Row) = some false
end K
namespace K
open PySem L2 TL
section
variable {w : World} {K : PySem.W.Frag} {mg : Str → Option Value} {base : Heap} {A : Ad}
/-! ### draws -/
def spTake : Sp := fun vs H Q _ => ∃ (b : Addr) (n : Int), vs = [.ref b, .int n] ∧ 0 < n ∧ n < 1073741824 ∧ BoxAt H b ∧ ∀ (d : Int) (H1 : Hp), 0 ≤ d → d < n → Bx b H H1 → Q (.int d) H1
theorem ok_take (T : Tx K mg A) : FnOk PG w K mg base CX0 1 A._law_take A._law_take_d ["_law_box_here", "_law_many"] spTake := by
  refine T._law_take.F.ok sc__law_take (fun vs H Q E h => ?_) (fun cdv Ar outer s H vs Q E hr h => ?_)
  · obtain ⟨b, n, rfl, _⟩ := h
    rfl
  · obtain ⟨b, n, rfl, n0, n1, hB, k⟩ := h
    obtain ⟨bw, bs, bc, hb⟩ := id hB
    refine ⟨_, (pss_cons (ps_if (pt_cmpR op_gt (pe_ix ix_list (pv 0) pe_int (fun _ _ => rfl)) pe_int (nomark _)) (pss_cons (ps_set (i := 2) sc__law_take.nd rfl (Or.inl rfl) (pe_op op_mod (pe_callTy call_int1 (by rfl) T.b_int (by decide +kernel) (pa_cons (pe_ix ix_list (pv 0) pe_int (fun _ _ => rfl)) pa_nil)) (pv 1)))
    (pss_cons (ps_asg (pe_op op_fdiv (pe_ix ix_list (pv 0) pe_int (fun _ _ => rfl)) (pv 1)) (pg_sub (pv 0) pe_int set_list))
    (pss_one (ps_ret (pv 2))))) pss_nil)
    (pss_cons (ps_asg (pe_op op_add (pe_ix ix_list (pv 0) pe_int (fun _ _ => rfl)) pe_int) (pg_sub (pv 0) pe_int set_list))
    (pss_cons (ps_set (i := 3) sc__law_take.nd rfl (Or.inl rfl) (pe_op op_mod (pe_callTy call_int1 (by rfl) T.b_int (by decide +kernel) (pa_cons (pe_op op_mul (pe_op op_add (pe_ix ix_list (pv 0) pe_int (fun _ _ => rfl)) (pe_op op_mul pe_int (pe_ix ix_list (pv 0) pe_int (fun _ _ => rfl)))) pe_int) pa_nil)) pe_int))
    (pss_cons (ps_asg (pe_op op_add (pe_op op_mod (pe_callTy call_int1 (by rfl) T.b_int (by decide +kernel) (pa_cons (pe_op op_add (pe_op op_mul (pv 3) pe_int) pe_int) pa_nil)) pe_int) pe_int) (pg_sub (pv 0) pe_int set_list))
    (pss_one (ps_ret (pe_op op_mod (pe_callTy call_int1 (by rfl) T.b_int (by decide +kernel) (pa_cons (pe_op op_fdiv (pe_op op_add (pe_op op_mul (pv 3) pe_int) (pe_ix ix_list (pv 0) pe_int (fun _ _ => rfl))) pe_int) pa_nil)) (pv 1)))))))), ?_⟩
    walk_at "go"
    refine ite2 (fun c => ?_) (fun c => ?_)
    · walk_at "rd"
      exact k _ _ (Int.emod_nonneg _ (by omega)) (Int.emod_lt_of_pos _ n0) (Bx.upd hB)
    · walk_at "rd"
      rw [upd_upd]
      exact k _ _ (Int.emod_nonneg _ (by omega)) (Int.emod_lt_of_pos _ n0) (Bx.upd hB)
theorem atI_int {ns : List Int} {k : Int} (h0 : 0 ≤ k) (h1 : k < ns.length) : ∃ z, atI (ns.map V.int) k = some (.int z) := by
  obtain ⟨j, rfl⟩ : ∃ j : Nat, k = (j : Int) := ⟨k.toNat, by omega⟩
  have hj : j < ns.length := by omega
  exact ⟨ns[j], atI_nat (by rw [List.getElem?_map, List.getElem?_eq_getElem hj]; rfl)⟩
def spBox (K : PySem.W.Frag) : Sp := fun vs H Q _ => ∃ (a : Addr) (k : Int) (ns : List Int), vs = [.ref a, .int k] ∧ 0 ≤ k ∧ SqF K H a (ns.map V.int) ∧ ∀ p H', H p = none → Same H H' → BoxAt H' p → Q (.ref p) H'
theorem ok_box (T : Tx K mg A) : FnOk PG w K mg base CX0 1 A._law_box A._law_box_d ["_law_script", "_law_k"] (spBox K) := by
  refine T._law_box.F.ok sc__law_box (fun vs H Q E h => ?_) (fun cdv Ar outer s H vs Q E hr h => ?_)
  · obtain ⟨a, k, ns, rfl, _⟩ := h
    rfl
  · obtain ⟨a, k, ns, rfl, k0, hS, q⟩ := h
    refine ⟨_, (pss_cons (ps_set (i := 2) sc__law_box.nd rfl (Or.inl rfl) (pe_op op_add (pe_op op_mul pe_int (pv 1)) pe_int))
    (pss_cons (ps_if (pt_cmpR op_lt (pv 1) (pe_callB call_len_seq (by rfl) T.b_len (by decide +kernel) (pa_cons (pv 0) pa_nil)) (nomark _)) (pss_one (ps_set (i := 2) sc__law_box.nd rfl (Or.inl rfl) (pe_callB call_abs (by rfl) T.b_abs (by decide +kernel) (pa_cons (pe_callTy call_int1 (by rfl) T.b_int (by decide +kernel) (pa_cons (pe_ix ix_list (pv 0) (pv 1) (fun _ _ => rfl)) pa_nil)) pa_nil)))) (pss_one (ps_if (pt_cmpR op_gt (pe_callB call_len_seq (by rfl) T.b_len (by decide +kernel) (pa_cons (pv 0) pa_nil)) pe_int (nomark _)) (pss_one (ps_set (i := 2) sc__law_box.nd rfl (Or.inl rfl) (pe_op op_add (pv 2) (pe_op op_mul (pe_op op_mod (pe_callTy call_int1 (by rfl) T.b_int (by decide +kernel) (pa_cons (pe_ix ix_list (pv 0) (pe_op op_mod (pe_callTy call_int1 (by rfl) T.b_int (by decide +kernel) (pa_cons (pv 1) pa_nil)) (pe_callB call_len_seq (by rfl) T.b_len (by decide +kernel) (pa_cons (pv 0) pa_nil))) (fun _ _ => rfl)) pa_nil)) pe_int) pe_int)))) pss_nil)))
    (pss_cons (ps_set (i := 3) sc__law_box.nd rfl (Or.inl rfl) (pe_op op_add (pe_op op_mod (pe_callTy call_int1 (by rfl) T.b_int (by decide +kernel) (pa_cons (pe_op op_add (pe_op op_add (pe_op op_mul (pe_op op_mod (pe_callTy call_int1 (by rfl) T.b_int (by decide +kernel) (pa_cons (pv 2) pa_nil)) pe_int) pe_int) (pe_op op_mul pe_int (pv 1))) pe_int) pa_nil)) pe_int) pe_int))
    (pss_cons (ps_set (i := 4) sc__law_box.nd rfl (Or.inl rfl) (pe_ifExp (pt_cmpR op_ge (pv 2) (pe_op op_pow pe_int pe_int) (nomark _)) (pv 2) pe_int))
    (pss_one (ps_ret (pe_lst (pa_cons (pv 4) (pa_cons (pv 3) (pa_cons pe_int pa_nil)))))))))), ?_⟩
    walk_at "go"
    have fin : ∀ (p : Addr) (H2 : Hp) (x y : Int), H p = none → Same H H2 → H2 p = some (.lst [.int x, .int y, .int 0]) → Q (.ref p) H2 := fun p H2 x y n e hp => q p H2 n e ⟨_, _, _, hp⟩
    refine ite2 (fun c => ?_) (fun c => ?_)
    · have c' : k < (ns.length : Int) := by simpa using c
      obtain ⟨z, hz⟩ := atI_int k0 c'
      walk_at "rd"
      refine rd_ixL hS.l hz ?_
      walk_at "rd"
      refine ite2 (fun c2 => ?_) (fun c2 => ?_) <;> (walk_at "rd"; (refine ⟨(by walk_at "sz"), fun p np => ?_⟩; generalize hH_ : upd _ p _ = H2; obtain ⟨e, hp⟩ := new_of hH_ np; clear hH_); exact fin _ _ _ _ np e hp)
    · walk_at "rd"
      refine ite2 (fun c1 => ?_) (fun c1 => ?_)
      · have c' : 0 < (ns.length : Int) := by simpa using c1
        obtain ⟨z, hz⟩ := atI_int (ns := ns) (k := k % ((ns.map V.int).length : Int)) (Int.emod_nonneg _ (by rw [List.length_map]; omega)) (by rw [List.length_map]; exact Int.emod_lt_of_pos _ c')
        have c'' : 0 < ((ns.map V.int).length : Int) := by simpa using c1
        walk_at "rd"
        refine rd_ixL hS.l hz ?_
        walk_at "rd"
        refine ite2 (fun c2 => ?_) (fun c2 => ?_) <;> (walk_at "rd"; (refine ⟨(by walk_at "sz"), fun p np => ?_⟩; generalize hH_ : upd _ p _ = H2; obtain ⟨e, hp⟩ := new_of hH_ np; clear hH_); exact fin _ _ _ _ np e hp)
      · walk_at "rd"
        refine ite2 (fun c2 => ?_) (fun c2 => ?_) <;> (walk_at "rd"; (refine ⟨(by walk_at "sz"), fun p np => ?_⟩; generalize hH_ : upd _ p _ = H2; obtain ⟨e, hp⟩ := new_of hH_ np; clear hH_); exact fin _ _ _ _ np e hp)
end
end K
namespace K
open PySem L2 TL
/-! ### names -/
def BAR : List Str := ["none", "any", "same", "keep", "drop", "good", "bad", "old", "new", "both"]
def LET : Str := "abcdefghijklmnopqrstuvwxyz"
def isName (z : Str) : Bool := (decide (1 ≤ z.length) && decide (z.length ≤ 4)) && !(BAR.contains z) && z.cps.toList.all fun c => decide (c ∈ LET.cps.toList)
def isNameV : V → Bool
  | .str z => isName z
  | _ => false
def isS : V → Bool
  | .str _ => true
  | _ => false
/-- a value whose type is told -/
def ValOk (K : PySem.W.Frag) (H : Hp) (v : V) : Prop := ∃ t, TyX K H v t ∧ PySem.W.kitOne K t (.type "str") = some (isS v) ∧ ∀ z, v = .str z → z.length ≤ 1000
theorem ValOk.same {K : PySem.W.Frag} {H H1 : Hp} {v : V} (e : Same H H1) (h : ValOk K H v) : ValOk K H1 v := let ⟨t, a, b, c⟩ := h; ⟨t, a.same e, b, c⟩
theorem valStr {K : PySem.W.Frag} {H : Hp} {z : Str} (h : z.length ≤ 1000) : ValOk K H (.str z) := ⟨.type "str", .base (.str z), kit_ty (r := true) (by decide +kernel), fun y e => by cases e; exact h⟩
section
variable {w : World} {K : PySem.W.Frag} {mg : Str → Option Value} {base : Heap} {A : Ad}
def spIsName (K : PySem.W.Frag) : Sp := fun vs H Q _ => ∃ v, vs = [v] ∧ ValOk K H v ∧ ∀ H', Same H H' → Q (.bl (isNameV v)) H'
theorem ok_is_name (T : Tx K mg A) : FnOk PG w K mg base CX0 1 A.is_name A.is_name_d ["value"] (spIsName K) := by
  refine T.is_name.F.ok sc_is_name (fun vs H Q E h => ?_) (fun cdv Ar outer s H vs Q E hr h => ?_)
  · obtain ⟨v, rfl, _⟩ := h
    rfl
  · obtain ⟨v, rfl, ⟨t, ty, kt, hz⟩, k⟩ := h
    refine ⟨_, (pss_cons (ps_if (PW.pt (pw_or (pt_not (pt_val (pe_callB call_isi (by rfl) T.b_isinstance (by decide +kernel) (pa_cons (pv 0) (pa_cons (pe_bltn (v := .ty "str") (by rfl) T.b_str (by decide +kernel) rfl) pa_nil))))) (pw_or (pt_not (pt_chain op_le op_le pe_int (pe_callB call_len_str (by rfl) T.b_len (by decide +kernel) (pa_cons (pv 0) pa_nil)) (pe_glob (v := .int 4) (by rfl) T.c_MOST_LETTERS ⟨_, rfl⟩))) (pw_or1 (pt_cmpR op_in_seq (pv 0) (pe_glob (v := .ref A.k_BARRED) (by rfl) T.c_BARRED rfl) (by rfl)))))) (pss_one (ps_ret pe_bl)) pss_nil)
    (pss_one (ps_ret (pe_callB (cr_all rfl) (by rfl) T.b_all (by decide +kernel) (pa_cons (pe_lc (own := [("letter", 1)]) (g := gName 1) rfl sc_is_name.nd (pi_str (pv 0)) (blkOk_by (own := [("letter", 1)]) (N := ["value", "letter"]) (sc := defScope s_is_name) (by decide +kernel)) (fun _ _ _ _ _ => (pg_name (i := 1) sc_is_name.nd rfl (Or.inl rfl))) (fun _ _ _ _ _ => pts_nil) (fun _ _ _ _ _ => (pe_cmpR op_in_sign (pv 1) (pe_glob (v := .str "abcdefghijklmnopqrstuvwxyz") (by rfl) T.c_LETTERS ⟨_, rfl⟩) rfl))) pa_nil))))), ?_⟩
    walk_at "go"
    refine rd_isi (.ty "str") ty kt ?_
    walk_at "rd"
    cases hv : isS v with
    | false =>
      have e : isNameV v = false := by cases v <;> first | rfl | cases hv
      rw [e] at k
      walk_at "rd"
      exact k H (Same.refl H)
    | true =>
      obtain ⟨z, rfl⟩ : ∃ z, v = .str z := by cases v <;> first | exact ⟨_, rfl⟩ | cases hv
      have hz := hz z rfl
      walk_at "rd"
      refine ⟨sz1000 hz, ?_⟩
      walk_at "rd"
      have no : isName z = false → Q (.bl false) H := fun e => by
        have q := k H (Same.refl H)
        rw [show isNameV (.str z) = isName z from rfl, e] at q
        exact q
      have d1 : decide ((1 : Int) ≤ (z.length : Int)) = decide (1 ≤ z.length) := by rw [Bool.eq_iff_iff, decide_eq_true_iff, decide_eq_true_iff]; omega
      have d2 : decide ((z.length : Int) ≤ (4 : Int)) = decide (z.length ≤ 4) := by rw [Bool.eq_iff_iff, decide_eq_true_iff, decide_eq_true_iff]; omega
      rw [d1]
      cases h1 : decide (1 ≤ z.length) with
      | false =>
        walk_at "rd"
        exact no (by unfold isName; rw [h1]; rfl)
      | true =>
        walk_at "rd"
        rw [d2]
        cases h2 : decide (z.length ≤ 4) with
        | false =>
          walk_at "rd"
          exact no (by unfold isName; rw [h1, h2]; rfl)
        | true =>
          walk_at "rd"
          refine rd_inTs (ws := BAR) (T.t_BARRED H) ?_
          walk_at "rd"
          cases h3 : BAR.contains z with
          | true =>
            walk_at "rd"
            exact no (by unfold isName; rw [h1, h2, h3]; rfl)
          | false =>
            walk_at "rd"
            refine lc_strB (z := z) (fun c => decide (c ∈ LET.cps.toList)) hz (fun R q => ⟨_, rfl, q⟩) (fun x => rfl) (fun c H' P q => ?_) (fun p H' np e hp => ?_)
            · walk_at "rd"
              exact rd_inS q
            · walk_at "rd"
              refine rd_all (SqL.of hp) ?_
              walk_at "rd"
              have q := k H' e
              rw [show isNameV (.str z) = isName z from rfl] at q
              unfold isName at q
              rw [h1, h2, h3] at q
              rw [List.all_map]
              exact q
/-! ### words -/
def inWords (v : V) (ws : List Str) : Bool := match v with
  | .str z => ws.contains z
  | _ => false
def spIsWord (K : PySem.W.Frag) : Sp := fun vs H Q _ => ∃ (v : V) (a : Addr) (ws : List Str), vs = [v, .ref a] ∧ ValOk K H v ∧ SqT K H a (ws.map V.str) ∧ ∀ H', Same H H' → Q (.bl (isNameV v || inWords v ws)) H'
theorem ok_is_word (T : Tx K mg A) : FnOk PG w K mg base CX0 2 A.is_word A.is_word_d ["value", "others"] (spIsWord K) := by
  have G_is_name : FnOk PG w K mg base CX0 1 A.is_name A.is_name_d ["value"] (spIsName K) := ok_is_name T
  refine T.is_word.F.ok sc_is_word (fun vs H Q E h => ?_) (fun cdv Ar outer s H vs Q E hr h => ?_)
  · obtain ⟨v, a, ws, rfl, _⟩ := h
    rfl
  · obtain ⟨v, a, ws, rfl, hv, hs, k⟩ := h
    refine ⟨_, (pss_one (ps_ret (pe_or (pe_call G_is_name (hr.mono (by decide)) (by rfl) T.is_name.g T.is_name.F.kp T.is_name.b .nil pass0 (pa_cons (pv 0) pa_nil)) (pe_one (pe_and (pe_callB call_isi (by rfl) T.b_isinstance (by decide +kernel) (pa_cons (pv 0) (pa_cons (pe_bltn (v := .ty "str") (by rfl) T.b_str (by decide +kernel) rfl) pa_nil))) (pe_one (pe_cmpR op_in_seq (pv 0) (pv 1) (by rfl)))))))), ?_⟩
    walk_at "go"
    refine ⟨_, rfl, hv, fun H1 e1 => ?_⟩
    walk_at "rd"
    cases hn : isNameV v with
    | true =>
      walk_at "rd"
      have q := k H1 e1
      rw [hn] at q
      exact q
    | false =>
      walk_at "rd"
      obtain ⟨t, ty, kt, hz⟩ := hv.same e1
      refine rd_isi (.ty "str") ty kt ?_
      walk_at "rd"
      have q := k H1 e1
      rw [hn] at q
      cases hv : isS v with
      | false =>
        walk_at "rd"
        rw [show inWords v ws = false from by cases v <;> first | rfl | cases hv] at q
        exact q
      | true =>
        obtain ⟨z, rfl⟩ : ∃ z, v = .str z := by cases v <;> first | exact ⟨_, rfl⟩ | cases hv
        walk_at "rd"
        exact rd_inTs (e1.sqt hs) q
def spIsMark (K : PySem.W.Frag) : Sp := fun vs H Q _ => ∃ (v : V), vs = [v] ∧ ValOk K H v ∧ ∀ H', Same H H' → Q (.bl (isNameV v || inWords v ["none"])) H'
theorem ok_is_mark (T : Tx K mg A) : FnOk PG w K mg base CX0 3 A.is_mark A.is_mark_d ["value"] (spIsMark K) := by
  have G_is_word : FnOk PG w K mg base CX0 2 A.is_word A.is_word_d ["value", "others"] (spIsWord K) := ok_is_word T
  refine T.is_mark.F.ok sc_is_mark (fun vs H Q E h => ?_) (fun cdv Ar outer s H vs Q E hr h => ?_)
  · obtain ⟨v, rfl, _⟩ := h
    rfl
  · obtain ⟨v, rfl, hv, k⟩ := h
    refine ⟨_, (pss_one (ps_ret (pe_call G_is_word (hr.mono (by decide)) (by rfl) T.is_word.g T.is_word.F.kp T.is_word.b .nil pass0 (pa_cons (pv 0) (pa_cons (pe_tup (pa_cons pe_str pa_nil)) pa_nil))))), ?_⟩
    walk_at "go"
    (refine ⟨(by walk_at "sz"), fun p np => ?_⟩; generalize hH_ : upd _ p _ = H1; obtain ⟨e1, hp⟩ := new_of hH_ np; clear hH_)
    walk_at "rd"
    exact ⟨_, _, ["none"], rfl, hv.same e1, SqT.of hp, fun H2 e2 => k H2 (e1.trans e2)⟩
theorem ok_is_sign (T : Tx K mg A) : FnOk PG w K mg base CX0 3 A.is_sign A.is_sign_d ["value"] (spIsMark K) := by
  have G_is_word : FnOk PG w K mg base CX0 2 A.is_word A.is_word_d ["value", "others"] (spIsWord K) := ok_is_word T
  refine T.is_sign.F.ok sc_is_sign (fun vs H Q E h => ?_) (fun cdv Ar outer s H vs Q E hr h => ?_)
  · obtain ⟨v, rfl, _⟩ := h
    rfl
  · obtain ⟨v, rfl, hv, k⟩ := h
    refine ⟨_, (pss_one (ps_ret (pe_call G_is_word (hr.mono (by decide)) (by rfl) T.is_word.g T.is_word.F.kp T.is_word.b .nil pass0 (pa_cons (pv 0) (pa_cons (pe_tup (pa_cons pe_str pa_nil)) pa_nil))))), ?_⟩
    walk_at "go"
    (refine ⟨(by walk_at "sz"), fun p np => ?_⟩; generalize hH_ : upd _ p _ = H1; obtain ⟨e1, hp⟩ := new_of hH_ np; clear hH_)
    walk_at "rd"
    exact ⟨_, _, ["none"], rfl, hv.same e1, SqT.of hp, fun H2 e2 => k H2 (e1.trans e2)⟩
def spNeed : Sp := fun vs H Q _ => ∃ (v : V), vs = [.bl true, v] ∧ Q .non H
theorem ok_need (T : Tx K mg A) : FnOk PG w K mg base CX0 1 A.need A.need_d ["is_right", "word"] spNeed := by
  refine T.need.F.ok sc_need (fun vs H Q E h => ?_) (fun cdv Ar outer s H vs Q E hr h => ?_)
  · obtain ⟨v, rfl, _⟩ := h
    rfl
  · obtain ⟨v, rfl, k⟩ := h
    refine ⟨_, (pss_one (ps_if (pt_not (pt_val (pv 0))) (pss_one ps_never) pss_nil)), ?_⟩
    walk_at "go"
    exact k
/-! ### rows -/
def spRowInit (K : PySem.W.Frag) : Sp := fun vs H Q _ => ∃ (p C dx : Addr) (fs : List (Str × V)) (z : Str), vs = [.ref p, .str z] ∧ H p = some (.ins C dx fs) ∧ Cls K C ∧ NoAttr K C "text" ∧ fs.length < 1000 ∧ Q .non (upd H p (.ins C dx (putF "text" (.str z) fs)))
theorem ok_Row_init (T : Tx K mg A) : FnOk PG w K mg base CX0 1 A.Row_init A.Row_init_d ["self", "text"] (spRowInit K) := by
  refine T.Row_init.F.ok sc_Row_init (fun vs H Q E h => ?_) (fun cdv Ar outer s H vs Q E hr h => ?_)
  · obtain ⟨p, C, dx, fs, z, rfl, _⟩ := h
    rfl
  · obtain ⟨p, C, dx, fs, z, rfl, ho, hc, hn, hl, k⟩ := h
    refine ⟨_, (pss_one (ps_fld (pv 0) (pv 1) rfl)), ?_⟩
    walk_at "go"
    exact rd_sfld2 ho hc hn hl k
end
end K
namespace K
open PySem L2 TL
/-! ### texts of rows -/
abbrev sp1 : Str := " "
theorem s_assoc (a b c : Str) : a ++ b ++ c = a ++ (b ++ c) := ext_tl (by rw [tl_append, tl_append, tl_append, tl_append, List.append_assoc])
theorem s_nil (a : Str) : Str.empty ++ a = a := ext_tl (by rw [tl_append]; rfl)
theorem join_one (x : Str) : Txt.join sp1 [x] = x := ext_tl (by rw [join_eq, tl_join]; rfl)
theorem join_two (x y : Str) (r : List Str) : Txt.join sp1 (x :: y :: r) = x ++ (sp1 ++ Txt.join sp1 (y :: r)) := ext_tl (by
  rw [join_eq, tl_join, tl_append, tl_append, join_eq, tl_join]
  rfl)
theorem t_begin (a b c : Str) : Str.empty ++ "begin " ++ a ++ sp1 ++ b ++ sp1 ++ c = Txt.join sp1 ["begin", a, b, c] := by
  rw [join_two, join_two, join_two, join_one, show ("begin " : Str) = "begin" ++ sp1 from by decide +kernel]
  simp only [s_assoc, s_nil]
theorem t_send (a b c : Str) : Str.empty ++ "send " ++ a ++ sp1 ++ b ++ sp1 ++ c = Txt.join sp1 ["send", a, b, c] := by
  rw [join_two, join_two, join_two, join_one, show ("send " : Str) = "send" ++ sp1 from by decide +kernel]
  simp only [s_assoc, s_nil]
theorem t_back (a b c d : Str) : Str.empty ++ "back " ++ a ++ sp1 ++ b ++ sp1 ++ c ++ sp1 ++ d = Txt.join sp1 ["back", a, b, c, d] := by
  rw [join_two, join_two, join_two, join_two, join_one, show ("back " : Str) = "back" ++ sp1 from by decide +kernel]
  simp only [s_assoc, s_nil]
theorem t_end (a b c d : Str) : Str.empty ++ "end " ++ a ++ sp1 ++ b ++ sp1 ++ c ++ sp1 ++ d = Txt.join sp1 ["end", a, b, c, d] := by
  rw [join_two, join_two, join_two, join_two, join_one, show ("end " : Str) = "end" ++ sp1 from by decide +kernel]
  simp only [s_assoc, s_nil]
/-! ### which rows are right -/
def okW (z : Str) (ws : List Str) : Bool := isName z || ws.contains z
theorem okW_len {z : Str} {ws : List Str} (h : okW z ws = true) (hw : ws.all (fun x => decide (x.length ≤ 4)) = true) : z.length ≤ 4 := by
  rcases Bool.or_eq_true_iff.mp h with h | h
  · unfold isName at h
    simp only [Bool.and_eq_true, decide_eq_true_eq] at h
    exact h.1.1.2
  · have hm : z ∈ ws := by simpa using h
    exact of_decide_eq_true (List.all_eq_true.mp hw z hm)
theorem isName_len {z : Str} (h : isName z = true) : z.length ≤ 4 := okW_len (ws := []) (by unfold okW; rw [h]; rfl) rfl
section
variable {w : World} {K : PySem.W.Frag} {mg : Str → Option Value} {base : Heap} {A : Ad}
def fBegin (a b c : Str) : List (Str × V) := [("mark", .str a), ("kind", .str b), ("mood", .str c), ("text", .str (Txt.join sp1 ["begin", a, b, c]))]
def spBegin (A : Ad) : Sp := fun vs H Q _ => ∃ (p dx : Addr) (a b c : Str), vs = [.ref p, .str a, .str b, .str c] ∧ H p = some (.ins A.C_Begin dx []) ∧ okW a ["none", "any"] = true ∧ okW b ["any"] = true ∧ isName c = true ∧
  ∀ H', But p H H' → H' p = some (.ins A.C_Begin dx (fBegin a b c)) → Q .non H'
theorem ok_Begin (T : Tx K mg A) : FnOk PG w K mg base CX0 5 A.Begin_init A.Begin_init_d ["self", "mark", "kind", "mood"] (spBegin A) := by
  have G_is_name : FnOk PG w K mg base CX0 1 A.is_name A.is_name_d ["value"] (spIsName K) := ok_is_name T
  have G_is_word : FnOk PG w K mg base CX0 2 A.is_word A.is_word_d ["value", "others"] (spIsWord K) := ok_is_word T
  have G_is_mark : FnOk PG w K mg base CX0 3 A.is_mark A.is_mark_d ["value"] (spIsMark K) := ok_is_mark T
  have G_need : FnOk PG w K mg base CX0 1 A.need A.need_d ["is_right", "word"] spNeed := ok_need T
  have G_Row_init : FnOk PG w K mg base CX0 1 A.Row_init A.Row_init_d ["self", "text"] (spRowInit K) := ok_Row_init T
  obtain ⟨cdD, hD⟩ := T.cd_Begin
  refine T.Begin_init.okX T.sup sc_Begin_init hD rfl rfl rfl (fun vs H Q E h => ?_) (fun cdv cc Ar outer s H vs Q E hr SX h => ?_)
  · obtain ⟨p, dx, a, b, c, rfl, _⟩ := h
    rfl
  · obtain ⟨p, dx, a, b, c, rfl, ho, ra, rb, rc, k⟩ := h
    refine ⟨_, (pssa_cut (psa_of (ps_expr (pe_call G_need (hr.mono (by decide)) (by rfl) T.need.g T.need.F.kp T.need.b .nil pass0 (pa_cons (pe_or (pe_call G_is_mark (hr.mono (by decide)) (by rfl) T.is_mark.g T.is_mark.F.kp T.is_mark.b .nil pass0 (pa_cons (pv 1) pa_nil)) (pe_one (pe_cmpR op_eq (pv 1) pe_str (nomark _)))) (pa_cons pe_str pa_nil)))))
    (pssa_cons (psa_of (ps_expr (pe_call G_need (hr.mono (by decide)) (by rfl) T.need.g T.need.F.kp T.need.b .nil pass0 (pa_cons (pe_call G_is_word (hr.mono (by decide)) (by rfl) T.is_word.g T.is_word.F.kp T.is_word.b .nil pass0 (pa_cons (pv 2) (pa_cons (pe_tup (pa_cons pe_str pa_nil)) pa_nil))) (pa_cons pe_str pa_nil)))))
    (pssa_cons (psa_of (ps_expr (pe_call G_need (hr.mono (by decide)) (by rfl) T.need.g T.need.F.kp T.need.b .nil pass0 (pa_cons (pe_call G_is_name (hr.mono (by decide)) (by rfl) T.is_name.g T.is_name.F.kp T.is_name.b .nil pass0 (pa_cons (pv 3) pa_nil)) (pa_cons pe_str pa_nil)))))
    (pssa_cons (psa_of (ps_fld (pv 0) (pv 1) rfl))
    (pssa_cons (psa_of (ps_fld (pv 0) (pv 2) rfl))
    (pssa_cons (psa_of (ps_fld (pv 0) (pv 3) rfl))
    (pssa_one (psa_super (i := 0) SX G_Row_init (hr.mono (by decide)) T.Row_init.b pass0 (pa_cons (pe_joined (PJ.cons pe_str (PJ.cons (pe_fmt (pv 1)) (PJ.cons pe_str (PJ.cons (pe_fmt (pv 2)) (PJ.cons pe_str (PJ.cons (pe_fmt (pv 3)) PJ.nil))))))) pa_nil))))))))), ?_⟩
    have cl := T.C_Begin.t.cl
    have n1 := T.na_Begin_mark
    have n2 := T.na_Begin_kind
    have n3 := T.na_Begin_mood
    have la : a.length ≤ 4 := okW_len ra (by decide +kernel)
    have lb : b.length ≤ 4 := okW_len rb (by decide +kernel)
    have lc : c.length ≤ 4 := isName_len rc
    refine rd_cut (fun σ' H' => σ' = L2.start ["self", "mark", "kind", "mood"] [V.ref p, V.str a, V.str b, V.str c] ∧ Same H H') ?_ ?_
    · walk_at "go"
      refine ⟨_, rfl, valStr (by omega), fun H1 e1 => ?_⟩
      walk_at "rd"
      cases hm : (isNameV (V.str a) || inWords (V.str a) ["none"]) with
      | true =>
        walk_at "rd"
        exact ⟨_, rfl, rfl, e1⟩
      | false =>
        walk_at "rd"
        have ea : a = "any" := by
          have hm' : (isName a || (["none"] : List Str).contains a) = false := hm
          simp only [Bool.or_eq_false_iff] at hm'
          have h1 : (isName a || (["none", "any"] : List Str).contains a) = true := ra
          rw [hm'.1] at h1
          have h2 : a = "none" ∨ a = "any" := by simpa using h1
          rcases h2 with h2 | h2
          · rw [h2] at hm'
            exact absurd hm'.2 (by decide +kernel)
          · exact h2
        rw [decide_eq_true (show V.str a = V.str "any" by rw [ea])]
        exact ⟨_, rfl, rfl, e1⟩
    · rintro σ' H1 ⟨rfl, e1⟩
      walk_at "go"
      (refine ⟨(by walk_at "sz"), fun q nq => ?_⟩; generalize hH_ : upd _ q _ = H2; obtain ⟨e2, hq⟩ := new_of hH_ nq; clear hH_)
      walk_at "rd"
      refine ⟨_, _, ["any"], rfl, valStr (by omega), SqT.of hq, fun H3 e3 => ?_⟩
      rw [show (isNameV (V.str b) || inWords (V.str b) ["any"]) = true from rb]
      walk_at "rd"
      refine ⟨_, rfl, ?_⟩
      walk_at "rd"
      refine ⟨_, rfl, valStr (by omega), fun H4 e4 => ?_⟩
      rw [show isNameV (V.str c) = true from rc]
      walk_at "rd"
      refine ⟨_, rfl, ?_⟩
      walk_at "rd"
      have E4 : Same H H4 := ((e1.trans e2).trans e3).trans e4
      have ho4 := E4 _ _ ho
      walk_at "rd"
      refine rd_sup rfl upd_same T.su_Begin ?_
      walk_at "rd"
      refine ⟨_, _, _, _, _, rfl, upd_same, cl, T.na_Begin_text, by walk_at "l1000", ?_⟩
      rw [upd_upd, upd_upd, upd_upd]
      refine k _ (E4.but.trans But.upd) ?_
      rw [upd_same]
      have et : putF "text" (.str (Str.empty ++ "begin " ++ a ++ sp1 ++ b ++ sp1 ++ c)) (putF "mood" (.str c) (putF "kind" (.str b) (putF "mark" (.str a) []))) = fBegin a b c := by
        rw [t_begin]
        rfl
      exact congrArg (fun fs => some (HO.ins A.C_Begin dx fs)) et
def fSend (a b c : Str) : List (Str × V) := [("mood", .str a), ("service", .str b), ("mark", .str c), ("text", .str (Txt.join sp1 ["send", a, b, c]))]
def spSend (A : Ad) : Sp := fun vs H Q _ => ∃ (p dx : Addr) (a b c : Str), vs = [.ref p, .str a, .str b, .str c] ∧ H p = some (.ins A.C_Send dx []) ∧ okW a ["any"] = true ∧ okW b ["any"] = true ∧ okW c ["none", "same"] = true ∧
  ∀ H', But p H H' → H' p = some (.ins A.C_Send dx (fSend a b c)) → Q .non H'
theorem ok_Send (T : Tx K mg A) : FnOk PG w K mg base CX0 5 A.Send_init A.Send_init_d ["self", "mood", "service", "mark"] (spSend A) := by
  have G_is_name : FnOk PG w K mg base CX0 1 A.is_name A.is_name_d ["value"] (spIsName K) := ok_is_name T
  have G_is_word : FnOk PG w K mg base CX0 2 A.is_word A.is_word_d ["value", "others"] (spIsWord K) := ok_is_word T
  have G_is_sign : FnOk PG w K mg base CX0 3 A.is_sign A.is_sign_d ["value"] (spIsMark K) := ok_is_sign T
  have G_need : FnOk PG w K mg base CX0 1 A.need A.need_d ["is_right", "word"] spNeed := ok_need T
  have G_Row_init : FnOk PG w K mg base CX0 1 A.Row_init A.Row_init_d ["self", "text"] (spRowInit K) := ok_Row_init T
  obtain ⟨cdD, hD⟩ := T.cd_Send
  refine T.Send_init.okX T.sup sc_Send_init hD rfl rfl rfl (fun vs H Q E h => ?_) (fun cdv cc Ar outer s H vs Q E hr SX h => ?_)
  · obtain ⟨p, dx, a, b, c, rfl, _⟩ := h
    rfl
  · obtain ⟨p, dx, a, b, c, rfl, ho, ra, rb, rc, k⟩ := h
    refine ⟨_, (pssa_cons (psa_of (ps_expr (pe_call G_need (hr.mono (by decide)) (by rfl) T.need.g T.need.F.kp T.need.b .nil pass0 (pa_cons (pe_call G_is_word (hr.mono (by decide)) (by rfl) T.is_word.g T.is_word.F.kp T.is_word.b .nil pass0 (pa_cons (pv 1) (pa_cons (pe_tup (pa_cons pe_str pa_nil)) pa_nil))) (pa_cons pe_str pa_nil)))))
    (pssa_cons (psa_of (ps_expr (pe_call G_need (hr.mono (by decide)) (by rfl) T.need.g T.need.F.kp T.need.b .nil pass0 (pa_cons (pe_call G_is_word (hr.mono (by decide)) (by rfl) T.is_word.g T.is_word.F.kp T.is_word.b .nil pass0 (pa_cons (pv 2) (pa_cons (pe_tup (pa_cons pe_str pa_nil)) pa_nil))) (pa_cons pe_str pa_nil)))))
    (pssa_cons (psa_of (ps_expr (pe_call G_need (hr.mono (by decide)) (by rfl) T.need.g T.need.F.kp T.need.b .nil pass0 (pa_cons (pe_call G_is_word (hr.mono (by decide)) (by rfl) T.is_word.g T.is_word.F.kp T.is_word.b .nil pass0 (pa_cons (pv 3) (pa_cons (pe_tup (pa_cons pe_str (pa_cons pe_str pa_nil))) pa_nil))) (pa_cons pe_str pa_nil)))))
    (pssa_cons (psa_of (ps_fld (pv 0) (pv 1) rfl))
    (pssa_cons (psa_of (ps_fld (pv 0) (pv 2) rfl))
    (pssa_cons (psa_of (ps_fld (pv 0) (pv 3) rfl))
    (pssa_one (psa_super (i := 0) SX G_Row_init (hr.mono (by decide)) T.Row_init.b pass0 (pa_cons (pe_joined (PJ.cons pe_str (PJ.cons (pe_fmt (pv 1)) (PJ.cons pe_str (PJ.cons (pe_fmt (pv 2)) (PJ.cons pe_str (PJ.cons (pe_fmt (pv 3)) PJ.nil))))))) pa_nil))))))))), ?_⟩
    have cl := T.C_Send.t.cl
    have n1 := T.na_Send_mood
    have n2 := T.na_Send_service
    have n3 := T.na_Send_mark
    have la : a.length ≤ 4 := okW_len ra (by decide +kernel)
    have lb : b.length ≤ 4 := okW_len rb (by decide +kernel)
    have lc : c.length ≤ 4 := okW_len rc (by decide +kernel)
    walk_at "go"
    (refine ⟨(by walk_at "sz"), fun q1 nq1 => ?_⟩; generalize hH_ : upd _ q1 _ = H1; obtain ⟨e1, hq1⟩ := new_of hH_ nq1; clear hH_)
    walk_at "rd"
    refine ⟨_, _, ["any"], rfl, valStr (by omega), SqT.of hq1, fun H2 e2 => ?_⟩
    rw [show (isNameV (V.str a) || inWords (V.str a) ["any"]) = true from ra]
    walk_at "rd"
    refine ⟨_, rfl, ?_⟩
    walk_at "rd"
    (refine ⟨(by walk_at "sz"), fun q3 nq3 => ?_⟩; generalize hH_ : upd _ q3 _ = H3; obtain ⟨e3, hq3⟩ := new_of hH_ nq3; clear hH_)
    walk_at "rd"
    refine ⟨_, _, ["any"], rfl, valStr (by omega), SqT.of hq3, fun H4 e4 => ?_⟩
    rw [show (isNameV (V.str b) || inWords (V.str b) ["any"]) = true from rb]
    walk_at "rd"
    refine ⟨_, rfl, ?_⟩
    walk_at "rd"
    (refine ⟨(by walk_at "sz"), fun q5 nq5 => ?_⟩; generalize hH_ : upd _ q5 _ = H5; obtain ⟨e5, hq5⟩ := new_of hH_ nq5; clear hH_)
    walk_at "rd"
    refine ⟨_, _, ["none", "same"], rfl, valStr (by omega), SqT.of hq5, fun H6 e6 => ?_⟩
    rw [show (isNameV (V.str c) || inWords (V.str c) ["none", "same"]) = true from rc]
    walk_at "rd"
    refine ⟨_, rfl, ?_⟩
    have E4 : Same H H6 := (((((e1).trans e2).trans e3).trans e4).trans e5).trans e6
    have ho4 := E4 _ _ ho
    walk_at "rd"
    refine rd_sup rfl upd_same T.su_Send ?_
    walk_at "rd"
    refine ⟨_, _, _, _, _, rfl, upd_same, cl, T.na_Send_text, by walk_at "l1000", ?_⟩
    rw [upd_upd, upd_upd, upd_upd]
    refine k _ (E4.but.trans But.upd) ?_
    rw [upd_same]
    have et : putF "text" (.str (Str.empty ++ "send " ++ a ++ sp1 ++ b ++ sp1 ++ c)) (putF "mark" (.str c) (putF "service" (.str b) (putF "mood" (.str a) []))) = fSend a b c := by
      rw [t_send]
      rfl
    exact congrArg (fun fs => some (HO.ins A.C_Send dx fs)) et
def fBack (a b c d : Str) : List (Str × V) := [("mood", .str a), ("service", .str b), ("sign", .str c), ("then", .str d), ("text", .str (Txt.join sp1 ["back", a, b, c, d]))]
def spBack (A : Ad) : Sp := fun vs H Q _ => ∃ (p dx : Addr) (a b c d : Str), vs = [.ref p, .str a, .str b, .str c, .str d] ∧ H p = some (.ins A.C_Back dx []) ∧ okW a ["any"] = true ∧ okW b ["any"] = true ∧ okW c ["none", "any"] = true ∧ okW d ["same"] = true ∧
  ∀ H', But p H H' → H' p = some (.ins A.C_Back dx (fBack a b c d)) → Q .non H'
theorem ok_Back (T : Tx K mg A) : FnOk PG w K mg base CX0 5 A.Back_init A.Back_init_d ["self", "mood", "service", "sign", "then"] (spBack A) := by
  have G_is_name : FnOk PG w K mg base CX0 1 A.is_name A.is_name_d ["value"] (spIsName K) := ok_is_name T
  have G_is_word : FnOk PG w K mg base CX0 2 A.is_word A.is_word_d ["value", "others"] (spIsWord K) := ok_is_word T
  have G_is_sign : FnOk PG w K mg base CX0 3 A.is_sign A.is_sign_d ["value"] (spIsMark K) := ok_is_sign T
  have G_need : FnOk PG w K mg base CX0 1 A.need A.need_d ["is_right", "word"] spNeed := ok_need T
  have G_Row_init : FnOk PG w K mg base CX0 1 A.Row_init A.Row_init_d ["self", "text"] (spRowInit K) := ok_Row_init T
  obtain ⟨cdD, hD⟩ := T.cd_Back
  refine T.Back_init.okX T.sup sc_Back_init hD rfl rfl rfl (fun vs H Q E h => ?_) (fun cdv cc Ar outer s H vs Q E hr SX h => ?_)
  · obtain ⟨p, dx, a, b, c, d, rfl, _⟩ := h
    rfl
  · obtain ⟨p, dx, a, b, c, d, rfl, ho, ra, rb, rc, rd, k⟩ := h
    refine ⟨_, (pssa_cons (psa_of (ps_expr (pe_call G_need (hr.mono (by decide)) (by rfl) T.need.g T.need.F.kp T.need.b .nil pass0 (pa_cons (pe_call G_is_word (hr.mono (by decide)) (by rfl) T.is_word.g T.is_word.F.kp T.is_word.b .nil pass0 (pa_cons (pv 1) (pa_cons (pe_tup (pa_cons pe_str pa_nil)) pa_nil))) (pa_cons pe_str pa_nil)))))
    (pssa_cons (psa_of (ps_expr (pe_call G_need (hr.mono (by decide)) (by rfl) T.need.g T.need.F.kp T.need.b .nil pass0 (pa_cons (pe_call G_is_word (hr.mono (by decide)) (by rfl) T.is_word.g T.is_word.F.kp T.is_word.b .nil pass0 (pa_cons (pv 2) (pa_cons (pe_tup (pa_cons pe_str pa_nil)) pa_nil))) (pa_cons pe_str pa_nil)))))
    (pssa_cons (psa_of (ps_expr (pe_call G_need (hr.mono (by decide)) (by rfl) T.need.g T.need.F.kp T.need.b .nil pass0 (pa_cons (pe_call G_is_word (hr.mono (by decide)) (by rfl) T.is_word.g T.is_word.F.kp T.is_word.b .nil pass0 (pa_cons (pv 3) (pa_cons (pe_tup (pa_cons pe_str (pa_cons pe_str pa_nil))) pa_nil))) (pa_cons pe_str pa_nil)))))
    (pssa_cons (psa_of (ps_expr (pe_call G_need (hr.mono (by decide)) (by rfl) T.need.g T.need.F.kp T.need.b .nil pass0 (pa_cons (pe_call G_is_word (hr.mono (by decide)) (by rfl) T.is_word.g T.is_word.F.kp T.is_word.b .nil pass0 (pa_cons (pv 4) (pa_cons (pe_tup (pa_cons pe_str pa_nil)) pa_nil))) (pa_cons pe_str pa_nil)))))
    (pssa_cons (psa_of (ps_fld (pv 0) (pv 1) rfl))
    (pssa_cons (psa_of (ps_fld (pv 0) (pv 2) rfl))
    (pssa_cons (psa_of (ps_fld (pv 0) (pv 3) rfl))
    (pssa_cons (psa_of (ps_fld (pv 0) (pv 4) rfl))
    (pssa_one (psa_super (i := 0) SX G_Row_init (hr.mono (by decide)) T.Row_init.b pass0 (pa_cons (pe_joined (PJ.cons pe_str (PJ.cons (pe_fmt (pv 1)) (PJ.cons pe_str (PJ.cons (pe_fmt (pv 2)) (PJ.cons pe_str (PJ.cons (pe_fmt (pv 3)) (PJ.cons pe_str (PJ.cons (pe_fmt (pv 4)) PJ.nil))))))))) pa_nil))))))))))), ?_⟩
    have cl := T.C_Back.t.cl
    have n1 := T.na_Back_mood
    have n2 := T.na_Back_service
    have n3 := T.na_Back_sign
    have n4 := T.na_Back_then
    have la : a.length ≤ 4 := okW_len ra (by decide +kernel)
    have lb : b.length ≤ 4 := okW_len rb (by decide +kernel)
    have lc : c.length ≤ 4 := okW_len rc (by decide +kernel)
    have ld : d.length ≤ 4 := okW_len rd (by decide +kernel)
    walk_at "go"
    (refine ⟨(by walk_at "sz"), fun q1 nq1 => ?_⟩; generalize hH_ : upd _ q1 _ = H1; obtain ⟨e1, hq1⟩ := new_of hH_ nq1; clear hH_)
    walk_at "rd"
    refine ⟨_, _, ["any"], rfl, valStr (by omega), SqT.of hq1, fun H2 e2 => ?_⟩
    rw [show (isNameV (V.str a) || inWords (V.str a) ["any"]) = true from ra]
    walk_at "rd"
    refine ⟨_, rfl, ?_⟩
    walk_at "rd"
    (refine ⟨(by walk_at "sz"), fun q3 nq3 => ?_⟩; generalize hH_ : upd _ q3 _ = H3; obtain ⟨e3, hq3⟩ := new_of hH_ nq3; clear hH_)
    walk_at "rd"
    refine ⟨_, _, ["any"], rfl, valStr (by omega), SqT.of hq3, fun H4 e4 => ?_⟩
    rw [show (isNameV (V.str b) || inWords (V.str b) ["any"]) = true from rb]
    walk_at "rd"
    refine ⟨_, rfl, ?_⟩
    walk_at "rd"
    (refine ⟨(by walk_at "sz"), fun q5 nq5 => ?_⟩; generalize hH_ : upd _ q5 _ = H5; obtain ⟨e5, hq5⟩ := new_of hH_ nq5; clear hH_)
    walk_at "rd"
    refine ⟨_, _, ["none", "any"], rfl, valStr (by omega), SqT.of hq5, fun H6 e6 => ?_⟩
    rw [show (isNameV (V.str c) || inWords (V.str c) ["none", "any"]) = true from rc]
    walk_at "rd"
    refine ⟨_, rfl, ?_⟩
    walk_at "rd"
    (refine ⟨(by walk_at "sz"), fun q7 nq7 => ?_⟩; generalize hH_ : upd _ q7 _ = H7; obtain ⟨e7, hq7⟩ := new_of hH_ nq7; clear hH_)
    walk_at "rd"
    refine ⟨_, _, ["same"], rfl, valStr (by omega), SqT.of hq7, fun H8 e8 => ?_⟩
    rw [show (isNameV (V.str d) || inWords (V.str d) ["same"]) = true from rd]
    walk_at "rd"
    refine ⟨_, rfl, ?_⟩
    have E4 : Same H H8 := (((((((e1).trans e2).trans e3).trans e4).trans e5).trans e6).trans e7).trans e8
    have ho4 := E4 _ _ ho
    walk_at "rd"
    refine rd_sup rfl upd_same T.su_Back ?_
    walk_at "rd"
    refine ⟨_, _, _, _, _, rfl, upd_same, cl, T.na_Back_text, by walk_at "l1000", ?_⟩
    rw [upd_upd, upd_upd, upd_upd, upd_upd]
    refine k _ (E4.but.trans But.upd) ?_
    rw [upd_same]
    have et : putF "text" (.str (Str.empty ++ "back " ++ a ++ sp1 ++ b ++ sp1 ++ c ++ sp1 ++ d)) (putF "then" (.str d) (putF "sign" (.str c) (putF "service" (.str b) (putF "mood" (.str a) [])))) = fBack a b c d := by
      rw [t_back]
      rfl
    exact congrArg (fun fs => some (HO.ins A.C_Back dx fs)) et
def fEnd (a b c d : Str) : List (Str × V) := [("mood", .str a), ("outcome", .str b), ("sign", .str c), ("part", .str d), ("text", .str (Txt.join sp1 ["end", a, b, c, d]))]
def spEnd (A : Ad) : Sp := fun vs H Q _ => ∃ (p dx : Addr) (a b c d : Str), vs = [.ref p, .str a, .str b, .str c, .str d] ∧ H p = some (.ins A.C_End dx []) ∧ okW a ["any"] = true ∧ (["good", "bad", "any"] : List Str).contains b = true ∧ okW c ["none"] = true ∧ (["keep", "drop"] : List Str).contains d = true ∧
  ∀ H', But p H H' → H' p = some (.ins A.C_End dx (fEnd a b c d)) → Q .non H'
theorem ok_End (T : Tx K mg A) : FnOk PG w K mg base CX0 5 A.End_init A.End_init_d ["self", "mood", "outcome", "sign", "part"] (spEnd A) := by
  have G_is_name : FnOk PG w K mg base CX0 1 A.is_name A.is_name_d ["value"] (spIsName K) := ok_is_name T
  have G_is_word : FnOk PG w K mg base CX0 2 A.is_word A.is_word_d ["value", "others"] (spIsWord K) := ok_is_word T
  have G_is_sign : FnOk PG w K mg base CX0 3 A.is_sign A.is_sign_d ["value"] (spIsMark K) := ok_is_sign T
  have G_need : FnOk PG w K mg base CX0 1 A.need A.need_d ["is_right", "word"] spNeed := ok_need T
  have G_Row_init : FnOk PG w K mg base CX0 1 A.Row_init A.Row_init_d ["self", "text"] (spRowInit K) := ok_Row_init T
  obtain ⟨cdD, hD⟩ := T.cd_End
  refine T.End_init.okX T.sup sc_End_init hD rfl rfl rfl (fun vs H Q E h => ?_) (fun cdv cc Ar outer s H vs Q E hr SX h => ?_)
  · obtain ⟨p, dx, a, b, c, d, rfl, _⟩ := h
    rfl
  · obtain ⟨p, dx, a, b, c, d, rfl, ho, ra, rb, rc, rd, k⟩ := h
    refine ⟨_, (pssa_cons (psa_of (ps_expr (pe_call G_need (hr.mono (by decide)) (by rfl) T.need.g T.need.F.kp T.need.b .nil pass0 (pa_cons (pe_call G_is_word (hr.mono (by decide)) (by rfl) T.is_word.g T.is_word.F.kp T.is_word.b .nil pass0 (pa_cons (pv 1) (pa_cons (pe_tup (pa_cons pe_str pa_nil)) pa_nil))) (pa_cons pe_str pa_nil)))))
    (pssa_cons (psa_of (ps_expr (pe_call G_need (hr.mono (by decide)) (by rfl) T.need.g T.need.F.kp T.need.b .nil pass0 (pa_cons (pe_and (pe_callB call_isi (by rfl) T.b_isinstance (by decide +kernel) (pa_cons (pv 2) (pa_cons (pe_bltn (v := .ty "str") (by rfl) T.b_str (by decide +kernel) rfl) pa_nil))) (pe_one (pe_cmpR op_in_seq (pv 2) (pe_tup (pa_cons pe_str (pa_cons pe_str (pa_cons pe_str pa_nil)))) (by rfl)))) (pa_cons pe_str pa_nil)))))
    (pssa_cons (psa_of (ps_expr (pe_call G_need (hr.mono (by decide)) (by rfl) T.need.g T.need.F.kp T.need.b .nil pass0 (pa_cons (pe_call G_is_sign (hr.mono (by decide)) (by rfl) T.is_sign.g T.is_sign.F.kp T.is_sign.b .nil pass0 (pa_cons (pv 3) pa_nil)) (pa_cons pe_str pa_nil)))))
    (pssa_cons (psa_of (ps_expr (pe_call G_need (hr.mono (by decide)) (by rfl) T.need.g T.need.F.kp T.need.b .nil pass0 (pa_cons (pe_and (pe_callB call_isi (by rfl) T.b_isinstance (by decide +kernel) (pa_cons (pv 4) (pa_cons (pe_bltn (v := .ty "str") (by rfl) T.b_str (by decide +kernel) rfl) pa_nil))) (pe_one (pe_cmpR op_in_seq (pv 4) (pe_tup (pa_cons pe_str (pa_cons pe_str pa_nil))) (by rfl)))) (pa_cons pe_str pa_nil)))))
    (pssa_cons (psa_of (ps_fld (pv 0) (pv 1) rfl))
    (pssa_cons (psa_of (ps_fld (pv 0) (pv 2) rfl))
    (pssa_cons (psa_of (ps_fld (pv 0) (pv 3) rfl))
    (pssa_cons (psa_of (ps_fld (pv 0) (pv 4) rfl))
    (pssa_one (psa_super (i := 0) SX G_Row_init (hr.mono (by decide)) T.Row_init.b pass0 (pa_cons (pe_joined (PJ.cons pe_str (PJ.cons (pe_fmt (pv 1)) (PJ.cons pe_str (PJ.cons (pe_fmt (pv 2)) (PJ.cons pe_str (PJ.cons (pe_fmt (pv 3)) (PJ.cons pe_str (PJ.cons (pe_fmt (pv 4)) PJ.nil))))))))) pa_nil))))))))))), ?_⟩
    have cl := T.C_End.t.cl
    have n1 := T.na_End_mood
    have n2 := T.na_End_outcome
    have n3 := T.na_End_sign
    have n4 := T.na_End_part
    have la : a.length ≤ 4 := okW_len ra (by decide +kernel)
    have lb : b.length ≤ 4 := okW_len (ws := ["good", "bad", "any"]) (show okW b _ = true by unfold okW; rw [rb, Bool.or_true]) (by decide +kernel)
    have lc : c.length ≤ 4 := okW_len rc (by decide +kernel)
    have ld : d.length ≤ 4 := okW_len (ws := ["keep", "drop"]) (show okW d _ = true by unfold okW; rw [rd, Bool.or_true]) (by decide +kernel)
    walk_at "go"
    (refine ⟨(by walk_at "sz"), fun q1 nq1 => ?_⟩; generalize hH_ : upd _ q1 _ = H1; obtain ⟨e1, hq1⟩ := new_of hH_ nq1; clear hH_)
    walk_at "rd"
    refine ⟨_, _, ["any"], rfl, valStr (by omega), SqT.of hq1, fun H2 e2 => ?_⟩
    rw [show (isNameV (V.str a) || inWords (V.str a) ["any"]) = true from ra]
    walk_at "rd"
    refine ⟨_, rfl, ?_⟩
    walk_at "rd"
    refine rd_isi (b := true) (.ty "str") (.base (.str _)) (kit_ty (by decide +kernel)) ?_
    walk_at "rd"
    (refine ⟨(by walk_at "sz"), fun q3 nq3 => ?_⟩; generalize hH_ : upd _ q3 _ = H3; obtain ⟨e3, hq3⟩ := new_of hH_ nq3; clear hH_)
    walk_at "rd"
    refine rd_inTs (ws := ["good", "bad", "any"]) (SqT.of hq3) ?_
    rw [rb]
    walk_at "rd"
    refine ⟨_, rfl, ?_⟩
    walk_at "rd"
    refine ⟨_, rfl, valStr (by omega), fun H4 e4 => ?_⟩
    rw [show (isNameV (V.str c) || inWords (V.str c) ["none"]) = true from rc]
    walk_at "rd"
    refine ⟨_, rfl, ?_⟩
    walk_at "rd"
    refine rd_isi (b := true) (.ty "str") (.base (.str _)) (kit_ty (by decide +kernel)) ?_
    walk_at "rd"
    (refine ⟨(by walk_at "sz"), fun q5 nq5 => ?_⟩; generalize hH_ : upd _ q5 _ = H5; obtain ⟨e5, hq5⟩ := new_of hH_ nq5; clear hH_)
    walk_at "rd"
    refine rd_inTs (ws := ["keep", "drop"]) (SqT.of hq5) ?_
    rw [rd]
    walk_at "rd"
    refine ⟨_, rfl, ?_⟩
    have E4 : Same H H5 := ((((e1).trans e2).trans e3).trans e4).trans e5
    have ho4 := E4 _ _ ho
    walk_at "rd"
    refine rd_sup rfl upd_same T.su_End ?_
    walk_at "rd"
    refine ⟨_, _, _, _, _, rfl, upd_same, cl, T.na_End_text, by walk_at "l1000", ?_⟩
    rw [upd_upd, upd_upd, upd_upd, upd_upd]
    refine k _ (E4.but.trans But.upd) ?_
    rw [upd_same]
    have et : putF "text" (.str (Str.empty ++ "end " ++ a ++ sp1 ++ b ++ sp1 ++ c ++ sp1 ++ d)) (putF "part" (.str d) (putF "sign" (.str c) (putF "outcome" (.str b) (putF "mood" (.str a) [])))) = fEnd a b c d := by
      rw [t_end]
      rfl
    exact congrArg (fun fs => some (HO.ins A.C_End dx fs)) et
end
end K
namespace K
open PySem L2 TL
/-! ### rows as objects -/
inductive Rw where
  | bgn (a b c : Str)
  | snd (a b c : Str)
  | bck (a b c d : Str)
  | fin (a b c d : Str)
def Rw.words : Rw → List Str
  | .bgn a b c => ["begin", a, b, c]
  | .snd a b c => ["send", a, b, c]
  | .bck a b c d => ["back", a, b, c, d]
  | .fin a b c d => ["end", a, b, c, d]
def Rw.text (r : Rw) : Str := Txt.join sp1 r.words
def Rw.cls (A : Ad) : Rw → Addr
  | .bgn _ _ _ => A.C_Begin
  | .snd _ _ _ => A.C_Send
  | .bck _ _ _ _ => A.C_Back
  | .fin _ _ _ _ => A.C_End
def Rw.flds : Rw → List (Str × V)
  | .bgn a b c => fBegin a b c
  | .snd a b c => fSend a b c
  | .bck a b c d => fBack a b c d
  | .fin a b c d => fEnd a b c d
def Rw.ok : Rw → Bool
  | .bgn a b c => okW a ["none", "any"] && okW b ["any"] && isName c
  | .snd a b c => okW a ["any"] && okW b ["any"] && okW c ["none", "same"]
  | .bck a b c d => okW a ["any"] && okW b ["any"] && okW c ["none", "any"] && okW d ["same"]
  | .fin a b c d => okW a ["any"] && (["good", "bad", "any"] : List Str).contains b && okW c ["none"] && (["keep", "drop"] : List Str).contains d
def RowAt (A : Ad) (H : Hp) (p : Addr) (r : Rw) : Prop := ∃ dx, H p = some (.ins (r.cls A) dx r.flds)
theorem RowAt.same {A : Ad} {H H1 : Hp} {p : Addr} {r : Rw} (e : Same H H1) (h : RowAt A H p r) : RowAt A H1 p r := let ⟨dx, q⟩ := h; ⟨dx, e _ _ q⟩
section
variable {w : World} {K : PySem.W.Frag} {mg : Str → Option Value} {base : Heap} {A : Ad}
theorem row_cls (T : Tx K mg A) (r : Rw) : ClsT K (r.cls A) := by
  cases r
  · exact T.C_Begin.t
  · exact T.C_Send.t
  · exact T.C_Back.t
  · exact T.C_End.t
theorem row_na (T : Tx K mg A) (r : Rw) : NoAttr K (r.cls A) "text" := by
  cases r
  · exact T.na_Begin_text
  · exact T.na_Send_text
  · exact T.na_Back_text
  · exact T.na_End_text
theorem row_eq (T : Tx K mg A) (r : Rw) : EqC K (r.cls A) A.Row_eq := by
  cases r
  · exact T.eq_Begin
  · exact T.eq_Send
  · exact T.eq_Back
  · exact T.eq_End
theorem row_str (T : Tx K mg A) (r : Rw) : PySem.W.findIn K (.ref (r.cls A)) "__str__" = some (some (.ref A.Row_str)) := by
  cases r
  · exact T.st_Begin
  · exact T.st_Send
  · exact T.st_Back
  · exact T.st_End
theorem row_ki (T : Tx K mg A) (r : Rw) : PySem.W.kitOne K (.ref (r.cls A)) (.ref A.C_Row) = some true := by
  cases r
  · exact T.ki_Begin
  · exact T.ki_Send
  · exact T.ki_Back
  · exact T.ki_End
theorem row_nfs (T : Tx K mg A) (r : Rw) : PySem.W.notFirst K (r.cls A) (.type "str") = true := by
  cases r
  · exact T.nf_Begin_str
  · exact T.nf_Send_str
  · exact T.nf_Back_str
  · exact T.nf_End_str
theorem row_nft (T : Tx K mg A) (r : Rw) : PySem.W.notFirst K (r.cls A) (.type "tuple") = true := by
  cases r
  · exact T.nf_Begin_tuple
  · exact T.nf_Send_tuple
  · exact T.nf_Back_tuple
  · exact T.nf_End_tuple
theorem row_nf (T : Tx K mg A) (r q : Rw) : PySem.W.notFirst K (r.cls A) (.ref (q.cls A)) = true := by
  cases r <;> cases q <;> first
    | exact T.nf_Begin_Begin | exact T.nf_Begin_Send | exact T.nf_Begin_Back | exact T.nf_Begin_End
    | exact T.nf_Send_Begin | exact T.nf_Send_Send | exact T.nf_Send_Back | exact T.nf_Send_End
    | exact T.nf_Back_Begin | exact T.nf_Back_Send | exact T.nf_Back_Back | exact T.nf_Back_End
    | exact T.nf_End_Begin | exact T.nf_End_Send | exact T.nf_End_Back | exact T.nf_End_End
theorem row_text (r : Rw) : r.flds.lookup ("text" : Str) = some (V.str r.text) := by cases r <;> rfl
theorem row_len {r : Rw} (h : r.ok = true) : r.text.length ≤ 100 := by
  have L : ∀ (a b : Str) (r : List Str), (Txt.join sp1 (a :: b :: r)).length = a.length + 1 + (Txt.join sp1 (b :: r)).length := fun a b r => by
    rw [join_two, s_len, s_len, L_sp, Nat.add_assoc]
  cases r <;> simp only [Rw.ok, Bool.and_eq_true] at h
  · rename_i a b c
    have h1 := okW_len h.1.1 (by decide +kernel)
    have h2 := okW_len h.1.2 (by decide +kernel)
    have h3 := isName_len h.2
    show (Txt.join sp1 ["begin", a, b, c]).length ≤ 100
    rw [L, L, L, join_one, show ("begin" : Str).length = 5 from by decide +kernel]
    omega
  · rename_i a b c
    have h1 := okW_len h.1.1 (by decide +kernel)
    have h2 := okW_len h.1.2 (by decide +kernel)
    have h3 := okW_len h.2 (by decide +kernel)
    show (Txt.join sp1 ["send", a, b, c]).length ≤ 100
    rw [L, L, L, join_one, show ("send" : Str).length = 4 from by decide +kernel]
    omega
  · rename_i a b c d
    have h1 := okW_len h.1.1.1 (by decide +kernel)
    have h2 := okW_len h.1.1.2 (by decide +kernel)
    have h3 := okW_len h.1.2 (by decide +kernel)
    have h4 := okW_len h.2 (by decide +kernel)
    show (Txt.join sp1 ["back", a, b, c, d]).length ≤ 100
    rw [L, L, L, L, join_one, show ("back" : Str).length = 4 from by decide +kernel]
    omega
  · rename_i a b c d
    have h1 := okW_len h.1.1.1 (by decide +kernel)
    have h2 := okW_len (ws := ["good", "bad", "any"]) (show okW b _ = true by unfold okW; rw [h.1.1.2, Bool.or_true]) (by decide +kernel)
    have h3 := okW_len h.1.2 (by decide +kernel)
    have h4 := okW_len (ws := ["keep", "drop"]) (show okW d _ = true by unfold okW; rw [h.2, Bool.or_true]) (by decide +kernel)
    show (Txt.join sp1 ["end", a, b, c, d]).length ≤ 100
    rw [L, L, L, L, join_one, show ("end" : Str).length = 3 from by decide +kernel]
    omega
theorem dec_str (a b : Str) : decide (V.str a = V.str b) = decide (a = b) := by
  rw [Bool.eq_iff_iff, decide_eq_true_iff, decide_eq_true_iff]
  exact ⟨fun e => V.str.inj e, fun e => congrArg V.str e⟩
def spRowStr (A : Ad) : Sp := fun vs H Q _ => ∃ (p : Addr) (r : Rw), vs = [.ref p] ∧ RowAt A H p r ∧ r.text.length ≤ 1000 ∧ Q (.str r.text) H
theorem ok_Row_str (T : Tx K mg A) : FnOk PG w K mg base CX0 1 A.Row_str A.Row_str_d ["self"] (spRowStr A) := by
  refine T.Row_str.F.ok sc_Row_str (fun vs H Q E h => ?_) (fun cdv Ar outer s H vs Q E hr h => ?_)
  · obtain ⟨p, r, rfl, _⟩ := h
    rfl
  · obtain ⟨p, r, rfl, ⟨dx, hp⟩, hl, k⟩ := h
    refine ⟨_, (pss_one (ps_ret (pe_joined1 (pe_fmt (pe_fld (pv 0) rfl))))), ?_⟩
    walk_at "go"
    refine rd_fld2 hp (row_cls T r).cl (row_na T r) (row_text r) ?_
    walk_at "rd"
    exact k
def spRowEq (K : PySem.W.Frag) (A : Ad) : Sp := fun vs H Q _ => ∃ (p : Addr) (r : Rw) (y : V), vs = [.ref p, y] ∧ RowAt A H p r ∧
  ((∃ q r', y = .ref q ∧ RowAt A H q r' ∧ Q (.bl (decide (r.text = r'.text))) H) ∨ (∃ t, TyX K H y t ∧ PySem.W.kitOne K t (.ref A.C_Row) = some false ∧ Q (.bl false) H))
theorem ok_Row_eq (T : Tx K mg A) : FnOk PG w K mg base CX0 1 A.Row_eq A.Row_eq_d ["self", "other"] (spRowEq K A) := by
  refine T.Row_eq.F.ok sc_Row_eq (fun vs H Q E h => ?_) (fun cdv Ar outer s H vs Q E hr h => ?_)
  · obtain ⟨p, r, y, rfl, _⟩ := h
    rfl
  · obtain ⟨p, r, y, rfl, ⟨dx, hp⟩, h⟩ := h
    refine ⟨_, (pss_one (ps_ret (pe_and (pe_callB call_isi (by rfl) T.b_isinstance (by decide +kernel) (pa_cons (pv 1) (pa_cons (pe_glob (v := .ref A.C_Row) (by rfl) T.C_Row.g rfl) pa_nil))) (pe_one (pe_cmpR op_eq (pe_fld (pv 0) rfl) (pe_fld (pv 1) rfl) (nomark _)))))), ?_⟩
    walk_at "go"
    rcases h with ⟨q, r', rfl, ⟨dx', hq⟩, k⟩ | ⟨t, ty, kt, k⟩
    · refine rd_isi (b := true) (.own _) ((row_cls T r').ty hq) (row_ki T r') ?_
      walk_at "rd"
      refine rd_fld2 hp (row_cls T r).cl (row_na T r) (row_text r) ?_
      walk_at "rd"
      refine rd_fld2 hq (row_cls T r').cl (row_na T r') (row_text r') ?_
      walk_at "rd"
      rw [dec_str]
      exact k
    · refine rd_isi (b := false) (.own _) ty kt ?_
      walk_at "rd"
      exact k
end
end K
namespace K
open PySem L2 TL
section
variable {w : World} {K : PySem.W.Frag} {mg : Str → Option Value} {base : Heap} {A : Ad}
theorem atI_str {ws : List Str} {k : Int} (h0 : 0 ≤ k) (h1 : k < ws.length) : ∃ z, z ∈ ws ∧ atI (ws.map V.str) k = some (.str z) := by
  obtain ⟨j, rfl⟩ : ∃ j : Nat, k = (j : Int) := ⟨k.toNat, by omega⟩
  have hj : j < ws.length := by omega
  exact ⟨ws[j], List.getElem_mem hj, atI_nat (by rw [List.getElem?_map, List.getElem?_eq_getElem hj]; rfl)⟩
theorem bx_strs {b a : Addr} {H H1 : Hp} {ws : List Str} (e : Bx b H H1) (h : H a = some (.lst (ws.map V.str))) : H1 a = some (.lst (ws.map V.str)) := e.kp _ _ h (fz_strs ws)
def spPick : Sp := fun vs H Q _ => ∃ (b l : Addr) (ws : List Str), vs = [.ref b, .ref l] ∧ BoxAt H b ∧ H l = some (.lst (ws.map V.str)) ∧ ws ≠ [] ∧ ws.length ≤ 1000 ∧ ∀ z H1, z ∈ ws → Bx b H H1 → Q (.str z) H1
theorem ok_pick (T : Tx K mg A) : FnOk PG w K mg base CX0 2 A._law_pick A._law_pick_d ["_law_box_here", "_law_some"] spPick := by
  have G__law_take : FnOk PG w K mg base CX0 1 A._law_take A._law_take_d ["_law_box_here", "_law_many"] spTake := ok_take T
  refine T._law_pick.F.ok sc__law_pick (fun vs H Q E h => ?_) (fun cdv Ar outer s H vs Q E hr h => ?_)
  · obtain ⟨b, l, ws, rfl, _⟩ := h
    rfl
  · obtain ⟨b, l, ws, rfl, hB, hl, h0, h1, k⟩ := h
    have h2 : 0 < ws.length := List.length_pos_iff.mpr h0
    refine ⟨_, (pss_one (ps_ret (pe_ix ix_list (pv 1) (pe_call G__law_take (hr.mono (by decide)) (by rfl) T._law_take.g T._law_take.F.kp T._law_take.b .nil pass0 (pa_cons (pv 0) (pa_cons (pe_callB call_len_seq (by rfl) T.b_len (by decide +kernel) (pa_cons (pv 1) pa_nil)) pa_nil))) (fun _ _ => rfl)))), ?_⟩
    walk_at "go"
    refine ⟨_, _, rfl, by rw [List.length_map]; omega, by rw [List.length_map]; omega, hB, fun d H1 d0 d1 e1 => ?_⟩
    rw [List.length_map] at d1
    obtain ⟨z, hz, hi⟩ := atI_str (ws := ws) d0 d1
    exact rd_ixL (SqL.of (bx_strs e1 hl)) hi (k z H1 hz e1)
theorem perm_erase {α : Type} {l : List α} {i : Nat} {y : α} (h : l[i]? = some y) : (y :: l.eraseIdx i).Perm l := by
  induction l generalizing i with
  | nil => simp at h
  | cons a l ih =>
    cases i with
    | zero =>
      simp at h
      subst h
      exact List.Perm.refl _
    | succ i =>
      simp at h
      exact (List.Perm.swap a y (l.eraseIdx i)).trans ((ih h).cons a)
theorem map_erase {α β : Type} (f : α → β) (l : List α) (i : Nat) : (l.map f).eraseIdx i = (l.eraseIdx i).map f := by
  induction l generalizing i with
  | nil => rfl
  | cons a l ih =>
    cases i with
    | zero => rfl
    | succ i =>
      show f a :: (l.map f).eraseIdx i = f a :: (l.eraseIdx i).map f
      rw [ih]
def spMixed : Sp := fun vs H Q _ => ∃ (b l : Addr) (ws : List Str), vs = [.ref b, .ref l] ∧ BoxAt H b ∧ H l = some (.lst (ws.map V.str)) ∧ ws.length ≤ 1000 ∧ okS ws = true ∧ ∀ (p : Addr) (zs : List Str) (H1 : Hp), zs.Perm ws → H p = none → Bx b H H1 → H1 p = some (.lst (zs.map V.str)) → Q (.ref p) H1
theorem okS_perm {ws zs : List Str} (h : zs.Perm ws) (o : okS ws = true) : okS zs = true := by
  unfold okS at o ⊢
  rw [List.all_eq_true] at o ⊢
  exact fun x hx => o x (h.subset hx)
theorem ok_mixed (T : Tx K mg A) : FnOk PG w K mg base CX0 2 A._law_mixed A._law_mixed_d ["_law_box_here", "_law_some"] spMixed := by
  have G__law_take : FnOk PG w K mg base CX0 1 A._law_take A._law_take_d ["_law_box_here", "_law_many"] spTake := ok_take T
  refine T._law_mixed.F.ok sc__law_mixed (fun vs H Q E h => ?_) (fun cdv Ar outer s H vs Q E hr h => ?_)
  · obtain ⟨b, l, ws, rfl, _⟩ := h
    rfl
  · obtain ⟨b, l, ws, rfl, hB, hl, h1, ho, k⟩ := h
    refine ⟨_, (pss_cons (ps_par (i := 2) (j := 3) (by rfl) sc__law_mixed.nd rfl rfl (by decide) rfl rfl (pa_cons (pe_callTy call_list_of (by rfl) T.b_list (by decide +kernel) (pa_cons (pv 1) pa_nil)) (pa_cons (pe_lst pa_nil) pa_nil)) (by rfl))
    (pss_cons (ps_while PassesOwn.never (pt_cmpR (op_neD hr.units) (pv 2) (pe_lst pa_nil) (nomark _))
    (pss_one (ps_expr (pe_bm PySem.F.plainAttrs_list PySem.F.slot_list_append PySem.F.type_list_append mt_append (pv 3) (pa_cons (pe_bm PySem.F.plainAttrs_list PySem.F.slot_list_pop PySem.F.type_list_pop mt_popAt (pv 2) (pa_cons (pe_call G__law_take (hr.mono (by decide)) (by rfl) T._law_take.g T._law_take.F.kp T._law_take.b .nil pass0 (pa_cons (pv 0) (pa_cons (pe_callB call_len_seq (by rfl) T.b_len (by decide +kernel) (pa_cons (pv 2) pa_nil)) pa_nil))) pa_nil)) pa_nil)))))
    (pss_one (ps_ret (pv 3))))), ?_⟩
    walk_at "go"
    (refine fun p np => ?_; generalize hH_ : upd _ p _ = H1; obtain ⟨e1, hp⟩ := new_of hH_ np; clear hH_)
    walk_at "rd"
    (refine ⟨(by walk_at "sz"), fun f nf => ?_⟩; generalize hH_ : upd _ f _ = H2; obtain ⟨e2, hf⟩ := new_of hH_ nf; clear hH_)
    walk_at "rd"
    have npf : p ≠ f := ne_of_none hp nf
    have nf0 : H f = none := e1.free nf
    refine while_by (fun σ' H' => σ' = [some (.ref b), some (.ref l), some (.ref p), some (.ref f)] ∧ Bx b H H' ∧ ∃ ls fs : List Str, H' p = some (.lst (ls.map V.str)) ∧ H' f = some (.lst (fs.map V.str)) ∧ (fs ++ ls).Perm ws) (fun _ H' => match H' p with | some (.lst xs) => xs.length | _ => 0) ?_ ?_ ?_
    · exact ⟨rfl, (e1.trans e2).bx hB, ws, [], e2 _ _ hp, hf, List.Perm.refl _⟩
    · rintro σ' H' ⟨rfl, bx, ls, fs, q1, q2, pm⟩
      have ol : okS ls = true := by
        have := okS_perm pm ho
        unfold okS at this ⊢
        rw [List.all_append, Bool.and_eq_true] at this
        exact this.2
      have ln : fs.length + ls.length = ws.length := by rw [← List.length_append]; exact pm.length_eq
      walk_at "rd"
      (refine ⟨(by walk_at "sz"), fun z nz => ?_⟩; generalize hH_ : upd _ z _ = H3; obtain ⟨e3, hz⟩ := new_of hH_ nz; clear hH_)
      walk_at "rd"
      refine rd_neLs (ws := ls) (zs := []) (SqL.of (e3 _ _ q1)) (SqL.of hz) ol rfl ?_
      walk_at "rd"
      by_cases hls : ls = []
      · rw [decide_eq_true hls]
        walk_at "rd"
        subst hls
        rw [List.append_nil] at pm
        exact k f fs H3 pm nf0 (bx.same e3) (e3 _ _ q2)
      · rw [decide_eq_false hls]
        have hl2 : 0 < ls.length := List.length_pos_iff.mpr hls
        walk_at "rd"
        have bx3 := bx.same e3
        refine ⟨_, _, rfl, by rw [List.length_map]; omega, by rw [List.length_map]; omega, bx3.b1, fun d H4 d0 d1 e4 => ?_⟩
        have q14 := bx_strs e4 (e3 _ _ q1)
        have q24 := bx_strs e4 (e3 _ _ q2)
        obtain ⟨y, hy⟩ : ∃ y, ls[d.toNat]? = some y := ⟨ls[d.toNat]'(by rw [List.length_map] at d1; omega), by rw [List.getElem?_eq_getElem]⟩
        walk_at "rd"
        refine rd_popAt q14 d0 d1 (by rw [List.length_map]; omega) (by rw [List.getElem?_map, hy]; rfl) ?_
        rw [map_erase]
        walk_at "rd"
        refine rd_append (xs := fs.map V.str) (by rw [upd_ne npf.symm]; exact q24) (by rw [List.length_map]; exact Nat.lt_of_le_of_lt (show fs.length ≤ 1000 by omega) (by decide)) ?_
        have bx4 := bx3.trans e4
        refine ⟨⟨rfl, (bx4.mut np).mut nf0, ls.eraseIdx d.toNat, fs ++ [y], by rw [upd_ne npf, upd_same], by rw [upd_same, List.map_append]; rfl, ?_⟩, ?_⟩
        · rw [List.append_assoc]
          exact ((perm_erase hy).append_left fs).trans pm
        · rw [upd_ne npf, upd_same, q1]
          show ((ls.eraseIdx d.toNat).map V.str).length < (ls.map V.str).length
          rw [List.length_map, List.length_map, List.length_eraseIdx, if_pos (by rw [List.length_map] at d1; omega)]
          omega
    · exact fun σ H Q Q' m ⟨v, hv, hz, q⟩ => ⟨v, hv, hz, fun p np => let ⟨d, e, h1, h2, h3, h4, k, hk, h5⟩ := q p np; ⟨d, e, h1, h2, h3, h4, k, hk, m _ _ h5⟩⟩
end
end K
namespace K
open PySem L2 TL
section
variable {w : World} {K : PySem.W.Frag} {mg : Str → Option Value} {base : Heap} {A : Ad}
def WDS : List Str := ["send", "back", "end", "root", "wait", "a", "ab", "abc", "zzzz", "row", "hear", "x"]
def spNames : Sp := fun vs H Q _ => ∃ (b : Addr) (n : Int), vs = [.ref b, .int n] ∧ 0 ≤ n ∧ n ≤ 100 ∧ BoxAt H b ∧ ∀ (p : Addr) (zs : List Str) (H1 : Hp), (∀ z ∈ zs, isName z = true) → (zs.length : Int) = n → H p = none → Bx b H H1 → H1 p = some (.lst (zs.map V.str)) → Q (.ref p) H1
theorem strs_of {ys : List V} {f : Nat → Str} (h : ∀ (i : Nat) (y : V), ys[i]? = some y → y = V.str (f i)) : ys = ((List.range ys.length).map f).map V.str := by
  refine List.ext_getElem? fun i => ?_
  rw [List.getElem?_map, List.getElem?_map]
  by_cases hi : i < ys.length
  · rw [List.getElem?_range hi]
    cases e : ys[i]? with
    | none => rw [List.getElem?_eq_none_iff] at e; omega
    | some y => rw [h i y e]; rfl
  · rw [List.getElem?_eq_none (by omega), List.getElem?_eq_none (by rw [List.length_range]; omega)]
    rfl
theorem isName_ok {z : Str} (h : isName z = true) : PyData.strOk z = true := by
  unfold isName at h
  simp only [Bool.and_eq_true] at h
  unfold PyData.strOk
  rw [← Array.all_toList, List.all_eq_true]
  intro c hc
  have h2 := of_decide_eq_true (List.all_eq_true.mp h.2 c hc)
  have h3 : ∀ c ∈ LET.cps.toList, c < 0x110000 := by decide +kernel
  exact decide_eq_true (h3 c h2)
theorem okS_names {zs : List Str} (h : ∀ z ∈ zs, isName z = true) : okS zs = true := List.all_eq_true.mpr fun z hz => isName_ok (h z hz)
theorem nW : ∀ i < 12, ∃ z, atI (WDS.map V.str) ((i : Nat) : Int) = some (.str z) ∧ isName z = true := by
  intro i hi
  have hl : i < WDS.length := hi
  refine ⟨WDS[i], atI_nat (by rw [List.getElem?_map, List.getElem?_eq_getElem hl]; rfl), ?_⟩
  have : ∀ z ∈ WDS, isName z = true := by decide +kernel
  exact this _ (List.getElem_mem hl)
theorem n2 : ∀ i < 4, isName (cutS "tttt" none (some (0 + ((i : Nat) : Int) + 1))) = true := by decide +kernel
theorem n3 : ∀ k ∈ LET.cps.toList, ∀ m < 4, isName ((⟨#[k]⟩ : Str) ++ repS "v" m) = true := by decide +kernel
theorem n4 {m : Int} (h0 : 0 ≤ m) (h1 : m < 26) : ∃ k, atI LET.cps.toList m = some k ∧ k ∈ LET.cps.toList := by
  obtain ⟨j, rfl⟩ : ∃ j : Nat, m = (j : Int) := ⟨m.toNat, by omega⟩
  have hj : j < LET.cps.toList.length := by
    have : LET.cps.toList.length = 26 := by decide +kernel
    omega
  exact ⟨_, atI_nat (List.getElem?_eq_getElem hj), List.getElem_mem hj⟩
theorem names_of {P : Str → Prop} : ∀ {ys : List V}, (∀ (i : Nat) (y : V), ys[i]? = some y → ∃ z, y = V.str z ∧ P z) → ∃ zs : List Str, ys = zs.map V.str ∧ ∀ z ∈ zs, P z
  | [], _ => ⟨[], rfl, fun z h => by simp at h⟩
  | y :: ys, h => by
    obtain ⟨z, rfl, hz⟩ := h 0 y rfl
    obtain ⟨zs, rfl, hzs⟩ := names_of (ys := ys) fun i y e => h (i + 1) y (by rw [List.getElem?_cons_succ]; exact e)
    refine ⟨z :: zs, rfl, fun x hx => ?_⟩
    rcases List.mem_cons.mp hx with rfl | hx
    · exact hz
    · exact hzs x hx
theorem ok_names (T : Tx K mg A) : FnOk PG w K mg base CX0 3 A._law_names A._law_names_d ["_law_box_here", "_law_many"] spNames := by
  have G__law_take : FnOk PG w K mg base CX0 1 A._law_take A._law_take_d ["_law_box_here", "_law_many"] spTake := ok_take T
  have G__law_mixed : FnOk PG w K mg base CX0 2 A._law_mixed A._law_mixed_d ["_law_box_here", "_law_some"] spMixed := ok_mixed T
  refine T._law_names.F.ok sc__law_names (fun vs H Q E h => ?_) (fun cdv Ar outer s H vs Q E hr h => ?_)
  · obtain ⟨b, n, rfl, _⟩ := h
    rfl
  · obtain ⟨b, n, rfl, n0, n1, hB, k⟩ := h
    refine ⟨_, (pss_cons (ps_set (i := 2) sc__law_names.nd rfl (Or.inr rfl) (pe_lst (pa_cons pe_str (pa_cons pe_str (pa_cons pe_str (pa_cons pe_str (pa_cons pe_str (pa_cons pe_str (pa_cons pe_str (pa_cons pe_str (pa_cons pe_str (pa_cons pe_str (pa_cons pe_str (pa_cons pe_str pa_nil))))))))))))))
    (pss_cons (ps_asg (pe_tup (pa_cons pe_str (pa_cons (pe_call G__law_take (hr.mono (by decide)) (by rfl) T._law_take.g T._law_take.F.kp T._law_take.b .nil pass0 (pa_cons (pv 0) (pa_cons pe_int pa_nil))) (pa_cons (pe_call G__law_take (hr.mono (by decide)) (by rfl) T._law_take.g T._law_take.F.kp T._law_take.b .nil pass0 (pa_cons (pv 0) (pa_cons pe_int pa_nil))) pa_nil)))) (pg_tup rfl (pgs_cons (pg_name (i := 3) sc__law_names.nd rfl (Or.inr rfl)) (pgs_cons (pg_name (i := 4) sc__law_names.nd rfl (Or.inl rfl)) (pgs_cons (pg_name (i := 5) sc__law_names.nd rfl (Or.inr rfl)) pgs_nil)))))
    (pss_cons (ps_if (pt_cmpR op_eq (pv 4) pe_int (nomark _)) (pss_one (ps_ret (pe_lc (own := [("_law_k", 6)]) (g := gName 6) rfl sc__law_names.nd (pi_range1 (by rfl) T.b_range (pa_cons (pv 1) pa_nil)) (blkOk_by (own := [("_law_k", 6)]) (N := ["_law_box_here", "_law_many", "_law_words_here", "_law_letters", "_law_form", "_law_spot", "_law_k"]) (sc := defScope s__law_names) (by decide +kernel)) (fun _ _ _ _ _ => (pg_name (i := 6) sc__law_names.nd rfl (Or.inl rfl))) (fun _ _ _ _ _ => pts_nil) (fun _ _ _ _ _ => (pe_ix (show IxR _ (rIxL K) from ix_list) (pv 2) (pe_op op_mod (pe_callTy call_int1 (by rfl) T.b_int (by decide +kernel) (pa_cons (pe_op op_add (pv 5) (pe_op op_mul pe_int (pv 6))) pa_nil)) pe_int) (fun _ _ => rfl)))))) pss_nil)
    (pss_cons (ps_if (PW.pt (pw_and (pt_cmpR op_eq (pv 4) pe_int (nomark _)) (pw_and1 (pt_cmpR op_lt (pv 1) pe_int (nomark _))))) (pss_one (ps_ret (pe_call G__law_mixed (hr.mono (by decide)) (by rfl) T._law_mixed.g T._law_mixed.F.kp T._law_mixed.b .nil pass0 (pa_cons (pv 0) (pa_cons (pe_lc (own := [("_law_k", 6)]) (g := gName 6) rfl sc__law_names.nd (pi_range1 (by rfl) T.b_range (pa_cons (pv 1) pa_nil)) (blkOk_by (own := [("_law_k", 6)]) (N := ["_law_box_here", "_law_many", "_law_words_here", "_law_letters", "_law_form", "_law_spot", "_law_k"]) (sc := defScope s__law_names) (by decide +kernel)) (fun _ _ _ _ _ => (pg_name (i := 6) sc__law_names.nd rfl (Or.inl rfl))) (fun _ _ _ _ _ => pts_nil) (fun _ _ _ _ _ => (pe_slice sl_str pe_str po_none (po_some (pe_op op_add (pv 6) pe_int))))) pa_nil))))) pss_nil)
    (pss_one (ps_ret (pe_lc (own := [("_law_k", 6)]) (g := gName 6) rfl sc__law_names.nd (pi_range1 (by rfl) T.b_range (pa_cons (pv 1) pa_nil)) (blkOk_by (own := [("_law_k", 6)]) (N := ["_law_box_here", "_law_many", "_law_words_here", "_law_letters", "_law_form", "_law_spot", "_law_k"]) (sc := defScope s__law_names) (by decide +kernel)) (fun _ _ _ _ _ => (pg_name (i := 6) sc__law_names.nd rfl (Or.inl rfl))) (fun _ _ _ _ _ => pts_nil) (fun _ _ _ _ _ => (pe_op op_add_str (pe_ix ix_str (pv 3) (pe_op op_mod (pe_callTy call_int1 (by rfl) T.b_int (by decide +kernel) (pa_cons (pe_op op_add (pv 5) (pe_op op_mul pe_int (pv 6))) pa_nil)) pe_int) (fun _ _ => rfl)) (pe_op op_repS pe_str (pe_op op_mod (pe_callTy call_int1 (by rfl) T.b_int (by decide +kernel) (pa_cons (pv 5) pa_nil)) pe_int))))))))))), ?_⟩
    walk_at "go"
    (refine ⟨(by walk_at "sz"), fun wl nw => ?_⟩; generalize hH_ : upd _ wl _ = H1; obtain ⟨e1, hw⟩ := new_of hH_ nw; clear hH_)
    walk_at "rd"
    refine ⟨_, _, rfl, by decide, by decide, hB.same e1, fun d H2 d0 d1 e2 => ?_⟩
    walk_at "rd"
    refine ⟨_, _, rfl, by decide, by decide, e2.b1, fun sp H3 s0 s1 e3 => ?_⟩
    walk_at "rd"
    (refine ⟨(by walk_at "sz"), fun tt nt => ?_⟩; generalize hH_ : upd _ tt _ = H4; obtain ⟨e4, ht⟩ := new_of hH_ nt; clear hH_)
    walk_at "rd"
    have B4 : Bx b H H4 := ((e1.bx hB).trans (e2.trans e3)).same e4
    have hw4 : H4 wl = some (.lst (WDS.map V.str)) := e4 _ _ (bx_strs (ws := WDS) (e2.trans e3) hw)
    have fin : ∀ (p : Addr) (H5 : Hp) (ys : List V), H4 p = none → Same H4 H5 → H5 p = some (.lst ys) → ys.length = n.toNat → (∀ (i : Nat) (y : V), ys[i]? = some y → ∃ z, y = V.str z ∧ isName z = true) → Q (.ref p) H5 := by
      intro p H5 ys np5 e5 hp ln el
      obtain ⟨zs, rfl, hz⟩ := names_of el
      rw [List.length_map] at ln
      exact k p zs H5 hz (by omega) (B4.free np5) (B4.same e5) hp
    refine ite2 (fun c => ?_) (fun c => ?_)
    · walk_at "rd"
      refine lcR frSame (walk_range (lo := 0) (n := n.toNat)) (H := H4) (by omega) (fun R' r => ?_) (Same.refl _) (fun i v _ => ∃ z, v = V.str z ∧ isName z = true) (fun _ _ _ _ _ h => h) (fun _ _ _ _ _ _ _ h => h) (fun _ _ => True.intro) (fun i x H5 H6 hi e5 y P q => ?_) (fun p H5 ys np5 e5 hp ln el => fin p H5 ys np5 e5 hp ln el) (fun x σ1 H1 P P' h q => gm_name h q)
      · walk_at "rd"
        exact ⟨by omega, by omega, r⟩
      · obtain ⟨rfl, rfl⟩ := y
        refine rd_gname ⟨rfl, ?_⟩
        walk_at "rd"
        have m0 : 0 ≤ (sp + 5 * (0 + (i : Int))) % 12 := Int.emod_nonneg _ (by decide)
        have m1 : (sp + 5 * (0 + (i : Int))) % 12 < 12 := Int.emod_lt_of_pos _ (by decide)
        obtain ⟨z, hz, nz⟩ := nW ((sp + 5 * (0 + (i : Int))) % 12).toNat (by omega)
        rw [Int.toNat_of_nonneg m0] at hz
        exact rd_ixL (SqL.of (e5 _ _ hw4)) hz (q _ _ (Same.refl _) ⟨z, rfl, nz⟩)
    · walk_at "rd"
      have c13 : d = 1 ∨ d = 2 := by
        have : d ≠ 0 := fun e => by rw [e] at c; exact c rfl
        omega
      have form3 : ∀ (te : TE) (vs : List Nat) (σ : St), σ[1]? = some (some (.int n)) → (∀ (i : Nat) (H5 : Hp) (P : VK), (∀ z, isName z = true → P (.str z) H5) → wipe ((wipe σ vs).set 6 (some (.int (0 + i)))) vs = wipe σ vs ∧ te ((wipe σ vs).set 6 (some (.int (0 + i)))) H5 P) →
          tLc (iRng1 (tCons (tVar 1) tNil)) (gName 6) tYes te vs σ H4 Q := by
        intro te vs σ hσ ht
        refine lcR frSame (walk_range (lo := 0) (n := n.toNat)) (H := H4) (by omega) (fun R' r => ?_) (Same.refl _) (fun i v _ => ∃ z, v = V.str z ∧ isName z = true) (fun _ _ _ _ _ h => h) (fun _ _ _ _ _ _ _ h => h) (fun _ _ => True.intro) (fun i x H5 H6 hi e5 y P q => ?_) (fun p H5 ys np5 e5 hp ln el => fin p H5 ys np5 e5 hp ln el) (fun x σ1 H1 P P' h q => gm_name h q)
        · refine rd_ir1 (rd_cons (rd_var hσ (rd_nil ?_)))
          refine rd_ir1v n0 (by omega) ?_
          exact r
        · obtain ⟨rfl, rfl⟩ := y
          exact rd_gname (ht i _ P fun z hz => q _ _ (Same.refl _) ⟨z, rfl, hz⟩)
      rcases c13 with rfl | rfl
      · rw [decide_eq_true rfl]
        walk_at "rd"
        cases c5 : decide (n < 5) with
        | false =>
          walk_at "rd"
          refine form3 _ _ _ rfl fun i H5 P q => ⟨rfl, ?_⟩
          walk_at "rd"
          have m0 : 0 ≤ (sp + 7 * (0 + (i : Int))) % 26 := Int.emod_nonneg _ (by decide)
          have m1 : (sp + 7 * (0 + (i : Int))) % 26 < 26 := Int.emod_lt_of_pos _ (by decide)
          obtain ⟨c, hc, hm⟩ := n4 m0 m1
          refine rd_ixS (sz1000 (by decide +kernel)) hc ?_
          walk_at "rd"
          have r0 : 0 ≤ sp % 4 := Int.emod_nonneg _ (by decide)
          have r1 : sp % 4 < 4 := Int.emod_lt_of_pos _ (by decide)
          refine rd_repS r0 (by omega) (by rw [L_v]; decide) (by rw [L_v]; decide) ?_
          have hn := n3 c hm (sp % 4).toNat (by omega)
          refine rd_adds ?_ (q _ hn)
          have := isName_len hn
          rw [s_len] at this
          exact sz1000 (by omega)
        | true =>
          have c5' : n < 5 := of_decide_eq_true c5
          walk_at "rd"
          refine lcR frSame (walk_range (lo := 0) (n := n.toNat)) (H := H4) (by omega) (fun R' r => ?_) (Same.refl _) (fun i v _ => ∃ z, v = V.str z ∧ isName z = true) (fun _ _ _ _ _ h => h) (fun _ _ _ _ _ _ _ h => h) (fun _ _ => True.intro) (fun i x H5 H6 hi e5 y P q => ?_) (fun p H5 ys np5 e5 hp ln el => ?_) (fun x σ1 H1 P P' h q => gm_name h q)
          · walk_at "rd"
            exact ⟨by omega, by omega, r⟩
          · obtain ⟨rfl, rfl⟩ := y
            refine rd_gname ⟨rfl, ?_⟩
            walk_at "rd"
            exact rd_slS (sz1000 (by rw [L_tttt]; decide)) (q _ _ (Same.refl _) ⟨_, rfl, n2 i (by omega)⟩)
          · obtain ⟨zs, rfl, hz⟩ := names_of el
            rw [List.length_map] at ln
            walk_at "rd"
            refine ⟨_, _, zs, rfl, B4.b1.same e5, hp, by omega, okS_names hz, fun p2 us H6 pm np6 e6 hp6 => ?_⟩
            exact k p2 us H6 (fun z h => hz z (pm.subset h)) (by rw [pm.length_eq]; omega) ((B4.same e5).free np6) ((B4.same e5).trans e6) hp6
      · rw [show decide (V.int 2 = V.int 1) = false from by decide]
        walk_at "rd"
        refine form3 _ _ _ rfl fun i H5 P q => ⟨rfl, ?_⟩
        walk_at "rd"
        have m0 : 0 ≤ (sp + 7 * (0 + (i : Int))) % 26 := Int.emod_nonneg _ (by decide)
        have m1 : (sp + 7 * (0 + (i : Int))) % 26 < 26 := Int.emod_lt_of_pos _ (by decide)
        obtain ⟨c, hc, hm⟩ := n4 m0 m1
        refine rd_ixS (sz1000 (by decide +kernel)) hc ?_
        walk_at "rd"
        have r0 : 0 ≤ sp % 4 := Int.emod_nonneg _ (by decide)
        have r1 : sp % 4 < 4 := Int.emod_lt_of_pos _ (by decide)
        refine rd_repS r0 (by omega) (by rw [L_v]; decide) (by rw [L_v]; decide) ?_
        have hn := n3 c hm (sp % 4).toNat (by omega)
        refine rd_adds ?_ (q _ hn)
        have := isName_len hn
        rw [s_len] at this
        exact sz1000 (by omega)
end
end K
namespace K
open PySem L2 TL
section
variable {w : World} {K : PySem.W.Frag} {mg : Str → Option Value} {base : Heap} {A : Ad}
def spRowText (K : PySem.W.Frag) : Sp := fun vs H Q _ => ∃ (a : Addr) (r : Rw), vs = [.ref a] ∧ SqT K H a (r.words.map V.str) ∧ r.ok = true ∧ Q (.str r.text) H
theorem row_sum {r : Rw} (h : r.ok = true) : (r.words.map (·.length)).sum + r.words.length * sp1.length ≤ 100 := by
  cases r <;> simp only [Rw.ok, Bool.and_eq_true] at h
  · rename_i a b c
    have h1 := okW_len h.1.1 (by decide +kernel)
    have h2 := okW_len h.1.2 (by decide +kernel)
    have h3 := isName_len h.2
    show (("begin" : Str).length + (a.length + (b.length + (c.length + 0)))) + 4 * sp1.length ≤ 100
    rw [show ("begin" : Str).length = 5 from by decide +kernel, show sp1.length = 1 from L_sp]
    omega
  · rename_i a b c
    have h1 := okW_len h.1.1 (by decide +kernel)
    have h2 := okW_len h.1.2 (by decide +kernel)
    have h3 := okW_len h.2 (by decide +kernel)
    show (("send" : Str).length + (a.length + (b.length + (c.length + 0)))) + 4 * sp1.length ≤ 100
    rw [show ("send" : Str).length = 4 from by decide +kernel, show sp1.length = 1 from L_sp]
    omega
  · rename_i a b c d
    have h1 := okW_len h.1.1.1 (by decide +kernel)
    have h2 := okW_len h.1.1.2 (by decide +kernel)
    have h3 := okW_len h.1.2 (by decide +kernel)
    have h4 := okW_len h.2 (by decide +kernel)
    show (("back" : Str).length + (a.length + (b.length + (c.length + (d.length + 0))))) + 5 * sp1.length ≤ 100
    rw [show ("back" : Str).length = 4 from by decide +kernel, show sp1.length = 1 from L_sp]
    omega
  · rename_i a b c d
    have h1 := okW_len h.1.1.1 (by decide +kernel)
    have h2 := okW_len (ws := ["good", "bad", "any"]) (show okW b _ = true by unfold okW; rw [h.1.1.2, Bool.or_true]) (by decide +kernel)
    have h3 := okW_len h.1.2 (by decide +kernel)
    have h4 := okW_len (ws := ["keep", "drop"]) (show okW d _ = true by unfold okW; rw [h.2, Bool.or_true]) (by decide +kernel)
    show (("end" : Str).length + (a.length + (b.length + (c.length + (d.length + 0))))) + 5 * sp1.length ≤ 100
    rw [show ("end" : Str).length = 3 from by decide +kernel, show sp1.length = 1 from L_sp]
    omega
theorem ok_row_text (T : Tx K mg A) : FnOk PG w K mg base CX0 1 A._law_row_text A._law_row_text_d ["_law_row_here"] (spRowText K) := by
  refine T._law_row_text.F.ok sc__law_row_text (fun vs H Q E h => ?_) (fun cdv Ar outer s H vs Q E hr h => ?_)
  · obtain ⟨a, r, rfl, _⟩ := h
    rfl
  · obtain ⟨a, r, rfl, hs, ho, k⟩ := h
    refine ⟨_, (pss_one (ps_ret (pe_join pe_str (pv 0)))), ?_⟩
    walk_at "go"
    exact rd_joinT hs (Nat.le_trans (row_sum ho) (by decide)) k
def Rw.args : Rw → List Str
  | .bgn a b c => [a, b, c]
  | .snd a b c => [a, b, c]
  | .bck a b c d => [a, b, c, d]
  | .fin a b c d => [a, b, c, d]
def Rw.sort : Rw → Str
  | .bgn _ _ _ => "begin"
  | .snd _ _ _ => "send"
  | .bck _ _ _ _ => "back"
  | .fin _ _ _ _ => "end"
theorem Rw.wa (r : Rw) : r.words = r.sort :: r.args := by cases r <;> rfl
def spRow (K : PySem.W.Frag) (A : Ad) : Sp := fun vs H Q _ => ∃ (a : Addr) (r : Rw), vs = [.ref a] ∧ SqT K H a (r.words.map V.str) ∧ r.ok = true ∧ ∀ p H', H p = none → Same H H' → RowAt A H' p r → Q (.ref p) H'
theorem ok_row (T : Tx K mg A) : FnOk PG w K mg base CX0 7 A._law_row A._law_row_d ["_law_row_here"] (spRow K A) := by
  have G_Begin : FnOk PG w K mg base CX0 5 A.Begin_init A.Begin_init_d ["self", "mark", "kind", "mood"] (spBegin A) := ok_Begin T
  have G_Send : FnOk PG w K mg base CX0 5 A.Send_init A.Send_init_d ["self", "mood", "service", "mark"] (spSend A) := ok_Send T
  have G_Back : FnOk PG w K mg base CX0 5 A.Back_init A.Back_init_d ["self", "mood", "service", "sign", "then"] (spBack A) := ok_Back T
  have G_End : FnOk PG w K mg base CX0 5 A.End_init A.End_init_d ["self", "mood", "outcome", "sign", "part"] (spEnd A) := ok_End T
  refine T._law_row.F.ok sc__law_row (fun vs H Q E h => ?_) (fun cdv Ar outer s H vs Q E hr h => ?_)
  · obtain ⟨a, r, rfl, _⟩ := h
    rfl
  · obtain ⟨a, r, rfl, hs, ho, k⟩ := h
    refine ⟨_, (pss_cons (ps_if (pt_cmpR op_eq (pe_ix ix_tup (pv 0) pe_int (fun _ _ => rfl)) pe_str (nomark _)) (pss_one (ps_ret (pe_make T.C_Begin.m G_Begin (hr.mono (by decide)) (by rfl) T.C_Begin.g T.Begin_init.b .nil pass0 (pa_cons (pe_ix ix_tup (pv 0) pe_int (fun _ _ => rfl)) (pa_cons (pe_ix ix_tup (pv 0) pe_int (fun _ _ => rfl)) (pa_cons (pe_ix ix_tup (pv 0) pe_int (fun _ _ => rfl)) pa_nil)))))) pss_nil)
    (pss_cons (ps_if (pt_cmpR op_eq (pe_ix ix_tup (pv 0) pe_int (fun _ _ => rfl)) pe_str (nomark _)) (pss_one (ps_ret (pe_make T.C_Send.m G_Send (hr.mono (by decide)) (by rfl) T.C_Send.g T.Send_init.b .nil pass0 (pa_cons (pe_ix ix_tup (pv 0) pe_int (fun _ _ => rfl)) (pa_cons (pe_ix ix_tup (pv 0) pe_int (fun _ _ => rfl)) (pa_cons (pe_ix ix_tup (pv 0) pe_int (fun _ _ => rfl)) pa_nil)))))) pss_nil)
    (pss_cons (ps_if (pt_cmpR op_eq (pe_ix ix_tup (pv 0) pe_int (fun _ _ => rfl)) pe_str (nomark _)) (pss_one (ps_ret (pe_make T.C_Back.m G_Back (hr.mono (by decide)) (by rfl) T.C_Back.g T.Back_init.b .nil pass0 (pa_cons (pe_ix ix_tup (pv 0) pe_int (fun _ _ => rfl)) (pa_cons (pe_ix ix_tup (pv 0) pe_int (fun _ _ => rfl)) (pa_cons (pe_ix ix_tup (pv 0) pe_int (fun _ _ => rfl)) (pa_cons (pe_ix ix_tup (pv 0) pe_int (fun _ _ => rfl)) pa_nil))))))) pss_nil)
    (pss_one (ps_ret (pe_make T.C_End.m G_End (hr.mono (by decide)) (by rfl) T.C_End.g T.End_init.b .nil pass0 (pa_cons (pe_ix ix_tup (pv 0) pe_int (fun _ _ => rfl)) (pa_cons (pe_ix ix_tup (pv 0) pe_int (fun _ _ => rfl)) (pa_cons (pe_ix ix_tup (pv 0) pe_int (fun _ _ => rfl)) (pa_cons (pe_ix ix_tup (pv 0) pe_int (fun _ _ => rfl)) pa_nil)))))))))), ?_⟩
    have fin : ∀ (x dx : Addr) (H' : Hp), H x = none → H dx = none → But x (upd (upd H dx (.own x)) x (.ins (r.cls A) dx [])) H' → H' x = some (.ins (r.cls A) dx r.flds) → Q (.ref x) H' := fun x dx H' nx nd b e => k x H' nx (make_same nx nd b) ⟨dx, e⟩
    cases r <;> simp only [Rw.ok, Bool.and_eq_true] at ho
    · rename_i u v z
      have hs' : SqT K H a [.str "begin", .str u, .str v, .str z] := hs
      walk_at "go"
      walk_at "lit"
      walk_at "rd"
      intro x dx nx nd ne
      exact ⟨x, dx, u, v, z, rfl, upd_same, ho.1.1, ho.1.2, ho.2, fun H' b e => ⟨rfl, fin x dx H' nx nd b e⟩⟩
    · rename_i u v z
      have hs' : SqT K H a [.str "send", .str u, .str v, .str z] := hs
      walk_at "go"
      walk_at "lit"
      walk_at "rd"
      walk_at "lit"
      walk_at "rd"
      intro x dx nx nd ne
      exact ⟨x, dx, u, v, z, rfl, upd_same, ho.1.1, ho.1.2, ho.2, fun H' b e => ⟨rfl, fin x dx H' nx nd b e⟩⟩
    · rename_i u v z y
      have hs' : SqT K H a [.str "back", .str u, .str v, .str z, .str y] := hs
      walk_at "go"
      walk_at "lit"
      walk_at "rd"
      walk_at "lit"
      walk_at "rd"
      walk_at "lit"
      walk_at "rd"
      intro x dx nx nd ne
      exact ⟨x, dx, u, v, z, y, rfl, upd_same, ho.1.1.1, ho.1.1.2, ho.1.2, ho.2, fun H' b e => ⟨rfl, fin x dx H' nx nd b e⟩⟩
    · rename_i u v z y
      have hs' : SqT K H a [.str "end", .str u, .str v, .str z, .str y] := hs
      walk_at "go"
      walk_at "lit"
      walk_at "rd"
      walk_at "lit"
      walk_at "rd"
      walk_at "lit"
      walk_at "rd"
      intro x dx nx nd ne
      exact ⟨x, dx, u, v, z, y, rfl, upd_same, ho.1.1.1, ho.1.1.2, ho.1.2, ho.2, fun H' b e => ⟨rfl, fin x dx H' nx nd b e⟩⟩
def spTold (A : Ad) : Sp := fun vs H Q _ => ∃ (p : Addr) (r : Rw), vs = [.ref p, .str r.sort] ∧ RowAt A H p r ∧ ∀ q H', H q = none → Same H H' → H' q = some (.lst (r.args.map V.str)) → Q (.ref q) H'
theorem ok_told (T : Tx K mg A) : FnOk PG w K mg base CX0 1 A._law_told A._law_told_d ["_law_made", "_law_sort"] (spTold A) := by
  refine T._law_told.F.ok sc__law_told (fun vs H Q E h => ?_) (fun cdv Ar outer s H vs Q E hr h => ?_)
  · obtain ⟨a, r, rfl, _⟩ := h
    rfl
  · obtain ⟨p, r, rfl, ⟨dx, hp⟩, k⟩ := h
    refine ⟨_, (pss_cons (ps_if (pt_cmpR op_eq (pv 1) pe_str (nomark _)) (pss_one (ps_ret (pe_lst (pa_cons (pe_fld (pv 0) rfl) (pa_cons (pe_fld (pv 0) rfl) (pa_cons (pe_fld (pv 0) rfl) pa_nil)))))) pss_nil)
    (pss_cons (ps_if (pt_cmpR op_eq (pv 1) pe_str (nomark _)) (pss_one (ps_ret (pe_lst (pa_cons (pe_fld (pv 0) rfl) (pa_cons (pe_fld (pv 0) rfl) (pa_cons (pe_fld (pv 0) rfl) pa_nil)))))) pss_nil)
    (pss_cons (ps_if (pt_cmpR op_eq (pv 1) pe_str (nomark _)) (pss_one (ps_ret (pe_lst (pa_cons (pe_fld (pv 0) rfl) (pa_cons (pe_fld (pv 0) rfl) (pa_cons (pe_fld (pv 0) rfl) (pa_cons (pe_fld (pv 0) rfl) pa_nil))))))) pss_nil)
    (pss_one (ps_ret (pe_lst (pa_cons (pe_fld (pv 0) rfl) (pa_cons (pe_fld (pv 0) rfl) (pa_cons (pe_fld (pv 0) rfl) (pa_cons (pe_fld (pv 0) rfl) pa_nil)))))))))), ?_⟩
    cases r
    · dsimp only [Rw.sort]
      walk_at "go"
      walk_at "lit"
      walk_at "rd"
      refine rd_fld2 hp T.C_Begin.t.cl T.na_Begin_mark rfl ?_
      walk_at "rd"
      refine rd_fld2 hp T.C_Begin.t.cl T.na_Begin_kind rfl ?_
      walk_at "rd"
      refine rd_fld2 hp T.C_Begin.t.cl T.na_Begin_mood rfl ?_
      walk_at "rd"
      (refine ⟨(by walk_at "sz"), fun q nq => ?_⟩; generalize hH_ : upd _ q _ = H1; obtain ⟨e1, hq⟩ := new_of hH_ nq; clear hH_)
      exact k q H1 nq e1 hq
    · dsimp only [Rw.sort]
      walk_at "go"
      walk_at "lit"
      walk_at "rd"
      walk_at "lit"
      walk_at "rd"
      refine rd_fld2 hp T.C_Send.t.cl T.na_Send_mood rfl ?_
      walk_at "rd"
      refine rd_fld2 hp T.C_Send.t.cl T.na_Send_service rfl ?_
      walk_at "rd"
      refine rd_fld2 hp T.C_Send.t.cl T.na_Send_mark rfl ?_
      walk_at "rd"
      (refine ⟨(by walk_at "sz"), fun q nq => ?_⟩; generalize hH_ : upd _ q _ = H1; obtain ⟨e1, hq⟩ := new_of hH_ nq; clear hH_)
      exact k q H1 nq e1 hq
    · dsimp only [Rw.sort]
      walk_at "go"
      walk_at "lit"
      walk_at "rd"
      walk_at "lit"
      walk_at "rd"
      walk_at "lit"
      walk_at "rd"
      refine rd_fld2 hp T.C_Back.t.cl T.na_Back_mood rfl ?_
      walk_at "rd"
      refine rd_fld2 hp T.C_Back.t.cl T.na_Back_service rfl ?_
      walk_at "rd"
      refine rd_fld2 hp T.C_Back.t.cl T.na_Back_sign rfl ?_
      walk_at "rd"
      refine rd_fld2 hp T.C_Back.t.cl T.na_Back_then rfl ?_
      walk_at "rd"
      (refine ⟨(by walk_at "sz"), fun q nq => ?_⟩; generalize hH_ : upd _ q _ = H1; obtain ⟨e1, hq⟩ := new_of hH_ nq; clear hH_)
      exact k q H1 nq e1 hq
    · dsimp only [Rw.sort]
      walk_at "go"
      walk_at "lit"
      walk_at "rd"
      walk_at "lit"
      walk_at "rd"
      walk_at "lit"
      walk_at "rd"
      refine rd_fld2 hp T.C_End.t.cl T.na_End_mood rfl ?_
      walk_at "rd"
      refine rd_fld2 hp T.C_End.t.cl T.na_End_outcome rfl ?_
      walk_at "rd"
      refine rd_fld2 hp T.C_End.t.cl T.na_End_sign rfl ?_
      walk_at "rd"
      refine rd_fld2 hp T.C_End.t.cl T.na_End_part rfl ?_
      walk_at "rd"
      (refine ⟨(by walk_at "sz"), fun q nq => ?_⟩; generalize hH_ : upd _ q _ = H1; obtain ⟨e1, hq⟩ := new_of hH_ nq; clear hH_)
      exact k q H1 nq e1 hq
end
end K
namespace K
open PySem L2 TL
section
variable {w : World} {K : PySem.W.Frag} {mg : Str → Option Value} {base : Heap} {A : Ad}
/-- the words that may stand in a row of a sort -/
def wordsOf (s : Str) : List (Str × List Str) :=
  if s = "begin" then [("mark", ["none", "any"]), ("kind", ["any"]), ("mood", [])]
  else if s = "send" then [("mood", ["any"]), ("service", ["any"]), ("mark", ["none", "same"])]
  else if s = "back" then [("mood", ["any"]), ("service", ["any"]), ("sign", ["none", "any"]), ("then", ["same"])]
  else [("mood", ["any"]), ("outcome", ["good", "bad", "any"]), ("sign", ["none"]), ("part", ["keep", "drop"])]
def SORTS : List Str := ["begin", "send", "back", "end"]
/-- a pair of a word and its list -/
def WoAt (H0 H : Hp) (t : Addr) (wo : Str × List Str) : Prop := ∃ l, H0 l = none ∧ H t = some (.tup [.str wo.1, .ref l]) ∧ H l = some (.lst (wo.2.map V.str))
theorem WoAt.same {H0 H H1 : Hp} {t : Addr} {wo : Str × List Str} (e : Same H H1) (h : WoAt H0 H t wo) : WoAt H0 H1 t wo := let ⟨l, n, a, b⟩ := h; ⟨l, n, e _ _ a, e _ _ b⟩
theorem WoAt.bx {H0 H H1 : Hp} {b t : Addr} {wo : Str × List Str} (e : Bx b H H1) (h : WoAt H0 H t wo) : WoAt H0 H1 t wo := let ⟨l, n, a, c⟩ := h; ⟨l, n, e.kp _ _ a rfl, e.kp _ _ c (fz_strs _)⟩
theorem WoAt.mut {H0 H : Hp} {t f : Addr} {wo : Str × List Str} {xs : List V} {o u : HO} (h : WoAt H0 H t wo) (hf : H f = some (.lst xs)) (h0 : H0 f = some o) : WoAt H0 (upd H f u) t wo := by
  obtain ⟨l, n, a, c⟩ := h
  refine ⟨l, n, ?_, ?_⟩
  · rw [upd_ne (fun e => by rw [e, hf] at a; cases a)]
    exact a
  · rw [upd_ne (fun e => by rw [e, h0] at n; cases n)]
    exact c
def spWords (K : PySem.W.Frag) : Sp := fun vs H Q _ => ∃ (a : Addr) (s : Str), vs = [.ref a] ∧ SqT K H a [.str s] ∧ s ∈ SORTS ∧ ∀ p (ts : List Addr) H', H p = none → Same H H' → H' p = some (.lst (ts.map V.ref)) → Paired (WoAt H H') ts (wordsOf s) → Q (.ref p) H'
theorem ok_words (T : Tx K mg A) : FnOk PG w K mg base CX0 1 A._law_words A._law_words_d ["_law_row_here"] (spWords K) := by
  refine T._law_words.F.ok sc__law_words (fun vs H Q E h => ?_) (fun cdv Ar outer s H vs Q E hr h => ?_)
  · obtain ⟨a, s, rfl, _⟩ := h
    rfl
  · obtain ⟨a, s, rfl, hs, hm, k⟩ := h
    refine ⟨_, (pss_cons (ps_if (pt_cmpR op_eq (pe_ix ix_tup (pv 0) pe_int (fun _ _ => rfl)) pe_str (nomark _)) (pss_one (ps_ret (pe_lst (pa_cons (pe_tup (pa_cons pe_str (pa_cons (pe_lst (pa_cons pe_str (pa_cons pe_str pa_nil))) pa_nil))) (pa_cons (pe_tup (pa_cons pe_str (pa_cons (pe_lst (pa_cons pe_str pa_nil)) pa_nil))) (pa_cons (pe_tup (pa_cons pe_str (pa_cons (pe_lst pa_nil) pa_nil))) pa_nil)))))) pss_nil)
    (pss_cons (ps_if (pt_cmpR op_eq (pe_ix ix_tup (pv 0) pe_int (fun _ _ => rfl)) pe_str (nomark _)) (pss_one (ps_ret (pe_lst (pa_cons (pe_tup (pa_cons pe_str (pa_cons (pe_lst (pa_cons pe_str pa_nil)) pa_nil))) (pa_cons (pe_tup (pa_cons pe_str (pa_cons (pe_lst (pa_cons pe_str pa_nil)) pa_nil))) (pa_cons (pe_tup (pa_cons pe_str (pa_cons (pe_lst (pa_cons pe_str (pa_cons pe_str pa_nil))) pa_nil))) pa_nil)))))) pss_nil)
    (pss_cons (ps_if (pt_cmpR op_eq (pe_ix ix_tup (pv 0) pe_int (fun _ _ => rfl)) pe_str (nomark _)) (pss_one (ps_ret (pe_lst (pa_cons (pe_tup (pa_cons pe_str (pa_cons (pe_lst (pa_cons pe_str pa_nil)) pa_nil))) (pa_cons (pe_tup (pa_cons pe_str (pa_cons (pe_lst (pa_cons pe_str pa_nil)) pa_nil))) (pa_cons (pe_tup (pa_cons pe_str (pa_cons (pe_lst (pa_cons pe_str (pa_cons pe_str pa_nil))) pa_nil))) (pa_cons (pe_tup (pa_cons pe_str (pa_cons (pe_lst (pa_cons pe_str pa_nil)) pa_nil))) pa_nil))))))) pss_nil)
    (pss_one (ps_ret (pe_lst (pa_cons (pe_tup (pa_cons pe_str (pa_cons (pe_lst (pa_cons pe_str pa_nil)) pa_nil))) (pa_cons (pe_tup (pa_cons pe_str (pa_cons (pe_lst (pa_cons pe_str (pa_cons pe_str (pa_cons pe_str pa_nil)))) pa_nil))) (pa_cons (pe_tup (pa_cons pe_str (pa_cons (pe_lst (pa_cons pe_str pa_nil)) pa_nil))) (pa_cons (pe_tup (pa_cons pe_str (pa_cons (pe_lst (pa_cons pe_str (pa_cons pe_str pa_nil))) pa_nil))) pa_nil)))))))))), ?_⟩
    have hm' : s = "begin" ∨ s = "send" ∨ s = "back" ∨ s = "end" := by simpa [SORTS] using hm
    rcases hm' with rfl | rfl | rfl | rfl
    · walk_at "go"
      walk_at "lit"
      walk_at "rd"
      (refine ⟨(by walk_at "sz"), fun l1 nl1 => ?_⟩; generalize hH_ : upd _ l1 _ = H1; obtain ⟨el1, hl1⟩ := new_of hH_ nl1; clear hH_)
      walk_at "rd"
      (refine ⟨(by walk_at "sz"), fun t1 nt1 => ?_⟩; generalize hH_ : upd _ t1 _ = H2; obtain ⟨et1, ht1⟩ := new_of hH_ nt1; clear hH_)
      walk_at "rd"
      (refine ⟨(by walk_at "sz"), fun l2 nl2 => ?_⟩; generalize hH_ : upd _ l2 _ = H3; obtain ⟨el2, hl2⟩ := new_of hH_ nl2; clear hH_)
      walk_at "rd"
      (refine ⟨(by walk_at "sz"), fun t2 nt2 => ?_⟩; generalize hH_ : upd _ t2 _ = H4; obtain ⟨et2, ht2⟩ := new_of hH_ nt2; clear hH_)
      walk_at "rd"
      (refine ⟨(by walk_at "sz"), fun l3 nl3 => ?_⟩; generalize hH_ : upd _ l3 _ = H5; obtain ⟨el3, hl3⟩ := new_of hH_ nl3; clear hH_)
      walk_at "rd"
      (refine ⟨(by walk_at "sz"), fun t3 nt3 => ?_⟩; generalize hH_ : upd _ t3 _ = H6; obtain ⟨et3, ht3⟩ := new_of hH_ nt3; clear hH_)
      walk_at "rd"
      (refine ⟨(by walk_at "sz"), fun p np => ?_⟩; generalize hH_ : upd _ p _ = H7; obtain ⟨ep, hp⟩ := new_of hH_ np; clear hH_)
      refine k p [t1, t2, t3] H7 (Same.free (((((el1.trans et1).trans el2).trans et2).trans el3).trans et3) np) ((((((el1.trans et1).trans el2).trans et2).trans el3).trans et3).trans ep) hp ?_
      refine .cons ⟨l1, nl1, ?_, ?_⟩ (.cons ⟨l2, Same.free (el1.trans et1) nl2, ?_, ?_⟩ (.cons ⟨l3, Same.free (((el1.trans et1).trans el2).trans et2) nl3, ?_, ?_⟩ .nil)) <;> walk_at "lk"
    · walk_at "go"
      walk_at "lit"
      walk_at "rd"
      walk_at "lit"
      walk_at "rd"
      (refine ⟨(by walk_at "sz"), fun l1 nl1 => ?_⟩; generalize hH_ : upd _ l1 _ = H1; obtain ⟨el1, hl1⟩ := new_of hH_ nl1; clear hH_)
      walk_at "rd"
      (refine ⟨(by walk_at "sz"), fun t1 nt1 => ?_⟩; generalize hH_ : upd _ t1 _ = H2; obtain ⟨et1, ht1⟩ := new_of hH_ nt1; clear hH_)
      walk_at "rd"
      (refine ⟨(by walk_at "sz"), fun l2 nl2 => ?_⟩; generalize hH_ : upd _ l2 _ = H3; obtain ⟨el2, hl2⟩ := new_of hH_ nl2; clear hH_)
      walk_at "rd"
      (refine ⟨(by walk_at "sz"), fun t2 nt2 => ?_⟩; generalize hH_ : upd _ t2 _ = H4; obtain ⟨et2, ht2⟩ := new_of hH_ nt2; clear hH_)
      walk_at "rd"
      (refine ⟨(by walk_at "sz"), fun l3 nl3 => ?_⟩; generalize hH_ : upd _ l3 _ = H5; obtain ⟨el3, hl3⟩ := new_of hH_ nl3; clear hH_)
      walk_at "rd"
      (refine ⟨(by walk_at "sz"), fun t3 nt3 => ?_⟩; generalize hH_ : upd _ t3 _ = H6; obtain ⟨et3, ht3⟩ := new_of hH_ nt3; clear hH_)
      walk_at "rd"
      (refine ⟨(by walk_at "sz"), fun p np => ?_⟩; generalize hH_ : upd _ p _ = H7; obtain ⟨ep, hp⟩ := new_of hH_ np; clear hH_)
      refine k p [t1, t2, t3] H7 (Same.free (((((el1.trans et1).trans el2).trans et2).trans el3).trans et3) np) ((((((el1.trans et1).trans el2).trans et2).trans el3).trans et3).trans ep) hp ?_
      refine .cons ⟨l1, nl1, ?_, ?_⟩ (.cons ⟨l2, Same.free (el1.trans et1) nl2, ?_, ?_⟩ (.cons ⟨l3, Same.free (((el1.trans et1).trans el2).trans et2) nl3, ?_, ?_⟩ .nil)) <;> walk_at "lk"
    · walk_at "go"
      walk_at "lit"
      walk_at "rd"
      walk_at "lit"
      walk_at "rd"
      walk_at "lit"
      walk_at "rd"
      (refine ⟨(by walk_at "sz"), fun l1 nl1 => ?_⟩; generalize hH_ : upd _ l1 _ = H1; obtain ⟨el1, hl1⟩ := new_of hH_ nl1; clear hH_)
      walk_at "rd"
      (refine ⟨(by walk_at "sz"), fun t1 nt1 => ?_⟩; generalize hH_ : upd _ t1 _ = H2; obtain ⟨et1, ht1⟩ := new_of hH_ nt1; clear hH_)
      walk_at "rd"
      (refine ⟨(by walk_at "sz"), fun l2 nl2 => ?_⟩; generalize hH_ : upd _ l2 _ = H3; obtain ⟨el2, hl2⟩ := new_of hH_ nl2; clear hH_)
      walk_at "rd"
      (refine ⟨(by walk_at "sz"), fun t2 nt2 => ?_⟩; generalize hH_ : upd _ t2 _ = H4; obtain ⟨et2, ht2⟩ := new_of hH_ nt2; clear hH_)
      walk_at "rd"
      (refine ⟨(by walk_at "sz"), fun l3 nl3 => ?_⟩; generalize hH_ : upd _ l3 _ = H5; obtain ⟨el3, hl3⟩ := new_of hH_ nl3; clear hH_)
      walk_at "rd"
      (refine ⟨(by walk_at "sz"), fun t3 nt3 => ?_⟩; generalize hH_ : upd _ t3 _ = H6; obtain ⟨et3, ht3⟩ := new_of hH_ nt3; clear hH_)
      walk_at "rd"
      (refine ⟨(by walk_at "sz"), fun l4 nl4 => ?_⟩; generalize hH_ : upd _ l4 _ = H7; obtain ⟨el4, hl4⟩ := new_of hH_ nl4; clear hH_)
      walk_at "rd"
      (refine ⟨(by walk_at "sz"), fun t4 nt4 => ?_⟩; generalize hH_ : upd _ t4 _ = H8; obtain ⟨et4, ht4⟩ := new_of hH_ nt4; clear hH_)
      walk_at "rd"
      (refine ⟨(by walk_at "sz"), fun p np => ?_⟩; generalize hH_ : upd _ p _ = H9; obtain ⟨ep, hp⟩ := new_of hH_ np; clear hH_)
      refine k p [t1, t2, t3, t4] H9 (Same.free (((((((el1.trans et1).trans el2).trans et2).trans el3).trans et3).trans el4).trans et4) np) ((((((((el1.trans et1).trans el2).trans et2).trans el3).trans et3).trans el4).trans et4).trans ep) hp ?_
      refine .cons ⟨l1, nl1, ?_, ?_⟩ (.cons ⟨l2, Same.free (el1.trans et1) nl2, ?_, ?_⟩ (.cons ⟨l3, Same.free (((el1.trans et1).trans el2).trans et2) nl3, ?_, ?_⟩ (.cons ⟨l4, Same.free (((((el1.trans et1).trans el2).trans et2).trans el3).trans et3) nl4, ?_, ?_⟩ .nil))) <;> walk_at "lk"
    · walk_at "go"
      walk_at "lit"
      walk_at "rd"
      walk_at "lit"
      walk_at "rd"
      walk_at "lit"
      walk_at "rd"
      (refine ⟨(by walk_at "sz"), fun l1 nl1 => ?_⟩; generalize hH_ : upd _ l1 _ = H1; obtain ⟨el1, hl1⟩ := new_of hH_ nl1; clear hH_)
      walk_at "rd"
      (refine ⟨(by walk_at "sz"), fun t1 nt1 => ?_⟩; generalize hH_ : upd _ t1 _ = H2; obtain ⟨et1, ht1⟩ := new_of hH_ nt1; clear hH_)
      walk_at "rd"
      (refine ⟨(by walk_at "sz"), fun l2 nl2 => ?_⟩; generalize hH_ : upd _ l2 _ = H3; obtain ⟨el2, hl2⟩ := new_of hH_ nl2; clear hH_)
      walk_at "rd"
      (refine ⟨(by walk_at "sz"), fun t2 nt2 => ?_⟩; generalize hH_ : upd _ t2 _ = H4; obtain ⟨et2, ht2⟩ := new_of hH_ nt2; clear hH_)
      walk_at "rd"
      (refine ⟨(by walk_at "sz"), fun l3 nl3 => ?_⟩; generalize hH_ : upd _ l3 _ = H5; obtain ⟨el3, hl3⟩ := new_of hH_ nl3; clear hH_)
      walk_at "rd"
      (refine ⟨(by walk_at "sz"), fun t3 nt3 => ?_⟩; generalize hH_ : upd _ t3 _ = H6; obtain ⟨et3, ht3⟩ := new_of hH_ nt3; clear hH_)
      walk_at "rd"
      (refine ⟨(by walk_at "sz"), fun l4 nl4 => ?_⟩; generalize hH_ : upd _ l4 _ = H7; obtain ⟨el4, hl4⟩ := new_of hH_ nl4; clear hH_)
      walk_at "rd"
      (refine ⟨(by walk_at "sz"), fun t4 nt4 => ?_⟩; generalize hH_ : upd _ t4 _ = H8; obtain ⟨et4, ht4⟩ := new_of hH_ nt4; clear hH_)
      walk_at "rd"
      (refine ⟨(by walk_at "sz"), fun p np => ?_⟩; generalize hH_ : upd _ p _ = H9; obtain ⟨ep, hp⟩ := new_of hH_ np; clear hH_)
      refine k p [t1, t2, t3, t4] H9 (Same.free (((((((el1.trans et1).trans el2).trans et2).trans el3).trans et3).trans el4).trans et4) np) ((((((((el1.trans et1).trans el2).trans et2).trans el3).trans et3).trans el4).trans et4).trans ep) hp ?_
      refine .cons ⟨l1, nl1, ?_, ?_⟩ (.cons ⟨l2, Same.free (el1.trans et1) nl2, ?_, ?_⟩ (.cons ⟨l3, Same.free (((el1.trans et1).trans el2).trans et2) nl3, ?_, ?_⟩ (.cons ⟨l4, Same.free (((((el1.trans et1).trans el2).trans et2).trans el3).trans et3) nl4, ?_, ?_⟩ .nil))) <;> walk_at "lk"
end
end K
namespace K
open PySem L2 TL
section
variable {w : World} {K : PySem.W.Frag} {mg : Str → Option Value} {base : Heap} {A : Ad}
def POOLS : List Str := ["mark", "kind", "mood", "service", "sign"]
def keyOf (x : Str) : Str := if x = "then" then "mood" else x
/-- the pools: names for each word -/
def PoolsAt (H : Hp) (d : Addr) (ns : List Str) : Prop := ∃ (kvs : List (Key × V)) (l : Addr), H d = some (.dK kvs) ∧ H l = some (.lst (ns.map V.str)) ∧ ∀ x ∈ POOLS, valV kvs (.inr x) = some (.ref l)
theorem PoolsAt.bx {b d : Addr} {H H1 : Hp} {ns : List Str} (e : Bx b H H1) (h : PoolsAt H d ns) : PoolsAt H1 d ns := let ⟨kvs, l, a, c, v⟩ := h; ⟨kvs, l, e.kp _ _ a rfl, e.kp _ _ c (fz_strs ns), v⟩
theorem PoolsAt.same {d : Addr} {H H1 : Hp} {ns : List Str} (e : Same H H1) (h : PoolsAt H d ns) : PoolsAt H1 d ns := let ⟨kvs, l, a, c, v⟩ := h; ⟨kvs, l, e _ _ a, e _ _ c, v⟩
def OkZ (wo : Str × List Str) (z : Str) : Prop := (wo.1 ∉ (["outcome", "part"] : List Str) ∧ isName z = true) ∨ z ∈ wo.2
def woOk (wo : Str × List Str) : Bool := (if (["outcome", "part"] : List Str).contains wo.1 then !wo.2.isEmpty else POOLS.contains (keyOf wo.1)) && okS wo.2 && decide (wo.2.length ≤ 10)
theorem wo_ok : ∀ s ∈ SORTS, ∀ wo ∈ wordsOf s, woOk wo = true := by decide +kernel
def spDrawn : Sp := fun vs H Q _ => ∃ (b d : Addr) (s : Str) (ns : List Str), vs = [.ref b, .str s, .ref d] ∧ BoxAt H b ∧ s ∈ SORTS ∧ PoolsAt H d ns ∧ ns ≠ [] ∧ ns.length ≤ 1000 ∧ (∀ z ∈ ns, isName z = true) ∧
  ∀ (p : Addr) (r : Rw) (H' : Hp), r.ok = true → r.sort = s → Bx b H H' → H' p = some (.tup (r.words.map V.str)) → Q (.ref p) H'
/-- the row of what was drawn -/
theorem row_of {s : Str} {zs : List Str} (hs : s ∈ SORTS) (h : Paired OkZ (wordsOf s) zs) : ∃ r : Rw, r.ok = true ∧ r.sort = s ∧ r.words = s :: zs := by
  have W : ∀ {x : Str} {l : List Str} {z : Str}, OkZ (x, l) z → okW z l = true := fun {x l z} h => by
    unfold okW
    rcases h with h | h
    · rw [h.2]; rfl
    · rw [show l.contains z = true from by simpa using h, Bool.or_true]
  have N : ∀ {x z : Str}, OkZ (x, []) z → isName z = true := fun h => by
    rcases h with h | h
    · exact h.2
    · simp at h
  have C : ∀ {x : Str} {l : List Str} {z : Str}, x ∈ (["outcome", "part"] : List Str) → OkZ (x, l) z → l.contains z = true := fun m h => by
    rcases h with h | h
    · exact absurd m h.1
    · simpa using h
  have hs' : s = "begin" ∨ s = "send" ∨ s = "back" ∨ s = "end" := by simpa [SORTS] using hs
  rcases hs' with rfl | rfl | rfl | rfl
  · rw [show wordsOf "begin" = ([("mark", ["none", "any"]), ("kind", ["any"]), ("mood", [])] : List (Str × List Str)) from by decide +kernel] at h
    cases h with | cons h1 h => cases h with | cons h2 h => cases h with | cons h3 h =>
    cases h
    exact ⟨.bgn _ _ _, by unfold Rw.ok; simp only [Bool.and_eq_true]; exact ⟨⟨W h1, W h2⟩, N h3⟩, rfl, rfl⟩
  · rw [show wordsOf "send" = ([("mood", ["any"]), ("service", ["any"]), ("mark", ["none", "same"])] : List (Str × List Str)) from by decide +kernel] at h
    cases h with | cons h1 h => cases h with | cons h2 h => cases h with | cons h3 h =>
    cases h
    exact ⟨.snd _ _ _, by unfold Rw.ok; simp only [Bool.and_eq_true]; exact ⟨⟨W h1, W h2⟩, W h3⟩, rfl, rfl⟩
  · rw [show wordsOf "back" = ([("mood", ["any"]), ("service", ["any"]), ("sign", ["none", "any"]), ("then", ["same"])] : List (Str × List Str)) from by decide +kernel] at h
    cases h with | cons h1 h => cases h with | cons h2 h => cases h with | cons h3 h => cases h with | cons h4 h =>
    cases h
    exact ⟨.bck _ _ _ _, by unfold Rw.ok; simp only [Bool.and_eq_true]; exact ⟨⟨⟨W h1, W h2⟩, W h3⟩, W h4⟩, rfl, rfl⟩
  · rw [show wordsOf "end" = ([("mood", ["any"]), ("outcome", ["good", "bad", "any"]), ("sign", ["none"]), ("part", ["keep", "drop"])] : List (Str × List Str)) from by decide +kernel] at h
    cases h with | cons h1 h => cases h with | cons h2 h => cases h with | cons h3 h => cases h with | cons h4 h =>
    cases h
    exact ⟨.fin _ _ _ _, by unfold Rw.ok; simp only [Bool.and_eq_true]; exact ⟨⟨⟨W h1, C (by decide +kernel) h2⟩, W h3⟩, C (by decide +kernel) h4⟩, rfl, rfl⟩
theorem paired_at {α β : Type} {R : α → β → Prop} : ∀ {xs : List α} {ys : List β}, Paired R xs ys → ∀ {i : Nat} {x : α}, xs[i]? = some x → ∃ y, ys[i]? = some y ∧ R x y
  | _, _, .nil, i, x, h => by simp at h
  | _, _, .cons h t, 0, x, e => by
    simp at e
    subst e
    exact ⟨_, rfl, h⟩
  | _, _, .cons h t, i + 1, x, e => by
    obtain ⟨y, a, b⟩ := paired_at t (i := i) (x := x) (by simpa using e)
    exact ⟨y, by simpa using a, b⟩
theorem paired_len {α β : Type} {R : α → β → Prop} : ∀ {xs : List α} {ys : List β}, Paired R xs ys → xs.length = ys.length
  | _, _, .nil => rfl
  | _, _, .cons _ t => congrArg (· + 1) (paired_len t)
theorem paired_snoc {α β : Type} {R : α → β → Prop} {x : α} {y : β} (r : R x y) : ∀ {xs : List α} {ys : List β}, Paired R xs ys → Paired R (xs ++ [x]) (ys ++ [y])
  | _, _, .nil => .cons r .nil
  | _, _, .cons h t => .cons h (paired_snoc r t)
theorem paired_imp {α β : Type} {R S : α → β → Prop} (f : ∀ a b, R a b → S a b) : ∀ {xs : List α} {ys : List β}, Paired R xs ys → Paired S xs ys
  | _, _, .nil => .nil
  | _, _, .cons h t => .cons (f _ _ h) (paired_imp f t)
theorem fz_refs (ts : List Addr) : fz (.lst (ts.map V.ref)) = true := by
  cases ts with
  | nil => rfl
  | cons w ws => rfl
theorem ok_drawn (T : Tx K mg A) : FnOk PG w K mg base CX0 3 A._law_drawn_row A._law_drawn_row_d ["_law_box_here", "_law_sort", "_law_pools"] spDrawn := by
  have G__law_take : FnOk PG w K mg base CX0 1 A._law_take A._law_take_d ["_law_box_here", "_law_many"] spTake := ok_take T
  have G__law_pick : FnOk PG w K mg base CX0 2 A._law_pick A._law_pick_d ["_law_box_here", "_law_some"] spPick := ok_pick T
  have G__law_words : FnOk PG w K mg base CX0 1 A._law_words A._law_words_d ["_law_row_here"] (spWords K) := ok_words T
  refine T._law_drawn_row.F.ok sc__law_drawn_row (fun vs H Q E h => ?_) (fun cdv Ar outer s H vs Q E hr h => ?_)
  · obtain ⟨b, d, s, ns, rfl, _⟩ := h
    rfl
  · obtain ⟨b, d, s, ns, rfl, hB, hs, hP, n0, n1, hn, k⟩ := h
    refine ⟨_, (pss_cons (ps_set (i := 3) sc__law_drawn_row.nd rfl (Or.inl rfl) (pe_lst (pa_cons (pv 1) pa_nil)))
    (pss_cons (ps_for PassesOwn.never rfl (pi_list (pe_call G__law_words (hr.mono (by decide)) (by rfl) T._law_words.g T._law_words.F.kp T._law_words.b .nil pass0 (pa_cons (pe_tup (pa_cons (pv 1) pa_nil)) pa_nil))) (pg_tup rfl (pgs_cons (pg_name (i := 4) sc__law_drawn_row.nd rfl (Or.inl rfl)) (pgs_cons (pg_name (i := 5) sc__law_drawn_row.nd rfl (Or.inl rfl)) pgs_nil)))
    (pss_cons (ps_set (i := 6) sc__law_drawn_row.nd rfl (Or.inl rfl) (pe_ifExp (pt_cmpR op_notIn_seq (pv 4) (pe_tup (pa_cons pe_str (pa_cons pe_str pa_nil))) (by rfl)) (pe_dget (hu_of hr) (pv 2) (pe_ifExp (pt_cmpR op_eq (pv 4) pe_str (nomark _)) pe_str (pv 4)) (fun _ _ => rfl)) (pe_lst pa_nil)))
    (pss_cons (ps_set (i := 7) sc__law_drawn_row.nd rfl (Or.inl rfl) (pe_ifExp (PW.pt (pw_or (pt_cmpR (op_eqD hr.units) (pv 6) (pe_lst pa_nil) (nomark _)) (pw_or1 (PW.pt (pw_and (pt_cmpR (op_neD hr.units) (pv 5) (pe_lst pa_nil) (nomark _)) (pw_and1 (pt_cmpR op_eq (pe_call G__law_take (hr.mono (by decide)) (by rfl) T._law_take.g T._law_take.F.kp T._law_take.b .nil pass0 (pa_cons (pv 0) (pa_cons pe_int pa_nil))) pe_int (nomark _)))))))) (pv 5) (pv 6)))
    (pss_one (ps_expr (pe_bm PySem.F.plainAttrs_list PySem.F.slot_list_append PySem.F.type_list_append mt_append (pv 3) (pa_cons (pe_call G__law_pick (hr.mono (by decide)) (by rfl) T._law_pick.g T._law_pick.F.kp T._law_pick.b .nil pass0 (pa_cons (pv 0) (pa_cons (pv 7) pa_nil))) pa_nil)))))))
    (pss_one (ps_ret (pe_callTy call_tuple_of (by rfl) T.b_tuple (by decide +kernel) (pa_cons (pv 3) pa_nil)))))), ?_⟩
    walk_at "go"
    (refine ⟨(by walk_at "sz"), fun f nf => ?_⟩; generalize hH_ : upd _ f _ = H1; obtain ⟨e1, hf⟩ := new_of hH_ nf; clear hH_)
    walk_at "rd"
    (refine ⟨(by walk_at "sz"), fun u nu => ?_⟩; generalize hH_ : upd _ u _ = H2; obtain ⟨e2, hu⟩ := new_of hH_ nu; clear hH_)
    walk_at "rd"
    refine ⟨_, s, rfl, SqT.of hu, hs, fun p ts H3 np e3 hp hw => ?_⟩
    walk_at "rd"
    have b3 : Bx b H H3 := ((e1.trans e2).trans e3).bx hB
    have hf3 : H3 f = some (.lst ([s].map V.str)) := e3 _ _ (e2 _ _ hf)
    have nfp : p ≠ f := fun e => by rw [e, e2 _ _ hf] at np; cases np
    have lw : ts.length = (wordsOf s).length := paired_len hw
    have l4 : (wordsOf s).length ≤ 4 := by
      have : ∀ s ∈ SORTS, (wordsOf s).length ≤ 4 := by decide +kernel
      exact this s hs
    have keepF : ∀ {H4 H5 : Hp} {xs : List V}, Bx b H H4 → H4 f = some (.lst xs) → Bx b H4 H5 → H5 f = some (.lst xs) := fun x y z => frBx.keep x nf z y
    refine forL (xs := ts.map V.ref) (fun i σ' H' => ∃ x4 x5 x6 x7, σ' = [some (.ref b), some (.str s), some (.ref d), some (.ref f), x4, x5, x6, x7] ∧ Bx b H H' ∧ H' p = some (.lst (ts.map V.ref)) ∧ Paired (WoAt H2 H') ts (wordsOf s) ∧ ∃ zs : List Str, H' f = some (.lst ((s :: zs).map V.str)) ∧ Paired OkZ ((wordsOf s).take i) zs) ?_ ?_ ?_ ?_
    · exact ⟨none, none, none, none, rfl, b3, hp, hw, [], hf3, .nil⟩
    · rintro i σ' H' hi ⟨x4, x5, x6, x7, rfl, _, h, _⟩
      exact SqL.of h
    · rintro i x σ' H' hx ⟨x4, x5, x6, x7, rfl, bx, hp', hw', zs, hf', hz⟩
      obtain ⟨t, ht, rfl⟩ : ∃ t, ts[i]? = some t ∧ x = .ref t := by
        rw [List.getElem?_map] at hx
        cases e : ts[i]? with
        | none => rw [e] at hx; cases hx
        | some t => rw [e] at hx; cases hx; exact ⟨t, rfl, rfl⟩
      obtain ⟨wo, hwo, l, hl0, hl1, hl2⟩ := paired_at hw' ht
      have hP' := hP.bx bx
      have ok := wo_ok s hs wo (List.mem_of_getElem? hwo)
      unfold woOk at ok
      simp only [Bool.and_eq_true, decide_eq_true_eq] at ok
      refine rd_gtup (SqT.of hl1) rfl ?_
      walk_at "rd"
      (refine ⟨(by walk_at "sz"), fun q nq => ?_⟩; generalize hH_ : upd _ q _ = H4; obtain ⟨e4, hq⟩ := new_of hH_ nq; clear hH_)
      walk_at "rd"
      refine rd_niTs (ws := ["outcome", "part"]) (SqT.of hq) ?_
      walk_at "rd"
      have bx4 : Bx b H H4 := bx.same e4
      have hi : i < (wordsOf s).length := (List.getElem?_eq_some_iff.mp hwo).1
      have zl : zs.length ≤ 4 := by
        have := paired_len hz
        rw [List.length_take] at this
        omega
      /- what is drawn is put at the end -/
      have put : ∀ (z : Str) (H5 : Hp) (y4 y5 y6 y7 : Option V) (R : VK), Bx b H4 H5 → OkZ wo z → (∀ H6, (∃ x4 x5 x6 x7, [some (V.ref b), some (V.str s), some (V.ref d), some (V.ref f), y4, y5, y6, y7] = [some (V.ref b), some (V.str s), some (V.ref d), some (V.ref f), x4, x5, x6, x7] ∧ Bx b H H6 ∧ H6 p = some (.lst (ts.map V.ref)) ∧ Paired (WoAt H2 H6) ts (wordsOf s) ∧ ∃ zs : List Str, H6 f = some (.lst ((s :: zs).map V.str)) ∧ Paired OkZ ((wordsOf s).take (i + 1)) zs) → R .non H6) → rAppend (.ref f) [.str z] H5 R := by
        intro z H5 y4 y5 y6 y7 R b5 oz kk
        have hf5 := keepF bx4 (e4 _ _ hf') b5
        refine rd_append hf5 ?_ (kk _ ⟨y4, y5, y6, y7, rfl, (bx4.trans b5).mut nf, ?_, ?_, zs ++ [z], ?_, ?_⟩)
        · refine Nat.lt_of_le_of_lt (show ((s :: zs).map V.str).length ≤ 1000 from ?_) (by decide)
          rw [List.length_map, List.length_cons]
          omega
        · rw [upd_ne nfp]
          exact b5.kp _ _ (e4 _ _ hp') (fz_refs ts)
        · exact paired_imp (fun t wo h => WoAt.mut ((h.same e4).bx b5) hf5 (e2 _ _ hf)) hw'
        · rw [upd_same]
          show _ = some (HO.lst (V.str s :: (zs ++ [z]).map V.str))
          rw [List.map_append]
          rfl
        · rw [List.take_add_one, hwo]
          exact paired_snoc oz hz
      have hl4 : H4 l = some (.lst (wo.2.map V.str)) := e4 _ _ hl2
      have okl : okS wo.2 = true := ok.1.2
      cases hc : (["outcome", "part"] : List Str).contains wo.1 with
      | true =>
        walk_at "rd"
        (refine ⟨(by walk_at "sz"), fun g ng => ?_⟩; generalize hH_ : upd _ g _ = H5; obtain ⟨e5, hg⟩ := new_of hH_ ng; clear hH_)
        walk_at "rd"
        (refine ⟨(by walk_at "sz"), fun g2 ng2 => ?_⟩; generalize hH_ : upd _ g2 _ = H6; obtain ⟨e6, hg2⟩ := new_of hH_ ng2; clear hH_)
        walk_at "rd"
        refine rd_eqLs (ws := []) (zs := []) (SqL.of (e6 _ _ hg)) (SqL.of hg2) rfl rfl ?_
        rw [decide_eq_true rfl]
        walk_at "rd"
        have hne : wo.2 ≠ [] := fun e => by
          have := ok.1.1
          rw [hc, e] at this
          exact absurd this (by simp)
        have e46 := e5.trans e6
        refine ⟨_, _, wo.2, rfl, (bx4.same e46).b1, e46 _ _ hl4, hne, by omega, fun z H7 hz7 e7 => ?_⟩
        walk_at "rd"
        exact put z H7 _ _ _ _ _ (e46.bxs bx4.b1 e7) (.inr hz7) fun H6 q => q
      | false =>
        refine iteNF ?_
        have hk : keyOf wo.1 ∈ POOLS := by
          have := ok.1.1
          rw [hc] at this
          simpa using this
        have nm : wo.1 ∉ (["outcome", "part"] : List Str) := fun m => by
          rw [show (["outcome", "part"] : List Str).contains wo.1 = true from by simpa using m] at hc
          cases hc
        obtain ⟨kvs, nl, hd, hnl, hv⟩ := hP'.same e4
        have step : ∀ R : VK, R (.ref nl) H4 → tDGet (tVar 2) (tIf (tTest (tOp rEq (tVar 4) (tC (.str "then")))) (tC (.str "mood")) (tVar 4)) [some (V.ref b), some (V.str s), some (V.ref d), some (V.ref f), some (V.str wo.1), some (V.ref l), x6, x7] H4 R := by
          intro R hR
          walk_at "rd"
          rw [dec_str]
          refine ite2 (fun c => ?_) (fun c => ?_)
          · have c' : wo.1 = "then" := of_decide_eq_true c
            walk_at "rd"
            have e : keyOf wo.1 = "mood" := by unfold keyOf; rw [if_pos c']
            rw [e] at hk
            exact rd_dgv (k := .inr "mood") hd rfl (hv _ hk) hR
          · have c' : wo.1 ≠ "then" := fun e => c (decide_eq_true e)
            walk_at "rd"
            have e : keyOf wo.1 = wo.1 := by unfold keyOf; rw [if_neg c']
            rw [e] at hk
            exact rd_dgv (k := .inr wo.1) hd rfl (hv _ hk) hR
        refine step _ ?_
        walk_at "rd"
        (refine ⟨(by walk_at "sz"), fun g ng => ?_⟩; generalize hH_ : upd _ g _ = H5; obtain ⟨e5, hg⟩ := new_of hH_ ng; clear hH_)
        walk_at "rd"
        refine rd_eqLs (ws := ns) (zs := []) (SqL.of (e5 _ _ hnl)) (SqL.of hg) (okS_names hn) rfl ?_
        rw [decide_eq_false n0]
        walk_at "rd"
        (refine ⟨(by walk_at "sz"), fun g2 ng2 => ?_⟩; generalize hH_ : upd _ g2 _ = H6; obtain ⟨e6, hg2⟩ := new_of hH_ ng2; clear hH_)
        walk_at "rd"
        refine rd_neLs (ws := wo.2) (zs := []) (SqL.of (e6 _ _ (e5 _ _ hl4))) (SqL.of hg2) okl rfl ?_
        have e46 := e5.trans e6
        have names : ∀ (H7 : Hp) (y4 y5 y6 y7 : Option V), Bx b H4 H7 → True := fun _ _ _ _ _ _ => True.intro
        cases hne : decide (wo.2 = []) with
        | true =>
          walk_at "rd"
          refine ⟨_, _, ns, rfl, (bx4.same e46).b1, e46 _ _ hnl, n0, n1, fun z H7 hz7 e7 => ?_⟩
          walk_at "rd"
          exact put z H7 _ _ _ _ _ (e46.bxs bx4.b1 e7) (.inl ⟨nm, hn z hz7⟩) fun H6 q => q
        | false =>
          walk_at "rd"
          refine ⟨_, _, rfl, by decide, by decide, (bx4.same e46).b1, fun dd H7 d0 d1 e7 => ?_⟩
          have b47 := e46.bxs bx4.b1 e7
          have hf7 := keepF bx4 (e4 _ _ hf') b47
          walk_at "rd"
          refine ite2 (fun c => ?_) (fun c => ?_)
          · walk_at "rd"
            refine ⟨_, _, wo.2, rfl, b47.b1, bx_strs b47 hl4, of_decide_eq_false hne, by omega, fun z H8 hz8 e8 => ?_⟩
            walk_at "rd"
            exact put z H8 _ _ _ _ _ (b47.trans e8) (.inr hz8) fun H6 q => q
          · walk_at "rd"
            refine ⟨_, _, ns, rfl, b47.b1, bx_strs b47 hnl, n0, n1, fun z H8 hz8 e8 => ?_⟩
            walk_at "rd"
            exact put z H8 _ _ _ _ _ (b47.trans e8) (.inl ⟨nm, hn z hz8⟩) fun H6 q => q
    · rintro σ' H' ⟨x4, x5, x6, x7, rfl, bx, hp', hw', zs, hf', hz⟩
      rw [List.length_map, lw, List.take_length] at hz
      obtain ⟨r, r1, r2, r3⟩ := row_of hs hz
      walk_at "rd"
      refine ⟨_, _, rfl, .inl ⟨SqL.of hf', ?_⟩⟩
      (refine fun q nq => ?_; generalize hH_ : upd _ q _ = H4; obtain ⟨e4, hq⟩ := new_of hH_ nq; clear hH_)
      exact k q r H4 r1 r2 (bx.same e4) (by rw [r3]; exact hq)
end
end K
namespace K
open PySem L2 TL
def LITS : List Str := ["begin", "send", "back", "end", "none", "any", "same", "good", "bad", "keep", "drop"]
theorem okW_lit {z : Str} {ws : List Str} (h : okW z ws = true) (hw : ws.all (fun x => LITS.contains x) = true) : isName z = true ∨ z ∈ LITS := by
  rcases Bool.or_eq_true_iff.mp h with h | h
  · exact .inl h
  · have hm : z ∈ ws := by simpa using h
    exact .inr (by simpa using List.all_eq_true.mp hw z hm)
theorem con_lit {z : Str} {ws : List Str} (h : ws.contains z = true) (hw : ws.all (fun x => LITS.contains x) = true) : isName z = true ∨ z ∈ LITS := okW_lit (ws := ws) (by unfold okW; rw [h, Bool.or_true]) hw
theorem row_words {r : Rw} (h : r.ok = true) : ∀ x ∈ r.words, isName x = true ∨ x ∈ LITS := by
  intro x hx
  cases r <;> simp only [Rw.ok, Bool.and_eq_true] at h <;> simp only [Rw.words, List.mem_cons, List.not_mem_nil, or_false] at hx
  · rcases hx with rfl | rfl | rfl | rfl
    · exact .inr (by decide +kernel)
    · exact okW_lit h.1.1 (by decide +kernel)
    · exact okW_lit h.1.2 (by decide +kernel)
    · exact .inl h.2
  · rcases hx with rfl | rfl | rfl | rfl
    · exact .inr (by decide +kernel)
    · exact okW_lit h.1.1 (by decide +kernel)
    · exact okW_lit h.1.2 (by decide +kernel)
    · exact okW_lit h.2 (by decide +kernel)
  · rcases hx with rfl | rfl | rfl | rfl | rfl
    · exact .inr (by decide +kernel)
    · exact okW_lit h.1.1.1 (by decide +kernel)
    · exact okW_lit h.1.1.2 (by decide +kernel)
    · exact okW_lit h.1.2 (by decide +kernel)
    · exact okW_lit h.2 (by decide +kernel)
  · rcases hx with rfl | rfl | rfl | rfl | rfl
    · exact .inr (by decide +kernel)
    · exact okW_lit h.1.1.1 (by decide +kernel)
    · exact con_lit h.1.1.2 (by decide +kernel)
    · exact okW_lit h.1.2 (by decide +kernel)
    · exact con_lit h.2 (by decide +kernel)
theorem name_chars {z : Str} (h : isName z = true) : ∀ c ∈ z.cps.toList, c ∈ LET.cps.toList := by
  unfold isName at h
  simp only [Bool.and_eq_true] at h
  exact fun c hc => of_decide_eq_true (List.all_eq_true.mp h.2 c hc)
theorem row_okS {r : Rw} (h : r.ok = true) : okS r.words = true := by
  refine List.all_eq_true.mpr fun x hx => ?_
  rcases row_words h x hx with q | q
  · exact isName_ok q
  · have : ∀ x ∈ LITS, PyData.strOk x = true := by decide +kernel
    exact this x q
theorem row_nosp {r : Rw} (h : r.ok = true) : ∀ x ∈ r.words, 32 ∉ tl x := by
  intro x hx
  rcases row_words h x hx with q | q
  · intro m
    have h2 : 32 ∈ LET.cps.toList := name_chars q 32 m
    exact absurd h2 (by decide +kernel)
  · have : ∀ x ∈ LITS, 32 ∉ tl x := by decide +kernel
    exact this x q
theorem row_ne (r : Rw) : r.words ≠ [] := by cases r <;> simp [Rw.words]
theorem text_inj {r q : Rw} (h : r.ok = true) (h' : q.ok = true) : decide (r.text = q.text) = decide (r.words = q.words) := by
  rw [Bool.eq_iff_iff, decide_eq_true_iff, decide_eq_true_iff]
  constructor
  · intro e
    have e1 : Txt.split r.text sp1 = r.words := TL.split_join (s := 32) (S := []) (by decide +kernel) (by decide +kernel) (row_ne r) (row_nosp h)
    have e2 : Txt.split q.text sp1 = q.words := TL.split_join (s := 32) (S := []) (by decide +kernel) (by decide +kernel) (row_ne q) (row_nosp h')
    rw [← e1, ← e2, e]
  · intro e
    unfold Rw.text
    rw [e]
theorem okS_tail {r : Rw} (h : r.ok = true) : okS r.args = true := by
  have := row_okS h
  rw [Rw.wa] at this
  unfold okS at this ⊢
  rw [List.all_cons, Bool.and_eq_true] at this
  exact this.2
/-! what repr shows of a list of words -/
theorem show_strs : ∀ ws : List Str, PyData.showableAll (dStrs ws) = true
  | [] => rfl
  | w :: ws => by
    show (PyData.showable (.str w) && PyData.showableAll (dStrs ws)) = true
    rw [show_strs ws, Bool.and_true]
    rfl
theorem leaves_strs {B : Nat} : ∀ {ws : List Str}, okS ws = true → PyData.leavesShortAll B (dStrs ws) = true
  | [], _ => rfl
  | w :: ws, h => by
    have h' : PyData.strOk w = true ∧ okS ws = true := by simpa [okS] using h
    show (PyData.leavesShort B (.str w) && PyData.leavesShortAll B (dStrs ws)) = true
    rw [leaves_strs h'.2, Bool.and_true]
    have h1 := h'.1
    unfold PyData.strOk at h1
    simp only [PyData.leavesShort]
    rw [← Array.all_toList, List.all_eq_true] at h1
    rw [List.all_eq_true]
    intro c hc
    have := of_decide_eq_true (h1 c hc)
    exact decide_eq_true (by omega)
theorem weight_strs : ∀ {ws : List Str} {n : Nat}, (∀ x ∈ ws, x.length ≤ n) → PyData.weightAll (dStrs ws) ≤ ws.length * (n + 1)
  | [], n, _ => by simp [dStrs, PyData.weightAll]
  | w :: ws, n, h => by
    have h1 := h w (List.mem_cons_self ..)
    have h2 := weight_strs (ws := ws) (n := n) fun x hx => h x (List.mem_cons_of_mem _ hx)
    show PyData.weight (.str w) + 1 + PyData.weightAll (dStrs ws) ≤ _
    have e : PyData.weight (.str w) = w.length := by simp only [PyData.weight]; rfl
    rw [e, List.length_cons, Nat.add_mul]
    omega
section
variable {K : PySem.W.Frag} {H : Hp} {Q : VK}
theorem rd_reprLs {a : Addr} {ws : List Str} (hs : SqL K H a (ws.map V.str)) (ho : okS ws = true) (hl : ws.length ≤ 100) (h4 : ∀ x ∈ ws, x.length ≤ 100) (h : Q (.str (PyData.shown (.list (dStrs ws)))) H) : rRepr K [.ref a] H Q := by
  have e1 : PyData.canLay0 (.list (dStrs ws)) = true := by simpa only [PyData.canLay0] using lay_strs ho
  have e2 : PyData.depth (.list (dStrs ws)) = 1 := by
    have e := depth_strs ws
    simp only [PyData.depth]
    omega
  refine ⟨a, .list (dStrs ws), rfl, .lst hs (dp_strs ws), ?_, PyData.hasDict_of_canLay _ e1, by omega, ?_, h⟩
  · simpa only [PyData.showable] using show_strs ws
  · refine PyData.shown_fits (B := 8) (by decide) (by decide) (by simpa only [PyData.leavesShort] using leaves_strs ho) ?_
    have := weight_strs h4
    have e3 : PyData.weight (.list (dStrs ws)) = PyData.weightAll (dStrs ws) := by simp only [PyData.weight]
    rw [e3]
    have m : ws.length * (100 + 1) ≤ 100 * 101 := Nat.mul_le_mul hl (by omega)
    exact Nat.le_trans this (Nat.le_trans m (by decide))
end
theorem arg_len {r : Rw} (h : r.ok = true) : ∀ x ∈ r.words, x.length ≤ 5 := by
  intro x hx
  rcases row_words h x hx with q | q
  · have := isName_len q
    omega
  · have : ∀ x ∈ LITS, x.length ≤ 5 := by decide +kernel
    exact this x q
theorem args_len {r : Rw} (h : r.ok = true) : ∀ x ∈ r.args, x.length ≤ 100 := fun x hx => Nat.le_trans (arg_len h x (by rw [Rw.wa]; exact List.mem_cons_of_mem _ hx)) (by decide)
theorem args_few (r : Rw) : r.args.length ≤ 100 := by cases r <;> simp [Rw.args]
theorem row_at0 (r : Rw) : atI (r.words.map V.str) 0 = some (.str r.sort) := by cases r <;> rfl
theorem row_cut (r : Rw) : cutV (r.words.map V.str) (some 1) none = r.args.map V.str := by cases r <;> rfl
theorem row_part (r : Rw) : ¬ (HT.sIx (r.words.map V.str).length 0 (some 1) = 0 ∧ HT.sIx (r.words.map V.str).length (r.words.map V.str).length none = (r.words.map V.str).length) := by
  cases r <;> (intro h; exact absurd (show (1 : Nat) = 0 from h.1) (by decide))
end K
namespace K
open PySem L2 TL
section
variable {w : World} {K : PySem.W.Frag} {mg : Str → Option Value} {base : Heap} {A : Ad}
theorem pools_val (v : V) : ∀ x ∈ POOLS, valV (mergeK [] [(.inr "mark", v), (.inr "kind", v), (.inr "mood", v), (.inr "service", v), (.inr "sign", v)]) (.inr x) = some v := by
  intro x hx
  have hx' : x = "mark" ∨ x = "kind" ∨ x = "mood" ∨ x = "service" ∨ x = "sign" := by simpa [POOLS] using hx
  rcases hx' with rfl | rfl | rfl | rfl | rfl <;> rfl
def S12 : List Str := SORTS ++ SORTS ++ SORTS
theorem rd_repT {l : Addr} {xs : List V} {H : Hp} {Q : VK} {k : Int} (hs : SqT K H l xs) (h0 : xs ≠ []) (h1 : 2 ≤ k) (h2 : k ≤ 1000) (h3 : xs.length ≤ 1000) (h : ∀ p, H p = none → Q (.ref p) (upd H p (.tup (List.replicate k.toNat xs).flatten))) : rRepT K (.ref l) (.int k) H Q := ⟨l, k, xs, rfl, rfl, hs, h0, h1, h2, h3, h⟩
def TupRow (H : Hp) (v : V) : Prop := ∃ (t : Addr) (r : Rw), v = .ref t ∧ r.ok = true ∧ H t = some (.tup (r.words.map V.str))
theorem TupRow.same {H H1 : Hp} {v : V} (e : Same H H1) (h : TupRow H v) : TupRow H1 v := let ⟨t, r, a, b, c⟩ := h; ⟨t, r, a, b, e _ _ c⟩
def spLaw (K : PySem.W.Frag) : Sp := fun vs H Q _ => ∃ (a : Addr) (ns : List Int), vs = [.ref a] ∧ SqF K H a (ns.map V.int) ∧ ns.length ≤ 63 ∧ ∀ H', Q (.bl true) H'
theorem ok_law (T : Tx K mg A) : FnG PG w K mg base CX0 12 A.law A.law_d ["_law_script"] (spLaw K) := by
  have G__law_box : FnOk PG w K mg base CX0 1 A._law_box A._law_box_d ["_law_script", "_law_k"] (spBox K) := ok_box T
  have G__law_names : FnOk PG w K mg base CX0 3 A._law_names A._law_names_d ["_law_box_here", "_law_many"] spNames := ok_names T
  have G__law_drawn_row : FnOk PG w K mg base CX0 3 A._law_drawn_row A._law_drawn_row_d ["_law_box_here", "_law_sort", "_law_pools"] spDrawn := ok_drawn T
  have G__law_row : FnOk PG w K mg base CX0 7 A._law_row A._law_row_d ["_law_row_here"] (spRow K A) := ok_row T
  have G__law_told : FnOk PG w K mg base CX0 1 A._law_told A._law_told_d ["_law_made", "_law_sort"] (spTold A) := ok_told T
  have G__law_row_text : FnOk PG w K mg base CX0 1 A._law_row_text A._law_row_text_d ["_law_row_here"] (spRowText K) := ok_row_text T
  have R_eq : FnR PG w K mg base CX0 1 A.Row_eq (spRowEq K A) := ((ok_Row_eq T).raw T.Row_eq.b .nil).imp fun vs H Q E h => by rw [List.append_nil]; exact h
  have R_str : FnR PG w K mg base CX0 1 A.Row_str (spRowStr A) := ((ok_Row_str T).raw T.Row_str.b .nil).imp fun vs H Q E h => by rw [List.append_nil]; exact h
  refine T.law.F.okG sc_law (fun vs H Q E h => ?_) (fun cdv Ar outer s H vs Q E hr hg h => ?_)
  · obtain ⟨a, ns, rfl, _⟩ := h
    rfl
  · obtain ⟨a, ns, rfl, hS, hn, k⟩ := h
    refine ⟨_, (pss_cons (ps_for PassesOwn.never rfl (pi_range1 (by rfl) T.b_range (pa_cons (pe_callB (call_max2 rfl) (by rfl) T.b_max (by decide +kernel) (pa_cons pe_int (pa_cons (pe_callB (call_min2 rfl) (by rfl) T.b_min (by decide +kernel) (pa_cons pe_int (pa_cons (pe_callB call_len_seq (by rfl) T.b_len (by decide +kernel) (pa_cons (pv 0) pa_nil)) pa_nil))) pa_nil))) pa_nil)) (pg_name (i := 1) sc_law.nd rfl (Or.inl rfl))
    (pss_cons (ps_set (i := 2) sc_law.nd rfl (Or.inr rfl) (pe_call G__law_box (hr.mono (by decide)) (by rfl) T._law_box.g T._law_box.F.kp T._law_box.b .nil pass0 (pa_cons (pv 0) (pa_cons (pv 1) pa_nil))))
    (pss_cons (ps_set (i := 3) sc_law.nd rfl (Or.inr rfl) (pe_call G__law_names (hr.mono (by decide)) (by rfl) T._law_names.g T._law_names.F.kp T._law_names.b .nil pass0 (pa_cons (pv 2) (pa_cons pe_int pa_nil))))
    (pss_cons (ps_set (i := 4) sc_law.nd rfl (Or.inr rfl) (pe_callTy (call_dictP rfl) (by rfl) T.b_dict (by decide +kernel) (pa_cons (pe_lc (own := [("_law_word", 9)]) (g := gName 9) rfl sc_law.nd (pi_tup (pe_tup (pa_cons pe_str (pa_cons pe_str (pa_cons pe_str (pa_cons pe_str (pa_cons pe_str pa_nil))))))) (blkOk_by (own := [("_law_word", 9)]) (N := ["_law_script", "_law_k", "_law_box_here", "_law_names_here", "_law_pools", "_law_rows", "_law_row_here", "_law_made", "_law_other", "_law_word", "_law_sort"]) (sc := defScope s_law) (by decide +kernel)) (fun _ _ _ _ _ => (pg_name (i := 9) sc_law.nd rfl (Or.inl rfl))) (fun _ _ _ _ _ => pts_nil) (fun _ _ _ _ _ => (pe_tup (pa_cons (pv 9) (pa_cons (pv 3) pa_nil))))) pa_nil)))
    (pss_cons (ps_setLc (i := 5) (own := [("_law_sort", 10)]) (g := gName 10) rfl sc_law.nd rfl rfl (sw_true rfl rfl rfl (by decide +kernel)) (pi_tup (pe_op op_repT (pe_tup (pa_cons pe_str (pa_cons pe_str (pa_cons pe_str (pa_cons pe_str pa_nil))))) pe_int)) (blkOk_by (own := [("_law_sort", 10)]) (N := ["_law_script", "_law_k", "_law_box_here", "_law_names_here", "_law_pools", "_law_rows", "_law_row_here", "_law_made", "_law_other", "_law_word", "_law_sort"]) (sc := defScope s_law) (by decide +kernel)) (fun _ _ _ _ _ => (pg_name (i := 10) sc_law.nd rfl (Or.inl rfl))) (fun _ _ _ _ _ => pts_nil) (fun _ _ _ _ _ => (pe_call G__law_drawn_row (hr.mono (by decide)) (by rfl) T._law_drawn_row.g T._law_drawn_row.F.kp T._law_drawn_row.b .nil pass0 (pa_cons (pv 2) (pa_cons (pv 10) (pa_cons (pv 4) pa_nil))))))
    (pss_one (ps_for PassesOwn.never rfl (pi_list (pv 5)) (pg_name (i := 6) sc_law.nd rfl (Or.inl rfl))
    (pss_cons (ps_set (i := 7) sc_law.nd rfl (Or.inl rfl) (pe_call G__law_row (hr.mono (by decide)) (by rfl) T._law_row.g T._law_row.F.kp T._law_row.b .nil pass0 (pa_cons (pv 6) pa_nil)))
    (pss_cons (ps_if (PW.pt (pw_or (pt_cmpR op_ne (pe_callB (call_repr hg hr) (by rfl) T.b_repr (by decide +kernel) (pa_cons (pe_call G__law_told (hr.mono (by decide)) (by rfl) T._law_told.g T._law_told.F.kp T._law_told.b .nil pass0 (pa_cons (pv 7) (pa_cons (pe_ix ix_tup (pv 6) pe_int (fun _ _ => rfl)) pa_nil))) pa_nil)) (pe_callB (call_repr hg hr) (by rfl) T.b_repr (by decide +kernel) (pa_cons (pe_callTy call_list_of (by rfl) T.b_list (by decide +kernel) (pa_cons (pe_slice sl_tupA (pv 6) (po_some pe_int) po_none) pa_nil)) pa_nil)) (nomark _)) (pw_or1 (pt_cmpR op_ne (pe_callTy (call_strOwn T.Row_str.fn R_str (hr.mono (by decide)) pass0) (by rfl) T.b_str (by decide +kernel) (pa_cons (pv 7) pa_nil)) (pe_call G__law_row_text (hr.mono (by decide)) (by rfl) T._law_row_text.g T._law_row_text.F.kp T._law_row_text.b .nil pass0 (pa_cons (pv 6) pa_nil)) (nomark _))))) (pss_one (ps_ret pe_bl)) pss_nil)
    (pss_cons (ps_if (PW.pt (pw_or (pt_not (pt_val (pe_callB call_isi (by rfl) T.b_isinstance (by decide +kernel) (pa_cons (pv 7) (pa_cons (pe_glob (v := .ref A.C_Row) (by rfl) T.C_Row.g rfl) pa_nil))))) (pw_or (pt_cmpR (op_ownNe R_eq (hr.mono (by decide)) pass0) (pv 7) (pe_call G__law_row (hr.mono (by decide)) (by rfl) T._law_row.g T._law_row.F.kp T._law_row.b .nil pass0 (pa_cons (pv 6) pa_nil)) (nomark _)) (pw_or (pt_cmpR (op_ownEq R_eq (hr.mono (by decide)) pass0) (pv 7) (pe_callTy (call_strOwn T.Row_str.fn R_str (hr.mono (by decide)) pass0) (by rfl) T.b_str (by decide +kernel) (pa_cons (pv 7) pa_nil)) (nomark _)) (pw_or1 (pt_cmpR (op_ownEq R_eq (hr.mono (by decide)) pass0) (pv 7) (pv 6) (nomark _))))))) (pss_one (ps_ret pe_bl)) pss_nil)
    (pss_one (ps_for PassesOwn.never rfl (pi_list (pv 5)) (pg_name (i := 8) sc_law.nd rfl (Or.inl rfl))
    (pss_one (ps_if (PW.pt (pw_or (pt_cmpR op_ne (pe_cmpR (op_ownEq R_eq (hr.mono (by decide)) pass0) (pv 7) (pe_call G__law_row (hr.mono (by decide)) (by rfl) T._law_row.g T._law_row.F.kp T._law_row.b .nil pass0 (pa_cons (pv 8) pa_nil)) (nomark _)) (pe_cmpR (op_eqD hr.units) (pv 6) (pv 8) (nomark _)) (nomark _)) (pw_or1 (pt_cmpR op_ne (pe_cmpR (op_ownNe R_eq (hr.mono (by decide)) pass0) (pv 7) (pe_call G__law_row (hr.mono (by decide)) (by rfl) T._law_row.g T._law_row.F.kp T._law_row.b .nil pass0 (pa_cons (pv 8) pa_nil)) (nomark _)) (pe_cmpR (op_neD hr.units) (pv 6) (pv 8) (nomark _)) (nomark _))))) (pss_one (ps_ret pe_bl)) pss_nil))))))))))))))
    (pss_one (ps_ret pe_bl))), ?_⟩
    walk_at "go"
    have hl : ((ns.map V.int).length : Int) ≤ 63 := by rw [List.length_map]; omega
    refine ⟨by split <;> (try split) <;> omega, by split <;> (try split) <;> omega, ?_⟩
    refine forR (fun i σ' H' => ∃ x1 x2 x3 x4 x5 x6 x7 x8, σ' = [some (.ref a), x1, x2, x3, x4, x5, x6, x7, x8, none, none] ∧ Kp H H') ⟨none, none, none, none, none, none, none, none, rfl, Kp.refl H⟩ ?_ ?_
    · rintro i σ' H0 hi ⟨x1, x2, x3, x4, x5, x6, x7, x8, rfl, kp⟩
      walk_at "rd"
      refine ⟨_, _, ns, rfl, by omega, hS.kp kp, fun b Hb nb eb hb => ?_⟩
      walk_at "rd"
      refine ⟨_, _, rfl, by decide, by decide, hb, fun nl zs H1 hz lz nn b1 hnl => ?_⟩
      walk_at "rd"
      refine rd_lc ?_
      walk_at "rd"
      (refine ⟨(by walk_at "sz"), fun pt npt => ?_⟩; generalize hH_ : upd _ pt _ = H2; obtain ⟨e2, hpt⟩ := new_of hH_ npt; clear hH_)
      walk_at "rd"
      refine lcI frSame (walk_tup (xs := POOLS.map V.str)) (H := H2) (by decide) (Same.refl _) (fun j v H' => ∃ t x, v = V.ref t ∧ POOLS[j]? = some x ∧ H' t = some (.tup [.str x, .ref nl])) ?_ ?_ (fun H' e => SqT.of (e _ _ hpt)) ?_ ?_ (fun x σ1 H1 P P' h q => gm_name h q)
      · rintro j v Ha Hb' e ⟨t, x, h1, h2, h3⟩
        exact ⟨t, x, h1, h2, e _ _ h3⟩
      · rintro j v Ha D acc acc' hD ⟨t, x, h1, h2, h3⟩
        refine ⟨t, x, h1, h2, ?_⟩
        rw [upd_ne (fun e => by rw [e, hD] at h3; cases h3)]
        exact h3
      · rintro j x Ha Hb' hj ea ⟨rfl, hx⟩ P q
        refine rd_gname ⟨rfl, ?_⟩
        walk_at "rd"
        obtain ⟨y, hy, rfl⟩ : ∃ y, POOLS[j]? = some y ∧ x = V.str y := by
          rw [List.getElem?_map] at hx
          cases e : POOLS[j]? with
          | none => rw [e] at hx; cases hx
          | some t => rw [e] at hx; cases hx; exact ⟨t, rfl, rfl⟩
        (refine ⟨(by walk_at "sz"), fun t nt => ?_⟩; generalize hH_ : upd _ t _ = Hc; obtain ⟨et, ht⟩ := new_of hH_ nt; clear hH_)
        exact q _ _ et ⟨t, y, rfl, hy, ht⟩
      · intro pl H3 ys npl e3 hpl ly hys
        walk_at "rd"
        obtain ⟨t1, t2, t3, t4, t5, rfl, q1, q2, q3, q4, q5⟩ : ∃ t1 t2 t3 t4 t5 : Addr, ys = [t1, t2, t3, t4, t5].map V.ref ∧ H3 t1 = some (.tup [.str "mark", .ref nl]) ∧ H3 t2 = some (.tup [.str "kind", .ref nl]) ∧ H3 t3 = some (.tup [.str "mood", .ref nl]) ∧ H3 t4 = some (.tup [.str "service", .ref nl]) ∧ H3 t5 = some (.tup [.str "sign", .ref nl]) := by
          match ys, ly with
          | [y1, y2, y3, y4, y5], _ =>
            obtain ⟨t1, x1, rfl, h1, g1⟩ := hys 0 _ rfl
            obtain ⟨t2, x2, rfl, h2, g2⟩ := hys 1 _ rfl
            obtain ⟨t3, x3, rfl, h3, g3⟩ := hys 2 _ rfl
            obtain ⟨t4, x4, rfl, h4, g4⟩ := hys 3 _ rfl
            obtain ⟨t5, x5, rfl, h5, g5⟩ := hys 4 _ rfl
            cases h1
            cases h2
            cases h3
            cases h4
            cases h5
            exact ⟨t1, t2, t3, t4, t5, rfl, g1, g2, g3, g4, g5⟩
        refine ⟨_, [t1, t2, t3, t4, t5], [(.inr "mark", .ref nl), (.inr "kind", .ref nl), (.inr "mood", .ref nl), (.inr "service", .ref nl), (.inr "sign", .ref nl)], rfl, SqL.of hpl, .cons (SqT.of q1) (.cons (SqT.of q2) (.cons (SqT.of q3) (.cons (SqT.of q4) (.cons (SqT.of q5) .nil)))), ?_⟩
        (refine fun d nd => ?_; generalize hH_ : upd _ d _ = H4; obtain ⟨e4, hd⟩ := new_of hH_ nd; clear hH_)
        walk_at "rd"
        have b4 : Bx b Hb H4 := ((b1.same e2).same e3).same e4
        have hP : PoolsAt H4 d zs := ⟨_, nl, hd, e4 _ _ (e3 _ _ (e2 _ _ hnl)), pools_val _⟩
        refine rd_lc ?_
        walk_at "rd"
        (refine ⟨(by walk_at "sz"), fun u1 nu1 => ?_⟩; generalize hH_ : upd _ u1 _ = H5; obtain ⟨e5, hu1⟩ := new_of hH_ nu1; clear hH_)
        walk_at "rd"
        refine rd_repT (SqT.of hu1) (by simp) (by decide) (by decide) (by decide) ?_
        (refine fun u2 nu2 => ?_; generalize hH_ : upd _ u2 _ = H6; obtain ⟨e6, hu2⟩ := new_of hH_ nu2; clear hH_)
        walk_at "rd"
        have b6 : Bx b Hb H6 := (b4.same e5).same e6
        have hP6 : PoolsAt H6 d zs := (hP.same e5).same e6
        have z0 : zs ≠ [] := fun e => by rw [e] at lz; cases lz
        refine lcI frBx (walk_tup (xs := S12.map V.str)) (H := H6) (by decide) (Bx.refl b6.b1) (fun j v H' => TupRow H' v) ?_ ?_ (fun H' e => SqT.of (e.kp _ _ hu2 rfl)) ?_ ?_ (fun x σ1 H1 P P' h q => gm_name h q)
        · rintro j v Ha Hb' e ⟨t, r, h1, h2, h3⟩
          exact ⟨t, r, h1, h2, e.kp _ _ h3 rfl⟩
        · rintro j v Ha D acc acc' hD ⟨t, r, h1, h2, h3⟩
          refine ⟨t, r, h1, h2, ?_⟩
          rw [upd_ne (fun e => by rw [e, hD] at h3; cases h3)]
          exact h3
        · rintro j x Ha Hb' hj ea ⟨rfl, hx⟩ P q
          refine rd_gname ⟨rfl, ?_⟩
          walk_at "rd"
          obtain ⟨y, hy, rfl⟩ : ∃ y, y ∈ SORTS ∧ x = V.str y := by
            rw [List.getElem?_map] at hx
            cases e : S12[j]? with
            | none => rw [e] at hx; cases hx
            | some t =>
              rw [e] at hx
              cases hx
              refine ⟨t, ?_, rfl⟩
              have := List.mem_of_getElem? e
              simp only [S12, List.mem_append] at this
              rcases this with (h | h) | h <;> exact h
          refine ⟨_, _, y, zs, rfl, ea.b1, hy, hP6.bx ea, z0, by omega, hz, fun t r Hc r1 r2 bc ht => ?_⟩
          exact q _ _ bc ⟨t, r, rfl, r1, ht⟩
        · intro rl H7 ys nrl b7 hrl ly hys
          have b77 := b6.trans b7
          walk_at "rd"
          have tr : ∀ {j : Nat} {x : V} {H' : Hp}, Same H7 H' → ys[j]? = some x → TupRow H' x := fun e h => (hys _ _ h).same e
          refine forL (xs := ys) (fun j σ' H' => ∃ y6 y7 y8, σ' = [some (.ref a), some (.int i), some (.ref b), some (.ref nl), some (.ref d), some (.ref rl), y6, y7, y8, none, none] ∧ Same H7 H') ⟨_, _, _, rfl, Same.refl _⟩ ?_ ?_ ?_
          · rintro j σ' H' hj ⟨y6, y7, y8, rfl, e⟩
            exact SqL.of (e _ _ hrl)
          · rintro j x σ' Ha hx ⟨y6, y7, y8, rfl, ea⟩
            obtain ⟨t, r, rfl, ro, ht⟩ := tr ea hx
            walk_at "rd"
            refine ⟨_, r, rfl, SqT.of ht, ro, fun q Hc nq ec hq => ?_⟩
            walk_at "rd"
            refine rd_ixT (SqT.of (ec _ _ ht)) (row_at0 r) ?_
            walk_at "rd"
            refine ⟨_, r, rfl, hq, fun tl He ntl ee htl => ?_⟩
            walk_at "rd"
            refine rd_reprLs (ws := r.args) (SqL.of htl) (okS_tail ro) (args_few r) (args_len ro) ?_
            walk_at "rd"
            refine ⟨_, _, rfl, SqT.of (ee _ _ (ec _ _ ht)), fun c => absurd c (row_part r), fun _ => ?_⟩
            (refine fun ct nct => ?_; generalize hH_ : upd _ ct _ = Hf; obtain ⟨ef, hct⟩ := new_of hH_ nct; clear hH_)
            rw [row_cut] at hct
            walk_at "rd"
            (refine fun lt nlt => ?_; generalize hH_ : upd _ lt _ = Hg; obtain ⟨eg, hlt⟩ := new_of hH_ nlt; clear hH_)
            walk_at "rd"
            refine rd_reprLs (ws := r.args) (SqL.of hlt) (okS_tail ro) (args_few r) (args_len ro) ?_
            walk_at "rd"
            rw [decide_eq_true rfl]
            walk_at "rd"
            have E1 : Same Hc Hg := (ee.trans ef).trans eg
            obtain ⟨dx, hq'⟩ := hq.same E1
            refine ⟨q, _, dx, _, rfl, hq', row_str T r, q, r, rfl, ⟨dx, hq'⟩, Nat.le_trans (row_len ro) (by decide), _, rfl, ?_⟩
            walk_at "rd"
            refine ⟨_, r, rfl, SqT.of (E1 _ _ (ec _ _ ht)), ro, ?_⟩
            walk_at "rd"
            rw [decide_eq_true rfl]
            walk_at "rd"
            have eqR : ∀ {q2 : Addr} {r2 : Rw} {H' : Hp} {R : VK}, RowAt A H' q r → RowAt A H' q2 r2 → R (.bl (decide (r.text = r2.text))) H' → rOwnEq K A.Row_eq (spRowEq K A) E0 (.ref q) (.ref q2) H' R := fun {q2 r2 H' R} h h2 k => by
              obtain ⟨d1, g1⟩ := id h
              obtain ⟨d2, g2⟩ := id h2
              exact ⟨q, _, d1, _, _, rfl, g1, row_eq T r, (row_cls T r2).ty g2, row_nf T r r2, q, r, _, rfl, h, .inl ⟨q2, r2, rfl, h2, k⟩⟩
            have neR : ∀ {q2 : Addr} {r2 : Rw} {H' : Hp} {R : VK}, RowAt A H' q r → RowAt A H' q2 r2 → R (.bl (!decide (r.text = r2.text))) H' → rOwnNe K A.Row_eq (spRowEq K A) E0 (.ref q) (.ref q2) H' R := fun {q2 r2 H' R} h h2 k => by
              obtain ⟨d1, g1⟩ := id h
              obtain ⟨d2, g2⟩ := id h2
              exact ⟨q, _, d1, _, _, rfl, g1, row_eq T r, (row_cls T r2).ty g2, row_nf T r r2, q, r, _, rfl, h, .inl ⟨q2, r2, rfl, h2, _, rfl, k⟩⟩
            refine rd_isi (b := true) (.own _) ((row_cls T r).ty hq') (row_ki T r) ?_
            walk_at "rd"
            refine ⟨_, r, rfl, SqT.of (E1 _ _ (ec _ _ ht)), ro, fun q2 Hh nq2 eh hq2 => ?_⟩
            refine neR (hq.same (E1.trans eh)) hq2 ?_
            rw [decide_eq_true rfl]
            walk_at "rd"
            obtain ⟨dy, hq''⟩ := hq.same (E1.trans eh)
            refine ⟨q, _, dy, _, rfl, hq'', row_str T r, q, r, rfl, ⟨dy, hq''⟩, Nat.le_trans (row_len ro) (by decide), _, rfl, ?_⟩
            refine ⟨q, _, dy, _, _, rfl, hq'', row_eq T r, .base (.str _), row_nfs T r, q, r, _, rfl, ⟨dy, hq''⟩, .inr ⟨_, .base (.str _), T.ki_str, ?_⟩⟩
            walk_at "rd"
            have ht' : Hh t = some (.tup (r.words.map V.str)) := eh _ _ (E1 _ _ (ec _ _ ht))
            refine ⟨q, _, dy, _, _, rfl, hq'', row_eq T r, .base (.tup ht'), row_nft T r, q, r, _, rfl, ⟨dy, hq''⟩, .inr ⟨_, .base (.tup ht'), T.ki_tuple, ?_⟩⟩
            have E2 : Same H7 Hh := ((ea.trans ec).trans E1).trans eh
            have hrl2 := E2 _ _ hrl
            walk_at "rd"
            refine forL (xs := ys) (fun j σ' H' => ∃ y8, σ' = [some (.ref a), some (.int i), some (.ref b), some (.ref nl), some (.ref d), some (.ref rl), some (.ref t), some (.ref q), y8, none, none] ∧ Same Hh H') ⟨_, rfl, Same.refl _⟩ ?_ ?_ ?_
            · rintro j σ' H' hj ⟨y8, rfl, e⟩
              exact SqL.of (e _ _ hrl2)
            · rintro j x σ' Hi hx ⟨y8, rfl, ei⟩
              obtain ⟨u, r2, rfl, ro2, hu⟩ := tr (E2.trans ei) hx
              walk_at "rd"
              refine ⟨_, r2, rfl, SqT.of hu, ro2, fun q3 Hj nq3 ej hq3 => ?_⟩
              have E3 : Same Hc Hj := ((E1.trans eh).trans ei).trans ej
              refine eqR (hq.same E3) hq3 ?_
              walk_at "rd"
              refine rd_eqTs (SqT.of (ej _ _ (ei _ _ ht'))) (SqT.of (ej _ _ hu)) (row_okS ro) (row_okS ro2) ?_
              rw [text_inj ro ro2]
              walk_at "rd"
              rw [decide_eq_true rfl]
              walk_at "rd"
              refine ⟨_, r2, rfl, SqT.of (ej _ _ hu), ro2, fun q4 Hk nq4 ek hq4 => ?_⟩
              refine neR (hq.same (E3.trans ek)) hq4 ?_
              walk_at "rd"
              refine rd_neTs (SqT.of (ek _ _ (ej _ _ (ei _ _ ht')))) (SqT.of (ek _ _ (ej _ _ hu))) (row_okS ro) (row_okS ro2) ?_
              rw [text_inj ro ro2]
              walk_at "rd"
              rw [decide_eq_true rfl]
              walk_at "rd"
              exact ⟨_, rfl, (ei.trans ej).trans ek⟩
            · rintro σ' H' ⟨y8, rfl, e⟩
              exact ⟨_, _, _, rfl, E2.trans e⟩
          · rintro σ' H' ⟨y6, y7, y8, rfl, e⟩
            exact ⟨_, _, _, _, _, _, _, _, rfl, ((kp.trans eb.kp).trans b77.kp).trans e.kp⟩
    · rintro σ' H' ⟨x1, x2, x3, x4, x5, x6, x7, x8, rfl, kp⟩
      walk_at "rd"
      exact k _
end
end K
namespace K
open PySem L2
theorem all_mk {K : PySem.W.Frag} {h : Heap} {mg : Str → Option Value} (X : K.In h) (G : h.Ns mainGlobals mg)
    {C_Row : Addr} {C_Begin : Addr} {C_Send : Addr} {C_Back : Addr} {C_End : Addr} {f_is_name : Addr} {od_is_name an_is_name : Option Addr} {sl_is_name : Array (Option Value)} {oc_is_name kV_is_name dc_is_name pm_is_name ct_is_name : Value} {cd_is_name : Value} {f_is_word : Addr} {od_is_word an_is_word : Option Addr} {sl_is_word : Array (Option Value)} {oc_is_word kV_is_word dc_is_word pm_is_word ct_is_word : Value} {cd_is_word : Value} {f_is_mark : Addr} {od_is_mark an_is_mark : Option Addr} {sl_is_mark : Array (Option Value)} {oc_is_mark kV_is_mark dc_is_mark pm_is_mark ct_is_mark : Value} {cd_is_mark : Value} {f_is_sign : Addr} {od_is_sign an_is_sign : Option Addr} {sl_is_sign : Array (Option Value)} {oc_is_sign kV_is_sign dc_is_sign pm_is_sign ct_is_sign : Value} {cd_is_sign : Value} {f_Row_init : Addr} {od_Row_init an_Row_init : Option Addr} {sl_Row_init : Array (Option Value)} {oc_Row_init kV_Row_init dc_Row_init pm_Row_init ct_Row_init : Value} {cd_Row_init : Value} {f_Row_str : Addr} {od_Row_str an_Row_str : Option Addr} {sl_Row_str : Array (Option Value)} {oc_Row_str kV_Row_str dc_Row_str pm_Row_str ct_Row_str : Value} {cd_Row_str : Value} {f_Row_eq : Addr} {od_Row_eq an_Row_eq : Option Addr} {sl_Row_eq : Array (Option Value)} {oc_Row_eq kV_Row_eq dc_Row_eq pm_Row_eq ct_Row_eq : Value} {cd_Row_eq : Value} {f_need : Addr} {od_need an_need : Option Addr} {sl_need : Array (Option Value)} {oc_need kV_need dc_need pm_need ct_need : Value} {cd_need : Value} {f_Begin_init : Addr} {od_Begin_init an_Begin_init : Option Addr} {sl_Begin_init : Array (Option Value)} {oc_Begin_init kV_Begin_init dc_Begin_init pm_Begin_init ct_Begin_init : Value} {ca_Begin_init cc_Begin_init : Addr} {cl_Begin_init cv_Begin_init : Value} {cld_Begin_init cdd_Begin_init : Option Addr} {csl_Begin_init ccs_Begin_init : Array (Option Value)} {vs_Begin_init : Array Value} {file_Begin_init : Str} {tf_Begin_init : Tok} {f_Send_init : Addr} {od_Send_init an_Send_init : Option Addr} {sl_Send_init : Array (Option Value)} {oc_Send_init kV_Send_init dc_Send_init pm_Send_init ct_Send_init : Value} {ca_Send_init cc_Send_init : Addr} {cl_Send_init cv_Send_init : Value} {cld_Send_init cdd_Send_init : Option Addr} {csl_Send_init ccs_Send_init : Array (Option Value)} {vs_Send_init : Array Value} {file_Send_init : Str} {tf_Send_init : Tok} {f_Back_init : Addr} {od_Back_init an_Back_init : Option Addr} {sl_Back_init : Array (Option Value)} {oc_Back_init kV_Back_init dc_Back_init pm_Back_init ct_Back_init : Value} {ca_Back_init cc_Back_init : Addr} {cl_Back_init cv_Back_init : Value} {cld_Back_init cdd_Back_init : Option Addr} {csl_Back_init ccs_Back_init : Array (Option Value)} {vs_Back_init : Array Value} {file_Back_init : Str} {tf_Back_init : Tok} {f_End_init : Addr} {od_End_init an_End_init : Option Addr} {sl_End_init : Array (Option Value)} {oc_End_init kV_End_init dc_End_init pm_End_init ct_End_init : Value} {ca_End_init cc_End_init : Addr} {cl_End_init cv_End_init : Value} {cld_End_init cdd_End_init : Option Addr} {csl_End_init ccs_End_init : Array (Option Value)} {vs_End_init : Array Value} {file_End_init : Str} {tf_End_init : Tok} {f__law_box : Addr} {od__law_box an__law_box : Option Addr} {sl__law_box : Array (Option Value)} {oc__law_box kV__law_box dc__law_box pm__law_box ct__law_box : Value} {cd__law_box : Value} {f__law_take : Addr} {od__law_take an__law_take : Option Addr} {sl__law_take : Array (Option Value)} {oc__law_take kV__law_take dc__law_take pm__law_take ct__law_take : Value} {cd__law_take : Value} {f__law_pick : Addr} {od__law_pick an__law_pick : Option Addr} {sl__law_pick : Array (Option Value)} {oc__law_pick kV__law_pick dc__law_pick pm__law_pick ct__law_pick : Value} {cd__law_pick : Value} {f__law_mixed : Addr} {od__law_mixed an__law_mixed : Option Addr} {sl__law_mixed : Array (Option Value)} {oc__law_mixed kV__law_mixed dc__law_mixed pm__law_mixed ct__law_mixed : Value} {cd__law_mixed : Value} {f__law_names : Addr} {od__law_names an__law_names : Option Addr} {sl__law_names : Array (Option Value)} {oc__law_names kV__law_names dc__law_names pm__law_names ct__law_names : Value} {cd__law_names : Value} {f__law_row_text : Addr} {od__law_row_text an__law_row_text : Option Addr} {sl__law_row_text : Array (Option Value)} {oc__law_row_text kV__law_row_text dc__law_row_text pm__law_row_text ct__law_row_text : Value} {cd__law_row_text : Value} {f__law_row : Addr} {od__law_row an__law_row : Option Addr} {sl__law_row : Array (Option Value)} {oc__law_row kV__law_row dc__law_row pm__law_row ct__law_row : Value} {cd__law_row : Value} {f__law_words : Addr} {od__law_words an__law_words : Option Addr} {sl__law_words : Array (Option Value)} {oc__law_words kV__law_words dc__law_words pm__law_words ct__law_words : Value} {cd__law_words : Value} {f__law_drawn_row : Addr} {od__law_drawn_row an__law_drawn_row : Option Addr} {sl__law_drawn_row : Array (Option Value)} {oc__law_drawn_row kV__law_drawn_row dc__law_drawn_row pm__law_drawn_row ct__law_drawn_row : Value} {cd__law_drawn_row : Value} {f__law_told : Addr} {od__law_told an__law_told : Option Addr} {sl__law_told : Array (Option Value)} {oc__law_told kV__law_told dc__law_told pm__law_told ct__law_told : Value} {cd__law_told : Value} {f_law : Addr} {od_law an_law : Option Addr} {sl_law : Array (Option Value)} {oc_law kV_law dc_law pm_law ct_law : Value} {cd_law : Value} {k_LETTERS : Tok} {k_BARRED : Addr} {kc_BARRED : Option Addr} {kn_BARRED : Nat} {ks_BARRED : Array (Option Value)} {kt_BARRED_0 kt_BARRED_1 kt_BARRED_2 kt_BARRED_3 kt_BARRED_4 kt_BARRED_5 kt_BARRED_6 kt_BARRED_7 kt_BARRED_8 kt_BARRED_9 : Tok} {k_MOST_LETTERS : Tok} {cdd_CBegin : ClassData} {cdd_CSend : ClassData} {cdd_CBack : ClassData} {cdd_CEnd : ClassData} {kdd_Row : ClassData}
    (aC_Row : PySem.W.nsIn K mainGlobals "Row" = some (some (.ref C_Row)))
    (aC_Begin : PySem.W.nsIn K mainGlobals "Begin" = some (some (.ref C_Begin)))
    (aC_Send : PySem.W.nsIn K mainGlobals "Send" = some (some (.ref C_Send)))
    (aC_Back : PySem.W.nsIn K mainGlobals "Back" = some (some (.ref C_Back)))
    (aC_End : PySem.W.nsIn K mainGlobals "End" = some (some (.ref C_End)))
    (a_is_name : PySem.W.nsIn K mainGlobals "is_name" = some (some (.ref f_is_name)))
    (l_is_name : K.lookup f_is_name = some ⟨oc_is_name, od_is_name, .func (PySem.W.fnOf "is_name" "is_name" (defArgs s_is_name) (defBody s_is_name) (defScope s_is_name) .none kV_is_name dc_is_name pm_is_name an_is_name cd_is_name ct_is_name), sl_is_name⟩)
    (c_is_name : PySem.W.codeIn K cd_is_name "is_name" = true)
    (k_is_name : PySem.W.keepIn K (.ref f_is_name) = true)
    (a_is_word : PySem.W.nsIn K mainGlobals "is_word" = some (some (.ref f_is_word)))
    (l_is_word : K.lookup f_is_word = some ⟨oc_is_word, od_is_word, .func (PySem.W.fnOf "is_word" "is_word" (defArgs s_is_word) (defBody s_is_word) (defScope s_is_word) .none kV_is_word dc_is_word pm_is_word an_is_word cd_is_word ct_is_word), sl_is_word⟩)
    (c_is_word : PySem.W.codeIn K cd_is_word "is_word" = true)
    (k_is_word : PySem.W.keepIn K (.ref f_is_word) = true)
    (a_is_mark : PySem.W.nsIn K mainGlobals "is_mark" = some (some (.ref f_is_mark)))
    (l_is_mark : K.lookup f_is_mark = some ⟨oc_is_mark, od_is_mark, .func (PySem.W.fnOf "is_mark" "is_mark" (defArgs s_is_mark) (defBody s_is_mark) (defScope s_is_mark) .none kV_is_mark dc_is_mark pm_is_mark an_is_mark cd_is_mark ct_is_mark), sl_is_mark⟩)
    (c_is_mark : PySem.W.codeIn K cd_is_mark "is_mark" = true)
    (k_is_mark : PySem.W.keepIn K (.ref f_is_mark) = true)
    (a_is_sign : PySem.W.nsIn K mainGlobals "is_sign" = some (some (.ref f_is_sign)))
    (l_is_sign : K.lookup f_is_sign = some ⟨oc_is_sign, od_is_sign, .func (PySem.W.fnOf "is_sign" "is_sign" (defArgs s_is_sign) (defBody s_is_sign) (defScope s_is_sign) .none kV_is_sign dc_is_sign pm_is_sign an_is_sign cd_is_sign ct_is_sign), sl_is_sign⟩)
    (c_is_sign : PySem.W.codeIn K cd_is_sign "is_sign" = true)
    (k_is_sign : PySem.W.keepIn K (.ref f_is_sign) = true)
    (a_Row_init : PySem.W.findIn K (.ref C_Row) "__init__" = some (some (.ref f_Row_init)))
    (i_Row_init : PySem.W.isFn K (.ref f_Row_init) = true)
    (l_Row_init : K.lookup f_Row_init = some ⟨oc_Row_init, od_Row_init, .func (PySem.W.fnOf "__init__" "Row.__init__" (defArgs s_Row_init) (defBody s_Row_init) (defScope s_Row_init) .none kV_Row_init dc_Row_init pm_Row_init an_Row_init cd_Row_init ct_Row_init), sl_Row_init⟩)
    (c_Row_init : PySem.W.codeIn K cd_Row_init "Row.__init__" = true)
    (k_Row_init : PySem.W.keepIn K (.ref f_Row_init) = true)
    (a_Row_str : PySem.W.findIn K (.ref C_Row) "__str__" = some (some (.ref f_Row_str)))
    (i_Row_str : PySem.W.isFn K (.ref f_Row_str) = true)
    (l_Row_str : K.lookup f_Row_str = some ⟨oc_Row_str, od_Row_str, .func (PySem.W.fnOf "__str__" "Row.__str__" (defArgs s_Row_str) (defBody s_Row_str) (defScope s_Row_str) .none kV_Row_str dc_Row_str pm_Row_str an_Row_str cd_Row_str ct_Row_str), sl_Row_str⟩)
    (c_Row_str : PySem.W.codeIn K cd_Row_str "Row.__str__" = true)
    (k_Row_str : PySem.W.keepIn K (.ref f_Row_str) = true)
    (a_Row_eq : PySem.W.findIn K (.ref C_Row) "__eq__" = some (some (.ref f_Row_eq)))
    (i_Row_eq : PySem.W.isFn K (.ref f_Row_eq) = true)
    (l_Row_eq : K.lookup f_Row_eq = some ⟨oc_Row_eq, od_Row_eq, .func (PySem.W.fnOf "__eq__" "Row.__eq__" (defArgs s_Row_eq) (defBody s_Row_eq) (defScope s_Row_eq) .none kV_Row_eq dc_Row_eq pm_Row_eq an_Row_eq cd_Row_eq ct_Row_eq), sl_Row_eq⟩)
    (c_Row_eq : PySem.W.codeIn K cd_Row_eq "Row.__eq__" = true)
    (k_Row_eq : PySem.W.keepIn K (.ref f_Row_eq) = true)
    (a_need : PySem.W.nsIn K mainGlobals "need" = some (some (.ref f_need)))
    (l_need : K.lookup f_need = some ⟨oc_need, od_need, .func (PySem.W.fnOf "need" "need" (defArgs s_need) (defBody s_need) (defScope s_need) .none kV_need dc_need pm_need an_need cd_need ct_need), sl_need⟩)
    (c_need : PySem.W.codeIn K cd_need "need" = true)
    (k_need : PySem.W.keepIn K (.ref f_need) = true)
    (a_Begin_init : PySem.W.findIn K (.ref C_Begin) "__init__" = some (some (.ref f_Begin_init)))
    (i_Begin_init : PySem.W.isFn K (.ref f_Begin_init) = true)
    (l_Begin_init : K.lookup f_Begin_init = some ⟨oc_Begin_init, od_Begin_init, .func (PySem.W.ksFn "__init__" "Begin.__init__" (defArgs s_Begin_init) (defBody s_Begin_init) (defScope s_Begin_init) .none kV_Begin_init dc_Begin_init pm_Begin_init an_Begin_init (.ref ca_Begin_init) ct_Begin_init cc_Begin_init), sl_Begin_init⟩)
    (c_Begin_init : PySem.W.codeIn K (.ref ca_Begin_init) "Begin.__init__" = true)
    (k_Begin_init : PySem.W.keepIn K (.ref f_Begin_init) = true)
    (fi_Begin_init : PySem.W.fnIn K f_Begin_init = true)
    (ce_Begin_init : K.lookup cc_Begin_init = some ⟨cl_Begin_init, cld_Begin_init, .cell (some (.ref C_Begin)), csl_Begin_init⟩)
    (co_Begin_init : K.lookup ca_Begin_init = some ⟨cv_Begin_init, cdd_Begin_init, .fields vs_Begin_init, ccs_Begin_init⟩)
    (cf_Begin_init : vs_Begin_init[2]? = some (.str file_Begin_init tf_Begin_init))
    (cft_Begin_init : ((PG.main.file : Str) == file_Begin_init) = true)
    (a_Send_init : PySem.W.findIn K (.ref C_Send) "__init__" = some (some (.ref f_Send_init)))
    (i_Send_init : PySem.W.isFn K (.ref f_Send_init) = true)
    (l_Send_init : K.lookup f_Send_init = some ⟨oc_Send_init, od_Send_init, .func (PySem.W.ksFn "__init__" "Send.__init__" (defArgs s_Send_init) (defBody s_Send_init) (defScope s_Send_init) .none kV_Send_init dc_Send_init pm_Send_init an_Send_init (.ref ca_Send_init) ct_Send_init cc_Send_init), sl_Send_init⟩)
    (c_Send_init : PySem.W.codeIn K (.ref ca_Send_init) "Send.__init__" = true)
    (k_Send_init : PySem.W.keepIn K (.ref f_Send_init) = true)
    (fi_Send_init : PySem.W.fnIn K f_Send_init = true)
    (ce_Send_init : K.lookup cc_Send_init = some ⟨cl_Send_init, cld_Send_init, .cell (some (.ref C_Send)), csl_Send_init⟩)
    (co_Send_init : K.lookup ca_Send_init = some ⟨cv_Send_init, cdd_Send_init, .fields vs_Send_init, ccs_Send_init⟩)
    (cf_Send_init : vs_Send_init[2]? = some (.str file_Send_init tf_Send_init))
    (cft_Send_init : ((PG.main.file : Str) == file_Send_init) = true)
    (a_Back_init : PySem.W.findIn K (.ref C_Back) "__init__" = some (some (.ref f_Back_init)))
    (i_Back_init : PySem.W.isFn K (.ref f_Back_init) = true)
    (l_Back_init : K.lookup f_Back_init = some ⟨oc_Back_init, od_Back_init, .func (PySem.W.ksFn "__init__" "Back.__init__" (defArgs s_Back_init) (defBody s_Back_init) (defScope s_Back_init) .none kV_Back_init dc_Back_init pm_Back_init an_Back_init (.ref ca_Back_init) ct_Back_init cc_Back_init), sl_Back_init⟩)
    (c_Back_init : PySem.W.codeIn K (.ref ca_Back_init) "Back.__init__" = true)
    (k_Back_init : PySem.W.keepIn K (.ref f_Back_init) = true)
    (fi_Back_init : PySem.W.fnIn K f_Back_init = true)
    (ce_Back_init : K.lookup cc_Back_init = some ⟨cl_Back_init, cld_Back_init, .cell (some (.ref C_Back)), csl_Back_init⟩)
    (co_Back_init : K.lookup ca_Back_init = some ⟨cv_Back_init, cdd_Back_init, .fields vs_Back_init, ccs_Back_init⟩)
    (cf_Back_init : vs_Back_init[2]? = some (.str file_Back_init tf_Back_init))
    (cft_Back_init : ((PG.main.file : Str) == file_Back_init) = true)
    (a_End_init : PySem.W.findIn K (.ref C_End) "__init__" = some (some (.ref f_End_init)))
    (i_End_init : PySem.W.isFn K (.ref f_End_init) = true)
    (l_End_init : K.lookup f_End_init = some ⟨oc_End_init, od_End_init, .func (PySem.W.ksFn "__init__" "End.__init__" (defArgs s_End_init) (defBody s_End_init) (defScope s_End_init) .none kV_End_init dc_End_init pm_End_init an_End_init (.ref ca_End_init) ct_End_init cc_End_init), sl_End_init⟩)
    (c_End_init : PySem.W.codeIn K (.ref ca_End_init) "End.__init__" = true)
    (k_End_init : PySem.W.keepIn K (.ref f_End_init) = true)
    (fi_End_init : PySem.W.fnIn K f_End_init = true)
    (ce_End_init : K.lookup cc_End_init = some ⟨cl_End_init, cld_End_init, .cell (some (.ref C_End)), csl_End_init⟩)
    (co_End_init : K.lookup ca_End_init = some ⟨cv_End_init, cdd_End_init, .fields vs_End_init, ccs_End_init⟩)
    (cf_End_init : vs_End_init[2]? = some (.str file_End_init tf_End_init))
    (cft_End_init : ((PG.main.file : Str) == file_End_init) = true)
    (a__law_box : PySem.W.nsIn K mainGlobals "_law_box" = some (some (.ref f__law_box)))
    (l__law_box : K.lookup f__law_box = some ⟨oc__law_box, od__law_box, .func (PySem.W.fnOf "_law_box" "_law_box" (defArgs s__law_box) (defBody s__law_box) (defScope s__law_box) .none kV__law_box dc__law_box pm__law_box an__law_box cd__law_box ct__law_box), sl__law_box⟩)
    (c__law_box : PySem.W.codeIn K cd__law_box "_law_box" = true)
    (k__law_box : PySem.W.keepIn K (.ref f__law_box) = true)
    (a__law_take : PySem.W.nsIn K mainGlobals "_law_take" = some (some (.ref f__law_take)))
    (l__law_take : K.lookup f__law_take = some ⟨oc__law_take, od__law_take, .func (PySem.W.fnOf "_law_take" "_law_take" (defArgs s__law_take) (defBody s__law_take) (defScope s__law_take) .none kV__law_take dc__law_take pm__law_take an__law_take cd__law_take ct__law_take), sl__law_take⟩)
    (c__law_take : PySem.W.codeIn K cd__law_take "_law_take" = true)
    (k__law_take : PySem.W.keepIn K (.ref f__law_take) = true)
    (a__law_pick : PySem.W.nsIn K mainGlobals "_law_pick" = some (some (.ref f__law_pick)))
    (l__law_pick : K.lookup f__law_pick = some ⟨oc__law_pick, od__law_pick, .func (PySem.W.fnOf "_law_pick" "_law_pick" (defArgs s__law_pick) (defBody s__law_pick) (defScope s__law_pick) .none kV__law_pick dc__law_pick pm__law_pick an__law_pick cd__law_pick ct__law_pick), sl__law_pick⟩)
    (c__law_pick : PySem.W.codeIn K cd__law_pick "_law_pick" = true)
    (k__law_pick : PySem.W.keepIn K (.ref f__law_pick) = true)
    (a__law_mixed : PySem.W.nsIn K mainGlobals "_law_mixed" = some (some (.ref f__law_mixed)))
    (l__law_mixed : K.lookup f__law_mixed = some ⟨oc__law_mixed, od__law_mixed, .func (PySem.W.fnOf "_law_mixed" "_law_mixed" (defArgs s__law_mixed) (defBody s__law_mixed) (defScope s__law_mixed) .none kV__law_mixed dc__law_mixed pm__law_mixed an__law_mixed cd__law_mixed ct__law_mixed), sl__law_mixed⟩)
    (c__law_mixed : PySem.W.codeIn K cd__law_mixed "_law_mixed" = true)
    (k__law_mixed : PySem.W.keepIn K (.ref f__law_mixed) = true)
    (a__law_names : PySem.W.nsIn K mainGlobals "_law_names" = some (some (.ref f__law_names)))
    (l__law_names : K.lookup f__law_names = some ⟨oc__law_names, od__law_names, .func (PySem.W.fnOf "_law_names" "_law_names" (defArgs s__law_names) (defBody s__law_names) (defScope s__law_names) .none kV__law_names dc__law_names pm__law_names an__law_names cd__law_names ct__law_names), sl__law_names⟩)
    (c__law_names : PySem.W.codeIn K cd__law_names "_law_names" = true)
    (k__law_names : PySem.W.keepIn K (.ref f__law_names) = true)
    (a__law_row_text : PySem.W.nsIn K mainGlobals "_law_row_text" = some (some (.ref f__law_row_text)))
    (l__law_row_text : K.lookup f__law_row_text = some ⟨oc__law_row_text, od__law_row_text, .func (PySem.W.fnOf "_law_row_text" "_law_row_text" (defArgs s__law_row_text) (defBody s__law_row_text) (defScope s__law_row_text) .none kV__law_row_text dc__law_row_text pm__law_row_text an__law_row_text cd__law_row_text ct__law_row_text), sl__law_row_text⟩)
    (c__law_row_text : PySem.W.codeIn K cd__law_row_text "_law_row_text" = true)
    (k__law_row_text : PySem.W.keepIn K (.ref f__law_row_text) = true)
    (a__law_row : PySem.W.nsIn K mainGlobals "_law_row" = some (some (.ref f__law_row)))
    (l__law_row : K.lookup f__law_row = some ⟨oc__law_row, od__law_row, .func (PySem.W.fnOf "_law_row" "_law_row" (defArgs s__law_row) (defBody s__law_row) (defScope s__law_row) .none kV__law_row dc__law_row pm__law_row an__law_row cd__law_row ct__law_row), sl__law_row⟩)
    (c__law_row : PySem.W.codeIn K cd__law_row "_law_row" = true)
    (k__law_row : PySem.W.keepIn K (.ref f__law_row) = true)
    (a__law_words : PySem.W.nsIn K mainGlobals "_law_words" = some (some (.ref f__law_words)))
    (l__law_words : K.lookup f__law_words = some ⟨oc__law_words, od__law_words, .func (PySem.W.fnOf "_law_words" "_law_words" (defArgs s__law_words) (defBody s__law_words) (defScope s__law_words) .none kV__law_words dc__law_words pm__law_words an__law_words cd__law_words ct__law_words), sl__law_words⟩)
    (c__law_words : PySem.W.codeIn K cd__law_words "_law_words" = true)
    (k__law_words : PySem.W.keepIn K (.ref f__law_words) = true)
    (a__law_drawn_row : PySem.W.nsIn K mainGlobals "_law_drawn_row" = some (some (.ref f__law_drawn_row)))
    (l__law_drawn_row : K.lookup f__law_drawn_row = some ⟨oc__law_drawn_row, od__law_drawn_row, .func (PySem.W.fnOf "_law_drawn_row" "_law_drawn_row" (defArgs s__law_drawn_row) (defBody s__law_drawn_row) (defScope s__law_drawn_row) .none kV__law_drawn_row dc__law_drawn_row pm__law_drawn_row an__law_drawn_row cd__law_drawn_row ct__law_drawn_row), sl__law_drawn_row⟩)
    (c__law_drawn_row : PySem.W.codeIn K cd__law_drawn_row "_law_drawn_row" = true)
    (k__law_drawn_row : PySem.W.keepIn K (.ref f__law_drawn_row) = true)
    (a__law_told : PySem.W.nsIn K mainGlobals "_law_told" = some (some (.ref f__law_told)))
    (l__law_told : K.lookup f__law_told = some ⟨oc__law_told, od__law_told, .func (PySem.W.fnOf "_law_told" "_law_told" (defArgs s__law_told) (defBody s__law_told) (defScope s__law_told) .none kV__law_told dc__law_told pm__law_told an__law_told cd__law_told ct__law_told), sl__law_told⟩)
    (c__law_told : PySem.W.codeIn K cd__law_told "_law_told" = true)
    (k__law_told : PySem.W.keepIn K (.ref f__law_told) = true)
    (a_law : PySem.W.nsIn K mainGlobals "law" = some (some (.ref f_law)))
    (l_law : K.lookup f_law = some ⟨oc_law, od_law, .func (PySem.W.fnOf "law" "law" (defArgs s_law) (defBody s_law) (defScope s_law) .none kV_law dc_law pm_law an_law cd_law ct_law), sl_law⟩)
    (c_law : PySem.W.codeIn K cd_law "law" = true)
    (k_law : PySem.W.keepIn K (.ref f_law) = true)
    (b_len : PySem.W.nsIn K mainGlobals "len" = some none)
    (b_abs : PySem.W.nsIn K mainGlobals "abs" = some none)
    (b_max : PySem.W.nsIn K mainGlobals "max" = some none)
    (b_min : PySem.W.nsIn K mainGlobals "min" = some none)
    (b_int : PySem.W.nsIn K mainGlobals "int" = some none)
    (b_str : PySem.W.nsIn K mainGlobals "str" = some none)
    (b_isinstance : PySem.W.nsIn K mainGlobals "isinstance" = some none)
    (b_all : PySem.W.nsIn K mainGlobals "all" = some none)
    (b_range : PySem.W.nsIn K mainGlobals "range" = some none)
    (b_list : PySem.W.nsIn K mainGlobals "list" = some none)
    (b_tuple : PySem.W.nsIn K mainGlobals "tuple" = some none)
    (b_dict : PySem.W.nsIn K mainGlobals "dict" = some none)
    (b_repr : PySem.W.nsIn K mainGlobals "repr" = some none)
    (g_LETTERS : PySem.W.nsIn K mainGlobals "LETTERS" = some (some (.str "abcdefghijklmnopqrstuvwxyz" k_LETTERS)))
    (g_BARRED : PySem.W.nsIn K mainGlobals "BARRED" = some (some (.ref k_BARRED)))
    (gl_BARRED : K.lookup k_BARRED = some ⟨.type "tuple", kc_BARRED, .seq #[.str "none" kt_BARRED_0, .str "any" kt_BARRED_1, .str "same" kt_BARRED_2, .str "keep" kt_BARRED_3, .str "drop" kt_BARRED_4, .str "good" kt_BARRED_5, .str "bad" kt_BARRED_6, .str "old" kt_BARRED_7, .str "new" kt_BARRED_8, .str "both" kt_BARRED_9] kn_BARRED, ks_BARRED⟩)
    (g_MOST_LETTERS : PySem.W.nsIn K mainGlobals "MOST_LETTERS" = some (some (.int 4 k_MOST_LETTERS)))
    (sup_t : (PG.main.scope.names.lookup ("super" : Str)).isSome = false)
    (sup_m : PySem.W.nsIn K mainGlobals "super" = some none)
    (sup_o : PySem.W.nsIn K cStatics "thirdparty.any" = some none)
    (pg_Row : PySem.W.plainGet K C_Row Str.empty = true)
    (hd_Row : PySem.W.hasDictIn K C_Row = true)
    (po_Row : PySem.W.plainOver K C_Row = true)
    (sa_Row : PySem.W.findIn K (.ref C_Row) "__setattr__" = some (some (.builtin "object.__setattr__")))
    (mk_Row : PySem.W.makesIn K C_Row = true)
    (kc_Row : PySem.W.keepIn K (.ref C_Row) = true)
    (ha_Row : PySem.W.findIn K (.ref C_Row) "__class__" = some (some (.builtin "object.__class__")))
    (hm_Row : PySem.W.mroIn K C_Row (.type "object") = some true)
    (hn_ : PySem.W.specialIn K (.builtin "object.__class__") "__get__" = some (some (.builtin "getset_descriptor.__get__")))
    (htk_ : PySem.W.takesIn K (.builtin "object.__class__") = some true)
    (in_Row : PySem.W.findIn K (.ref C_Row) "__init__" = some (some (.ref f_Row_init)))
    (na_Row_text : PySem.W.findIn K (.ref C_Row) "text" = some none)
    (eq_Row : PySem.W.findIn K (.ref C_Row) "__eq__" = some (some (.ref f_Row_eq)))
    (ne_Row : PySem.W.findIn K (.ref C_Row) "__ne__" = some (some (.builtin "object.__ne__")))
    (st_Row : PySem.W.findIn K (.ref C_Row) "__str__" = some (some (.ref f_Row_str)))
    (pg_Begin : PySem.W.plainGet K C_Begin Str.empty = true)
    (hd_Begin : PySem.W.hasDictIn K C_Begin = true)
    (po_Begin : PySem.W.plainOver K C_Begin = true)
    (sa_Begin : PySem.W.findIn K (.ref C_Begin) "__setattr__" = some (some (.builtin "object.__setattr__")))
    (mk_Begin : PySem.W.makesIn K C_Begin = true)
    (kc_Begin : PySem.W.keepIn K (.ref C_Begin) = true)
    (ha_Begin : PySem.W.findIn K (.ref C_Begin) "__class__" = some (some (.builtin "object.__class__")))
    (hm_Begin : PySem.W.mroIn K C_Begin (.type "object") = some true)
    (in_Begin : PySem.W.findIn K (.ref C_Begin) "__init__" = some (some (.ref f_Begin_init)))
    (na_Begin_text : PySem.W.findIn K (.ref C_Begin) "text" = some none)
    (na_Begin_mark : PySem.W.findIn K (.ref C_Begin) "mark" = some none)
    (na_Begin_kind : PySem.W.findIn K (.ref C_Begin) "kind" = some none)
    (na_Begin_mood : PySem.W.findIn K (.ref C_Begin) "mood" = some none)
    (eq_Begin : PySem.W.findIn K (.ref C_Begin) "__eq__" = some (some (.ref f_Row_eq)))
    (ne_Begin : PySem.W.findIn K (.ref C_Begin) "__ne__" = some (some (.builtin "object.__ne__")))
    (st_Begin : PySem.W.findIn K (.ref C_Begin) "__str__" = some (some (.ref f_Row_str)))
    (sb_Begin : PySem.W.mroIn K C_Begin (.ref C_Begin) = some true)
    (ss_Begin : PySem.W.ks_superIn K C_Begin C_Begin "__init__" = some (some (.ref f_Row_init)))
    (sy_Begin : PySem.W.typeIn K (.ref f_Row_init) = some (.type "function"))
    (sf_Begin : PySem.W.fnIn K f_Row_init = true)
    (sc_Begin : PySem.W.clsIn K C_Begin = some cdd_CBegin)
    (pg_Send : PySem.W.plainGet K C_Send Str.empty = true)
    (hd_Send : PySem.W.hasDictIn K C_Send = true)
    (po_Send : PySem.W.plainOver K C_Send = true)
    (sa_Send : PySem.W.findIn K (.ref C_Send) "__setattr__" = some (some (.builtin "object.__setattr__")))
    (mk_Send : PySem.W.makesIn K C_Send = true)
    (kc_Send : PySem.W.keepIn K (.ref C_Send) = true)
    (ha_Send : PySem.W.findIn K (.ref C_Send) "__class__" = some (some (.builtin "object.__class__")))
    (hm_Send : PySem.W.mroIn K C_Send (.type "object") = some true)
    (in_Send : PySem.W.findIn K (.ref C_Send) "__init__" = some (some (.ref f_Send_init)))
    (na_Send_text : PySem.W.findIn K (.ref C_Send) "text" = some none)
    (na_Send_mood : PySem.W.findIn K (.ref C_Send) "mood" = some none)
    (na_Send_service : PySem.W.findIn K (.ref C_Send) "service" = some none)
    (na_Send_mark : PySem.W.findIn K (.ref C_Send) "mark" = some none)
    (eq_Send : PySem.W.findIn K (.ref C_Send) "__eq__" = some (some (.ref f_Row_eq)))
    (ne_Send : PySem.W.findIn K (.ref C_Send) "__ne__" = some (some (.builtin "object.__ne__")))
    (st_Send : PySem.W.findIn K (.ref C_Send) "__str__" = some (some (.ref f_Row_str)))
    (sb_Send : PySem.W.mroIn K C_Send (.ref C_Send) = some true)
    (ss_Send : PySem.W.ks_superIn K C_Send C_Send "__init__" = some (some (.ref f_Row_init)))
    (sy_Send : PySem.W.typeIn K (.ref f_Row_init) = some (.type "function"))
    (sf_Send : PySem.W.fnIn K f_Row_init = true)
    (sc_Send : PySem.W.clsIn K C_Send = some cdd_CSend)
    (pg_Back : PySem.W.plainGet K C_Back Str.empty = true)
    (hd_Back : PySem.W.hasDictIn K C_Back = true)
    (po_Back : PySem.W.plainOver K C_Back = true)
    (sa_Back : PySem.W.findIn K (.ref C_Back) "__setattr__" = some (some (.builtin "object.__setattr__")))
    (mk_Back : PySem.W.makesIn K C_Back = true)
    (kc_Back : PySem.W.keepIn K (.ref C_Back) = true)
    (ha_Back : PySem.W.findIn K (.ref C_Back) "__class__" = some (some (.builtin "object.__class__")))
    (hm_Back : PySem.W.mroIn K C_Back (.type "object") = some true)
    (in_Back : PySem.W.findIn K (.ref C_Back) "__init__" = some (some (.ref f_Back_init)))
    (na_Back_text : PySem.W.findIn K (.ref C_Back) "text" = some none)
    (na_Back_mood : PySem.W.findIn K (.ref C_Back) "mood" = some none)
    (na_Back_service : PySem.W.findIn K (.ref C_Back) "service" = some none)
    (na_Back_sign : PySem.W.findIn K (.ref C_Back) "sign" = some none)
    (na_Back_then : PySem.W.findIn K (.ref C_Back) "then" = some none)
    (eq_Back : PySem.W.findIn K (.ref C_Back) "__eq__" = some (some (.ref f_Row_eq)))
    (ne_Back : PySem.W.findIn K (.ref C_Back) "__ne__" = some (some (.builtin "object.__ne__")))
    (st_Back : PySem.W.findIn K (.ref C_Back) "__str__" = some (some (.ref f_Row_str)))
    (sb_Back : PySem.W.mroIn K C_Back (.ref C_Back) = some true)
    (ss_Back : PySem.W.ks_superIn K C_Back C_Back "__init__" = some (some (.ref f_Row_init)))
    (sy_Back : PySem.W.typeIn K (.ref f_Row_init) = some (.type "function"))
    (sf_Back : PySem.W.fnIn K f_Row_init = true)
    (sc_Back : PySem.W.clsIn K C_Back = some cdd_CBack)
    (pg_End : PySem.W.plainGet K C_End Str.empty = true)
    (hd_End : PySem.W.hasDictIn K C_End = true)
    (po_End : PySem.W.plainOver K C_End = true)
    (sa_End : PySem.W.findIn K (.ref C_End) "__setattr__" = some (some (.builtin "object.__setattr__")))
    (mk_End : PySem.W.makesIn K C_End = true)
    (kc_End : PySem.W.keepIn K (.ref C_End) = true)
    (ha_End : PySem.W.findIn K (.ref C_End) "__class__" = some (some (.builtin "object.__class__")))
    (hm_End : PySem.W.mroIn K C_End (.type "object") = some true)
    (in_End : PySem.W.findIn K (.ref C_End) "__init__" = some (some (.ref f_End_init)))
    (na_End_text : PySem.W.findIn K (.ref C_End) "text" = some none)
    (na_End_mood : PySem.W.findIn K (.ref C_End) "mood" = some none)
    (na_End_outcome : PySem.W.findIn K (.ref C_End) "outcome" = some none)
    (na_End_sign : PySem.W.findIn K (.ref C_End) "sign" = some none)
    (na_End_part : PySem.W.findIn K (.ref C_End) "part" = some none)
    (eq_End : PySem.W.findIn K (.ref C_End) "__eq__" = some (some (.ref f_Row_eq)))
    (ne_End : PySem.W.findIn K (.ref C_End) "__ne__" = some (some (.builtin "object.__ne__")))
    (st_End : PySem.W.findIn K (.ref C_End) "__str__" = some (some (.ref f_Row_str)))
    (sb_End : PySem.W.mroIn K C_End (.ref C_End) = some true)
    (ss_End : PySem.W.ks_superIn K C_End C_End "__init__" = some (some (.ref f_Row_init)))
    (sy_End : PySem.W.typeIn K (.ref f_Row_init) = some (.type "function"))
    (sf_End : PySem.W.fnIn K f_Row_init = true)
    (sc_End : PySem.W.clsIn K C_End = some cdd_CEnd)
    (fa_nf_Begin_Begin : PySem.W.notFirst K C_Begin (.ref C_Begin) = true)
    (fa_nf_Begin_Send : PySem.W.notFirst K C_Begin (.ref C_Send) = true)
    (fa_nf_Begin_Back : PySem.W.notFirst K C_Begin (.ref C_Back) = true)
    (fa_nf_Begin_End : PySem.W.notFirst K C_Begin (.ref C_End) = true)
    (fa_nf_Send_Begin : PySem.W.notFirst K C_Send (.ref C_Begin) = true)
    (fa_nf_Send_Send : PySem.W.notFirst K C_Send (.ref C_Send) = true)
    (fa_nf_Send_Back : PySem.W.notFirst K C_Send (.ref C_Back) = true)
    (fa_nf_Send_End : PySem.W.notFirst K C_Send (.ref C_End) = true)
    (fa_nf_Back_Begin : PySem.W.notFirst K C_Back (.ref C_Begin) = true)
    (fa_nf_Back_Send : PySem.W.notFirst K C_Back (.ref C_Send) = true)
    (fa_nf_Back_Back : PySem.W.notFirst K C_Back (.ref C_Back) = true)
    (fa_nf_Back_End : PySem.W.notFirst K C_Back (.ref C_End) = true)
    (fa_nf_End_Begin : PySem.W.notFirst K C_End (.ref C_Begin) = true)
    (fa_nf_End_Send : PySem.W.notFirst K C_End (.ref C_Send) = true)
    (fa_nf_End_Back : PySem.W.notFirst K C_End (.ref C_Back) = true)
    (fa_nf_End_End : PySem.W.notFirst K C_End (.ref C_End) = true)
    (fa_nf_Begin_str : PySem.W.notFirst K C_Begin (.type "str") = true)
    (fa_nf_Begin_tuple : PySem.W.notFirst K C_Begin (.type "tuple") = true)
    (fa_nf_Send_str : PySem.W.notFirst K C_Send (.type "str") = true)
    (fa_nf_Send_tuple : PySem.W.notFirst K C_Send (.type "tuple") = true)
    (fa_nf_Back_str : PySem.W.notFirst K C_Back (.type "str") = true)
    (fa_nf_Back_tuple : PySem.W.notFirst K C_Back (.type "tuple") = true)
    (fa_nf_End_str : PySem.W.notFirst K C_End (.type "str") = true)
    (fa_nf_End_tuple : PySem.W.notFirst K C_End (.type "tuple") = true)
    (kd_Row : PySem.W.clsIn K C_Row = some kdd_Row)
    (kt_Row : PySem.W.typeIn K (.ref C_Row) = some (.type "type"))
    (fa_ki_Begin : PySem.W.subIn K (.ref C_Begin) (.ref C_Row) = some true)
    (fa_ki_Send : PySem.W.subIn K (.ref C_Send) (.ref C_Row) = some true)
    (fa_ki_Back : PySem.W.subIn K (.ref C_Back) (.ref C_Row) = some true)
    (fa_ki_End : PySem.W.subIn K (.ref C_End) (.ref C_Row) = some true)
    (fa_ki_str : PySem.W.subIn K (.type "str") (.ref C_Row) = some false)
    (fa_ki_tuple : PySem.W.subIn K (.type "tuple") (.ref C_Row) = some false)
    : ∃ A : Ad, Tx K mg A := by
  have F_is_name := fun_mk (st := s_is_name) l_is_name c_is_name k_is_name
  have b_is_name := F_is_name.binds (ps := ["value"]) fun _ _ _ _ _ _ us hl => match us, hl with | [_], _ => rfl
  have F_is_word := fun_mk (st := s_is_word) l_is_word c_is_word k_is_word
  have b_is_word := F_is_word.binds (ps := ["value", "others"]) fun _ _ _ _ _ _ us hl => match us, hl with | [_, _], _ => rfl
  have F_is_mark := fun_mk (st := s_is_mark) l_is_mark c_is_mark k_is_mark
  have b_is_mark := F_is_mark.binds (ps := ["value"]) fun _ _ _ _ _ _ us hl => match us, hl with | [_], _ => rfl
  have F_is_sign := fun_mk (st := s_is_sign) l_is_sign c_is_sign k_is_sign
  have b_is_sign := F_is_sign.binds (ps := ["value"]) fun _ _ _ _ _ _ us hl => match us, hl with | [_], _ => rfl
  have F_Row_init := fun_mk (st := s_Row_init) l_Row_init c_Row_init k_Row_init
  have b_Row_init := F_Row_init.binds (ps := ["self", "text"]) fun _ _ _ _ _ _ us hl => match us, hl with | [_, _], _ => rfl
  have F_Row_str := fun_mk (st := s_Row_str) l_Row_str c_Row_str k_Row_str
  have b_Row_str := F_Row_str.binds (ps := ["self"]) fun _ _ _ _ _ _ us hl => match us, hl with | [_], _ => rfl
  have F_Row_eq := fun_mk (st := s_Row_eq) l_Row_eq c_Row_eq k_Row_eq
  have b_Row_eq := F_Row_eq.binds (ps := ["self", "other"]) fun _ _ _ _ _ _ us hl => match us, hl with | [_, _], _ => rfl
  have F_need := fun_mk (st := s_need) l_need c_need k_need
  have b_need := F_need.binds (ps := ["is_right", "word"]) fun _ _ _ _ _ _ us hl => match us, hl with | [_, _], _ => rfl
  have b_Begin_init : Binds K (PySem.W.ksFn "__init__" "Begin.__init__" (defArgs s_Begin_init) (defBody s_Begin_init) (defScope s_Begin_init) .none kV_Begin_init dc_Begin_init pm_Begin_init an_Begin_init (.ref ca_Begin_init) ct_Begin_init cc_Begin_init) ["self", "mark", "kind", "mood"] [] := .all fun us hl => match us, hl with | [_, _, _, _], _ => rfl
  have b_Send_init : Binds K (PySem.W.ksFn "__init__" "Send.__init__" (defArgs s_Send_init) (defBody s_Send_init) (defScope s_Send_init) .none kV_Send_init dc_Send_init pm_Send_init an_Send_init (.ref ca_Send_init) ct_Send_init cc_Send_init) ["self", "mood", "service", "mark"] [] := .all fun us hl => match us, hl with | [_, _, _, _], _ => rfl
  have b_Back_init : Binds K (PySem.W.ksFn "__init__" "Back.__init__" (defArgs s_Back_init) (defBody s_Back_init) (defScope s_Back_init) .none kV_Back_init dc_Back_init pm_Back_init an_Back_init (.ref ca_Back_init) ct_Back_init cc_Back_init) ["self", "mood", "service", "sign", "then"] [] := .all fun us hl => match us, hl with | [_, _, _, _, _], _ => rfl
  have b_End_init : Binds K (PySem.W.ksFn "__init__" "End.__init__" (defArgs s_End_init) (defBody s_End_init) (defScope s_End_init) .none kV_End_init dc_End_init pm_End_init an_End_init (.ref ca_End_init) ct_End_init cc_End_init) ["self", "mood", "outcome", "sign", "part"] [] := .all fun us hl => match us, hl with | [_, _, _, _, _], _ => rfl
  have F__law_box := fun_mk (st := s__law_box) l__law_box c__law_box k__law_box
  have b__law_box := F__law_box.binds (ps := ["_law_script", "_law_k"]) fun _ _ _ _ _ _ us hl => match us, hl with | [_, _], _ => rfl
  have F__law_take := fun_mk (st := s__law_take) l__law_take c__law_take k__law_take
  have b__law_take := F__law_take.binds (ps := ["_law_box_here", "_law_many"]) fun _ _ _ _ _ _ us hl => match us, hl with | [_, _], _ => rfl
  have F__law_pick := fun_mk (st := s__law_pick) l__law_pick c__law_pick k__law_pick
  have b__law_pick := F__law_pick.binds (ps := ["_law_box_here", "_law_some"]) fun _ _ _ _ _ _ us hl => match us, hl with | [_, _], _ => rfl
  have F__law_mixed := fun_mk (st := s__law_mixed) l__law_mixed c__law_mixed k__law_mixed
  have b__law_mixed := F__law_mixed.binds (ps := ["_law_box_here", "_law_some"]) fun _ _ _ _ _ _ us hl => match us, hl with | [_, _], _ => rfl
  have F__law_names := fun_mk (st := s__law_names) l__law_names c__law_names k__law_names
  have b__law_names := F__law_names.binds (ps := ["_law_box_here", "_law_many"]) fun _ _ _ _ _ _ us hl => match us, hl with | [_, _], _ => rfl
  have F__law_row_text := fun_mk (st := s__law_row_text) l__law_row_text c__law_row_text k__law_row_text
  have b__law_row_text := F__law_row_text.binds (ps := ["_law_row_here"]) fun _ _ _ _ _ _ us hl => match us, hl with | [_], _ => rfl
  have F__law_row := fun_mk (st := s__law_row) l__law_row c__law_row k__law_row
  have b__law_row := F__law_row.binds (ps := ["_law_row_here"]) fun _ _ _ _ _ _ us hl => match us, hl with | [_], _ => rfl
  have F__law_words := fun_mk (st := s__law_words) l__law_words c__law_words k__law_words
  have b__law_words := F__law_words.binds (ps := ["_law_row_here"]) fun _ _ _ _ _ _ us hl => match us, hl with | [_], _ => rfl
  have F__law_drawn_row := fun_mk (st := s__law_drawn_row) l__law_drawn_row c__law_drawn_row k__law_drawn_row
  have b__law_drawn_row := F__law_drawn_row.binds (ps := ["_law_box_here", "_law_sort", "_law_pools"]) fun _ _ _ _ _ _ us hl => match us, hl with | [_, _, _], _ => rfl
  have F__law_told := fun_mk (st := s__law_told) l__law_told c__law_told k__law_told
  have b__law_told := F__law_told.binds (ps := ["_law_made", "_law_sort"]) fun _ _ _ _ _ _ us hl => match us, hl with | [_, _], _ => rfl
  have F_law := fun_mk (st := s_law) l_law c_law k_law
  have b_law := F_law.binds (ps := ["_law_script"]) fun _ _ _ _ _ _ us hl => match us, hl with | [_], _ => rfl
  exact ⟨{ is_name := f_is_name, is_name_d := PySem.W.fnOf "is_name" "is_name" (defArgs s_is_name) (defBody s_is_name) (defScope s_is_name) .none kV_is_name dc_is_name pm_is_name an_is_name cd_is_name ct_is_name, is_word := f_is_word, is_word_d := PySem.W.fnOf "is_word" "is_word" (defArgs s_is_word) (defBody s_is_word) (defScope s_is_word) .none kV_is_word dc_is_word pm_is_word an_is_word cd_is_word ct_is_word, is_mark := f_is_mark, is_mark_d := PySem.W.fnOf "is_mark" "is_mark" (defArgs s_is_mark) (defBody s_is_mark) (defScope s_is_mark) .none kV_is_mark dc_is_mark pm_is_mark an_is_mark cd_is_mark ct_is_mark, is_sign := f_is_sign, is_sign_d := PySem.W.fnOf "is_sign" "is_sign" (defArgs s_is_sign) (defBody s_is_sign) (defScope s_is_sign) .none kV_is_sign dc_is_sign pm_is_sign an_is_sign cd_is_sign ct_is_sign, Row_init := f_Row_init, Row_init_d := PySem.W.fnOf "__init__" "Row.__init__" (defArgs s_Row_init) (defBody s_Row_init) (defScope s_Row_init) .none kV_Row_init dc_Row_init pm_Row_init an_Row_init cd_Row_init ct_Row_init, Row_str := f_Row_str, Row_str_d := PySem.W.fnOf "__str__" "Row.__str__" (defArgs s_Row_str) (defBody s_Row_str) (defScope s_Row_str) .none kV_Row_str dc_Row_str pm_Row_str an_Row_str cd_Row_str ct_Row_str, Row_eq := f_Row_eq, Row_eq_d := PySem.W.fnOf "__eq__" "Row.__eq__" (defArgs s_Row_eq) (defBody s_Row_eq) (defScope s_Row_eq) .none kV_Row_eq dc_Row_eq pm_Row_eq an_Row_eq cd_Row_eq ct_Row_eq, need := f_need, need_d := PySem.W.fnOf "need" "need" (defArgs s_need) (defBody s_need) (defScope s_need) .none kV_need dc_need pm_need an_need cd_need ct_need, Begin_init := f_Begin_init, Begin_init_d := PySem.W.ksFn "__init__" "Begin.__init__" (defArgs s_Begin_init) (defBody s_Begin_init) (defScope s_Begin_init) .none kV_Begin_init dc_Begin_init pm_Begin_init an_Begin_init (.ref ca_Begin_init) ct_Begin_init cc_Begin_init, Send_init := f_Send_init, Send_init_d := PySem.W.ksFn "__init__" "Send.__init__" (defArgs s_Send_init) (defBody s_Send_init) (defScope s_Send_init) .none kV_Send_init dc_Send_init pm_Send_init an_Send_init (.ref ca_Send_init) ct_Send_init cc_Send_init, Back_init := f_Back_init, Back_init_d := PySem.W.ksFn "__init__" "Back.__init__" (defArgs s_Back_init) (defBody s_Back_init) (defScope s_Back_init) .none kV_Back_init dc_Back_init pm_Back_init an_Back_init (.ref ca_Back_init) ct_Back_init cc_Back_init, End_init := f_End_init, End_init_d := PySem.W.ksFn "__init__" "End.__init__" (defArgs s_End_init) (defBody s_End_init) (defScope s_End_init) .none kV_End_init dc_End_init pm_End_init an_End_init (.ref ca_End_init) ct_End_init cc_End_init, _law_box := f__law_box, _law_box_d := PySem.W.fnOf "_law_box" "_law_box" (defArgs s__law_box) (defBody s__law_box) (defScope s__law_box) .none kV__law_box dc__law_box pm__law_box an__law_box cd__law_box ct__law_box, _law_take := f__law_take, _law_take_d := PySem.W.fnOf "_law_take" "_law_take" (defArgs s__law_take) (defBody s__law_take) (defScope s__law_take) .none kV__law_take dc__law_take pm__law_take an__law_take cd__law_take ct__law_take, _law_pick := f__law_pick, _law_pick_d := PySem.W.fnOf "_law_pick" "_law_pick" (defArgs s__law_pick) (defBody s__law_pick) (defScope s__law_pick) .none kV__law_pick dc__law_pick pm__law_pick an__law_pick cd__law_pick ct__law_pick, _law_mixed := f__law_mixed, _law_mixed_d := PySem.W.fnOf "_law_mixed" "_law_mixed" (defArgs s__law_mixed) (defBody s__law_mixed) (defScope s__law_mixed) .none kV__law_mixed dc__law_mixed pm__law_mixed an__law_mixed cd__law_mixed ct__law_mixed, _law_names := f__law_names, _law_names_d := PySem.W.fnOf "_law_names" "_law_names" (defArgs s__law_names) (defBody s__law_names) (defScope s__law_names) .none kV__law_names dc__law_names pm__law_names an__law_names cd__law_names ct__law_names, _law_row_text := f__law_row_text, _law_row_text_d := PySem.W.fnOf "_law_row_text" "_law_row_text" (defArgs s__law_row_text) (defBody s__law_row_text) (defScope s__law_row_text) .none kV__law_row_text dc__law_row_text pm__law_row_text an__law_row_text cd__law_row_text ct__law_row_text, _law_row := f__law_row, _law_row_d := PySem.W.fnOf "_law_row" "_law_row" (defArgs s__law_row) (defBody s__law_row) (defScope s__law_row) .none kV__law_row dc__law_row pm__law_row an__law_row cd__law_row ct__law_row, _law_words := f__law_words, _law_words_d := PySem.W.fnOf "_law_words" "_law_words" (defArgs s__law_words) (defBody s__law_words) (defScope s__law_words) .none kV__law_words dc__law_words pm__law_words an__law_words cd__law_words ct__law_words, _law_drawn_row := f__law_drawn_row, _law_drawn_row_d := PySem.W.fnOf "_law_drawn_row" "_law_drawn_row" (defArgs s__law_drawn_row) (defBody s__law_drawn_row) (defScope s__law_drawn_row) .none kV__law_drawn_row dc__law_drawn_row pm__law_drawn_row an__law_drawn_row cd__law_drawn_row ct__law_drawn_row, _law_told := f__law_told, _law_told_d := PySem.W.fnOf "_law_told" "_law_told" (defArgs s__law_told) (defBody s__law_told) (defScope s__law_told) .none kV__law_told dc__law_told pm__law_told an__law_told cd__law_told ct__law_told, law := f_law, law_d := PySem.W.fnOf "law" "law" (defArgs s_law) (defBody s_law) (defScope s_law) .none kV_law dc_law pm_law an_law cd_law ct_law, k_LETTERS := k_LETTERS, k_BARRED := k_BARRED, k_MOST_LETTERS := k_MOST_LETTERS, C_Row := C_Row, C_Begin := C_Begin, C_Send := C_Send, C_Back := C_Back, C_End := C_End }, { is_name := ⟨F_is_name, PySem.W.mg_of X G a_is_name, b_is_name⟩, is_word := ⟨F_is_word, PySem.W.mg_of X G a_is_word, b_is_word⟩, is_mark := ⟨F_is_mark, PySem.W.mg_of X G a_is_mark, b_is_mark⟩, is_sign := ⟨F_is_sign, PySem.W.mg_of X G a_is_sign, b_is_sign⟩, Row_init := ⟨F_Row_init, b_Row_init, i_Row_init⟩, Row_str := ⟨F_Row_str, b_Row_str, i_Row_str⟩, Row_eq := ⟨F_Row_eq, b_Row_eq, i_Row_eq⟩, need := ⟨F_need, PySem.W.mg_of X G a_need, b_need⟩, Begin_init := ⟨⟨oc_Begin_init, od_Begin_init, kV_Begin_init, dc_Begin_init, pm_Begin_init, an_Begin_init, ca_Begin_init, ct_Begin_init, sl_Begin_init, cc_Begin_init, cl_Begin_init, cld_Begin_init, csl_Begin_init, cv_Begin_init, cdd_Begin_init, vs_Begin_init, ccs_Begin_init, file_Begin_init, tf_Begin_init, rfl, l_Begin_init, c_Begin_init, ce_Begin_init, co_Begin_init, cf_Begin_init, cft_Begin_init⟩, b_Begin_init, i_Begin_init, k_Begin_init, fi_Begin_init⟩, Send_init := ⟨⟨oc_Send_init, od_Send_init, kV_Send_init, dc_Send_init, pm_Send_init, an_Send_init, ca_Send_init, ct_Send_init, sl_Send_init, cc_Send_init, cl_Send_init, cld_Send_init, csl_Send_init, cv_Send_init, cdd_Send_init, vs_Send_init, ccs_Send_init, file_Send_init, tf_Send_init, rfl, l_Send_init, c_Send_init, ce_Send_init, co_Send_init, cf_Send_init, cft_Send_init⟩, b_Send_init, i_Send_init, k_Send_init, fi_Send_init⟩, Back_init := ⟨⟨oc_Back_init, od_Back_init, kV_Back_init, dc_Back_init, pm_Back_init, an_Back_init, ca_Back_init, ct_Back_init, sl_Back_init, cc_Back_init, cl_Back_init, cld_Back_init, csl_Back_init, cv_Back_init, cdd_Back_init, vs_Back_init, ccs_Back_init, file_Back_init, tf_Back_init, rfl, l_Back_init, c_Back_init, ce_Back_init, co_Back_init, cf_Back_init, cft_Back_init⟩, b_Back_init, i_Back_init, k_Back_init, fi_Back_init⟩, End_init := ⟨⟨oc_End_init, od_End_init, kV_End_init, dc_End_init, pm_End_init, an_End_init, ca_End_init, ct_End_init, sl_End_init, cc_End_init, cl_End_init, cld_End_init, csl_End_init, cv_End_init, cdd_End_init, vs_End_init, ccs_End_init, file_End_init, tf_End_init, rfl, l_End_init, c_End_init, ce_End_init, co_End_init, cf_End_init, cft_End_init⟩, b_End_init, i_End_init, k_End_init, fi_End_init⟩, _law_box := ⟨F__law_box, PySem.W.mg_of X G a__law_box, b__law_box⟩, _law_take := ⟨F__law_take, PySem.W.mg_of X G a__law_take, b__law_take⟩, _law_pick := ⟨F__law_pick, PySem.W.mg_of X G a__law_pick, b__law_pick⟩, _law_mixed := ⟨F__law_mixed, PySem.W.mg_of X G a__law_mixed, b__law_mixed⟩, _law_names := ⟨F__law_names, PySem.W.mg_of X G a__law_names, b__law_names⟩, _law_row_text := ⟨F__law_row_text, PySem.W.mg_of X G a__law_row_text, b__law_row_text⟩, _law_row := ⟨F__law_row, PySem.W.mg_of X G a__law_row, b__law_row⟩, _law_words := ⟨F__law_words, PySem.W.mg_of X G a__law_words, b__law_words⟩, _law_drawn_row := ⟨F__law_drawn_row, PySem.W.mg_of X G a__law_drawn_row, b__law_drawn_row⟩, _law_told := ⟨F__law_told, PySem.W.mg_of X G a__law_told, b__law_told⟩, law := ⟨F_law, PySem.W.mg_of X G a_law, b_law⟩, b_len := PySem.W.mg_none_of X G b_len, b_abs := PySem.W.mg_none_of X G b_abs, b_max := PySem.W.mg_none_of X G b_max, b_min := PySem.W.mg_none_of X G b_min, b_int := PySem.W.mg_none_of X G b_int, b_str := PySem.W.mg_none_of X G b_str, b_isinstance := PySem.W.mg_none_of X G b_isinstance, b_all := PySem.W.mg_none_of X G b_all, b_range := PySem.W.mg_none_of X G b_range, b_list := PySem.W.mg_none_of X G b_list, b_tuple := PySem.W.mg_none_of X G b_tuple, b_dict := PySem.W.mg_none_of X G b_dict, b_repr := PySem.W.mg_none_of X G b_repr, c_LETTERS := PySem.W.mg_of X G g_LETTERS, c_BARRED := PySem.W.mg_of X G g_BARRED, t_BARRED := fun H => .inr ⟨_, _, _, gl_BARRED, rfl, rfl, (show 10 ≤ sizeLine from by decide), (.cons ⟨_, rfl⟩ (.cons ⟨_, rfl⟩ (.cons ⟨_, rfl⟩ (.cons ⟨_, rfl⟩ (.cons ⟨_, rfl⟩ (.cons ⟨_, rfl⟩ (.cons ⟨_, rfl⟩ (.cons ⟨_, rfl⟩ (.cons ⟨_, rfl⟩ (.cons ⟨_, rfl⟩ .nil))))))))))⟩, c_MOST_LETTERS := PySem.W.mg_of X G g_MOST_LETTERS, sup := ⟨sup_t, PySem.W.mg_none_of X G sup_m, sup_o⟩, C_Row := ⟨PySem.W.mg_of X G aC_Row, ⟨⟨pg_Row, hd_Row, po_Row, sa_Row⟩, ha_Row, hn_, htk_, hm_Row⟩, ⟨mk_Row, in_Row, i_Row_init, kc_Row⟩⟩, na_Row_text := na_Row_text, eq_Row := ⟨eq_Row, i_Row_eq, ne_Row, hm_Row⟩, st_Row := st_Row, C_Begin := ⟨PySem.W.mg_of X G aC_Begin, ⟨⟨pg_Begin, hd_Begin, po_Begin, sa_Begin⟩, ha_Begin, hn_, htk_, hm_Begin⟩, ⟨mk_Begin, in_Begin, i_Begin_init, kc_Begin⟩⟩, na_Begin_text := na_Begin_text, na_Begin_mark := na_Begin_mark, na_Begin_kind := na_Begin_kind, na_Begin_mood := na_Begin_mood, eq_Begin := ⟨eq_Begin, i_Row_eq, ne_Begin, hm_Begin⟩, st_Begin := st_Begin, su_Begin := ⟨sb_Begin, ss_Begin, sy_Begin, sf_Begin⟩, cd_Begin := ⟨_, sc_Begin⟩, C_Send := ⟨PySem.W.mg_of X G aC_Send, ⟨⟨pg_Send, hd_Send, po_Send, sa_Send⟩, ha_Send, hn_, htk_, hm_Send⟩, ⟨mk_Send, in_Send, i_Send_init, kc_Send⟩⟩, na_Send_text := na_Send_text, na_Send_mood := na_Send_mood, na_Send_service := na_Send_service, na_Send_mark := na_Send_mark, eq_Send := ⟨eq_Send, i_Row_eq, ne_Send, hm_Send⟩, st_Send := st_Send, su_Send := ⟨sb_Send, ss_Send, sy_Send, sf_Send⟩, cd_Send := ⟨_, sc_Send⟩, C_Back := ⟨PySem.W.mg_of X G aC_Back, ⟨⟨pg_Back, hd_Back, po_Back, sa_Back⟩, ha_Back, hn_, htk_, hm_Back⟩, ⟨mk_Back, in_Back, i_Back_init, kc_Back⟩⟩, na_Back_text := na_Back_text, na_Back_mood := na_Back_mood, na_Back_service := na_Back_service, na_Back_sign := na_Back_sign, na_Back_then := na_Back_then, eq_Back := ⟨eq_Back, i_Row_eq, ne_Back, hm_Back⟩, st_Back := st_Back, su_Back := ⟨sb_Back, ss_Back, sy_Back, sf_Back⟩, cd_Back := ⟨_, sc_Back⟩, C_End := ⟨PySem.W.mg_of X G aC_End, ⟨⟨pg_End, hd_End, po_End, sa_End⟩, ha_End, hn_, htk_, hm_End⟩, ⟨mk_End, in_End, i_End_init, kc_End⟩⟩, na_End_text := na_End_text, na_End_mood := na_End_mood, na_End_outcome := na_End_outcome, na_End_sign := na_End_sign, na_End_part := na_End_part, eq_End := ⟨eq_End, i_Row_eq, ne_End, hm_End⟩, st_End := st_End, su_End := ⟨sb_End, ss_End, sy_End, sf_End⟩, cd_End := ⟨_, sc_End⟩, nf_Begin_Begin := fa_nf_Begin_Begin, nf_Begin_Send := fa_nf_Begin_Send, nf_Begin_Back := fa_nf_Begin_Back, nf_Begin_End := fa_nf_Begin_End, nf_Send_Begin := fa_nf_Send_Begin, nf_Send_Send := fa_nf_Send_Send, nf_Send_Back := fa_nf_Send_Back, nf_Send_End := fa_nf_Send_End, nf_Back_Begin := fa_nf_Back_Begin, nf_Back_Send := fa_nf_Back_Send, nf_Back_Back := fa_nf_Back_Back, nf_Back_End := fa_nf_Back_End, nf_End_Begin := fa_nf_End_Begin, nf_End_Send := fa_nf_End_Send, nf_End_Back := fa_nf_End_Back, nf_End_End := fa_nf_End_End, nf_Begin_str := fa_nf_Begin_str, nf_Begin_tuple := fa_nf_Begin_tuple, nf_Send_str := fa_nf_Send_str, nf_Send_tuple := fa_nf_Send_tuple, nf_Back_str := fa_nf_Back_str, nf_Back_tuple := fa_nf_Back_tuple, nf_End_str := fa_nf_End_str, nf_End_tuple := fa_nf_End_tuple, ki_Begin := kit_ownT kd_Row kt_Row fa_ki_Begin, ki_Send := kit_ownT kd_Row kt_Row fa_ki_Send, ki_Back := kit_ownT kd_Row kt_Row fa_ki_Back, ki_End := kit_ownT kd_Row kt_Row fa_ki_End, ki_str := kit_ownF kd_Row kt_Row fa_ki_str, ki_tuple := kit_ownF kd_Row kt_Row fa_ki_tuple }⟩
theorem law_binds {K : PySem.W.Frag} {f : Addr} {fd : FuncData} (F : Fun K "law" "law" s_law f fd) (s : Shared) (u : Value) : BindsTo s fd ⟨[u], []⟩ [("_law_script", u)] := by
  obtain ⟨oc, od, kV, doc, pm, an, cdv, ct, osl, rfl, lk, hcd⟩ := F.ex
  exact .of_eq rfl
theorem walk {l : PySem.W.OpenLaw} {q : Program} {loose : List Str} {XP : (Str → Option Value) → Heap → Prop} {YP : World → Heap → Prop} {d : DefRec} {K : Params → PySem.W.Frag} (hp : l.prog = PG) (hn : l.most = some 63) (hdf : d.params.defaults = []) (hdn : d.name = "law")
    (hY : ∀ (w : World) (h : Heap), YP w h → (K w.params).In h) (F : ∀ (w : World) (mg : Str → Option Value) (h : Heap), (K w.params).In h → h.Ns mainGlobals mg → ∃ A : Ad, Tx (K w.params) mg A) :
    PySem.W.WalkO q loose XP YP l.row.toRowW d [] (fun f vs => PySem.call f vs) := by
  refine L2.walk_ofG (n := 63) (k := 12) (x := "_law_script") (CX := CX0) (sp := spLaw) (K := K) hn (by decide) hdf ⟨rfl, by decide, by decide⟩ hY (fun w mg fa h KX G hmg => ?_) (fun _ _ a ns hl hO hS => ⟨a, ns, rfl, SqF.of hO hS, hl, fun _ => rfl⟩) fun _ _ _ _ z => z
  obtain ⟨A, T⟩ := F w mg h KX G
  have e : fa = A.law := by
    have g := T.law.g
    rw [← hdn, hmg] at g
    cases g
    rfl
  subst e
  exact ⟨A.law_d, law_binds T.law.F, fun base => by rw [hp]; exact ok_law T⟩
end K
open PySem PySem.W PyProof.Rows
set_option maxRecDepth 100000 in
set_option maxHeartbeats 0 in
theorem PySem.Challenge.cw_wholetraces_k02_rows_made_holds : PySem.Challenge.rw_wholetraces_k02_rows_made.Holds := by
  w_on; o_law; k_head; (case hw => w_witness2)
  k_fill
  refine K.walk (l := PySem.Challenge.rw_wholetraces_k02_rows_made) rfl rfl rfl rfl (fun w h Y => PySem.W.kIn_of Y) ?F
  case F =>
    intro w mg h KX G
    refine' K.all_mk KX G ?aC_Row ?aC_Begin ?aC_Send ?aC_Back ?aC_End ?a_is_name ?l_is_name ?c_is_name ?k_is_name ?a_is_word ?l_is_word ?c_is_word ?k_is_word ?a_is_mark ?l_is_mark ?c_is_mark ?k_is_mark ?a_is_sign ?l_is_sign ?c_is_sign ?k_is_sign ?a_Row_init ?i_Row_init ?l_Row_init ?c_Row_init ?k_Row_init ?a_Row_str ?i_Row_str ?l_Row_str ?c_Row_str ?k_Row_str ?a_Row_eq ?i_Row_eq ?l_Row_eq ?c_Row_eq ?k_Row_eq ?a_need ?l_need ?c_need ?k_need ?a_Begin_init ?i_Begin_init ?l_Begin_init ?c_Begin_init ?k_Begin_init ?fi_Begin_init ?ce_Begin_init ?co_Begin_init ?cf_Begin_init ?cft_Begin_init ?a_Send_init ?i_Send_init ?l_Send_init ?c_Send_init ?k_Send_init ?fi_Send_init ?ce_Send_init ?co_Send_init ?cf_Send_init ?cft_Send_init ?a_Back_init ?i_Back_init ?l_Back_init ?c_Back_init ?k_Back_init ?fi_Back_init ?ce_Back_init ?co_Back_init ?cf_Back_init ?cft_Back_init ?a_End_init ?i_End_init ?l_End_init ?c_End_init ?k_End_init ?fi_End_init ?ce_End_init ?co_End_init ?cf_End_init ?cft_End_init ?a__law_box ?l__law_box ?c__law_box ?k__law_box ?a__law_take ?l__law_take ?c__law_take ?k__law_take ?a__law_pick ?l__law_pick ?c__law_pick ?k__law_pick ?a__law_mixed ?l__law_mixed ?c__law_mixed ?k__law_mixed ?a__law_names ?l__law_names ?c__law_names ?k__law_names ?a__law_row_text ?l__law_row_text ?c__law_row_text ?k__law_row_text ?a__law_row ?l__law_row ?c__law_row ?k__law_row ?a__law_words ?l__law_words ?c__law_words ?k__law_words ?a__law_drawn_row ?l__law_drawn_row ?c__law_drawn_row ?k__law_drawn_row ?a__law_told ?l__law_told ?c__law_told ?k__law_told ?a_law ?l_law ?c_law ?k_law ?b_len ?b_abs ?b_max ?b_min ?b_int ?b_str ?b_isinstance ?b_all ?b_range ?b_list ?b_tuple ?b_dict ?b_repr ?g_LETTERS ?g_BARRED ?gl_BARRED ?g_MOST_LETTERS ?sup_t ?sup_m ?sup_o ?pg_Row ?hd_Row ?po_Row ?sa_Row ?mk_Row ?kc_Row ?ha_Row ?hm_Row ?hn_ ?htk_ ?in_Row ?na_Row_text ?eq_Row ?ne_Row ?st_Row ?pg_Begin ?hd_Begin ?po_Begin ?sa_Begin ?mk_Begin ?kc_Begin ?ha_Begin ?hm_Begin ?in_Begin ?na_Begin_text ?na_Begin_mark ?na_Begin_kind ?na_Begin_mood ?eq_Begin ?ne_Begin ?st_Begin ?sb_Begin ?ss_Begin ?sy_Begin ?sf_Begin ?sc_Begin ?pg_Send ?hd_Send ?po_Send ?sa_Send ?mk_Send ?kc_Send ?ha_Send ?hm_Send ?in_Send ?na_Send_text ?na_Send_mood ?na_Send_service ?na_Send_mark ?eq_Send ?ne_Send ?st_Send ?sb_Send ?ss_Send ?sy_Send ?sf_Send ?sc_Send ?pg_Back ?hd_Back ?po_Back ?sa_Back ?mk_Back ?kc_Back ?ha_Back ?hm_Back ?in_Back ?na_Back_text ?na_Back_mood ?na_Back_service ?na_Back_sign ?na_Back_then ?eq_Back ?ne_Back ?st_Back ?sb_Back ?ss_Back ?sy_Back ?sf_Back ?sc_Back ?pg_End ?hd_End ?po_End ?sa_End ?mk_End ?kc_End ?ha_End ?hm_End ?in_End ?na_End_text ?na_End_mood ?na_End_outcome ?na_End_sign ?na_End_part ?eq_End ?ne_End ?st_End ?sb_End ?ss_End ?sy_End ?sf_End ?sc_End ?fa_nf_Begin_Begin ?fa_nf_Begin_Send ?fa_nf_Begin_Back ?fa_nf_Begin_End ?fa_nf_Send_Begin ?fa_nf_Send_Send ?fa_nf_Send_Back ?fa_nf_Send_End ?fa_nf_Back_Begin ?fa_nf_Back_Send ?fa_nf_Back_Back ?fa_nf_Back_End ?fa_nf_End_Begin ?fa_nf_End_Send ?fa_nf_End_Back ?fa_nf_End_End ?fa_nf_Begin_str ?fa_nf_Begin_tuple ?fa_nf_Send_str ?fa_nf_Send_tuple ?fa_nf_Back_str ?fa_nf_Back_tuple ?fa_nf_End_str ?fa_nf_End_tuple ?kd_Row ?kt_Row ?fa_ki_Begin ?fa_ki_Send ?fa_ki_Back ?fa_ki_End ?fa_ki_str ?fa_ki_tuple
    (case aC_Row => k_is)
    (case aC_Begin => k_is)
    (case aC_Send => k_is)
    (case aC_Back => k_is)
    (case aC_End => k_is)
    (case a_is_name => k_is)
    (case l_is_name => k_is)
    (case c_is_name => k_is)
    (case k_is_name => k_is)
    (case a_is_word => k_is)
    (case l_is_word => k_is)
    (case c_is_word => k_is)
    (case k_is_word => k_is)
    (case a_is_mark => k_is)
    (case l_is_mark => k_is)
    (case c_is_mark => k_is)
    (case k_is_mark => k_is)
    (case a_is_sign => k_is)
    (case l_is_sign => k_is)
    (case c_is_sign => k_is)
    (case k_is_sign => k_is)
    (case a_Row_init => k_is)
    (case i_Row_init => k_is)
    (case l_Row_init => k_is)
    (case c_Row_init => k_is)
    (case k_Row_init => k_is)
    (case a_Row_str => k_is)
    (case i_Row_str => k_is)
    (case l_Row_str => k_is)
    (case c_Row_str => k_is)
    (case k_Row_str => k_is)
    (case a_Row_eq => k_is)
    (case i_Row_eq => k_is)
    (case l_Row_eq => k_is)
    (case c_Row_eq => k_is)
    (case k_Row_eq => k_is)
    (case a_need => k_is)
    (case l_need => k_is)
    (case c_need => k_is)
    (case k_need => k_is)
    (case a_Begin_init => k_is)
    (case i_Begin_init => k_is)
    (case l_Begin_init => k_is)
    (case c_Begin_init => k_is)
    (case k_Begin_init => k_is)
    (case fi_Begin_init => k_is)
    (case ce_Begin_init => k_is)
    (case co_Begin_init => k_is)
    (case cf_Begin_init => rfl)
    (case cft_Begin_init => first | rfl | decide +kernel)
    (case a_Send_init => k_is)
    (case i_Send_init => k_is)
    (case l_Send_init => k_is)
    (case c_Send_init => k_is)
    (case k_Send_init => k_is)
    (case fi_Send_init => k_is)
    (case ce_Send_init => k_is)
    (case co_Send_init => k_is)
    (case cf_Send_init => rfl)
    (case cft_Send_init => first | rfl | decide +kernel)
    (case a_Back_init => k_is)
    (case i_Back_init => k_is)
    (case l_Back_init => k_is)
    (case c_Back_init => k_is)
    (case k_Back_init => k_is)
    (case fi_Back_init => k_is)
    (case ce_Back_init => k_is)
    (case co_Back_init => k_is)
    (case cf_Back_init => rfl)
    (case cft_Back_init => first | rfl | decide +kernel)
    (case a_End_init => k_is)
    (case i_End_init => k_is)
    (case l_End_init => k_is)
    (case c_End_init => k_is)
    (case k_End_init => k_is)
    (case fi_End_init => k_is)
    (case ce_End_init => k_is)
    (case co_End_init => k_is)
    (case cf_End_init => rfl)
    (case cft_End_init => first | rfl | decide +kernel)
    (case a__law_box => k_is)
    (case l__law_box => k_is)
    (case c__law_box => k_is)
    (case k__law_box => k_is)
    (case a__law_take => k_is)
    (case l__law_take => k_is)
    (case c__law_take => k_is)
    (case k__law_take => k_is)
    (case a__law_pick => k_is)
    (case l__law_pick => k_is)
    (case c__law_pick => k_is)
    (case k__law_pick => k_is)
    (case a__law_mixed => k_is)
    (case l__law_mixed => k_is)
    (case c__law_mixed => k_is)
    (case k__law_mixed => k_is)
    (case a__law_names => k_is)
    (case l__law_names => k_is)
    (case c__law_names => k_is)
    (case k__law_names => k_is)
    (case a__law_row_text => k_is)
    (case l__law_row_text => k_is)
    (case c__law_row_text => k_is)
    (case k__law_row_text => k_is)
    (case a__law_row => k_is)
    (case l__law_row => k_is)
    (case c__law_row => k_is)
    (case k__law_row => k_is)
    (case a__law_words => k_is)
    (case l__law_words => k_is)
    (case c__law_words => k_is)
    (case k__law_words => k_is)
    (case a__law_drawn_row => k_is)
    (case l__law_drawn_row => k_is)
    (case c__law_drawn_row => k_is)
    (case k__law_drawn_row => k_is)
    (case a__law_told => k_is)
    (case l__law_told => k_is)
    (case c__law_told => k_is)
    (case k__law_told => k_is)
    (case a_law => k_is)
    (case l_law => k_is)
    (case c_law => k_is)
    (case k_law => k_is)
    (case b_len => k_is)
    (case b_abs => k_is)
    (case b_max => k_is)
    (case b_min => k_is)
    (case b_int => k_is)
    (case b_str => k_is)
    (case b_isinstance => k_is)
    (case b_all => k_is)
    (case b_range => k_is)
    (case b_list => k_is)
    (case b_tuple => k_is)
    (case b_dict => k_is)
    (case b_repr => k_is)
    (case g_LETTERS => k_is)
    (case g_BARRED => k_is)
    (case gl_BARRED => k_is)
    (case g_MOST_LETTERS => k_is)
    (case sup_t => decide +kernel)
    (case sup_m => k_is)
    (case sup_o => k_is)
    (case pg_Row => k_is)
    (case hd_Row => k_is)
    (case po_Row => k_is)
    (case sa_Row => k_is)
    (case mk_Row => k_is)
    (case kc_Row => k_is)
    (case ha_Row => k_is)
    (case hm_Row => k_is)
    (case hn_ => k_is)
    (case htk_ => k_is)
    (case in_Row => k_is)
    (case na_Row_text => k_is)
    (case eq_Row => k_is)
    (case ne_Row => k_is)
    (case st_Row => k_is)
    (case pg_Begin => k_is)
    (case hd_Begin => k_is)
    (case po_Begin => k_is)
    (case sa_Begin => k_is)
    (case mk_Begin => k_is)
    (case kc_Begin => k_is)
    (case ha_Begin => k_is)
    (case hm_Begin => k_is)
    (case in_Begin => k_is)
    (case na_Begin_text => k_is)
    (case na_Begin_mark => k_is)
    (case na_Begin_kind => k_is)
    (case na_Begin_mood => k_is)
    (case eq_Begin => k_is)
    (case ne_Begin => k_is)
    (case st_Begin => k_is)
    (case sb_Begin => k_is)
    (case ss_Begin => first | k_is | ks_is)
    (case sy_Begin => k_is)
    (case sf_Begin => k_is)
    (case sc_Begin => k_is)
    (case pg_Send => k_is)
    (case hd_Send => k_is)
    (case po_Send => k_is)
    (case sa_Send => k_is)
    (case mk_Send => k_is)
    (case kc_Send => k_is)
    (case ha_Send => k_is)
    (case hm_Send => k_is)
    (case in_Send => k_is)
    (case na_Send_text => k_is)
    (case na_Send_mood => k_is)
    (case na_Send_service => k_is)
    (case na_Send_mark => k_is)
    (case eq_Send => k_is)
    (case ne_Send => k_is)
    (case st_Send => k_is)
    (case sb_Send => k_is)
    (case ss_Send => first | k_is | ks_is)
    (case sy_Send => k_is)
    (case sf_Send => k_is)
    (case sc_Send => k_is)
    (case pg_Back => k_is)
    (case hd_Back => k_is)
    (case po_Back => k_is)
    (case sa_Back => k_is)
    (case mk_Back => k_is)
    (case kc_Back => k_is)
    (case ha_Back => k_is)
    (case hm_Back => k_is)
    (case in_Back => k_is)
    (case na_Back_text => k_is)
    (case na_Back_mood => k_is)
    (case na_Back_service => k_is)
    (case na_Back_sign => k_is)
    (case na_Back_then => k_is)
    (case eq_Back => k_is)
    (case ne_Back => k_is)
    (case st_Back => k_is)
    (case sb_Back => k_is)
    (case ss_Back => first | k_is | ks_is)
    (case sy_Back => k_is)
    (case sf_Back => k_is)
    (case sc_Back => k_is)
    (case pg_End => k_is)
    (case hd_End => k_is)
    (case po_End => k_is)
    (case sa_End => k_is)
    (case mk_End => k_is)
    (case kc_End => k_is)
    (case ha_End => k_is)
    (case hm_End => k_is)
    (case in_End => k_is)
    (case na_End_text => k_is)
    (case na_End_mood => k_is)
    (case na_End_outcome => k_is)
    (case na_End_sign => k_is)
    (case na_End_part => k_is)
    (case eq_End => k_is)
    (case ne_End => k_is)
    (case st_End => k_is)
    (case sb_End => k_is)
    (case ss_End => first | k_is | ks_is)
    (case sy_End => k_is)
    (case sf_End => k_is)
    (case sc_End => k_is)
    (case fa_nf_Begin_Begin => k_is)
    (case fa_nf_Begin_Send => k_is)
    (case fa_nf_Begin_Back => k_is)
    (case fa_nf_Begin_End => k_is)
    (case fa_nf_Send_Begin => k_is)
    (case fa_nf_Send_Send => k_is)
    (case fa_nf_Send_Back => k_is)
    (case fa_nf_Send_End => k_is)
    (case fa_nf_Back_Begin => k_is)
    (case fa_nf_Back_Send => k_is)
    (case fa_nf_Back_Back => k_is)
    (case fa_nf_Back_End => k_is)
    (case fa_nf_End_Begin => k_is)
    (case fa_nf_End_Send => k_is)
    (case fa_nf_End_Back => k_is)
    (case fa_nf_End_End => k_is)
    (case fa_nf_Begin_str => k_is)
    (case fa_nf_Begin_tuple => k_is)
    (case fa_nf_Send_str => k_is)
    (case fa_nf_Send_tuple => k_is)
    (case fa_nf_Back_str => k_is)
    (case fa_nf_Back_tuple => k_is)
    (case fa_nf_End_str => k_is)
    (case fa_nf_End_tuple => k_is)
    (case kd_Row => k_is)
    (case kt_Row => k_is)
    (case fa_ki_Begin => k_is)
    (case fa_ki_Send => k_is)
    (case fa_ki_Back => k_is)
    (case fa_ki_End => k_is)
    (case fa_ki_str => k_is)
    (case fa_ki_tuple => k_is)

